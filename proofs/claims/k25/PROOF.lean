import PyProof.Rows.All
import Wide.All
import OpenK.AllK
import Wide.FinOn
import HandS.ForMost
import HandS.Exc
import HandS.TryOnly
import HandS.ExcOwn
import HandS.ExcInit
import HandS.TryMany
import HandS.WordsExc
import HandS.Wide
import HandS.Flow
import HandS.Zip
import HandS.TupAny
import HandS.Conv
import KE.SortData
import KE.DataAny
import KE.DataIsa
import KE.DataFind
import KE.DataEq
import KE.DataCmp
import KE.DataMinMax
import PyProof.Rows.ReprR
import HandS.Style
import HandS.Words
import HandS.Ends
import KE.GoesZip
import KE.GoesMore
import KE.GoesEnum
import HandS.Deep
import HandS.More
import HandS.TupMul
import HandS.TupSets
import HandS.ExcIs
import HandS.ExcField
import KE.KExcIs
import HandS.Text
import HandS.Property
import HandS.Defaults
import HandS.DictSub
import HandS.IterVal
import HandS.OwnIter
import HandS.Dict
import KE.KDictDisplayH
import KE.KDictPairs
import PyProof.ReprLen
import PySem.Challenge.RW_barterheaps_k25_cells_and_bars
set_option Elab.async false
set_option linter.all false
set_option maxRecDepth 100000
set_option maxHeartbeats 1000000
namespace BH
open PySem PySem.Spec PyProof.Rows L2
/-- a set of addresses -/
abbrev AS := Addr → Prop
/-- the modules' table stands in what is fixed -/
class SysIn (h : Heap) : Prop where
  out : ∃ o, h.get? sysModules = some o
/-- a list of the written part -/
def KL (K : PySem.W.Frag) (a : Addr) (vs : List V) : Prop := a ≠ sysModules ∧ ∀ H : Hp, SqL K H a vs
/-- a list that no one changes -/
def LsD (K : PySem.W.Frag) (A : AS) (H : Hp) (a : Addr) (vs : List V) : Prop := (¬ A a ∧ Rd H a (.lst vs)) ∨ KL K a vs
theorem LsD.sq {K : PySem.W.Frag} {A : AS} {H : Hp} {a : Addr} {vs : List V} (h : LsD K A H a vs) : SqL K H a vs := by
  rcases h with ⟨_, h⟩ | h
  · exact .inl h
  · exact h.2 H
/-- a list, to be read -/
def LsW (K : PySem.W.Frag) (H : Hp) (a : Addr) (vs : List V) : Prop := Rd H a (.lst vs) ∨ KL K a vs
theorem LsD.w {K : PySem.W.Frag} {A : AS} {H : Hp} {a : Addr} {vs : List V} (h : LsD K A H a vs) : LsW K H a vs := by
  rcases h with ⟨_, h⟩ | h
  · exact .inl h
  · exact .inr h
theorem LsW.sq {K : PySem.W.Frag} {H : Hp} {a : Addr} {vs : List V} (h : LsW K H a vs) : SqL K H a vs := by
  rcases h with h | h
  · exact .inl h
  · exact h.2 H
/-- a tuple: made here, or an empty one -/
def TpD (K : PySem.W.Frag) (H : Hp) (a : Addr) (vs : List V) : Prop := H a = some (.tup vs) ∨ (vs = [] ∧ SqT K H a vs)
theorem TpD.of {K : PySem.W.Frag} {H : Hp} {a : Addr} {vs : List V} (h : H a = some (.tup vs)) : TpD K H a vs := .inl h
theorem TpD.sq {K : PySem.W.Frag} {H : Hp} {a : Addr} {vs : List V} (h : TpD K H a vs) : SqT K H a vs := by
  rcases h with h | h
  · exact .inl (.inl h)
  · exact h.2
/-- a dict's key as data -/
def keyD : Key → PyData
  | .inl i => .int i
  | .inr x => .str x
mutual
/-- the value denotes the data, off the addresses in A -/
def Dv (K : PySem.W.Frag) (A : AS) (H : Hp) : PyData → V → Prop
  | .none, v => v = .non
  | .bool b, v => v = .bl b
  | .int i, v => v = .int i
  | .str x, v => v = .str x
  | .tuple ds, v => ∃ a vs, v = .ref a ∧ TpD K H a vs ∧ Dvs K A H ds vs
  | .list ds, v => ∃ a vs, v = .ref a ∧ LsD K A H a vs ∧ Dvs K A H ds vs
  | .dict kvs, v => ∃ a es, v = .ref a ∧ ¬ A a ∧ H a = some (.dT es) ∧ Dps K A H kvs es
def Dvs (K : PySem.W.Frag) (A : AS) (H : Hp) : List PyData → List V → Prop
  | [], vs => vs = []
  | d :: ds, vs => ∃ v r, vs = v :: r ∧ Dv K A H d v ∧ Dvs K A H ds r
/-- the entries of a dict with tuple keys -/
def Dps (K : PySem.W.Frag) (A : AS) (H : Hp) : List (PyData × PyData) → List (List Key × V) → Prop
  | [], es => es = []
  | (kd, d) :: ds, es => ∃ k v r, es = (k, v) :: r ∧ kd = .tuple (k.map keyD) ∧ Dv K A H d v ∧ Dps K A H ds r
end
/-- what one step may change: the objects at O alone -/
structure Ext (O A : AS) (H : Hp) (A' : AS) (H' : Hp) : Prop where
  keep : ∀ a o, H a = some o → ¬ O a → H' a = some o
  tup : ∀ a vs, H a = some (.tup vs) → H' a = some (.tup vs)
  frz : ∀ a ob o, H a = some (.frz ob o) → H' a = some (.frz ob o)
  dom : ∀ a, H a ≠ none → H' a ≠ none
  av1 : ∀ a, A a → ¬ O a → A' a
  av2 : ∀ a, A' a → A a ∨ H a = none
theorem Ext.refl (O A : AS) (H : Hp) : Ext O A H A H :=
  ⟨fun _ _ h _ => h, fun _ _ h => h, fun _ _ _ h => h, fun _ h => h, fun _ h _ => h, fun _ h => .inl h⟩
theorem none_of_dom {H H' : Hp} (h : ∀ a, H a ≠ none → H' a ≠ none) {a : Addr} (q : H' a = none) : H a = none := by
  cases e : H a with
  | none => rfl
  | some o => exact absurd q (h a (by rw [e]; simp))
theorem Ext.trans {O1 O2 A A1 A2 : AS} {H H1 H2 : Hp} (a : Ext O1 A H A1 H1) (b : Ext O2 A1 H1 A2 H2) (hO : ∀ x, O2 x → O1 x ∨ H x = none)
    (hA : ∀ x, A x → H x ≠ none) : Ext O1 A H A2 H2 where
  keep := fun x o h n => b.keep x o (a.keep x o h n) fun z => by
    rcases hO x z with q | q
    · exact n q
    · rw [h] at q; cases q
  tup := fun x vs h => b.tup x vs (a.tup x vs h)
  frz := fun x ob o h => b.frz x ob o (a.frz x ob o h)
  dom := fun x h => b.dom x (a.dom x h)
  av1 := fun x h n => b.av1 x (a.av1 x h n) fun z => by
    rcases hO x z with q | q
    · exact n q
    · exact hA x h q
  av2 := fun x h => by
    rcases b.av2 x h with q | q
    · exact a.av2 x q
    · exact .inr (none_of_dom a.dom q)
section
variable {K : PySem.W.Frag} {O A A' : AS} {H H' : Hp}
theorem sqt_ext (h : ∀ a vs, H a = some (.tup vs) → H' a = some (.tup vs)) (hf : ∀ a ob o, H a = some (.frz ob o) → H' a = some (.frz ob o)) {a : Addr} {vs : List V} (q : SqT K H a vs) : SqT K H' a vs := by
  rcases q with (q | ⟨o, q⟩) | q
  · exact .inl (.inl (h _ _ q))
  · exact .inl (.inr ⟨o, hf _ _ _ q⟩)
  · exact .inr q
theorem TpD.ext (h : ∀ a vs, H a = some (.tup vs) → H' a = some (.tup vs)) (hf : ∀ a ob o, H a = some (.frz ob o) → H' a = some (.frz ob o)) {a : Addr} {vs : List V} (q : TpD K H a vs) : TpD K H' a vs := by
  rcases q with q | ⟨e, q⟩
  · exact .inl (h _ _ q)
  · exact .inr ⟨e, sqt_ext h hf q⟩
theorem Ext.rd (e : Ext O A H A' H') (hO : ∀ a, O a → A a) {a : Addr} {vs : List V} (n : ¬ O a) (q : Rd H a (.lst vs)) : Rd H' a (.lst vs) := by
  rcases q with q | ⟨o, q⟩
  · exact .inl (e.keep _ _ q n)
  · exact .inr ⟨o, e.frz _ _ _ q⟩
theorem rd_some {H : Hp} {a : Addr} {u : HO} (q : Rd H a u) : H a ≠ none := by
  rcases q with q | ⟨o, q⟩ <;> rw [q] <;> simp
mutual
theorem Dv.ext (e : Ext O A H A' H') (hO : ∀ a, O a → A a) : ∀ (d : PyData) (v : V), Dv K A H d v → Dv K A' H' d v
  | .none, v, h => by simp only [Dv] at h ⊢; exact h
  | .bool b, v, h => by simp only [Dv] at h ⊢; exact h
  | .int i, v, h => by simp only [Dv] at h ⊢; exact h
  | .str x, v, h => by simp only [Dv] at h ⊢; exact h
  | .tuple ds, v, h => by
    simp only [Dv] at h ⊢
    obtain ⟨a, vs, rfl, q, r⟩ := h
    exact ⟨a, vs, rfl, q.ext e.tup e.frz, Dvs.ext e hO ds vs r⟩
  | .list ds, v, h => by
    simp only [Dv] at h ⊢
    obtain ⟨a, vs, rfl, q, r⟩ := h
    refine ⟨a, vs, rfl, ?_, Dvs.ext e hO ds vs r⟩
    rcases q with ⟨n, q⟩ | q
    · refine .inl ⟨fun z => ?_, e.rd hO (fun z => n (hO a z)) q⟩
      rcases e.av2 a z with y | y
      · exact n y
      · exact rd_some q y
    · exact .inr q
  | .dict kvs, v, h => by
    simp only [Dv] at h ⊢
    obtain ⟨a, es, rfl, n, q, r⟩ := h
    refine ⟨a, es, rfl, fun z => ?_, e.keep _ _ q (fun z => n (hO a z)), Dps.ext e hO kvs es r⟩
    rcases e.av2 a z with y | y
    · exact n y
    · rw [q] at y; cases y
theorem Dvs.ext (e : Ext O A H A' H') (hO : ∀ a, O a → A a) : ∀ (ds : List PyData) (vs : List V), Dvs K A H ds vs → Dvs K A' H' ds vs
  | [], vs, h => by simp only [Dvs] at h ⊢; exact h
  | d :: ds, vs, h => by
    simp only [Dvs] at h ⊢
    obtain ⟨v, r, rfl, q, t⟩ := h
    exact ⟨v, r, rfl, Dv.ext e hO d v q, Dvs.ext e hO ds r t⟩
theorem Dps.ext (e : Ext O A H A' H') (hO : ∀ a, O a → A a) : ∀ (ds : List (PyData × PyData)) (es : List (List Key × V)), Dps K A H ds es → Dps K A' H' ds es
  | [], es, h => by simp only [Dps] at h ⊢; exact h
  | (kd, d) :: ds, es, h => by
    simp only [Dps] at h ⊢
    obtain ⟨k, v, r, rfl, ek, q, t⟩ := h
    exact ⟨k, v, r, rfl, ek, Dv.ext e hO d v q, Dps.ext e hO ds r t⟩
end
mutual
/-- fewer addresses to avoid -/
theorem Dv.less (hA : ∀ a, A' a → A a) : ∀ (d : PyData) (v : V), Dv K A H d v → Dv K A' H d v
  | .none, v, h => by simp only [Dv] at h ⊢; exact h
  | .bool b, v, h => by simp only [Dv] at h ⊢; exact h
  | .int i, v, h => by simp only [Dv] at h ⊢; exact h
  | .str x, v, h => by simp only [Dv] at h ⊢; exact h
  | .tuple ds, v, h => by
    simp only [Dv] at h ⊢
    obtain ⟨a, vs, rfl, q, r⟩ := h
    exact ⟨a, vs, rfl, q, Dvs.less hA ds vs r⟩
  | .list ds, v, h => by
    simp only [Dv] at h ⊢
    obtain ⟨a, vs, rfl, q, r⟩ := h
    refine ⟨a, vs, rfl, ?_, Dvs.less hA ds vs r⟩
    rcases q with ⟨n, q⟩ | q
    · exact .inl ⟨fun z => n (hA a z), q⟩
    · exact .inr q
  | .dict kvs, v, h => by
    simp only [Dv] at h ⊢
    obtain ⟨a, es, rfl, n, q, r⟩ := h
    exact ⟨a, es, rfl, fun z => n (hA a z), q, Dps.less hA kvs es r⟩
theorem Dvs.less (hA : ∀ a, A' a → A a) : ∀ (ds : List PyData) (vs : List V), Dvs K A H ds vs → Dvs K A' H ds vs
  | [], vs, h => by simp only [Dvs] at h ⊢; exact h
  | d :: ds, vs, h => by
    simp only [Dvs] at h ⊢
    obtain ⟨v, r, rfl, q, t⟩ := h
    exact ⟨v, r, rfl, Dv.less hA d v q, Dvs.less hA ds r t⟩
theorem Dps.less (hA : ∀ a, A' a → A a) : ∀ (ds : List (PyData × PyData)) (es : List (List Key × V)), Dps K A H ds es → Dps K A' H ds es
  | [], es, h => by simp only [Dps] at h ⊢; exact h
  | (kd, d) :: ds, es, h => by
    simp only [Dps] at h ⊢
    obtain ⟨k, v, r, rfl, ek, q, t⟩ := h
    exact ⟨k, v, r, rfl, ek, Dv.less hA d v q, Dps.less hA ds r t⟩
end
theorem Dvs.length : ∀ {ds : List PyData} {vs : List V}, Dvs K A H ds vs → ds.length = vs.length
  | [], vs, h => by simp only [Dvs] at h; subst h; rfl
  | d :: ds, vs, h => by
    simp only [Dvs] at h
    obtain ⟨v, r, rfl, _, t⟩ := h
    simp [Dvs.length t]
theorem Dvs.get : ∀ {ds : List PyData} {vs : List V} {i : Nat} {v : V}, Dvs K A H ds vs → vs[i]? = some v → ∃ d, ds[i]? = some d ∧ Dv K A H d v
  | [], vs, i, v, h, e => by simp only [Dvs] at h; subst h; simp at e
  | d :: ds, vs, i, v, h, e => by
    simp only [Dvs] at h
    obtain ⟨v', r, rfl, q, t⟩ := h
    cases i with
    | zero => simp at e; subst e; exact ⟨d, by simp, q⟩
    | succ i =>
      obtain ⟨d', e1, e2⟩ := Dvs.get (i := i) (v := v) t (by simpa using e)
      exact ⟨d', by simpa using e1, e2⟩
theorem Dvs.getD : ∀ {ds : List PyData} {vs : List V} {i : Nat} {d : PyData}, Dvs K A H ds vs → ds[i]? = some d → ∃ v, vs[i]? = some v ∧ Dv K A H d v
  | [], vs, i, d, h, e => by simp at e
  | d' :: ds, vs, i, d, h, e => by
    simp only [Dvs] at h
    obtain ⟨v', r, rfl, q, t⟩ := h
    cases i with
    | zero => simp at e; subst e; exact ⟨v', by simp, q⟩
    | succ i =>
      obtain ⟨v, e1, e2⟩ := Dvs.getD (i := i) (d := d) t (by simpa using e)
      exact ⟨v, by simpa using e1, e2⟩
theorem Dvs.append : ∀ {ds es : List PyData} {vs ws : List V}, Dvs K A H ds vs → Dvs K A H es ws → Dvs K A H (ds ++ es) (vs ++ ws)
  | [], es, vs, ws, h, t => by simp only [Dvs] at h; subst h; simpa using t
  | d :: ds, es, vs, ws, h, t => by
    simp only [Dvs] at h
    obtain ⟨v, r, rfl, q, u⟩ := h
    simp only [List.cons_append, Dvs]
    exact ⟨v, r ++ ws, rfl, q, Dvs.append u t⟩
theorem Dvs.one {d : PyData} {v : V} (h : Dv K A H d v) : Dvs K A H [d] [v] := by
  simp only [Dvs]; exact ⟨v, [], rfl, h, rfl⟩
theorem Dvs.nil : Dvs K A H [] [] := by simp only [Dvs]
theorem Dvs.cons {d : PyData} {v : V} {ds : List PyData} {vs : List V} (h : Dv K A H d v) (t : Dvs K A H ds vs) : Dvs K A H (d :: ds) (v :: vs) := by
  simp only [Dvs]; exact ⟨v, vs, rfl, h, t⟩
theorem Dvs.take : ∀ {ds : List PyData} {vs : List V} (n : Nat), Dvs K A H ds vs → Dvs K A H (ds.take n) (vs.take n)
  | [], vs, n, h => by simp only [Dvs] at h; subst h; simp [Dvs]
  | d :: ds, vs, 0, h => by simp [Dvs]
  | d :: ds, vs, n + 1, h => by
    simp only [Dvs] at h
    obtain ⟨v, r, rfl, q, u⟩ := h
    simp only [List.take_succ_cons]
    exact .cons q (Dvs.take n u)
theorem Dvs.drop : ∀ {ds : List PyData} {vs : List V} (n : Nat), Dvs K A H ds vs → Dvs K A H (ds.drop n) (vs.drop n)
  | [], vs, n, h => by simp only [Dvs] at h; subst h; simp [Dvs]
  | d :: ds, vs, 0, h => by simpa using h
  | d :: ds, vs, n + 1, h => by
    simp only [Dvs] at h
    obtain ⟨v, r, rfl, q, u⟩ := h
    simp only [List.drop_succ_cons]
    exact Dvs.drop n u
theorem Dvs.set {d : PyData} {v : V} (q : Dv K A H d v) : ∀ {ds : List PyData} {vs : List V} (i : Nat), Dvs K A H ds vs → Dvs K A H (ds.set i d) (vs.set i v)
  | [], vs, n, h => by simp only [Dvs] at h; subst h; simp [Dvs]
  | e :: ds, vs, 0, h => by
    simp only [Dvs] at h
    obtain ⟨w, r, rfl, _, u⟩ := h
    exact .cons q u
  | e :: ds, vs, n + 1, h => by
    simp only [Dvs] at h
    obtain ⟨w, r, rfl, q', u⟩ := h
    simp only [List.set_cons_succ]
    exact .cons q' (Dvs.set q n u)
end
end BH
set_option maxRecDepth 100000
set_option maxHeartbeats 1000000
namespace BH
open PySem PySem.Spec PyProof.Rows L2
/-- what stands in an owned object -/
inductive Cell where
  | lst (xs : List PyData)
  | dic (kvs : List (PyData × PyData))
  | ins (C : String) (fs : List (String × PyData))
inductive Mode where
  | own | bor | lock
inductive MV where
  | d (x : PyData)
  | cell (m : Mode) (c : Cell)
abbrev SE := List (Option MV)
/-- an expression's result: data, a new owned object, or what stands in a slot -/
inductive RV where
  | d (x : PyData)
  | tmp (c : Cell)
  | slot (i : Nat)
def CellR (K : PySem.W.Frag) (A : AS) (H : Hp) : Cell → Addr → Prop
  | .lst xs, a => ∃ vs, H a = some (.lst vs) ∧ Dvs K A H xs vs
  | .dic kvs, a => ∃ es, H a = some (.dT es) ∧ Dps K A H kvs es
  | .ins C fs, a => ∃ Ca dx vs, PySem.W.nsIn K mainGlobals (Str.ofString C) = some (some (.ref Ca)) ∧ H a = some (.ins Ca dx vs) ∧ H dx = some (.own a) ∧ vs.map (·.1) = fs.map (fun f => Str.ofString f.1) ∧ Dvs K A H (fs.map (·.2)) (vs.map (·.2))
theorem CellR.go {K : PySem.W.Frag} {O A A' : AS} {H H' : Hp} {c : Cell} {a : Addr} (h : CellR K A H c a) (e : Ext O A H A' H') (hO : ∀ a, O a → A a) (no : ¬ O a) (nd : ∀ dx, H dx = some (.own a) → ¬ O dx) : CellR K A' H' c a := by
  cases c with
  | lst xs => obtain ⟨vs, q, r⟩ := h; exact ⟨vs, e.keep _ _ q no, Dvs.ext e hO xs vs r⟩
  | dic kvs => obtain ⟨es, q, r⟩ := h; exact ⟨es, e.keep _ _ q no, Dps.ext e hO kvs es r⟩
  | ins C fs => obtain ⟨Ca, dx, vs, q1, q2, q3, q4, q5⟩ := h; exact ⟨Ca, dx, vs, q1, e.keep _ _ q2 no, e.keep _ _ q3 (nd dx q3), q4, Dvs.ext e hO _ _ q5⟩
theorem CellR.less {K : PySem.W.Frag} {A A' : AS} {H : Hp} {c : Cell} {a : Addr} (hA : ∀ a, A' a → A a) (h : CellR K A H c a) : CellR K A' H c a := by
  cases c with
  | lst xs => obtain ⟨vs, q, r⟩ := h; exact ⟨vs, q, Dvs.less hA xs vs r⟩
  | dic kvs => obtain ⟨es, q, r⟩ := h; exact ⟨es, q, Dps.less hA kvs es r⟩
  | ins C fs => obtain ⟨Ca, dx, vs, q1, q2, q3, q4, q5⟩ := h; exact ⟨Ca, dx, vs, q1, q2, q3, q4, Dvs.less hA _ _ q5⟩
theorem CellR.notOwn {K : PySem.W.Frag} {A : AS} {H : Hp} {c : Cell} {a x : Addr} (h : CellR K A H c a) : H a ≠ some (.own x) := by
  cases c with
  | lst xs => obtain ⟨vs, q, _⟩ := h; rw [q]; intro z; cases z
  | dic kvs => obtain ⟨es, q, _⟩ := h; rw [q]; intro z; cases z
  | ins C fs => obtain ⟨Ca, dx, vs, _, q2, _⟩ := h; rw [q2]; intro z; cases z
/-- a state of a def -/
structure G where
  A : AS
  H : Hp
  st : L2.St
  env : SE
def Own (g : G) : AS := fun a => ∃ (i : Nat) (m : Mode) (c : Cell), g.env[i]? = some (some (.cell m c)) ∧ m ≠ .lock ∧ g.st[i]? = some (some (.ref a))
/-- the owned objects of all slots, locked ones too -/
def Has (g : G) : AS := fun a => ∃ (i : Nat) (m : Mode) (c : Cell), g.env[i]? = some (some (.cell m c)) ∧ g.st[i]? = some (some (.ref a))
structure G.Ok (K : PySem.W.Frag) (g : G) : Prop where
  len : g.st.length = g.env.length
  dat : ∀ (i : Nat) x, g.env[i]? = some (some (.d x)) → ∃ v, g.st[i]? = some (some v) ∧ Dv K g.A g.H x v
  cel : ∀ (i : Nat) m c, g.env[i]? = some (some (.cell m c)) → ∃ a, g.st[i]? = some (some (.ref a)) ∧ g.A a ∧ CellR K g.A g.H c a
  dis : ∀ (i j : Nat) m c m' c' a, g.env[i]? = some (some (.cell m c)) → g.env[j]? = some (some (.cell m' c')) → g.st[i]? = some (some (.ref a)) → g.st[j]? = some (some (.ref a)) → i = j
  dom : ∀ a, g.A a → g.H a ≠ none
theorem Own.sub {K : PySem.W.Frag} {g : G} (ok : g.Ok K) : ∀ a, Own g a → g.A a := fun a ⟨i, m, c, h1, _, h2⟩ => by
  obtain ⟨b, h3, h4, _⟩ := ok.cel i m c h1
  rw [h2] at h3; cases h3; exact h4
theorem Own.notDict {K : PySem.W.Frag} {g : G} {dx x : Addr} (ok : g.Ok K) (h : g.H dx = some (.own x)) : ¬ Own g dx := fun ⟨i, m, c, h1, _, h2⟩ => by
  obtain ⟨b, h3, _, h5⟩ := ok.cel i m c h1
  rw [h2] at h3; cases h3
  exact h5.notOwn h
structure Stp (g g' : G) : Prop where
  ext : Ext (Own g) g.A g.H g'.A g'.H
  own : ∀ a, Own g' a → Own g a ∨ g.H a = none
  has : ∀ a, Has g' a → Has g a ∨ g.H a = none
  bor : ∀ (i : Nat) c, g.env[i]? = some (some (.cell .bor c)) → g'.st[i]? = g.st[i]? ∧ ∃ c', g'.env[i]? = some (some (.cell .bor c'))
  lck : ∀ (i : Nat) c, g.env[i]? = some (some (.cell .lock c)) → g'.st[i]? = g.st[i]? ∧ g'.env[i]? = some (some (.cell .lock c))
theorem Stp.refl (g : G) : Stp g g := ⟨.refl _ _ _, fun _ h => .inl h, fun _ h => .inl h, fun i c h => ⟨rfl, c, h⟩, fun i c h => ⟨rfl, h⟩⟩
theorem Stp.trans {K : PySem.W.Frag} {g g1 g2 : G} (ok : g.Ok K) (a : Stp g g1) (b : Stp g1 g2) : Stp g g2 where
  ext := a.ext.trans b.ext a.own ok.dom
  own := fun x h => by
    rcases b.own x h with q | q
    · exact a.own x q
    · exact .inr (none_of_dom a.ext.dom q)
  has := fun x h => by
    rcases b.has x h with q | q
    · exact a.has x q
    · exact .inr (none_of_dom a.ext.dom q)
  bor := fun i c h => by
    obtain ⟨e1, c1, h1⟩ := a.bor i c h
    obtain ⟨e2, c2, h2⟩ := b.bor i c1 h1
    exact ⟨e2.trans e1, c2, h2⟩
  lck := fun i c h => by
    obtain ⟨e1, h1⟩ := a.lck i c h
    obtain ⟨e2, h2⟩ := b.lck i c h1
    exact ⟨e2.trans e1, h2⟩
theorem Stp.dv {K : PySem.W.Frag} {g g' : G} (ok : g.Ok K) (s : Stp g g') {x : PyData} {v : V} (h : Dv K g.A g.H x v) : Dv K g'.A g'.H x v := Dv.ext s.ext (Own.sub ok) x v h
theorem Stp.dvs {K : PySem.W.Frag} {g g' : G} (ok : g.Ok K) (s : Stp g g') {x : List PyData} {v : List V} (h : Dvs K g.A g.H x v) : Dvs K g'.A g'.H x v := Dvs.ext s.ext (Own.sub ok) x v h
/-- the result v of an expression that began at the heap H0 -/
def RVR (K : PySem.W.Frag) (H0 : Hp) (g : G) : RV → V → Prop
  | .d x, v => Dv K g.A g.H x v
  | .tmp c, v => ∃ a, v = .ref a ∧ g.A a ∧ CellR K g.A g.H c a ∧ H0 a = none ∧ ¬ Has g a
  | .slot i, v => g.st[i]? = some (some v)
def Cell.data : Cell → Option PyData
  | .lst xs => some (.list xs)
  | .dic kvs => some (.dict kvs)
  | .ins _ _ => none
def MV.data : MV → Option PyData
  | .d x => some x
  | .cell _ c => c.data
/-- as data, to be read -/
def RV.view : RV → SE → Option PyData
  | .d x, _ => some x
  | .tmp c, _ => c.data
  | .slot i, env => match env[i]? with
    | some (some mv) => mv.data
    | _ => none
/-- data that is read here and now: its outermost list may be an owned one -/
def Dw (K : PySem.W.Frag) (A : AS) (H : Hp) : PyData → V → Prop
  | .list ds, v => ∃ a vs, v = .ref a ∧ LsW K H a vs ∧ Dvs K A H ds vs
  | .dict kvs, v => ∃ a es, v = .ref a ∧ H a = some (.dT es) ∧ Dps K A H kvs es
  | d, v => Dv K A H d v
theorem Dw.of {K : PySem.W.Frag} {A : AS} {H : Hp} {d : PyData} {v : V} (h : Dv K A H d v) : Dw K A H d v := by
  cases d with
  | list ds =>
    simp only [Dv] at h
    obtain ⟨a, vs, e, q, r⟩ := h
    exact ⟨a, vs, e, q.w, r⟩
  | dict kvs =>
    simp only [Dv] at h
    obtain ⟨a, es, e, _, q, r⟩ := h
    exact ⟨a, es, e, q, r⟩
  | _ => exact h
theorem CellR.dw {K : PySem.W.Frag} {A : AS} {H : Hp} {c : Cell} {a : Addr} {x : PyData} (h : CellR K A H c a) (e : c.data = some x) : Dw K A H x (.ref a) := by
  cases c with
  | lst xs =>
    simp only [Cell.data, Option.some.injEq] at e
    subst e
    obtain ⟨vs, q, r⟩ := h
    exact ⟨a, vs, rfl, .inl (.inl q), r⟩
  | dic kvs =>
    simp only [Cell.data, Option.some.injEq] at e
    subst e
    obtain ⟨es, q, r⟩ := h
    exact ⟨a, es, rfl, q, r⟩
  | _ => simp [Cell.data] at e
theorem CellR.some {K : PySem.W.Frag} {A : AS} {H : Hp} {c : Cell} {a : Addr} (h : CellR K A H c a) : H a ≠ none := by
  cases c with
  | lst xs => obtain ⟨vs, q, r⟩ := h; rw [q]; simp
  | dic kvs => obtain ⟨es, q, _⟩ := h; rw [q]; simp
  | ins C fs => obtain ⟨Ca, dx, vs, _, q2, _⟩ := h; rw [q2]; simp
theorem RVR.dw {K : PySem.W.Frag} {H0 : Hp} {g : G} {r : RV} {v : V} {x : PyData} (ok : g.Ok K) (h : RVR K H0 g r v) (e : r.view g.env = some x) : Dw K g.A g.H x v := by
  cases r with
  | d y => simp only [RV.view, Option.some.injEq] at e; subst e; exact .of h
  | tmp c =>
    obtain ⟨a, rfl, _, h, _⟩ := h
    exact h.dw e
  | slot i =>
    have h1 : g.st[i]? = some (some v) := h
    cases h2 : g.env[i]? with
    | none => simp [RV.view, h2] at e
    | some o => cases o with
      | none => simp [RV.view, h2] at e
      | some mv =>
        simp only [RV.view, h2] at e
        cases mv with
        | d y =>
          simp only [MV.data, Option.some.injEq] at e; subst e
          obtain ⟨w, q1, q2⟩ := ok.dat i y h2
          rw [h1] at q1; cases q1
          exact .of q2
        | cell m c =>
          obtain ⟨a, q1, _, q2⟩ := ok.cel i m c h2
          rw [h1] at q1; cases q1
          exact q2.dw e
/-- a result is held over a further step -/
theorem RVR.step {K : PySem.W.Frag} {H0 : Hp} {g g' : G} {r : RV} {v : V} (ok : g.Ok K) (h : RVR K H0 g r v) (s : Stp g g') (e : g'.st = g.st) : RVR K H0 g' r v := by
  cases r with
  | d y => exact s.dv ok h
  | tmp c =>
    obtain ⟨a, h1, h2, h3, h4, h5⟩ := h
    have no : ¬ Own g a := fun ⟨i, m, c', q1, _, q2⟩ => h5 ⟨i, m, c', q1, q2⟩
    refine ⟨a, h1, s.ext.av1 a h2 no, ?_, h4, fun z => ?_⟩
    · exact h3.go s.ext (Own.sub ok) no fun dx q => Own.notDict ok q
    · rcases s.has a z with q | q
      · exact h5 q
      · exact h3.some q
  | slot i => show g'.st[i]? = _; rw [e]; exact h
/-- outcome of a reading -/
inductive Res (α : Type) where
  | ok (x : α)
  | exc (c : String) (fs : List (String × PyData)) (env : SE)
  | fail
def Res.bind {α β : Type} : Res α → (α → Res β) → Res β
  | .ok x, f => f x
  | .exc c fs env, _ => .exc c fs env
  | .fail, _ => .fail
abbrev EF := SE → Res (RV × SE)
/-- an exception of the program's class c -/
def ExcR (X : Cx) (g : G) (c : String) (fs : List (String × PyData)) (cls : Value) (d : Option Addr) : Prop :=
  ∃ C, cls = .ref C ∧ X.mg (Str.ofString c) = some (.ref C) ∧
    ((fs = [] ∧ d = none) ∨ ∃ dd vs, d = some dd ∧ g.H dd = some (.xd vs) ∧ fs.length = vs.length ∧
      ∀ (i : Nat) n x, fs[i]? = some (n, x) → ∃ v, vs[i]? = some (Str.ofString n, v) ∧ Dv X.K g.A g.H x v)
/-- what is to follow an outcome -/
def Out {α : Type} (X : Cx) (W : WX) (g : G) (r : Res (α × SE)) (P : G → α → Prop) : Prop :=
  match r with
  | .ok (x, env') => ∀ g' : G, g'.env = env' → g'.st = g.st → Stp g g' → g'.Ok X.K → P g' x
  | .exc c fs env' => ∀ (g' : G) cls d, g'.env = env' → g'.st = g.st → Stp g g' → g'.Ok X.K → ExcR X g' c fs cls d → W cls d g.st g'.H
  | .fail => False
def tE (X : Cx) (W : WX) (f : EF) : TE := fun σ H Q => ∃ g : G, g.st = σ ∧ g.H = H ∧ g.Ok X.K ∧ Out X W g (f g.env) fun g' rv => ∀ v, RVR X.K g.H g' rv v → Q v g'.H
structure FE (X : Cx) (e : Expr) (f : EF) : Prop where
  pe : ∀ W, Takes X W → PE X e (tE X W f)
theorem Out.imp {α : Type} {X : Cx} {W : WX} {g : G} {r : Res (α × SE)} {P P' : G → α → Prop} (h : Out X W g r P) (hP : ∀ g' x, Stp g g' → g'.st = g.st → g'.Ok X.K → P g' x → P' g' x) : Out X W g r P' := by
  cases r with
  | ok y => obtain ⟨x, env'⟩ := y; exact fun g' e1 e2 s o => hP g' x s e2 o (h g' e1 e2 s o)
  | exc c fs env' => exact h
  | fail => exact h
/-- one step after another -/
theorem Out.bind {α β : Type} {X : Cx} {W : WX} {g : G} {r : Res (α × SE)} {k : α × SE → Res (β × SE)} {P : G → β → Prop} (ok : g.Ok X.K) (h : Out X W g (r.bind k) P) :
    Out X W g r fun g1 x => Out X W g1 (k (x, g1.env)) P := by
  cases r with
  | ok y =>
    obtain ⟨x, env'⟩ := y
    intro g1 e1 e2 s1 o1
    have h : Out X W g (k (x, env')) P := h
    rw [← e1] at h
    cases hk : k (x, g1.env) with
    | ok z =>
      rw [hk] at h
      obtain ⟨y, env2⟩ := z
      intro g2 e3 e4 s2 o2
      exact h g2 e3 (e4.trans e2) (s1.trans ok s2) o2
    | exc c fs env2 =>
      rw [hk] at h
      intro g2 cls d e3 e4 s2 o2 x2
      have := h g2 cls d e3 (e4.trans e2) (s1.trans ok s2) o2 x2
      rw [e2]; exact this
    | fail => rw [hk] at h; exact h
  | exc c fs env' => exact h
  | fail => exact h
/-- run a part -/
theorem FE.go {X : Cx} {e : Expr} {f : EF} (h : FE X e f) {W : WX} (tk : Takes X W) {g : G} (ok : g.Ok X.K) {pins : List (Addr × Obj)} {s : Shared} (I : Inv X pins g.st g.H s) {P : G → RV → Prop} (o : Out X W g (f g.env) P)
    {Q : Value → Shared → Prop} (hQ : ∀ u s' g' rv v, g'.st = g.st → Inv X pins g'.st g'.H s' → RelV v u → g'.Ok X.K → Stp g g' → RVR X.K g.H g' rv v → P g' rv → Q u s') :
    wpAny (model X.prog X.w) X.A (eval e X.env) Q X.xe s := by
  refine thn ((h.pe W tk).run pins s g.st g.H (fun v H' => ∃ g' rv, g'.H = H' ∧ g'.st = g.st ∧ g'.Ok X.K ∧ Stp g g' ∧ RVR X.K g.H g' rv v ∧ P g' rv) I ⟨g, rfl, rfl, ok, o.imp fun g' x st e o p v r => ⟨g', x, rfl, e, o, st, r, p⟩⟩) ?_
  rintro u s' ⟨v, H', I', r, g', rv, rfl, e, o', st, rr, p⟩
  exact hQ u s' g' rv v e (e ▸ I') r o' st rr p
/-- a whole result -/
theorem fe_mk {X : Cx} {e : Expr} {f : EF} (h : ∀ W, Takes X W → ∀ (g : G) (pins : List (Addr × Obj)) (s : Shared) (P : G → RV → Prop), g.Ok X.K → Inv X pins g.st g.H s → Out X W g (f g.env) P →
    wpAny (model X.prog X.w) X.A (eval e X.env) (fun u s' => ∃ v g' rv, Inv X pins g.st g'.H s' ∧ RelV v u ∧ RVR X.K g.H g' rv v ∧ P g' rv) X.xe s) : FE X e f := by
  refine ⟨fun W tk => ⟨fun pins s σ H Q I hq => ?_⟩⟩
  obtain ⟨g, rfl, rfl, ok, o⟩ := hq
  exact thn (h W tk g pins s _ ok I o) fun u s' ⟨v, g', rv, I', r, rr, p⟩ => ⟨v, g'.H, I', r, p v rr⟩
end BH
set_option maxRecDepth 100000
set_option maxHeartbeats 1000000
namespace BH
open PySem PySem.Spec PyProof.Rows L2
/-- the most items of a list, a tuple -/
def lim : Nat := 16777216
theorem lim_line : lim = sizeLine := by rw [sizeLine_eq]; rfl
section
variable {X : Cx} {W : WX} {α β : Type}
theorem Out.bind0 {g : G} {r : Res (α × SE)} {k : α × SE → Res (β × SE)} {P : G → β → Prop} (h : Out X W g (r.bind k) P) :
    Out X W g r fun g1 x => Out X W g (k (x, g1.env)) P := by
  cases r with
  | ok y =>
    obtain ⟨x, env'⟩ := y
    intro g1 e1 e2 s1 o1
    rw [e1]
    exact h
  | exc c fs env' => exact h
  | fail => exact h
theorem Out.rebase {g g1 : G} {r : Res (α × SE)} {P : G → α → Prop} (ok : g.Ok X.K) (s : Stp g g1) (e : g1.st = g.st) (h : Out X W g r P) : Out X W g1 r P := by
  cases r with
  | ok y => obtain ⟨x, env'⟩ := y; exact fun g2 e1 e2 s2 o2 => h g2 e1 (e2.trans e) (s.trans ok s2) o2
  | exc c fs env' =>
    intro g2 cls d e1 e2 s2 o2 x2
    rw [e]
    exact h g2 cls d e1 (e2.trans e) (s.trans ok s2) o2 x2
  | fail => exact h
end
/-- the address is no longer to be avoided -/
def G.free (g : G) (a : Addr) : G := { g with A := fun b => g.A b ∧ b ≠ a }
theorem G.Ok.free {K : PySem.W.Frag} {g : G} {a : Addr} (ok : g.Ok K) (h : ¬ Has g a) : (g.free a).Ok K where
  len := ok.len
  dat := fun i x e => by
    obtain ⟨v, h1, h2⟩ := ok.dat i x e
    exact ⟨v, h1, Dv.less (fun _ z => z.1) x v h2⟩
  cel := fun i m c e => by
    obtain ⟨b, h1, h2, h3⟩ := ok.cel i m c e
    refine ⟨b, h1, ⟨h2, fun z => h ⟨i, m, c, e, by rw [← z]; exact h1⟩⟩, ?_⟩
    exact h3.less fun _ z => z.1
  dis := ok.dis
  dom := fun b hb => ok.dom b hb.1
/-- a slot is stored -/
theorem own_set {g : G} {i : Nat} {mv : Option MV} {st' : L2.St} {H' : Hp} {A' : AS} {a : Addr} (hst : ∀ j, j ≠ i → st'[j]? = g.st[j]?) (h : Own { A := A', H := H', st := st', env := g.env.set i mv } a) :
    Own g a ∨ ∃ m c, mv = some (.cell m c) ∧ m ≠ .lock ∧ st'[i]? = some (some (.ref a)) := by
  obtain ⟨j, m, c, h1, h2, h3⟩ := h
  by_cases e : j = i
  · subst e
    have h1 : (g.env.set j mv)[j]? = some (some (.cell m c)) := h1
    by_cases hl : j < g.env.length
    · rw [List.getElem?_set_self hl] at h1
      exact .inr ⟨m, c, Option.some.inj h1, h2, h3⟩
    · rw [List.getElem?_eq_none (by simpa using hl)] at h1; cases h1
  · have h1 : (g.env.set i mv)[j]? = some (some (.cell m c)) := h1
    rw [List.getElem?_set_ne (Ne.symm e)] at h1
    have h3 : st'[j]? = some (some (.ref a)) := h3
    rw [hst j e] at h3
    exact .inl ⟨j, m, c, h1, h2, h3⟩
theorem has_set {g : G} {i : Nat} {mv : Option MV} {st' : L2.St} {H' : Hp} {A' : AS} {a : Addr} (hst : ∀ j, j ≠ i → st'[j]? = g.st[j]?) (h : Has { A := A', H := H', st := st', env := g.env.set i mv } a) :
    Has g a ∨ ∃ m c, mv = some (.cell m c) ∧ st'[i]? = some (some (.ref a)) := by
  obtain ⟨j, m, c, h1, h3⟩ := h
  by_cases e : j = i
  · subst e
    have h1 : (g.env.set j mv)[j]? = some (some (.cell m c)) := h1
    by_cases hl : j < g.env.length
    · rw [List.getElem?_set_self hl] at h1
      exact .inr ⟨m, c, Option.some.inj h1, h3⟩
    · rw [List.getElem?_eq_none (by simpa using hl)] at h1; cases h1
  · have h1 : (g.env.set i mv)[j]? = some (some (.cell m c)) := h1
    rw [List.getElem?_set_ne (Ne.symm e)] at h1
    have h3 : st'[j]? = some (some (.ref a)) := h3
    rw [hst j e] at h3
    exact .inl ⟨j, m, c, h1, h3⟩
/-- what becomes data -/
def Cell.datT : Cell → Option PyData
  | .lst xs => some (.list xs)
  | .dic kvs => some (.dict kvs)
  | .ins _ _ => none
theorem cellR_dv {K : PySem.W.Frag} {A : AS} {H : Hp} {c : Cell} {a : Addr} {x : PyData} (h : CellR K A H c a) (e : c.datT = some x) : Dv K (fun b => A b ∧ b ≠ a) H x (.ref a) := by
  cases c with
  | lst xs =>
    simp only [Cell.datT, Option.some.injEq] at e
    subst e
    obtain ⟨vs, q, r⟩ := h
    simp only [Dv]
    exact ⟨a, vs, rfl, .inl ⟨fun z => z.2 rfl, .inl q⟩, Dvs.less (fun _ z => z.1) xs vs r⟩
  | dic kvs =>
    simp only [Cell.datT, Option.some.injEq] at e
    subst e
    obtain ⟨es, q, r⟩ := h
    simp only [Dv]
    exact ⟨a, es, rfl, fun z => z.2 rfl, q, Dps.less (fun _ z => z.1) _ es r⟩
  | ins C fs => simp [Cell.datT] at e
def RV.take : RV → SE → Option (PyData × SE)
  | .d x, env => some (x, env)
  | .tmp c, env => match c.datT with
    | some x => some (x, env)
    | none => none
  | .slot i, env => match env[i]? with
    | some (some (.d x)) => some (x, env)
    | some (some (.cell .own c)) => match c.datT with
      | some x => some (x, env.set i (some (.d x)))
      | none => none
    | _ => none
/-- a result becomes data -/
theorem RVR.take {K : PySem.W.Frag} {g g1 : G} {r : RV} {v : V} {x : PyData} {env2 : SE} (ok : g.Ok K) (s : Stp g g1) (e : g1.st = g.st) (o1 : g1.Ok K) (h : RVR K g.H g1 r v) (ht : r.take g1.env = some (x, env2)) :
    ∃ g2 : G, g2.env = env2 ∧ g2.st = g1.st ∧ g2.H = g1.H ∧ Stp g g2 ∧ g2.Ok K ∧ Dv K g2.A g2.H x v := by
  have drop : ∀ a, (g.H a = none ∨ Own g a) → ∀ b, g.A b → ¬ Own g b → g1.A b ∧ b ≠ a := fun a ha b hb hn => ⟨s.ext.av1 b hb hn, fun z => by
    subst z
    rcases ha with q | q
    · exact ok.dom b hb q
    · exact hn q⟩
  cases r with
  | d y =>
    simp only [RV.take, Option.some.injEq, Prod.mk.injEq] at ht
    obtain ⟨rfl, rfl⟩ := ht
    exact ⟨g1, rfl, rfl, rfl, s, o1, h⟩
  | tmp c =>
    obtain ⟨a, rfl, hA, hc, hf, hs⟩ := h
    cases hx : c.datT with
    | none => simp [RV.take, hx] at ht
    | some y =>
      simp only [RV.take, hx, Option.some.injEq, Prod.mk.injEq] at ht
      obtain ⟨rfl, rfl⟩ := ht
      exact ⟨g1.free a, rfl, rfl, rfl, ⟨⟨s.ext.keep, s.ext.tup, s.ext.frz, s.ext.dom, drop a (.inl hf), fun b hb => s.ext.av2 b hb.1⟩, s.own, s.has, s.bor, s.lck⟩, o1.free hs, cellR_dv hc hx⟩
  | slot i =>
    have h1 : g1.st[i]? = some (some v) := h
    cases h2 : g1.env[i]? with
    | none => simp [RV.take, h2] at ht
    | some ov =>
    cases ov with
    | none => simp [RV.take, h2] at ht
    | some mv =>
    cases mv with
    | d y =>
      simp only [RV.take, h2, Option.some.injEq, Prod.mk.injEq] at ht
      obtain ⟨rfl, rfl⟩ := ht
      obtain ⟨w, q1, q2⟩ := o1.dat i y h2
      rw [h1] at q1; cases q1
      exact ⟨g1, rfl, rfl, rfl, s, o1, q2⟩
    | cell m c =>
      cases m with
      | own =>
        cases hx : c.datT with
        | none => simp [RV.take, h2, hx] at ht
        | some y0 =>
          simp only [RV.take, h2, hx, Option.some.injEq, Prod.mk.injEq] at ht
          obtain ⟨rfl, rfl⟩ := ht
          obtain ⟨a, q1, q2, q3⟩ := o1.cel i _ _ h2
          rw [h1] at q1; cases q1
          have hil : i < g1.env.length := (List.getElem?_eq_some_iff.mp h2).1
          have own1 : Own g1 a := ⟨i, .own, _, h2, by simp, h1⟩
          have hdv := cellR_dv q3 hx
          refine ⟨{ A := fun b => g1.A b ∧ b ≠ a, H := g1.H, st := g1.st, env := g1.env.set i (some (.d y0)) }, rfl, rfl, rfl,
            ⟨⟨s.ext.keep, s.ext.tup, s.ext.frz, s.ext.dom, drop a ((s.own a own1).symm), fun b hb => s.ext.av2 b hb.1⟩, fun b hb => ?_, fun b hb => ?_, fun j c hj => ?_, fun j c hj => ?_⟩, ⟨by simpa using o1.len, fun j y hj => ?_, fun j m c hj => ?_, fun j k m c m' c' b hj hk e1 e2 => ?_, fun b hb => o1.dom b hb.1⟩, hdv⟩
          · rcases own_set (g := g1) (fun _ _ => rfl) hb with q | ⟨m, c, q, _⟩
            · exact s.own b q
            · cases q
          · rcases has_set (g := g1) (fun _ _ => rfl) hb with q | ⟨m, c, q, _⟩
            · exact s.has b q
            · cases q
          · obtain ⟨e1, c', e2⟩ := s.bor j c hj
            refine ⟨e1, c', ?_⟩
            have : j ≠ i := by rintro rfl; rw [h2] at e2; cases e2
            show (g1.env.set i _)[j]? = _
            rw [List.getElem?_set_ne (Ne.symm this)]; exact e2
          · obtain ⟨e1, e2⟩ := s.lck j c hj
            refine ⟨e1, ?_⟩
            have : j ≠ i := by rintro rfl; rw [h2] at e2; cases e2
            show (g1.env.set i _)[j]? = _
            rw [List.getElem?_set_ne (Ne.symm this)]; exact e2
          · have hj : (g1.env.set i _)[j]? = some (some (.d y)) := hj
            by_cases ij : j = i
            · subst ij
              rw [List.getElem?_set_self hil] at hj
              simp only [Option.some.injEq, MV.d.injEq] at hj
              subst hj
              exact ⟨_, h1, hdv⟩
            · rw [List.getElem?_set_ne (Ne.symm ij)] at hj
              obtain ⟨v, z1, z2⟩ := o1.dat j y hj
              exact ⟨v, z1, Dv.less (fun _ z => z.1) y v z2⟩
          · have hj : (g1.env.set i _)[j]? = some (some (.cell m c)) := hj
            by_cases ij : j = i
            · subst ij
              rw [List.getElem?_set_self hil] at hj; simp at hj
            · rw [List.getElem?_set_ne (Ne.symm ij)] at hj
              obtain ⟨b, z1, z2, z3⟩ := o1.cel j m c hj
              refine ⟨b, z1, ⟨z2, fun z => ?_⟩, ?_⟩
              · rw [z] at z1
                exact ij (o1.dis j i _ _ _ _ a hj h2 z1 h1)
              · exact z3.less fun _ z => z.1
          · have pr : ∀ {j : Nat} {m c}, (g1.env.set i (some (.d y0)))[j]? = some (some (.cell m c)) → g1.env[j]? = some (some (.cell m c)) := fun {j m c} hj => by
              by_cases ij : j = i
              · subst ij
                rw [List.getElem?_set_self hil] at hj; simp at hj
              · rw [List.getElem?_set_ne (Ne.symm ij)] at hj; exact hj
            exact o1.dis j k m c m' c' b (pr hj) (pr hk) e1 e2
      | _ => simp [RV.take, h2] at ht
/-! ### data out of an expression -/
abbrev CF := SE → Res (PyData × SE)
def tCn (X : Cx) (W : WX) (f : CF) : TE := fun σ H Q => ∃ g : G, g.st = σ ∧ g.H = H ∧ g.Ok X.K ∧ Out X W g (f g.env) fun g' x => ∀ v, Dv X.K g'.A g'.H x v → Q v g'.H
structure FC (X : Cx) (e : Expr) (f : CF) : Prop where
  pe : ∀ W, Takes X W → PE X e (tCn X W f)
def fTake (f : EF) : CF := fun env => (f env).bind fun p => match p.1.take p.2 with
  | some q => .ok q
  | none => .fail
theorem FE.take {X : Cx} {e : Expr} {f : EF} (h : FE X e f) : FC X e (fTake f) := by
  refine ⟨fun W tk => ⟨fun pins s σ H Q I hq => ?_⟩⟩
  obtain ⟨g, rfl, rfl, ok, o⟩ := hq
  refine h.go tk ok I o.bind0 fun u s' g1 rv v e1 I1 r o1 st rr p => ?_
  cases ht : rv.take g1.env with
  | none => rw [ht] at p; exact p.elim
  | some q =>
    obtain ⟨x, env2⟩ := q
    rw [ht] at p
    obtain ⟨g2, k1, k2, k3, k4, k5, k6⟩ := rr.take ok st e1 o1 ht
    refine ⟨v, g2.H, ?_, r, p g2 k1 (k2.trans e1) k4 k5 v k6⟩
    rw [k3, ← e1]; exact I1
theorem FC.go {X : Cx} {e : Expr} {f : CF} (h : FC X e f) {W : WX} (tk : Takes X W) {g : G} (ok : g.Ok X.K) {pins : List (Addr × Obj)} {s : Shared} (I : Inv X pins g.st g.H s) {P : G → PyData → Prop} (o : Out X W g (f g.env) P)
    {Q : Value → Shared → Prop} (hQ : ∀ u s' g' x v, g'.st = g.st → Inv X pins g'.st g'.H s' → RelV v u → g'.Ok X.K → Stp g g' → Dv X.K g'.A g'.H x v → P g' x → Q u s') :
    wpAny (model X.prog X.w) X.A (eval e X.env) Q X.xe s := by
  refine thn ((h.pe W tk).run pins s g.st g.H (fun v H' => ∃ g' x, g'.H = H' ∧ g'.st = g.st ∧ g'.Ok X.K ∧ Stp g g' ∧ Dv X.K g'.A g'.H x v ∧ P g' x) I ⟨g, rfl, rfl, ok, o.imp fun g' x st e o p v r => ⟨g', x, rfl, e, o, st, r, p⟩⟩) ?_
  rintro u s' ⟨v, H', I', r, g', x, rfl, e, o', st, rr, p⟩
  exact hQ u s' g' x v e (e ▸ I') r o' st rr p
/-- several, one after another -/
abbrev CFs := SE → Res (List PyData × SE)
def tCs (X : Cx) (W : WX) (f : CFs) : TA := fun σ H Q => ∃ g : G, g.st = σ ∧ g.H = H ∧ g.Ok X.K ∧ Out X W g (f g.env) fun g' x => ∀ v, Dvs X.K g'.A g'.H x v → Q v g'.H
structure FCs (X : Cx) (es : List Expr) (f : CFs) : Prop where
  pa : ∀ W, Takes X W → PA X es (tCs X W f)
def fNil : CFs := fun env => .ok ([], env)
def fCons (f : CF) (t : CFs) : CFs := fun env => (f env).bind fun p => (t p.2).bind fun q => .ok (p.1 :: q.1, q.2)
theorem fcs_nil {X : Cx} : FCs X [] fNil := ⟨fun W tk => ⟨fun pos pins s σ H Q I hq => by
  obtain ⟨g, rfl, rfl, ok, o⟩ := hq
  exact pa_nil.run pos pins s g.st g.H Q I (o g rfl rfl (.refl g) ok [] .nil)⟩⟩
theorem FCs.go {X : Cx} {es : List Expr} {f : CFs} (h : FCs X es f) {W : WX} (tk : Takes X W) {g : G} (ok : g.Ok X.K) {pos : Pos} {pins : List (Addr × Obj)} {s : Shared} (I : Inv X pins g.st g.H s) {P : G → List PyData → Prop} (o : Out X W g (f g.env) P)
    {Q : List Value → Shared → Prop} (hQ : ∀ u s' g' x v, g'.st = g.st → Inv X pins g'.st g'.H s' → Vals v u → g'.Ok X.K → Stp g g' → Dvs X.K g'.A g'.H x v → P g' x → Q u s') :
    wpAny (model X.prog X.w) X.A (spliced (backTo pos (starEach es X.env))) Q X.xe s := by
  refine thn ((h.pa W tk).run pos pins s g.st g.H (fun v H' => ∃ g' x, g'.H = H' ∧ g'.st = g.st ∧ g'.Ok X.K ∧ Stp g g' ∧ Dvs X.K g'.A g'.H x v ∧ P g' x) I ⟨g, rfl, rfl, ok, o.imp fun g' x st e o p v r => ⟨g', x, rfl, e, o, st, r, p⟩⟩) ?_
  rintro u s' ⟨v, H', I', r, g', x, rfl, e, o', st, rr, p⟩
  exact hQ u s' g' x v e (e ▸ I') r o' st rr p
theorem fcs_cons {X : Cx} {e : Expr} {es : List Expr} {f : CF} {t : CFs} (h : FC X e f) (ht : FCs X es t) (hs : starEach (e :: es) X.env = (false, eval e X.env) :: starEach es X.env := by rfl) : FCs X (e :: es) (fCons f t) := by
  refine ⟨fun W tk => ⟨fun pos pins s σ H Q I hq => ?_⟩⟩
  obtain ⟨g, rfl, rfl, ok, o⟩ := hq
  rw [hs]
  show wpAny _ _ (spliced ((false, eval e X.env) :: backTo pos (starEach es X.env))) _ _ s
  refine Calls.spliced_cons (h.go tk ok I o.bind0 fun u s1 g1 x v e1 I1 r o1 st rr p => ?_)
  refine ht.go tk o1 I1 (p.rebase ok st e1).bind0 fun us s2 g2 xs vs e2 I2 r2 o2 st2 rr2 p2 => ?_
  exact ⟨v :: vs, g2.H, by rw [← e1, ← e2]; exact I2, .cons r r2, p2 g2 rfl e2 st2 o2 _ (.cons (st2.dv o1 rr) rr2)⟩
/-! ### new tuples, new lists -/
theorem alloc_ext {O A : AS} {H : Hp} {p : Addr} {o : HO} (hp : H p = none) : Ext O A H A (upd H p o) where
  keep := fun a u h _ => by rw [upd_ne (fun z => by rw [z, hp] at h; cases h)]; exact h
  tup := fun a u h => by rw [upd_ne (fun z => by rw [z, hp] at h; cases h)]; exact h
  frz := fun a u w h => by rw [upd_ne (fun z => by rw [z, hp] at h; cases h)]; exact h
  dom := fun a h => by rw [upd_ne (fun z => by rw [z] at h; exact h hp)]; exact h
  av1 := fun _ h _ => h
  av2 := fun _ h => .inl h
theorem G.Ok.ext {K : PySem.W.Frag} {g : G} {A' : AS} {H' : Hp} (ok : g.Ok K) (e : Ext (fun _ => False) g.A g.H A' H') (hA : ∀ a, g.A a → A' a) (hd : ∀ a, A' a → H' a ≠ none) : ({ g with A := A', H := H' } : G).Ok K where
  len := ok.len
  dat := fun i x h => by
    obtain ⟨v, h1, h2⟩ := ok.dat i x h
    exact ⟨v, h1, Dv.ext e (fun _ z => z.elim) x v h2⟩
  cel := fun i m c h => by
    obtain ⟨a, h1, h2, h3⟩ := ok.cel i m c h
    refine ⟨a, h1, hA a h2, ?_⟩
    exact h3.go e (fun _ z => z.elim) (fun z => z) fun _ _ z => z
  dis := ok.dis
  dom := hd
theorem alloc_tup {K : PySem.W.Frag} {g : G} {p : Addr} {xs : List PyData} {vs : List V} (ok : g.Ok K) (hp : g.H p = none) (h : Dvs K g.A g.H xs vs) :
    Stp g { g with H := upd g.H p (.tup vs) } ∧ ({ g with H := upd g.H p (.tup vs) } : G).Ok K ∧ Dv K g.A (upd g.H p (.tup vs)) (.tuple xs) (.ref p) := by
  have e : ∀ O, Ext O g.A g.H g.A (upd g.H p (.tup vs)) := fun O => alloc_ext hp
  refine ⟨⟨e _, fun _ h => .inl h, fun _ h => .inl h, fun i c h => ⟨rfl, c, h⟩, fun i c h => ⟨rfl, h⟩⟩, ok.ext (e _) (fun _ h => h) (fun a h => (e (fun _ => False)).dom a (ok.dom a h)), ?_⟩
  simp only [Dv]
  exact ⟨p, vs, rfl, .of upd_same, Dvs.ext (e (fun _ => False)) (fun _ z => z.elim) xs vs h⟩
theorem alloc_lst {K : PySem.W.Frag} {g : G} {p : Addr} {xs : List PyData} {vs : List V} (ok : g.Ok K) (hp : g.H p = none) (h : Dvs K g.A g.H xs vs) :
    Stp g { g with A := fun b => g.A b ∨ b = p, H := upd g.H p (.lst vs) } ∧ ({ g with A := fun b => g.A b ∨ b = p, H := upd g.H p (.lst vs) } : G).Ok K ∧
      RVR K g.H { g with A := fun b => g.A b ∨ b = p, H := upd g.H p (.lst vs) } (.tmp (.lst xs)) (.ref p) := by
  have e : ∀ O, Ext O g.A g.H (fun b => g.A b ∨ b = p) (upd g.H p (.lst vs)) := fun O =>
    let z := alloc_ext (O := O) (A := g.A) (o := .lst vs) hp
    ⟨z.keep, z.tup, z.frz, z.dom, fun _ h _ => .inl h, fun a h => h.elim .inl fun q => .inr (q ▸ hp)⟩
  refine ⟨⟨e _, fun _ h => .inl h, fun _ h => .inl h, fun i c h => ⟨rfl, c, h⟩, fun i c h => ⟨rfl, h⟩⟩, ok.ext (e _) (fun _ h => .inl h) (fun a h => ?_), p, rfl, .inr rfl, ⟨vs, upd_same, Dvs.ext (e (fun _ => False)) (fun _ z => z.elim) xs vs h⟩, hp, fun ⟨i, m, c, hi, z⟩ => ?_⟩
  · rcases h with h | h
    · exact (e (fun _ => False)).dom a (ok.dom a h)
    · rw [h, upd_same]; simp
  · obtain ⟨a, h1, _, h3⟩ := ok.cel i m c hi
    have z : g.st[i]? = some (some (.ref p)) := z
    rw [h1] at z; cases z
    exact h3.some hp
def fTup (f : CFs) : EF := fun env => (f env).bind fun p => if p.1.length ≤ lim then .ok (.d (.tuple p.1), p.2) else .fail
def fLst (f : CFs) : EF := fun env => (f env).bind fun p => if p.1.length ≤ lim then .ok (.tmp (.lst p.1), p.2) else .fail
theorem fe_tup {X : Cx} {es : List Expr} {f : CFs} {k : Nat} {pos : Pos} (h : FCs X es f) : FE X (.Tuple es k pos) (fTup f) := by
  refine ⟨fun W tk => ⟨fun pins s σ H Q I hq => ?_⟩⟩
  obtain ⟨g, rfl, rfl, ok, o⟩ := hq
  refine (pe_tup (h.pa W tk)).run pins s g.st g.H Q I ⟨g, rfl, rfl, ok, o.bind0.imp fun g1 xs st e o1 p vs r => ?_⟩
  by_cases hl : xs.length ≤ lim
  · simp only [if_pos hl] at p
    refine ⟨by rw [← r.length, ← lim_line]; exact hl, fun q hq => ?_⟩
    obtain ⟨s2, o2, r2⟩ := alloc_tup o1 hq r
    exact p { g1 with H := upd g1.H q (.tup vs) } rfl e (st.trans ok s2) o2 _ r2
  · simp only [if_neg hl] at p
    exact p.elim
theorem RVR.old {K : PySem.W.Frag} {H0 H1 : Hp} {g : G} {r : RV} {v : V} (h : RVR K H1 g r v) (d : ∀ a, H0 a ≠ none → H1 a ≠ none) : RVR K H0 g r v := by
  cases r with
  | tmp c => obtain ⟨a, h1, h2, h3, h4, h5⟩ := h; exact ⟨a, h1, h2, h3, none_of_dom d h4, h5⟩
  | _ => exact h
theorem fe_lst {X : Cx} {es : List Expr} {f : CFs} {pos : Pos} (h : FCs X es f) : FE X (.List es pos) (fLst f) := by
  refine ⟨fun W tk => ⟨fun pins s σ H Q I hq => ?_⟩⟩
  obtain ⟨g, rfl, rfl, ok, o⟩ := hq
  refine (pe_lst (h.pa W tk)).run pins s g.st g.H Q I ⟨g, rfl, rfl, ok, o.bind0.imp fun g1 xs st e o1 p vs r => ?_⟩
  by_cases hl : xs.length ≤ lim
  · simp only [if_pos hl] at p
    refine ⟨by rw [← r.length, ← lim_line]; exact hl, fun q hq => ?_⟩
    obtain ⟨s2, o2, r2⟩ := alloc_lst o1 hq r
    exact p { g1 with A := fun b => g1.A b ∨ b = q, H := upd g1.H q (.lst vs) } rfl e (st.trans ok s2) o2 _ (r2.old st.ext.dom)
  · simp only [if_neg hl] at p
    exact p.elim
/-! ### names, constants -/
def fName (i : Nat) : EF := fun env => match env[i]? with
  | some (some (.d x)) => .ok (.d x, env)
  | some (some (.cell _ _)) => .ok (.slot i, env)
  | _ => .fail
theorem fe_name {X : Cx} {e : Expr} {i : Nat} (h : PE X e (tVar i)) : FE X e (fName i) := by
  refine ⟨fun W tk => ⟨fun pins s σ H Q I hq => ?_⟩⟩
  obtain ⟨g, rfl, rfl, ok, o⟩ := hq
  cases he : g.env[i]? with
  | none => simp only [fName, he] at o; exact o.elim
  | some y => cases y with
    | none => simp only [fName, he] at o; exact o.elim
    | some mv => cases mv with
      | d x =>
        simp only [fName, he] at o
        obtain ⟨v, h1, h2⟩ := ok.dat i x he
        exact h.run pins s g.st g.H Q I ⟨v, h1, o g rfl rfl (.refl g) ok v h2⟩
      | cell m c =>
        simp only [fName, he] at o
        obtain ⟨a, h1, h2, h3⟩ := ok.cel i m c he
        exact h.run pins s g.st g.H Q I ⟨_, h1, o g rfl rfl (.refl g) ok _ h1⟩
def fC (x : PyData) : EF := fun env => .ok (.d x, env)
theorem fe_c {X : Cx} {e : Expr} {x : PyData} {v : V} (h : PE X e (L2.tC v)) (hx : ∀ K A H, Dv K A H x v) : FE X e (fC x) := by
  refine ⟨fun W tk => ⟨fun pins s σ H Q I hq => ?_⟩⟩
  obtain ⟨g, rfl, rfl, ok, o⟩ := hq
  exact h.run pins s g.st g.H Q I (o g rfl rfl (.refl g) ok _ (hx _ _ _))
theorem fe_int {X : Cx} {i j pos} : FE X (.Constant (.int i) j pos) (fC (.int i)) := fe_c pe_int fun _ _ _ => by simp only [Dv]
theorem fe_bl {X : Cx} {i j pos} : FE X (.Constant (.bool i) j pos) (fC (.bool i)) := fe_c pe_bl fun _ _ _ => by simp only [Dv]
theorem fe_non {X : Cx} {j pos} : FE X (.Constant .none j pos) (fC .none) := fe_c pe_non fun _ _ _ => by simp only [Dv]
theorem fe_str {X : Cx} {i j pos} : FE X (.Constant (.str i) j pos) (fC (.str i)) := fe_c pe_str fun _ _ _ => by simp only [Dv]
/-- a module's int -/
theorem fe_gint {X : Cx} {x : Str} {i : Int} {t : Tok} {pos : Pos} (hg : Gl X x) (hm : X.mg x = some (.int i t)) (hd : (x == ("__debug__" : Str)) = false := by decide) : FE X (.Name x pos) (fC (.int i)) :=
  fe_c (v := .int i) (pe_glob hg hm ⟨t, rfl⟩ hd) fun _ _ _ => by simp only [Dv]
end BH
set_option maxRecDepth 100000
set_option maxHeartbeats 2000000
namespace BH
open PySem PySem.Spec PyProof.Rows L2
section
variable {X : Cx} {pins : List (Addr × Obj)} {σ : L2.St} {H : Hp} {s : Shared} {A : AS}
theorem not_sys [hs : SysIn X.base] (I : Inv X pins σ H s) {a : Addr} (h : H a ≠ none) : a ≠ sysModules := fun e => by
  subst e
  obtain ⟨o, ho⟩ := hs.out
  exact h (I.bs _ _ ho).2
theorem LsW.ns [SysIn X.base] (I : Inv X pins σ H s) {a : Addr} {vs : List V} (h : LsW X.K H a vs) : a ≠ sysModules := by
  rcases h with h | h
  · exact not_sys I (rd_some h)
  · exact h.1
theorem keys_reads {s : Shared} : ∀ (k : List Key) (us : List Value), Vals (k.map kV) us → ∃ as, ReadsAll s.heap us (k.map keyD) as ∧ sysModules ∉ as
  | [], us, h => by cases h; exact ⟨[], .nil, by simp⟩
  | .inl i :: k, us, h => by
    rw [List.map_cons] at h
    cases h with
    | cons h t =>
      obtain ⟨tk, rfl⟩ := (h : ∃ t, _ = Value.int i t)
      obtain ⟨as, q, n⟩ := keys_reads k _ t
      exact ⟨_, .cons (.int i tk) q, by simpa using n⟩
  | .inr x :: k, us, h => by
    rw [List.map_cons] at h
    cases h with
    | cons h t =>
      obtain ⟨tk, rfl⟩ := (h : ∃ t, _ = Value.str x t)
      obtain ⟨as, q, n⟩ := keys_reads k _ t
      exact ⟨_, .cons (.str x tk) q, by simpa using n⟩
mutual
theorem Dv.reads2 [SysIn X.base] (I : Inv X pins σ H s) : ∀ (d : PyData) (v : V) (u : Value), Dv X.K A H d v → RelV v u → ∃ as, Reads s.heap u d as ∧ sysModules ∉ as
  | .none, v, u, h, r => by simp only [Dv] at h; subst h; cases r; exact ⟨[], .none, by simp⟩
  | .bool b, v, u, h, r => by simp only [Dv] at h; subst h; cases r; exact ⟨[], .bool b, by simp⟩
  | .int i, v, u, h, r => by simp only [Dv] at h; subst h; obtain ⟨t, rfl⟩ := r; exact ⟨[], .int i t, by simp⟩
  | .str x, v, u, h, r => by simp only [Dv] at h; subst h; obtain ⟨t, rfl⟩ := r; exact ⟨[], .str x t, by simp⟩
  | .tuple ds, v, u, h, r => by
    simp only [Dv] at h
    obtain ⟨a, vs, rfl, q, t⟩ := h
    cases r
    obtain ⟨its, rv, p, hz⟩ := I.tuple q.sq
    obtain ⟨o, e1, e2, n, e3⟩ := p
    obtain ⟨as, hr, hn⟩ := Dvs.reads2 I ds vs its t rv
    exact ⟨as, .tuple e1 e2 e3 (by simpa using hr), hn⟩
  | .list ds, v, u, h, r => by
    simp only [Dv] at h
    obtain ⟨a, vs, rfl, q, t⟩ := h
    cases r
    obtain ⟨its, rv, ⟨o, n, e1, e2, e3, e4⟩, hz⟩ := I.list q.sq
    obtain ⟨as, hr, hn⟩ := Dvs.reads2 I ds vs its t rv
    exact ⟨a :: as, .list e1 e2 e4 (by simpa using hr), fun z => by
      rcases List.mem_cons.mp z with z | z
      · exact q.w.ns I z.symm
      · exact hn z⟩
  | .dict kvs, v, u, h, r => by
    simp only [Dv] at h
    obtain ⟨a, es, rfl, _, q, rr⟩ := h
    cases r
    obtain ⟨_, _, xs, pr, ob, ys, ep, e, ex, hd, hes, _⟩ := I.hok a _ q
    obtain ⟨as, bs, h1, h2, n1, n2⟩ := Dps.reads2 I kvs es xs rr pr
    refine ⟨_, .dict (as := as) (bs := bs) e ex.1 hd (by rw [hes, List.map_map]; exact h1) (by rw [hes, List.map_map]; exact h2), fun z => ?_⟩
    rcases List.mem_append.mp z with z | z
    · rcases List.mem_cons.mp z with z | z
      · exact not_sys I (a := a) (by rw [q]; simp) z.symm
      · exact n1 z
    · exact n2 z
theorem Dvs.reads2 [SysIn X.base] (I : Inv X pins σ H s) : ∀ (ds : List PyData) (vs : List V) (us : List Value), Dvs X.K A H ds vs → Vals vs us → ∃ as, ReadsAll s.heap us ds as ∧ sysModules ∉ as
  | [], vs, us, h, r => by simp only [Dvs] at h; subst h; cases r; exact ⟨[], .nil, by simp⟩
  | d :: ds, vs, us, h, r => by
    simp only [Dvs] at h
    obtain ⟨v, t, rfl, q, z⟩ := h
    cases r with
    | cons r1 r2 =>
      obtain ⟨as, q1, n1⟩ := Dv.reads2 I d v _ q r1
      obtain ⟨bs, q2, n2⟩ := Dvs.reads2 I ds t _ z r2
      exact ⟨as ++ bs, .cons q1 q2, fun y => by
        rcases List.mem_append.mp y with y | y
        · exact n1 y
        · exact n2 y⟩
theorem Dps.reads2 [SysIn X.base] (I : Inv X pins σ H s) : ∀ (ds : List (PyData × PyData)) (es : List (List Key × V)) (xs : List (List Key × Addr × Value)), Dps X.K A H ds es →
    Paired (fun p q => p.1 = q.1 ∧ H q.2.1 = some (HO.tup (p.1.map kV)) ∧ L2.RelV p.2 q.2.2) es xs →
    ∃ as bs, ReadsAll s.heap (xs.map fun x => Value.ref x.2.1) (ds.map (·.1)) as ∧ ReadsAll s.heap (xs.map fun x => x.2.2) (ds.map (·.2)) bs ∧ sysModules ∉ as ∧ sysModules ∉ bs
  | [], es, xs, h, p => by simp only [Dps] at h; subst h; cases p; exact ⟨[], [], .nil, .nil, by simp, by simp⟩
  | (kd, d) :: ds, es, xs, h, p => by
    simp only [Dps] at h
    obtain ⟨k, v, r, rfl, rfl, q, t⟩ := h
    cases p with
    | @cons _ y _ ys p1 p2 =>
      obtain ⟨y1, ya, yv⟩ := y
      obtain ⟨_, e2, e3⟩ := p1
      obtain ⟨bs, q2, n2⟩ := Dv.reads2 I d v _ q e3
      obtain ⟨its, rv, p, hz⟩ := I.tuple (.inl (.inl e2))
      obtain ⟨o, o1, o2, n, o3⟩ := p
      obtain ⟨as2, bs2, h1, h2, m1, m2⟩ := Dps.reads2 I ds r ys t p2
      obtain ⟨as, hr, hn⟩ := keys_reads (s := s) k its rv
      exact ⟨_, _, .cons (.tuple o1 o2 o3 (by simpa using hr)) h1, .cons q2 h2, fun z => by
        rcases List.mem_append.mp z with z | z
        · exact hn z
        · exact m1 z, fun z => by
        rcases List.mem_append.mp z with z | z
        · exact n2 z
        · exact m2 z⟩
end
mutual
theorem Dv.reads (I : Inv X pins σ H s) : ∀ (d : PyData) (v : V) (u : Value), Dv X.K A H d v → RelV v u → ∃ as, Reads s.heap u d as
  | .none, v, u, h, r => by simp only [Dv] at h; subst h; cases r; exact ⟨[], .none⟩
  | .bool b, v, u, h, r => by simp only [Dv] at h; subst h; cases r; exact ⟨[], .bool b⟩
  | .int i, v, u, h, r => by simp only [Dv] at h; subst h; obtain ⟨t, rfl⟩ := r; exact ⟨[], .int i t⟩
  | .str x, v, u, h, r => by simp only [Dv] at h; subst h; obtain ⟨t, rfl⟩ := r; exact ⟨[], .str x t⟩
  | .tuple ds, v, u, h, r => by
    simp only [Dv] at h
    obtain ⟨a, vs, rfl, q, t⟩ := h
    cases r
    obtain ⟨its, rv, p, hz⟩ := I.tuple q.sq
    obtain ⟨o, e1, e2, n, e3⟩ := p
    obtain ⟨as, hr⟩ := Dvs.reads I ds vs its t rv
    exact ⟨as, .tuple e1 e2 e3 (by simpa using hr)⟩
  | .list ds, v, u, h, r => by
    simp only [Dv] at h
    obtain ⟨a, vs, rfl, q, t⟩ := h
    cases r
    obtain ⟨its, rv, ⟨o, n, e1, e2, e3, e4⟩, hz⟩ := I.list q.sq
    obtain ⟨as, hr⟩ := Dvs.reads I ds vs its t rv
    exact ⟨_, .list e1 e2 e4 (by simpa using hr)⟩
  | .dict kvs, v, u, h, r => by
    simp only [Dv] at h
    obtain ⟨a, es, rfl, _, q, rr⟩ := h
    cases r
    obtain ⟨_, _, xs, pr, ob, ys, ep, e, ex, hd, hes, _⟩ := I.hok a _ q
    obtain ⟨as, bs, h1, h2⟩ := Dps.reads I kvs es xs rr pr
    exact ⟨_, .dict (as := as) (bs := bs) e ex.1 hd (by rw [hes, List.map_map]; exact h1) (by rw [hes, List.map_map]; exact h2)⟩
theorem Dvs.reads (I : Inv X pins σ H s) : ∀ (ds : List PyData) (vs : List V) (us : List Value), Dvs X.K A H ds vs → Vals vs us → ∃ as, ReadsAll s.heap us ds as
  | [], vs, us, h, r => by simp only [Dvs] at h; subst h; cases r; exact ⟨[], .nil⟩
  | d :: ds, vs, us, h, r => by
    simp only [Dvs] at h
    obtain ⟨v, t, rfl, q, z⟩ := h
    cases r with
    | cons r1 r2 =>
      obtain ⟨as, q1⟩ := Dv.reads I d v _ q r1
      obtain ⟨bs, q2⟩ := Dvs.reads I ds t _ z r2
      exact ⟨as ++ bs, .cons q1 q2⟩
theorem Dps.reads (I : Inv X pins σ H s) : ∀ (ds : List (PyData × PyData)) (es : List (List Key × V)) (xs : List (List Key × Addr × Value)), Dps X.K A H ds es →
    Paired (fun p q => p.1 = q.1 ∧ H q.2.1 = some (HO.tup (p.1.map kV)) ∧ L2.RelV p.2 q.2.2) es xs →
    ∃ as bs, ReadsAll s.heap (xs.map fun x => Value.ref x.2.1) (ds.map (·.1)) as ∧ ReadsAll s.heap (xs.map fun x => x.2.2) (ds.map (·.2)) bs
  | [], es, xs, h, p => by simp only [Dps] at h; subst h; cases p; exact ⟨[], [], .nil, .nil⟩
  | (kd, d) :: ds, es, xs, h, p => by
    simp only [Dps] at h
    obtain ⟨k, v, r, rfl, rfl, q, t⟩ := h
    cases p with
    | @cons _ y _ ys p1 p2 =>
      obtain ⟨y1, ya, yv⟩ := y
      obtain ⟨_, e2, e3⟩ := p1
      obtain ⟨bs, q2⟩ := Dv.reads I d v _ q e3
      obtain ⟨its, rv, p, hz⟩ := I.tuple (.inl (.inl e2))
      obtain ⟨o, o1, o2, n, o3⟩ := p
      obtain ⟨as2, bs2, h1, h2⟩ := Dps.reads I ds r ys t p2
      obtain ⟨as, hr, hn⟩ := keys_reads (s := s) k its rv
      exact ⟨_, _, .cons (.tuple o1 o2 o3 (by simpa using hr)) h1, .cons q2 h2⟩
end
theorem dwd_reads (I : Inv X pins σ H s) {kvs : List (PyData × PyData)} {v : V} {u : Value} (h : Dw X.K A H (.dict kvs) v) (r : RelV v u) : ∃ as, Reads s.heap u (.dict kvs) as := by
  obtain ⟨a, es, rfl, q, rr⟩ := h
  cases r
  obtain ⟨_, _, xs, pr, ob, ys, ep, e, ex, hd, hes, _⟩ := I.hok a _ q
  obtain ⟨as, bs, h1, h2⟩ := Dps.reads I kvs es xs rr pr
  exact ⟨_, .dict (as := as) (bs := bs) e ex.1 hd (by rw [hes, List.map_map]; exact h1) (by rw [hes, List.map_map]; exact h2)⟩
theorem dwd_reads2 [SysIn X.base] (I : Inv X pins σ H s) {kvs : List (PyData × PyData)} {v : V} {u : Value} (h : Dw X.K A H (.dict kvs) v) (r : RelV v u) : ∃ as, Reads s.heap u (.dict kvs) as ∧ sysModules ∉ as := by
  obtain ⟨a, es, rfl, q, rr⟩ := h
  cases r
  obtain ⟨_, _, xs, pr, ob, ys, ep, e, ex, hd, hes, _⟩ := I.hok a _ q
  obtain ⟨as, bs, h1, h2, n1, n2⟩ := Dps.reads2 I kvs es xs rr pr
  refine ⟨_, .dict (as := as) (bs := bs) e ex.1 hd (by rw [hes, List.map_map]; exact h1) (by rw [hes, List.map_map]; exact h2), fun z => ?_⟩
  rcases List.mem_append.mp z with z | z
  · rcases List.mem_cons.mp z with z | z
    · exact not_sys I (a := a) (by rw [q]; simp) z.symm
    · exact n1 z
  · exact n2 z
theorem Dw.reads2 [SysIn X.base] (I : Inv X pins σ H s) {d : PyData} {v : V} {u : Value} (h : Dw X.K A H d v) (r : RelV v u) : ∃ as, Reads s.heap u d as ∧ sysModules ∉ as := by
  cases d with
  | list ds =>
    obtain ⟨a, vs, rfl, q, t⟩ := h
    cases r
    obtain ⟨its, rv, ⟨o, n, e1, e2, e3, e4⟩, hz⟩ := I.list q.sq
    obtain ⟨as, hr, hn⟩ := Dvs.reads2 I ds vs its t rv
    exact ⟨a :: as, .list e1 e2 e4 (by simpa using hr), fun z => by
      rcases List.mem_cons.mp z with z | z
      · exact q.ns I z.symm
      · exact hn z⟩
  | dict kvs => exact dwd_reads2 I h r
  | _ => exact Dv.reads2 (A := A) I _ _ _ h r
theorem Dw.reads (I : Inv X pins σ H s) {d : PyData} {v : V} {u : Value} (h : Dw X.K A H d v) (r : RelV v u) : ∃ as, Reads s.heap u d as := by
  cases d with
  | list ds =>
    obtain ⟨a, vs, rfl, q, t⟩ := h
    cases r
    obtain ⟨its, rv, ⟨o, n, e1, e2, e3, e4⟩, hz⟩ := I.list q.sq
    obtain ⟨as, hr⟩ := Dvs.reads I ds vs its t rv
    exact ⟨_, .list e1 e2 e4 (by simpa using hr)⟩
  | dict kvs => exact dwd_reads I h r
  | _ => exact Dv.reads (A := A) I _ _ _ h r
end
/-! ### operators by values -/
/-- what an operator hands back -/
def OpQ (X : Cx) (pins : List (Addr × Obj)) (g : G) (r : RV) (z : Value) (s' : Shared) : Prop :=
  ∃ v g', g'.st = g.st ∧ g'.env = g.env ∧ Inv X pins g.st g'.H s' ∧ RelV v z ∧ Stp g g' ∧ g'.Ok X.K ∧ RVR X.K g.H g' r v
def OpD (X : Cx) (f : Value → Value → Sem Value) (op : PyData → PyData → Option RV) : Prop :=
  ∀ (g : G) (pins : List (Addr × Obj)) (s : Shared) (x y : PyData) (v w : V) (u t : Value) (r : RV), g.Ok X.K → Inv X pins g.st g.H s → Dw X.K g.A g.H x v → Dw X.K g.A g.H y w → RelV v u → RelV w t → op x y = some r →
    wpAny (model X.prog X.w) X.A (f u t) (OpQ X pins g r) X.xe s
theorem OpQ.same {X : Cx} {pins : List (Addr × Obj)} {g : G} {x : PyData} {v : V} {z : Value} {s : Shared} (ok : g.Ok X.K) (I : Inv X pins g.st g.H s) (r : RelV v z) (h : Dv X.K g.A g.H x v) : OpQ X pins g (.d x) z s :=
  ⟨v, g, rfl, rfl, I, r, .refl g, ok, h⟩
theorem opq_bl {X : Cx} {pins : List (Addr × Obj)} {g : G} {b : Bool} {s : Shared} (ok : g.Ok X.K) (I : Inv X pins g.st g.H s) : OpQ X pins g (.d (.bool b)) (.bool b) s :=
  ⟨.bl b, g, rfl, rfl, I, rfl, .refl g, ok, by show Dv _ _ _ _ _; simp only [Dv]⟩
/-- a scalar -/
def scalD : PyData → Option V
  | .none => some .non
  | .bool b => some (.bl b)
  | .int i => some (.int i)
  | .str x => some (.str x)
  | _ => none
theorem dv_scal {K : PySem.W.Frag} {A : AS} {H : Hp} {x : PyData} {v : V} (h : scalD x = some v) : Dv K A H x v := by
  cases x <;> simp [scalD] at h <;> subst h <;> simp only [Dv]
theorem dw_scal {K : PySem.W.Frag} {A : AS} {H : Hp} {x : PyData} {v w : V} (h : scalD x = some w) (d : Dw K A H x v) : v = w := by
  cases x <;> simp [scalD] at h <;> subst h <;> (have d : Dv K A H _ v := d) <;> simpa only [Dv] using d
/-- from a rule of HandS: the result is a scalar, the heap stays -/
theorem OpD.of {X : Cx} {f : Value → Value → Sem Value} {r : R2} {op : PyData → PyData → Option RV} (h : OpR X f r)
    (hq : ∀ (g : G) (pins : List (Addr × Obj)) (s : Shared) (x y : PyData) (v w : V) (res : RV) (Q : VK), g.Ok X.K → Inv X pins g.st g.H s → Dw X.K g.A g.H x v → Dw X.K g.A g.H y w → op x y = some res →
      (∀ v' (g' : G), g'.st = g.st → g'.env = g.env → Stp g g' → g'.Ok X.K → RVR X.K g.H g' res v' → Q v' g'.H) → r v w g.H Q) : OpD X f op := by
  intro g pins s x y v w u t res ok I hx hy rv rw e
  refine thn (h pins s g.st g.H v w u t (fun v' H' => ∃ g' : G, g'.H = H' ∧ g'.st = g.st ∧ g'.env = g.env ∧ Stp g g' ∧ g'.Ok X.K ∧ RVR X.K g.H g' res v') I rv rw (hq g pins s x y v w res _ ok I hx hy e fun v' g' e1 e2 e3 e4 e5 => ⟨g', rfl, e1, e2, e3, e4, e5⟩)) ?_
  rintro z s' ⟨v', H', I', r', g', rfl, e1, e2, e3, e4, e5⟩
  exact ⟨v', g', e1, e2, I', r', e3, e4, e5⟩
def fBin (op : PyData → PyData → Option RV) (fa fb : EF) : EF := fun env => (fa env).bind fun p => (fb p.2).bind fun q =>
  match p.1.view q.2, q.1.view q.2 with
  | some x, some y => match op x y with
    | some r => .ok (r, q.2)
    | none => .fail
  | _, _ => .fail
theorem RVR.sub {K : PySem.W.Frag} {H0 : Hp} {g : G} {r : RV} {v : V} (h : RVR K g.H g r v) (d : ∀ a, H0 a ≠ none → g.H a ≠ none) : RVR K H0 g r v := h.old d
/-- two operands, then f -/
theorem two {X : Cx} {W : WX} {a b : Expr} {fa fb : EF} {op : PyData → PyData → Option RV} {f : Value → Value → Sem Value} (tk : Takes X W) (ha : FE X a fa) (hb : FE X b fb) (ho : OpD X f op) {g : G} {pins : List (Addr × Obj)} {s : Shared}
    (ok : g.Ok X.K) (I : Inv X pins g.st g.H s) {P : G → RV → Prop} (o : Out X W g (fBin op fa fb g.env) P) {Q : Value → Shared → Prop}
    (hQ : ∀ z s' g' rv v, Inv X pins g.st g'.H s' → RelV v z → RVR X.K g.H g' rv v → P g' rv → Q z s') :
    wpAny (model X.prog X.w) X.A (eval a X.env) (fun u s₁ => wpAny (model X.prog X.w) X.A (eval b X.env) (fun t s₂ => wpAny (model X.prog X.w) X.A (f u t) Q X.xe s₂) X.xe s₁) X.xe s := by
  refine ha.go tk ok I o.bind0 fun u s1 g1 r1 v1 e1 I1 rl1 ok1 st1 rr1 p1 => ?_
  refine hb.go tk ok1 I1 (p1.rebase ok st1 e1).bind0 fun t s2 g2 r2 v2 e2 I2 rl2 ok2 st2 rr2 p2 => ?_
  have rr1' := rr1.step ok1 st2 e2
  have st := st1.trans ok st2
  cases hx : r1.view g2.env with
  | none => rw [hx] at p2; exact p2.elim
  | some x =>
    cases hy : r2.view g2.env with
    | none => rw [hx, hy] at p2; exact p2.elim
    | some y =>
      rw [hx, hy] at p2
      simp only at p2
      cases hr : op x y with
      | none => rw [hr] at p2; exact p2.elim
      | some r =>
        rw [hr] at p2
        refine thn (ho g2 pins s2 x y v1 v2 u t r ok2 I2 (rr1'.dw ok2 hx) (rr2.dw ok2 hy) rl1 rl2 hr) ?_
        rintro z s3 ⟨v, g3, e3, e4, I3, rl3, st3, ok3, rr3⟩
        have st23 := st2.trans ok1 st3
        exact hQ z s3 g3 r v (by rw [← e1, ← e2]; exact I3) rl3 (rr3.old st.ext.dom) (p2 g3 e4 (e3.trans e2) st23 ok3)
theorem fe_bin {X : Cx} {a b : Expr} {op : Operator} {fa fb : EF} {o : PyData → PyData → Option RV} {pos : Pos} (ho : OpD X (binaryOp op) o) (ha : FE X a fa) (hb : FE X b fb) : FE X (.BinOp a op b pos) (fBin o fa fb) :=
  fe_mk fun W tk g pins s P ok I h => wpAny_BinOp (two tk ha hb ho ok I h fun z s' g' rv v I' r rr p => ⟨v, g', rv, I', r, rr, p⟩)
theorem fe_cmp {X : Cx} {a b : Expr} {op : CmpOp} {fa fb : EF} {o : PyData → PyData → Option RV} {pos : Pos} (ho : OpD X (compareOp op) o) (ha : FE X a fa) (hb : FE X b fb) (hm : behindInMarks op b = false := by rfl) : FE X (.Compare a [op] [b] pos) (fBin o fa fb) :=
  fe_mk fun W tk g pins s P ok I h => wpAny_Compare1 (two tk ha hb ho ok I h fun z s' g' rv v I' r rr p => ⟨v, g', rv, I', r, rr, p⟩) hm
/-! ### + - * // % ** -/
def opAdd : PyData → PyData → Option RV
  | .int i, .int j => some (.d (.int (i + j)))
  | .str a, .str b => if a.length + b.length ≤ lim then some (.d (.str (a ++ b))) else none
  | .tuple a, .tuple b => if a.length + b.length ≤ lim then some (.d (.tuple (a ++ b))) else none
  | .list a, .list b => if a.length + b.length ≤ lim then some (.tmp (.lst (a ++ b))) else none
  | _, _ => none
def opSub : PyData → PyData → Option RV
  | .int i, .int j => some (.d (.int (i - j)))
  | _, _ => none
def mulG (i j : Int) : Prop := ((-(2 ^ 64) < i ∧ i < 2 ^ 64) ∨ (-(2 ^ 64) < j ∧ j < 2 ^ 64)) ∨ i.natAbs.log2 + j.natAbs.log2 < 1000000
instance (i j : Int) : Decidable (mulG i j) := by unfold mulG; exact inferInstance
def opMul : PyData → PyData → Option RV
  | .int i, .int j => if mulG i j then some (.d (.int (i * j))) else none
  | _, _ => none
def divG (j : Int) : Prop := 0 < j ∧ j.natAbs.log2 < 9000
instance (j : Int) : Decidable (divG j) := by unfold divG; exact inferInstance
def divN (j : Int) : Prop := j ≠ 0 ∧ j.natAbs.log2 < 9000
instance (j : Int) : Decidable (divN j) := by unfold divN; exact inferInstance
def opDiv : PyData → PyData → Option RV
  | .int i, .int j => if divG j then some (.d (.int (i / j))) else if divN j then some (.d (.int (i.fdiv j))) else none
  | _, _ => none
def opMod : PyData → PyData → Option RV
  | .int i, .int j => if 0 < j then some (.d (.int (i % j))) else if j ≠ 0 then some (.d (.int (i.fmod j))) else none
  | _, _ => none
def powG (i j : Int) : Prop := 0 ≤ j ∧ j ≤ 1000000 ∧ i.natAbs < 2 ^ 64
instance (i j : Int) : Decidable (powG i j) := by unfold powG; exact inferInstance
def opPow : PyData → PyData → Option RV
  | .int i, .int j => if powG i j then some (.d (.int (i ^ j.toNat))) else none
  | _, _ => none
section
variable {X : Cx}
theorem dw_int {K : PySem.W.Frag} {A : AS} {H : Hp} {i : Int} {v : V} (d : Dw K A H (.int i) v) : v = .int i := dw_scal (x := .int i) rfl d
theorem dw_str {K : PySem.W.Frag} {A : AS} {H : Hp} {i : Str} {v : V} (d : Dw K A H (.str i) v) : v = .str i := dw_scal (x := .str i) rfl d
theorem dv_int {K : PySem.W.Frag} {A : AS} {H : Hp} {i : Int} : Dv K A H (.int i) (.int i) := dv_scal (x := .int i) rfl
theorem dv_bl {K : PySem.W.Frag} {A : AS} {H : Hp} {i : Bool} : Dv K A H (.bool i) (.bl i) := dv_scal (x := .bool i) rfl
theorem dv_str {K : PySem.W.Frag} {A : AS} {H : Hp} {i : Str} : Dv K A H (.str i) (.str i) := dv_scal (x := .str i) rfl
theorem dw_tup {K : PySem.W.Frag} {A : AS} {H : Hp} {ds : List PyData} {v : V} (d : Dw K A H (.tuple ds) v) : ∃ a vs, v = .ref a ∧ SqT K H a vs ∧ Dvs K A H ds vs := by
  have d : Dv K A H (.tuple ds) v := d
  simp only [Dv] at d
  obtain ⟨a, vs, e, q, r⟩ := d
  exact ⟨a, vs, e, q.sq, r⟩
theorem dw_lst {K : PySem.W.Frag} {A : AS} {H : Hp} {ds : List PyData} {v : V} (d : Dw K A H (.list ds) v) : ∃ a vs, v = .ref a ∧ SqL K H a vs ∧ Dvs K A H ds vs := by
  obtain ⟨a, vs, e, q, t⟩ := d
  exact ⟨a, vs, e, q.sq, t⟩
theorem cat_lists {prog : Program} {w : World} {A : Around} {E : Value → Shared → Prop} {s : Shared} {l b : Addr} {xs ys : Array Value} {n n2 : Nat} {dd dd2 : Option Addr} {sl sl2 : Array (Option Value)} {Q : Value → Shared → Prop}
    (ho : s.heap.get? l = some { cls := .type "list", dict := dd, data := .seq xs n, slots := sl }) (ho2 : s.heap.get? b = some { cls := .type "list", dict := dd2, data := .seq ys n2, slots := sl2 }) (hsz : xs.size + ys.size ≤ sizeLine)
    (h : Q (.ref s.heap.objs.size) { s with heap := s.heap.push { cls := .type "list", data := .seq (xs ++ ys) } }) : wpAny (model prog w) A (binaryOp .Add (.ref l) (.ref b)) Q E s :=
  concat_meets ⟨_, ho, rfl⟩ ⟨_, ho2, rfl⟩ noFill_list_add seq_list_add F.slot_list_add F.entry_list_add (F.args_list_add_2 _ _)
    (list_addW l b xs ys n n2 dd dd2 sl sl2 hsz) ⟨ho, ho2, h⟩
/-- list + list, whatever holds them -/
theorem op_catR : OpR X (binaryOp .Add) (fun x y H Q => ∃ l b xs zs, x = .ref l ∧ y = .ref b ∧ SqL X.K H l xs ∧ SqL X.K H b zs ∧ xs.length + zs.length ≤ sizeLine ∧ ∀ p, H p = none → Q (.ref p) (upd H p (.lst (xs ++ zs)))) := by
  intro pins s σ H x y v u Q I rx ry h
  obtain ⟨l, b, xs, zs, rfl, rfl, hH, hB, hz, q⟩ := h
  cases rx
  cases ry
  obtain ⟨its, r, ⟨⟨cls, dd, data, sl⟩, n, ho, hc, hdd, hd⟩, z⟩ := I.list hH
  obtain ⟨its2, r2, ⟨⟨cls2, dd2, data2, sl2⟩, n2, ho2, hc2, hdd2, hd2⟩, z2⟩ := I.list hB
  have hl := r.length
  have hl2 := r2.length
  simp only at hc hd hc2 hd2
  subst hc hd hc2 hd2
  have hsz : its.toArray.size + its2.toArray.size ≤ sizeLine := by rw [List.size_toArray, List.size_toArray]; omega
  refine cat_lists ho ho2 hsz ?_
  have ea : its.toArray ++ its2.toArray = (its ++ its2).toArray := by simp
  rw [ea]
  exact ⟨.ref _, _, I.lnew (t' := s.toks) (r.append r2) (by rw [List.length_append]; omega), rfl, q _ I.fresh⟩
theorem od_add : OpD X (binaryOp .Add) opAdd := by
  intro g pins s x y v w u t r ok I hx hy rv rw e
  unfold opAdd at e
  split at e
  · cases e
    obtain rfl := dw_int hx
    obtain rfl := dw_int hy
    exact thn (op_add pins s g.st g.H _ _ u t (fun v' H' => v' = .int _ ∧ H' = g.H) I rv rw ⟨_, _, rfl, rfl, rfl, rfl⟩) fun z s' ⟨v', H', I', r', e1, e2⟩ => by subst e1 e2; exact .same ok I' r' dv_int
  · split at e
    · cases e
      obtain rfl := dw_str hx
      obtain rfl := dw_str hy
      rename_i hz
      exact thn (op_add_str pins s g.st g.H _ _ u t (fun v' H' => v' = .str _ ∧ H' = g.H) I rv rw ⟨_, _, rfl, rfl, by rw [← lim_line]; exact hz, rfl, rfl⟩) fun z s' ⟨v', H', I', r', e1, e2⟩ => by subst e1 e2; exact .same ok I' r' dv_str
    · cases e
  · split at e
    · cases e
      rename_i ds es hz
      obtain ⟨a, vs, rfl, qa, ra⟩ := dw_tup hx
      obtain ⟨b, ws, rfl, qb, rb⟩ := dw_tup hy
      have l1 := ra.length
      have l2 := rb.length
      refine thn (op_catA pins s g.st g.H _ _ u t (fun v' H' => ∃ g' : G, g'.H = H' ∧ g'.st = g.st ∧ g'.env = g.env ∧ Stp g g' ∧ g'.Ok X.K ∧ RVR X.K g.H g' (.d (.tuple (ds ++ es))) v') I rv rw ⟨a, b, vs, ws, rfl, rfl, qa, qb, by rw [← lim_line]; omega, fun h => ?_, fun _ h => ?_, fun _ _ p hp => ?_⟩) fun z s' ⟨v', H', I', r', g', e1, e2, e3, e4, e5, e6⟩ => ⟨v', g', e2, e3, by rw [e1]; exact I', r', e4, e5, e6⟩
      · subst h
        have : ds = [] := by simpa using l1
        subst this
        exact ⟨g, rfl, rfl, rfl, .refl g, ok, hy⟩
      · subst h
        have : es = [] := by simpa using l2
        subst this
        exact ⟨g, rfl, rfl, rfl, .refl g, ok, by rw [List.append_nil]; exact hx⟩
      · obtain ⟨s2, o2, r2⟩ := alloc_tup ok hp (ra.append rb)
        exact ⟨{ g with H := upd g.H p (.tup (vs ++ ws)) }, rfl, rfl, rfl, s2, o2, r2⟩
    · cases e
  · split at e
    · cases e
      rename_i ds es hz
      obtain ⟨a, vs, rfl, qa, ra⟩ := dw_lst hx
      obtain ⟨b, ws, rfl, qb, rb⟩ := dw_lst hy
      have l1 := ra.length
      have l2 := rb.length
      refine thn (op_catR pins s g.st g.H _ _ u t (fun v' H' => ∃ g' : G, g'.H = H' ∧ g'.st = g.st ∧ g'.env = g.env ∧ Stp g g' ∧ g'.Ok X.K ∧ RVR X.K g.H g' (.tmp (.lst (ds ++ es))) v') I rv rw ⟨a, b, vs, ws, rfl, rfl, qa, qb, by rw [← lim_line]; omega, fun p hp => ?_⟩) fun z s' ⟨v', H', I', r', g', e1, e2, e3, e4, e5, e6⟩ => ⟨v', g', e2, e3, by rw [e1]; exact I', r', e4, e5, e6⟩
      obtain ⟨s2, o2, r2⟩ := alloc_lst ok hp (ra.append rb)
      exact ⟨{ g with A := fun b => g.A b ∨ b = p, H := upd g.H p (.lst (vs ++ ws)) }, rfl, rfl, rfl, s2, o2, r2⟩
    · cases e
  · cases e
/-- ints -/
theorem od_int {f : Value → Value → Sem Value} {C : Int → Int → Prop} {k : Int → Int → Int} (h : OpR X f (rI C fun i j => .int (k i j))) {g : G} {pins : List (Addr × Obj)} {s : Shared} {i j : Int} {v w : V} {u t : Value} (ok : g.Ok X.K) (I : Inv X pins g.st g.H s)
    (hx : Dw X.K g.A g.H (.int i) v) (hy : Dw X.K g.A g.H (.int j) w) (rv : RelV v u) (rw : RelV w t) (c : C i j) : wpAny (model X.prog X.w) X.A (f u t) (OpQ X pins g (.d (.int (k i j)))) X.xe s := by
  obtain rfl := dw_int hx
  obtain rfl := dw_int hy
  exact thn (h pins s g.st g.H _ _ u t (fun v' H' => v' = .int _ ∧ H' = g.H) I rv rw ⟨_, _, rfl, rfl, c, rfl, rfl⟩) fun z s' ⟨v', H', I', r', e1, e2⟩ => by subst e1 e2; exact .same ok I' r' dv_int
theorem od_sub : OpD X (binaryOp .Sub) opSub := by
  intro g pins s x y v w u t r ok I hx hy rv rw e
  unfold opSub at e
  split at e
  · cases e
    obtain rfl := dw_int hx
    obtain rfl := dw_int hy
    exact thn (op_sub pins s g.st g.H _ _ u t (fun v' H' => v' = .int _ ∧ H' = g.H) I rv rw ⟨_, _, rfl, rfl, rfl, rfl⟩) fun z s' ⟨v', H', I', r', e1, e2⟩ => by subst e1 e2; exact .same ok I' r' dv_int
  · cases e
theorem od_mul : OpD X (binaryOp .Mult) opMul := by
  intro g pins s x y v w u t r ok I hx hy rv rw e
  unfold opMul at e
  split at e
  · split at e
    · cases e
      rename_i c
      rcases c with c | c
      · exact od_int op_mul ok I hx hy rv rw c
      · exact od_int op_mulW ok I hx hy rv rw c
    · cases e
  · cases e
theorem op_fdivNW : OpR X (binaryOp .FloorDiv) (rI (fun _ j => divN j) fun i j => .int (i.fdiv j)) := opI fun _ _ _ _ _ _ _ hc q => floordiv_int hc.1 q (.inl (PyProof.noPylong_of_log2 hc.2))
theorem od_div : OpD X (binaryOp .FloorDiv) opDiv := by
  intro g pins s x y v w u t r ok I hx hy rv rw e
  unfold opDiv at e
  split at e
  · split at e
    · cases e
      rename_i c
      exact od_int op_fdivW ok I hx hy rv rw c
    · split at e
      · cases e
        rename_i c
        exact od_int op_fdivNW ok I hx hy rv rw c
      · cases e
  · cases e
theorem od_mod : OpD X (binaryOp .Mod) opMod := by
  intro g pins s x y v w u t r ok I hx hy rv rw e
  unfold opMod at e
  split at e
  · split at e
    · cases e
      rename_i c
      exact od_int op_mod ok I hx hy rv rw c
    · split at e
      · cases e
        rename_i c
        exact od_int op_modN ok I hx hy rv rw c
      · cases e
  · cases e
theorem od_pow : OpD X (binaryOp .Pow) opPow := by
  intro g pins s x y v w u t r ok I hx hy rv rw e
  unfold opPow at e
  split at e
  · split at e
    · cases e
      rename_i c
      exact od_int op_pow ok I hx hy rv rw c
    · cases e
  · cases e
/-! ### comparisons -/
def opEq (neg : Bool) : PyData → PyData → Option RV := fun x y => if SeqAt.shaped x && SeqAt.shaped y then some (.d (.bool (if neg then !PyData.eqv x y else PyData.eqv x y))) else none
theorem od_eq (hu : X.A.units + 65 < cLine) : OpD X (compareOp .Eq) (opEq false) := by
  intro g pins s x y v w u t r ok I hx hy rv rw e
  unfold opEq at e
  split at e
  · cases e
    rename_i c
    rw [Bool.and_eq_true] at c
    obtain ⟨as, r1⟩ := hx.reads I rv
    obtain ⟨bs, r2⟩ := hy.reads I rw
    exact PyProof.Rows.eq_dataH r1 r2 c.1 c.2 (by omega) (opq_bl ok I)
  · cases e
theorem od_ne (hu : X.A.units + 65 < cLine) : OpD X (compareOp .NotEq) (opEq true) := by
  intro g pins s x y v w u t r ok I hx hy rv rw e
  unfold opEq at e
  split at e
  · cases e
    rename_i c
    rw [Bool.and_eq_true] at c
    obtain ⟨as, r1⟩ := hx.reads I rv
    obtain ⟨bs, r2⟩ := hy.reads I rw
    exact PyProof.Rows.ne_dataH r1 r2 c.1 c.2 (by omega) (opq_bl ok I)
  · cases e
def opIn (neg : Bool) : PyData → PyData → Option RV
  | x, .list ys => if SeqAt.shaped x && SeqAt.shaped (.list ys) then some (.d (.bool (if neg then !ys.any (fun y => PyData.eqv y x) else ys.any fun y => PyData.eqv y x))) else none
  | x, .tuple ys => if SeqAt.shaped x && SeqAt.shaped (.tuple ys) then some (.d (.bool (if neg then !ys.any (fun y => PyData.eqv y x) else ys.any fun y => PyData.eqv y x))) else none
  | _, _ => none
theorem shaped_in {ys : List PyData} {x : PyData} {A : Around} (h : SeqAt.shaped x = true) (hu : A.units + 65 < cLine) : A.units + 1 + min (PyData.depthAll ys) x.depth < cLine := by
  have h1 := SeqAt.depth_of_shaped h
  have h2 : min (PyData.depthAll ys) x.depth ≤ x.depth := Nat.min_le_right _ _
  omega
theorem canLay_lst {ys : List PyData} (h : SeqAt.shaped (.list ys) = true) : PyData.canLayAll0 ys = true := by
  have := SeqAt.canLay_of_shaped h
  simpa [PyData.canLay0] using this
theorem canLay_tup {ys : List PyData} (h : SeqAt.shaped (.tuple ys) = true) : PyData.canLayAll0 ys = true := by
  have := SeqAt.canLay_of_shaped h
  simpa [PyData.canLay0] using this
theorem od_in (hu : X.A.units + 65 < cLine) : OpD X (compareOp .In) (opIn false) := by
  intro g pins s x y v w u t r ok I hx hy rv rw e
  unfold opIn at e
  obtain ⟨as, r1⟩ := hx.reads I rv
  obtain ⟨bs, r2⟩ := hy.reads I rw
  split at e
  · split at e
    · cases e
      rename_i c
      rw [Bool.and_eq_true] at c
      exact SeqAt.in_list_reads r2 r1 (canLay_lst c.2) (SeqAt.canLay_of_shaped c.1) (shaped_in c.1 hu) (opq_bl ok I)
    · cases e
  · split at e
    · cases e
      rename_i c
      rw [Bool.and_eq_true] at c
      exact SeqAt.in_tuple_reads r2 r1 (canLay_tup c.2) (SeqAt.canLay_of_shaped c.1) (shaped_in c.1 hu) (opq_bl ok I)
    · cases e
  · cases e
theorem od_notIn (hu : X.A.units + 65 < cLine) : OpD X (compareOp .NotIn) (opIn true) := by
  intro g pins s x y v w u t r ok I hx hy rv rw e
  unfold opIn at e
  obtain ⟨as, r1⟩ := hx.reads I rv
  obtain ⟨bs, r2⟩ := hy.reads I rw
  split at e
  · split at e
    · cases e
      rename_i c
      rw [Bool.and_eq_true] at c
      exact SeqAt.notIn_list_reads r2 r1 (canLay_lst c.2) (SeqAt.canLay_of_shaped c.1) (shaped_in c.1 hu) (opq_bl ok I)
    · cases e
  · split at e
    · cases e
      rename_i c
      rw [Bool.and_eq_true] at c
      exact SeqAt.notIn_tuple_reads r2 r1 (canLay_tup c.2) (SeqAt.canLay_of_shaped c.1) (shaped_in c.1 hu) (opq_bl ok I)
    · cases e
  · cases e
/-- ints -/
def opInt (k : Int → Int → Bool) : PyData → PyData → Option RV
  | .int i, .int j => some (.d (.bool (k i j)))
  | _, _ => none
theorem od_cmpI {f : Value → Value → Sem Value} {k : Int → Int → Bool} (h : OpR X f (rI0 fun i j => .bl (k i j))) : OpD X f (opInt k) := by
  intro g pins s x y v w u t r ok I hx hy rv rw e
  unfold opInt at e
  split at e
  · cases e
    obtain rfl := dw_int hx
    obtain rfl := dw_int hy
    exact thn (h pins s g.st g.H _ _ u t (fun v' H' => v' = .bl _ ∧ H' = g.H) I rv rw ⟨_, _, rfl, rfl, rfl, rfl⟩) fun z s' ⟨v', H', I', r', e1, e2⟩ => by subst e1 e2; exact .same ok I' r' dv_bl
  · cases e
theorem od_lt : OpD X (compareOp .Lt) (opInt fun i j => decide (i < j)) := od_cmpI op_lt
theorem od_gt : OpD X (compareOp .Gt) (opInt fun i j => decide (j < i)) := od_cmpI op_gt
theorem od_ge : OpD X (compareOp .GtE) (opInt fun i j => decide (j ≤ i)) := od_cmpI op_ge
end
end BH
set_option maxRecDepth 100000
set_option maxHeartbeats 2000000
namespace BH
open PySem PySem.Spec PyProof.Rows L2
/-! ### truth -/
def truD : PyData → Option Bool
  | .none => some false
  | .bool b => some b
  | .int i => some (i != 0)
  | .str x => if x.length ≤ lim then some ((x.length : Int) != 0) else none
  | .list xs => some !xs.isEmpty
  | .tuple xs => some !xs.isEmpty
  | .dict _ => none
theorem truV_of {X : Cx} {A : AS} {H : Hp} {x : PyData} {v : V} {k : Bool} (h : Dw X.K A H x v) (e : truD x = some k) : TruV X.K v H k := by
  cases x with
  | none => cases e; rw [dw_scal (x := .none) rfl h]; rfl
  | bool b => rw [dw_scal (x := .bool b) rfl h]; exact (Option.some.inj e).symm
  | int i => rw [dw_scal (x := .int i) rfl h]; exact (Option.some.inj e).symm
  | str z =>
    rw [dw_scal (x := .str z) rfl h]
    have e : (if z.length ≤ lim then some ((z.length : Int) != 0) else none) = some k := e
    split at e
    · rename_i c; exact ⟨by rw [← lim_line]; exact c, (Option.some.inj e).symm⟩
    · cases e
  | list ds =>
    cases e
    obtain ⟨a, vs, rfl, q, r⟩ := h
    refine .inl ⟨vs, q.sq, ?_⟩
    have := r.length
    cases ds <;> cases vs <;> simp_all
  | tuple ds =>
    cases e
    obtain ⟨a, vs, rfl, q, r⟩ := dw_tup h
    refine .inr (.inl ⟨vs, q, ?_⟩)
    have := r.length
    cases ds <;> cases vs <;> simp_all
  | dict ds => cases e
theorem truthy_dw {X : Cx} {pins : List (Addr × Obj)} {g : G} {s : Shared} {x : PyData} {v : V} {u : Value} {k : Bool} (I : Inv X pins g.st g.H s) (h : Dw X.K g.A g.H x v) (r : RelV v u) (e : truD x = some k) {Q : Bool → Shared → Prop}
    (hQ : ∀ s', Inv X pins g.st g.H s' → Q k s') : wpAny (model X.prog X.w) X.A (truthy u) Q X.xe s := by
  refine thn (tru_ok pins s g.st g.H v u (fun b H' => b = k ∧ H' = g.H) I r ⟨k, truV_of h e, rfl, rfl⟩) ?_
  rintro b s' ⟨H', I', e1, e2⟩
  subst e1 e2
  exact hQ s' I'
/-! ### tests -/
abbrev TF := SE → Res (Bool × SE)
def tTt (X : Cx) (W : WX) (f : TF) : TT := fun σ H Q => ∃ g : G, g.st = σ ∧ g.H = H ∧ g.Ok X.K ∧ Out X W g (f g.env) fun g' b => Q b g'.H
structure FT (X : Cx) (e : Expr) (f : TF) : Prop where
  pt : ∀ W, Takes X W → PT X e (tTt X W f)
structure FW (X : Cx) (e : Expr) (f : TF) : Prop where
  pw : ∀ W, Takes X W → PW X e (tTt X W f)
theorem FW.pt {X : Cx} {e : Expr} {f : TF} (h : FW X e f) : FT X e f := ⟨fun W tk => (h.pw W tk).pt⟩
theorem FT.go {X : Cx} {e : Expr} {f : TF} (h : FT X e f) {W : WX} (tk : Takes X W) {g : G} (ok : g.Ok X.K) {pins : List (Addr × Obj)} {s : Shared} (I : Inv X pins g.st g.H s) {P : G → Bool → Prop} (o : Out X W g (f g.env) P)
    {Q : Bool → Shared → Prop} (hQ : ∀ b s' g', g'.st = g.st → Inv X pins g'.st g'.H s' → g'.Ok X.K → Stp g g' → P g' b → Q b s') :
    wpAny (model X.prog X.w) X.A (isTrue e X.env (eval e X.env)) Q X.xe s := by
  refine thn ((h.pt W tk).run pins s g.st g.H (fun b H' => ∃ g', g'.H = H' ∧ g'.st = g.st ∧ g'.Ok X.K ∧ Stp g g' ∧ P g' b) I ⟨g, rfl, rfl, ok, o.imp fun g' x st e o p => ⟨g', rfl, e, o, st, p⟩⟩) ?_
  rintro b s' ⟨H', I', g', rfl, e, o', st, p⟩
  exact hQ b s' g' e (e ▸ I') o' st p
theorem FW.go {X : Cx} {e : Expr} {f : TF} (h : FW X e f) {W : WX} (tk : Takes X W) {g : G} (ok : g.Ok X.K) {pins : List (Addr × Obj)} {s : Shared} (I : Inv X pins g.st g.H s) {P : G → Bool → Prop} (o : Out X W g (f g.env) P) (whole : Sem Value)
    {Q : Bool → Shared → Prop} (hQ : ∀ b s' g', g'.st = g.st → Inv X pins g'.st g'.H s' → g'.Ok X.K → Stp g g' → P g' b → Q b s') :
    wpAny (model X.prog X.w) X.A (isTrue e X.env whole) Q X.xe s := by
  refine thn ((h.pw W tk).run whole pins s g.st g.H (fun b H' => ∃ g', g'.H = H' ∧ g'.st = g.st ∧ g'.Ok X.K ∧ Stp g g' ∧ P g' b) I ⟨g, rfl, rfl, ok, o.imp fun g' x st e o p => ⟨g', rfl, e, o, st, p⟩⟩) ?_
  rintro b s' ⟨H', I', g', rfl, e, o', st, p⟩
  exact hQ b s' g' e (e ▸ I') o' st p
theorem ft_mk {X : Cx} {e : Expr} {f : TF} (h : ∀ W, Takes X W → ∀ (g : G) (pins : List (Addr × Obj)) (s : Shared) (P : G → Bool → Prop), g.Ok X.K → Inv X pins g.st g.H s → Out X W g (f g.env) P →
    wpAny (model X.prog X.w) X.A (isTrue e X.env (eval e X.env)) (fun b s' => ∃ g', Inv X pins g.st g'.H s' ∧ P g' b) X.xe s) : FT X e f := by
  refine ⟨fun W tk => ⟨fun pins s σ H Q I hq => ?_⟩⟩
  obtain ⟨g, rfl, rfl, ok, o⟩ := hq
  exact thn (h W tk g pins s _ ok I o) fun b s' ⟨g', I', p⟩ => ⟨g'.H, I', p⟩
theorem fw_mk {X : Cx} {e : Expr} {f : TF} (h : ∀ W, Takes X W → ∀ (whole : Sem Value) (g : G) (pins : List (Addr × Obj)) (s : Shared) (P : G → Bool → Prop), g.Ok X.K → Inv X pins g.st g.H s → Out X W g (f g.env) P →
    wpAny (model X.prog X.w) X.A (isTrue e X.env whole) (fun b s' => ∃ g', Inv X pins g.st g'.H s' ∧ P g' b) X.xe s) : FW X e f := by
  refine ⟨fun W tk => ⟨fun whole pins s σ H Q I hq => ?_⟩⟩
  obtain ⟨g, rfl, rfl, ok, o⟩ := hq
  exact thn (h W tk whole g pins s _ ok I o) fun b s' ⟨g', I', p⟩ => ⟨g'.H, I', p⟩
def truR (rv : RV) (env : SE) : Res (Bool × SE) := match rv.view env with
  | some x => match truD x with
    | some b => .ok (b, env)
    | none => .fail
  | none => .fail
def fTru (f : EF) : TF := fun env => (f env).bind fun p => truR p.1 p.2
/-- the end of a test: the value's truth -/
theorem tru_end {X : Cx} {W : WX} {g g1 : G} {pins : List (Addr × Obj)} {s : Shared} {P : G → Bool → Prop} {rv : RV} {v : V} {u : Value} (I : Inv X pins g1.st g1.H s) (r : RelV v u) (e1 : g1.st = g.st) (st : Stp g g1) (ok1 : g1.Ok X.K) (rr : RVR X.K g.H g1 rv v)
    (p : Out X W g (truR rv g1.env) P) :
    wpAny (model X.prog X.w) X.A (truthy u) (fun b s' => ∃ g', Inv X pins g.st g'.H s' ∧ P g' b) X.xe s := by
  unfold truR at p
  cases hx : rv.view g1.env with
  | none => rw [hx] at p; exact p.elim
  | some x =>
    rw [hx] at p
    simp only at p
    cases hb : truD x with
    | none => rw [hb] at p; exact p.elim
    | some b =>
      rw [hb] at p
      exact truthy_dw I (rr.dw ok1 hx) r hb fun s' I' => ⟨g1, by rw [← e1]; exact I', p g1 rfl e1 st ok1⟩
theorem ft_val {X : Cx} {e : Expr} {f : EF} (h : FE X e f) (he : ∀ whole, isTrue e X.env whole = (do let v ← whole; standAt e.pos; holding [v] (truthy v)) := by intro _; rfl) : FT X e (fTru f) :=
  ft_mk fun W tk g pins s P ok I o => isTrue_plain (h.go tk ok I o.bind0 fun u s' g1 rv v e1 I1 r ok1 st rr p => tru_end I1 r e1 st ok1 rr p) (he _)
theorem ft_cmp {X : Cx} {a b : Expr} {op : CmpOp} {fa fb : EF} {o : PyData → PyData → Option RV} {pos : Pos} (ho : OpD X (compareOp op) o) (ha : FE X a fa) (hb : FE X b fb) (hm : behindInMarks op b = false := by rfl) : FT X (.Compare a [op] [b] pos) (fTru (fBin o fa fb)) :=
  ft_mk fun W tk g pins s P ok I h => by
    refine wpAny_isTrue_Compare1 ?_ hm
    have h2 := h.bind0
    refine two tk ha hb ho ok I (P := fun g' rv => Stp g g' ∧ g'.st = g.st ∧ g'.Ok X.K ∧ Out X W g (truR rv g'.env) P) (h2.imp fun g' x st e o p => ⟨st, e, o, p⟩) fun z s' g' rv v I' r rr ⟨st, e1, ok1, p⟩ => ?_
    exact tru_end (by rw [e1]; exact I') r e1 st ok1 rr p
/-! ### and, or, not -/
def fAnd (f t : TF) : TF := fun env => (f env).bind fun p => if p.1 = true then t p.2 else .ok (false, p.2)
def fOr (f t : TF) : TF := fun env => (f env).bind fun p => if p.1 = true then .ok (true, p.2) else t p.2
def fNot (f : TF) : TF := fun env => (f env).bind fun p => .ok (!p.1, p.2)
section
variable {X : Cx} {a b : Expr} {rest : List Expr} {fa fb : TF} {pos : Pos}
theorem fw_and1 (ha : FT X a fa) : FW X (.BoolOp .And [a] pos) fa := ⟨fun W tk => pw_and1 (ha.pt W tk)⟩
theorem fw_or1 (ha : FT X a fa) : FW X (.BoolOp .Or [a] pos) fa := ⟨fun W tk => pw_or1 (ha.pt W tk)⟩
theorem fw_and (ha : FT X a fa) (hb : FW X (.BoolOp .And (b :: rest) pos) fb) : FW X (.BoolOp .And (a :: b :: rest) pos) (fAnd fa fb) :=
  fw_mk fun W tk whole g pins s P ok I o => by
    refine isTrue_and (ha.go tk ok I o.bind0 fun c s1 g1 e1 I1 ok1 st p => ?_)
    cases c with
    | true => exact hb.go tk ok1 I1 ((show Out X W g (fb g1.env) P from p).rebase ok st e1) whole fun b s2 g2 e2 I2 ok2 st2 p2 => ⟨g2, by rw [← e1, ← e2]; exact I2, p2⟩
    | false => exact ⟨g1, by rw [← e1]; exact I1, (show Out X W g (.ok (false, g1.env)) P from p) g1 rfl e1 st ok1⟩
theorem fw_or (ha : FT X a fa) (hb : FW X (.BoolOp .Or (b :: rest) pos) fb) : FW X (.BoolOp .Or (a :: b :: rest) pos) (fOr fa fb) :=
  fw_mk fun W tk whole g pins s P ok I o => by
    refine isTrue_or (ha.go tk ok I o.bind0 fun c s1 g1 e1 I1 ok1 st p => ?_)
    cases c with
    | false => exact hb.go tk ok1 I1 ((show Out X W g (fb g1.env) P from p).rebase ok st e1) whole fun b s2 g2 e2 I2 ok2 st2 p2 => ⟨g2, by rw [← e1, ← e2]; exact I2, p2⟩
    | true => exact ⟨g1, by rw [← e1]; exact I1, (show Out X W g (.ok (true, g1.env)) P from p) g1 rfl e1 st ok1⟩
theorem ft_not (ha : FT X a fa) : FT X (.UnaryOp .Not a pos) (fNot fa) :=
  ft_mk fun W tk g pins s P ok I o => isTrue_not (ha.go tk ok I o.bind0 fun c s1 g1 e1 I1 ok1 st p => ⟨g1, by rw [← e1]; exact I1, p g1 rfl e1 st ok1⟩)
end
/-- as values -/
def fAndV (f t : EF) : EF := fun env => (f env).bind fun p => match p.1.view p.2 with
  | some x => match truD x with
    | some true => t p.2
    | some false => .ok (p.1, p.2)
    | none => .fail
  | none => .fail
def fNotV (f : TF) : EF := fun env => (f env).bind fun p => .ok (.d (.bool !p.1), p.2)
section
variable {X : Cx} {a b c : Expr} {rest : List Expr} {fa fb : EF} {pos : Pos}
theorem fe_one {op} (ha : FE X a fa) : FE X (.BoolOp op [a] pos) fa := ⟨fun W tk => pe_one (ha.pe W tk)⟩
theorem fe_and (ha : FE X a fa) (hb : FE X (.BoolOp .And (b :: rest) pos) fb) : FE X (.BoolOp .And (a :: b :: rest) pos) (fAndV fa fb) :=
  fe_mk fun W tk g pins s P ok I o => by
    refine BoolOp_and (ha.go tk ok I o.bind0 fun u s1 g1 rv v e1 I1 r ok1 st rr p => ?_)
    cases hx : rv.view g1.env with
    | none => rw [hx] at p; exact p.elim
    | some x =>
      rw [hx] at p
      simp only at p
      cases hk : truD x with
      | none => rw [hk] at p; exact p.elim
      | some k =>
        rw [hk] at p
        refine truthy_dw I1 (rr.dw ok1 hx) r hk fun s2 I2 => ?_
        cases k with
        | true => exact hb.go tk ok1 I2 ((show Out X W g (fb g1.env) P from p).rebase ok st e1) fun u2 s3 g2 rv2 v2 e2 I3 r2 ok2 st2 rr2 p2 => ⟨v2, g2, rv2, by rw [← e1, ← e2]; exact I3, r2, rr2.old st.ext.dom, p2⟩
        | false => exact ⟨v, g1, rv, by rw [← e1]; exact I2, r, rr, (show Out X W g (.ok (rv, g1.env)) P from p) g1 rfl e1 st ok1⟩
/-- not, as a value -/
theorem fe_not (ha : FE X a fa) : FE X (.UnaryOp .Not a pos) (fNotV (fTru fa)) :=
  fe_mk fun W tk g pins s P ok I o => by
    have o2 : Out X W g (fTru fa g.env) fun g' b => P g' (.d (.bool !b)) := by
      have := o.bind0
      refine this.imp fun g' x st e o p => p g' rfl e st o
    refine UnaryOp_ (ha.go tk ok I o2.bind0 fun u s1 g1 rv v e1 I1 r ok1 st rr p => ?_)
    refine not_of (thn (tru_end (P := fun g' b => P g' (.d (.bool !b))) I1 r e1 st ok1 rr p) fun b s2 ⟨g', I2, p2⟩ => ⟨.bl !b, g', .d (.bool !b), I2, rfl, by show Dv _ _ _ _ _; simp only [Dv], p2⟩)
end
/-! ### a <= b <= c of ints -/
def fChain (k k' : Int → Int → Bool) (fa fb fc : EF) : EF := fun env => (fa env).bind fun p => (fb p.2).bind fun q =>
  match p.1.view q.2, q.1.view q.2 with
  | some (.int i), some (.int j) => if k i j = true then (fc q.2).bind fun r => match r.1.view r.2 with
      | some (.int l) => .ok (.d (.bool (k' j l)), r.2)
      | _ => .fail
    else .ok (.d (.bool false), q.2)
  | _, _ => .fail
theorem fe_chain {X : Cx} {a b c : Expr} {op op' : CmpOp} {k k' : Int → Int → Bool} {fa fb fc : EF} {pos : Pos} (ho : OpR X (compareOp op) (rI0 fun i j => .bl (k i j))) (ho' : OpR X (compareOp op') (rI0 fun i j => .bl (k' i j)))
    (hpe : ∀ {ta tb tc : TE}, PE X a ta → PE X b tb → PE X c tc → PE X (.Compare a [op, op'] [b, c] pos) (tChain (rI0 fun i j => .bl (k i j)) (rI0 fun i j => .bl (k' i j)) ta tb tc))
    (ha : FE X a fa) (hb : FE X b fb) (hc : FE X c fc) : FE X (.Compare a [op, op'] [b, c] pos) (fChain k k' fa fb fc) := by
  refine ⟨fun W tk => ⟨fun pins s σ H Q I hq => ?_⟩⟩
  obtain ⟨g, rfl, rfl, ok, o⟩ := hq
  refine (hpe (ha.pe W tk) (hb.pe W tk) (hc.pe W tk)).run pins s g.st g.H Q I ⟨g, rfl, rfl, ok, o.bind0.imp fun g1 r1 st1 e1 ok1 p1 v1 rr1 => ?_⟩
  refine ⟨g1, e1, rfl, ok1, (p1.rebase ok st1 e1).bind0.imp fun g2 r2 st2 e2 ok2 p2 v2 rr2 => ?_⟩
  have rr1' := rr1.step ok1 st2 e2
  split at p2
  · rename_i i j h1 h2
    obtain rfl := dw_int (rr1'.dw ok2 h1)
    obtain rfl := dw_int (rr2.dw ok2 h2)
    refine ⟨i, j, rfl, rfl, k i j, rfl, ?_⟩
    by_cases hk : k i j = true
    · rw [if_pos hk] at p2 ⊢
      have e12 := e2.trans e1
      refine ⟨g2, e12, rfl, ok2, ((p2.rebase ok1 st2 e2).bind0).imp fun g3 r3 st3 e3 ok3 p3 v3 rr3 => ?_⟩
      split at p3
      · rename_i l h3
        obtain rfl := dw_int (rr3.dw ok3 h3)
        exact ⟨j, l, rfl, rfl, p3 g3 rfl e3 st3 ok3 _ (by show Dv _ _ _ _ _; simp only [Dv])⟩
      · exact p3.elim
    · rw [if_neg hk] at p2 ⊢
      exact p2 g2 rfl e2 st2 ok2 _ (by show Dv _ _ _ _ _; simp only [Dv])
  · exact p2.elim
end BH
set_option maxRecDepth 100000
set_option maxHeartbeats 2000000
namespace BH
open PySem PySem.Spec PyProof.Rows L2
/-! ### two operands by a rule of HandS -/
def R2D (X : Cx) (r : R2) (op : PyData → PyData → Option RV) : Prop :=
  ∀ (g : G) (x y : PyData) (v w : V) (res : RV) (Q : VK), g.Ok X.K → Dw X.K g.A g.H x v → Dw X.K g.A g.H y w → op x y = some res →
    (∀ v' (g' : G), g'.st = g.st → g'.env = g.env → Stp g g' → g'.Ok X.K → RVR X.K g.H g' res v' → Q v' g'.H) → r v w g.H Q
theorem fe_of2 {X : Cx} {e a b : Expr} {r : R2} {op : PyData → PyData → Option RV} {fa fb : EF} (hpe : ∀ {ta tb : TE}, PE X a ta → PE X b tb → PE X e (tOp r ta tb)) (ho : R2D X r op) (ha : FE X a fa) (hb : FE X b fb) : FE X e (fBin op fa fb) := by
  refine ⟨fun W tk => ⟨fun pins s σ H Q I hq => ?_⟩⟩
  obtain ⟨g, rfl, rfl, ok, o⟩ := hq
  refine (hpe (ha.pe W tk) (hb.pe W tk)).run pins s g.st g.H Q I ⟨g, rfl, rfl, ok, o.bind0.imp fun g1 r1 st1 e1 ok1 p1 v1 rr1 => ?_⟩
  refine ⟨g1, e1, rfl, ok1, (p1.rebase ok st1 e1).bind0.imp fun g2 r2 st2 e2 ok2 p2 v2 rr2 => ?_⟩
  have rr1' := rr1.step ok1 st2 e2
  split at p2
  · rename_i x y h1 h2
    split at p2
    · rename_i res hr
      refine ho g2 x y v1 v2 res Q ok2 (rr1'.dw ok2 h1) (rr2.dw ok2 h2) hr fun v' g' e3 e4 st3 ok3 rr3 => ?_
      exact p2 g' e4 (e3.trans e2) (st2.trans ok1 st3) ok3 v' (rr3.old fun a h => st2.ext.dom a (st1.ext.dom a h))
    · exact p2.elim
  · exact p2.elim
/-! ### x[i] -/
def opIx : PyData → PyData → Option RV
  | .list xs, .int i => (atI xs i).map .d
  | .tuple xs, .int i => (atI xs i).map .d
  | .str z, .int i => if z.length ≤ lim then (atI z.cps.toList i).map fun c => .d (.str ⟨#[c]⟩) else none
  | _, _ => none
theorem atI_dvs {K : PySem.W.Frag} {A : AS} {H : Hp} {xs : List PyData} {vs : List V} {i : Int} {x : PyData} (h : Dvs K A H xs vs) (e : atI xs i = some x) : ∃ v, atI vs i = some v ∧ Dv K A H x v := by
  unfold atI at e ⊢
  rw [← h.length]
  cases hj : ixN xs.length i with
  | none => rw [hj] at e; cases e
  | some j =>
    rw [hj] at e
    exact h.getD e
theorem rd_ix {X : Cx} : R2D X (rIx X.K) opIx := by
  intro g x y v w res Q ok hx hy e hQ
  unfold opIx at e
  split at e
  · obtain ⟨a, vs, rfl, q, r⟩ := dw_lst hx
    obtain rfl := dw_int hy
    cases hi : atI _ _ with
    | none => rw [hi] at e; cases e
    | some z =>
      rw [hi] at e; cases e
      obtain ⟨v', h1, h2⟩ := atI_dvs r hi
      exact .inl ⟨a, vs, _, v', rfl, rfl, q, h1, hQ v' g rfl rfl (.refl g) ok h2⟩
  · obtain ⟨a, vs, rfl, q, r⟩ := dw_tup hx
    obtain rfl := dw_int hy
    cases hi : atI _ _ with
    | none => rw [hi] at e; cases e
    | some z =>
      rw [hi] at e; cases e
      obtain ⟨v', h1, h2⟩ := atI_dvs r hi
      exact .inr (.inl ⟨a, vs, _, v', rfl, rfl, q, h1, hQ v' g rfl rfl (.refl g) ok h2⟩)
  · split at e
    · rename_i hz
      obtain rfl := dw_str hx
      obtain rfl := dw_int hy
      cases hi : atI _ _ with
      | none => rw [hi] at e; cases e
      | some z =>
        rw [hi] at e; cases e
        exact .inr (.inr ⟨_, _, z, rfl, rfl, by rw [← lim_line]; exact hz, hi, hQ _ g rfl rfl (.refl g) ok (by show Dv _ _ _ _ _; simp only [Dv])⟩)
    · cases e
  · cases e
theorem fe_ix {X : Cx} {a b : Expr} {fa fb : EF} {pos : Pos} (ha : FE X a fa) (hb : FE X b fb) (hs : PlainIx b := by exact fun _ _ => rfl) : FE X (.Subscript a b pos) (fBin opIx fa fb) :=
  fe_of2 (r := rIx X.K) (fun h1 h2 => pe_ix ix_seq h1 h2 hs) rd_ix ha hb
/-! ### x[lo:hi] -/
def cutD {α : Type} (xs : List α) (lo hi : Option Int) : List α := (xs.drop (HT.sIx xs.length 0 lo)).take (HT.sIx xs.length xs.length hi - HT.sIx xs.length 0 lo)
theorem cut_dvs {K : PySem.W.Frag} {A : AS} {H : Hp} {xs : List PyData} {vs : List V} (h : Dvs K A H xs vs) (lo hi : Option Int) : Dvs K A H (cutD xs lo hi) (cutV vs lo hi) := by
  unfold cutD cutV
  rw [← h.length]
  exact (h.drop _).take _
theorem cut_whole {α : Type} {xs : List α} {lo hi : Option Int} (h : HT.sIx xs.length 0 lo = 0 ∧ HT.sIx xs.length xs.length hi = xs.length) : cutD xs lo hi = xs := by
  unfold cutD
  rw [h.1, h.2]; simp
def opSl : PyData → Option Int → Option Int → Option RV
  | .list xs, lo, hi => some (.tmp (.lst (cutD xs lo hi)))
  | .tuple xs, lo, hi => some (.d (.tuple (cutD xs lo hi)))
  | .str z, lo, hi => if z.length ≤ lim then some (.d (.str (cutS z lo hi))) else none
  | _, _, _ => none
abbrev OF := SE → Res (Option Int × SE)
def tOf (X : Cx) (W : WX) (f : OF) : TO := fun σ H Q => ∃ g : G, g.st = σ ∧ g.H = H ∧ g.Ok X.K ∧ Out X W g (f g.env) fun g' o => Q o g'.H
structure FO (X : Cx) (e : Option Expr) (f : OF) : Prop where
  po : ∀ W, Takes X W → PO X e (tOf X W f)
def fNoPart : OF := fun env => .ok (none, env)
def fPart (f : EF) : OF := fun env => (f env).bind fun p => match p.1.view p.2 with
  | some (.int i) => .ok (some i, p.2)
  | _ => .fail
theorem fo_none {X : Cx} : FO X none fNoPart := ⟨fun W tk => ⟨fun pins s σ H Q I hq => by
  obtain ⟨g, rfl, rfl, ok, o⟩ := hq
  exact po_none.run pins s g.st g.H Q I (o g rfl rfl (.refl g) ok)⟩⟩
theorem fo_some {X : Cx} {e : Expr} {f : EF} (h : FE X e f) : FO X (some e) (fPart f) := ⟨fun W tk => ⟨fun pins s σ H Q I hq => by
  obtain ⟨g, rfl, rfl, ok, o⟩ := hq
  refine (po_some (h.pe W tk)).run pins s g.st g.H Q I ⟨g, rfl, rfl, ok, o.bind0.imp fun g1 r1 st1 e1 ok1 p1 v1 rr1 => ?_⟩
  split at p1
  · rename_i i h1
    obtain rfl := dw_int (rr1.dw ok1 h1)
    exact ⟨i, rfl, p1 g1 rfl e1 st1 ok1⟩
  · exact p1.elim⟩⟩
def fSl (f : EF) (lo hi : OF) : EF := fun env => (f env).bind fun p => (lo p.2).bind fun q => (hi q.2).bind fun r => match p.1.view r.2 with
  | some x => match opSl x q.1 r.1 with
    | some res => .ok (res, r.2)
    | none => .fail
  | none => .fail
theorem fe_slice {X : Cx} {e : Expr} {lo hi : Option Expr} {f : EF} {fl fh : OF} {p2 pos : Pos} (h : FE X e f) (hl : FO X lo fl) (hh : FO X hi fh) : FE X (.Subscript e (.Slice lo hi none p2) pos) (fSl f fl fh) := by
  refine ⟨fun W tk => ⟨fun pins s σ H Q I hq => ?_⟩⟩
  obtain ⟨g, rfl, rfl, ok, o⟩ := hq
  refine (pe_slice ((sl_list (X := X)).or ((sl_tupA (X := X)).or sl_str)) (h.pe W tk) (hl.po W tk) (hh.po W tk)).run pins s g.st g.H Q I ⟨g, rfl, rfl, ok, o.bind0.imp fun g1 r1 st1 e1 ok1 p1 v1 rr1 => ?_⟩
  refine ⟨g1, e1, rfl, ok1, (p1.rebase ok st1 e1).bind0.imp fun g2 o2 st2 e2 ok2 p2 => ?_⟩
  refine ⟨g2, e2.trans e1, rfl, ok2, (p2.rebase ok1 st2 e2).bind0.imp fun g3 o3 st3 e3 ok3 p3 => ?_⟩
  have rr3 := (rr1.step ok1 st2 e2).step ok2 st3 e3
  have dom : ∀ a, g.H a ≠ none → g3.H a ≠ none := fun a h => st3.ext.dom a (st2.ext.dom a (st1.ext.dom a h))
  cases hx : r1.view g3.env with
  | none => rw [hx] at p3; exact p3.elim
  | some x =>
    rw [hx] at p3
    have dx := rr3.dw ok3 hx
    simp only at p3
    cases hr : opSl x o2 o3 with
    | none => rw [hr] at p3; exact p3.elim
    | some res =>
      rw [hr] at p3
      have fin : ∀ v' (g' : G), g'.st = g3.st → g'.env = g3.env → Stp g3 g' → g'.Ok X.K → RVR X.K g3.H g' res v' → Q v' g'.H := fun v' g' e4 e5 st4 ok4 rr4 =>
        p3 g' e5 (e4.trans e3) (st3.trans ok2 st4) ok4 v' (rr4.old dom)
      unfold opSl at hr
      split at hr
      · cases hr
        obtain ⟨a, vs, rfl, q, r⟩ := dw_lst dx
        refine .inl ⟨a, vs, rfl, q, fun p hp => ?_⟩
        obtain ⟨s2, ok4, r4⟩ := alloc_lst ok3 hp (cut_dvs r o2 o3)
        exact fin _ { g3 with A := fun b => g3.A b ∨ b = p, H := upd g3.H p (.lst (cutV vs o2 o3)) } rfl rfl s2 ok4 r4
      · cases hr
        obtain ⟨a, vs, rfl, q, r⟩ := dw_tup dx
        refine .inr (.inl ⟨a, vs, rfl, q, fun hw => ?_, fun _ p hp => ?_⟩)
        · refine fin _ g3 rfl rfl (.refl g3) ok3 ?_
          rw [← r.length] at hw
          rw [cut_whole hw]
          exact dx
        · obtain ⟨s2, ok4, r4⟩ := alloc_tup ok3 hp (cut_dvs r o2 o3)
          exact fin _ { g3 with H := upd g3.H p (.tup (cutV vs o2 o3)) } rfl rfl s2 ok4 r4
      · split at hr
        · cases hr
          rename_i hz
          obtain rfl := dw_str dx
          exact .inr (.inr ⟨_, rfl, by rw [← lim_line]; exact hz, fin _ g3 rfl rfl (.refl g3) ok3 (by show Dv _ _ _ _ _; simp only [Dv])⟩)
        · cases hr
      · cases hr
/-! ### arguments that are read -/
/-- no new object among them is v -/
def TmpNe (v : V) : List RV → List V → Prop
  | .tmp _ :: rs, w :: t => w ≠ v ∧ TmpNe v rs t
  | _ :: rs, _ :: t => TmpNe v rs t
  | _, _ => True
def RVRs (K : PySem.W.Frag) (H0 : Hp) (g : G) : List RV → List V → Prop
  | [], vs => vs = []
  | r :: rs, vs => ∃ v t, vs = v :: t ∧ RVR K H0 g r v ∧ RVRs K H0 g rs t ∧ ∀ c, r = .tmp c → TmpNe v rs t
theorem tmpNe_of {K : PySem.W.Frag} {H0 : Hp} {g : G} {a : Addr} (ha : H0 a ≠ none) : ∀ {rs : List RV} {t : List V}, RVRs K H0 g rs t → TmpNe (.ref a) rs t
  | [], _, h => by simp [TmpNe]
  | r :: rs, _, ⟨v, t, rfl, h1, h2, _⟩ => by
    have ih := tmpNe_of ha h2
    cases r with
    | tmp c =>
      obtain ⟨b, rfl, _, _, hb, _⟩ := h1
      exact ⟨fun z => by cases z; exact ha hb, ih⟩
    | _ => exact ih
abbrev EFs := SE → Res (List RV × SE)
def tPs (X : Cx) (W : WX) (f : EFs) : TA := fun σ H Q => ∃ g : G, g.st = σ ∧ g.H = H ∧ g.Ok X.K ∧ Out X W g (f g.env) fun g' rs => ∀ vs, RVRs X.K g.H g' rs vs → Q vs g'.H
structure FPs (X : Cx) (es : List Expr) (f : EFs) : Prop where
  pa : ∀ W, Takes X W → PA X es (tPs X W f)
def fPNil : EFs := fun env => .ok ([], env)
def fPCons (f : EF) (t : EFs) : EFs := fun env => (f env).bind fun p => (t p.2).bind fun q => .ok (p.1 :: q.1, q.2)
theorem fps_nil {X : Cx} : FPs X [] fPNil := ⟨fun W tk => ⟨fun pos pins s σ H Q I hq => by
  obtain ⟨g, rfl, rfl, ok, o⟩ := hq
  exact pa_nil.run pos pins s g.st g.H Q I (o g rfl rfl (.refl g) ok [] rfl)⟩⟩
theorem RVRs.old {K : PySem.W.Frag} {H0 H1 : Hp} {g : G} (d : ∀ a, H0 a ≠ none → H1 a ≠ none) : ∀ {rs : List RV} {vs : List V}, RVRs K H1 g rs vs → RVRs K H0 g rs vs
  | [], _, h => h
  | _ :: _, _, ⟨v, t, e, h1, h2, h3⟩ => ⟨v, t, e, h1.old d, RVRs.old d h2, h3⟩
theorem FPs.go {X : Cx} {es : List Expr} {f : EFs} (h : FPs X es f) {W : WX} (tk : Takes X W) {g : G} (ok : g.Ok X.K) {pos : Pos} {pins : List (Addr × Obj)} {s : Shared} (I : Inv X pins g.st g.H s) {P : G → List RV → Prop} (o : Out X W g (f g.env) P)
    {Q : List Value → Shared → Prop} (hQ : ∀ u s' g' x v, g'.st = g.st → Inv X pins g'.st g'.H s' → Vals v u → g'.Ok X.K → Stp g g' → RVRs X.K g.H g' x v → P g' x → Q u s') :
    wpAny (model X.prog X.w) X.A (spliced (backTo pos (starEach es X.env))) Q X.xe s := by
  refine thn ((h.pa W tk).run pos pins s g.st g.H (fun v H' => ∃ g' x, g'.H = H' ∧ g'.st = g.st ∧ g'.Ok X.K ∧ Stp g g' ∧ RVRs X.K g.H g' x v ∧ P g' x) I ⟨g, rfl, rfl, ok, o.imp fun g' x st e o p v r => ⟨g', x, rfl, e, o, st, r, p⟩⟩) ?_
  rintro u s' ⟨v, H', I', r, g', x, rfl, e, o', st, rr, p⟩
  exact hQ u s' g' x v e (e ▸ I') r o' st rr p
theorem fps_cons {X : Cx} {e : Expr} {es : List Expr} {f : EF} {t : EFs} (h : FE X e f) (ht : FPs X es t) (hs : starEach (e :: es) X.env = (false, eval e X.env) :: starEach es X.env := by rfl) : FPs X (e :: es) (fPCons f t) := by
  refine ⟨fun W tk => ⟨fun pos pins s σ H Q I hq => ?_⟩⟩
  obtain ⟨g, rfl, rfl, ok, o⟩ := hq
  rw [hs]
  show wpAny _ _ (spliced ((false, eval e X.env) :: backTo pos (starEach es X.env))) _ _ s
  refine Calls.spliced_cons (h.go tk ok I o.bind0 fun u s1 g1 x v e1 I1 r o1 st rr p => ?_)
  refine ht.go tk o1 I1 (p.rebase ok st e1).bind0 fun us s2 g2 xs vs e2 I2 r2 o2 st2 rr2 p2 => ?_
  exact ⟨v :: vs, g2.H, by rw [← e1, ← e2]; exact I2, .cons r r2, p2 g2 rfl e2 st2 o2 _ ⟨v, vs, rfl, rr.step o1 st2 e2, rr2.old st.ext.dom, fun c hc => by
    subst hc
    obtain ⟨a, rfl, _, h3, _⟩ := rr
    exact tmpNe_of h3.some rr2⟩⟩
def views : List RV → SE → Option (List PyData)
  | [], _ => some []
  | r :: rs, env => match r.view env, views rs env with
    | some x, some xs => some (x :: xs)
    | _, _ => none
def Dws (K : PySem.W.Frag) (A : AS) (H : Hp) : List PyData → List V → Prop
  | [], vs => vs = []
  | x :: xs, vs => ∃ v t, vs = v :: t ∧ Dw K A H x v ∧ Dws K A H xs t
theorem RVRs.dws {K : PySem.W.Frag} {H0 : Hp} {g : G} (ok : g.Ok K) : ∀ {rs : List RV} {vs : List V} {xs : List PyData}, RVRs K H0 g rs vs → views rs g.env = some xs → Dws K g.A g.H xs vs
  | [], vs, xs, h, e => by cases e; exact h
  | r :: rs, vs, xs, ⟨v, t, e1, h1, h2, _⟩, e => by
    unfold views at e
    split at e
    · rename_i x ys hx hy
      cases e
      exact ⟨v, t, e1, h1.dw ok hx, RVRs.dws ok h2 hy⟩
    · cases e
/-! ### built-in functions -/
def CallD (X : Cx) (fv : Value) (op : List PyData → Option RV) : Prop :=
  ∀ (g : G) (pins : List (Addr × Obj)) (s : Shared) (xs : List PyData) (vs : List V) (us : List Value) (r : RV), g.Ok X.K → Inv X pins g.st g.H s → Dws X.K g.A g.H xs vs → Vals vs us → op xs = some r →
    wpAny (model X.prog X.w) X.A (call fv us) (OpQ X pins g r) X.xe s
def fCall (op : List PyData → Option RV) (f : EFs) : EF := fun env => (f env).bind fun p => match views p.1 p.2 with
  | some xs => match op xs with
    | some r => .ok (r, p.2)
    | none => .fail
  | none => .fail
section
variable {X : Cx} {x : Str} {p pos : Pos} {e : Expr} {es : List Expr} {f : EFs} {id T : String} {op : List PyData → Option RV}
theorem call_end {fv : Value} (hc : CallD X fv op) {W : WX} {g g1 : G} {pins : List (Addr × Obj)} {s : Shared} {P : G → RV → Prop} {rs : List RV} {vs : List V} {us : List Value} (ok : g.Ok X.K) (e1 : g1.st = g.st) (I1 : Inv X pins g1.st g1.H s) (r : Vals vs us) (ok1 : g1.Ok X.K)
    (st : Stp g g1) (rr : RVRs X.K g.H g1 rs vs) (p : Out X W g (match views rs g1.env with
      | some xs => match op xs with
        | some r => .ok (r, g1.env)
        | none => .fail
      | none => .fail) P) :
    wpAny (model X.prog X.w) X.A (call fv us) (fun u s' => ∃ v g' rv, Inv X pins g.st g'.H s' ∧ RelV v u ∧ RVR X.K g.H g' rv v ∧ P g' rv) X.xe s := by
  cases hx : views rs g1.env with
  | none => rw [hx] at p; exact p.elim
  | some xs =>
    rw [hx] at p
    simp only at p
    cases hr : op xs with
    | none => rw [hr] at p; exact p.elim
    | some res =>
      rw [hr] at p
      refine thn (hc g1 pins s xs vs us res ok1 I1 (rr.dws ok1 hx) r hr) ?_
      rintro z s2 ⟨v, g2, e2, e3, I2, r2, st2, ok2, rr2⟩
      exact ⟨v, g2, res, by rw [← e1]; exact I2, r2, rr2.old st.ext.dom, p g2 e3 (e2.trans e1) (st.trans ok st2) ok2⟩
theorem fe_callB (hc : CallD X (.builtin id) op) (hg : Gl X x) (hm : X.mg x = none) (hv : bootBuiltins x = some (.builtin id)) (ha : FPs X (e :: es) f) (hn : x ≠ "__name__" := by decide) (hdb : (x == ("__debug__" : Str)) = false := by decide)
    (he : starEach (e :: es) X.env = (false, eval e X.env) :: starEach es X.env := by rfl) (hpl : (backTo pos (starEach es X.env)).any (·.1) = false := by rfl) : FE X (.Call (.Name x p) (e :: es) [] pos) (fCall op f) :=
  fe_mk fun W tk g pins s P ok I o => by
    refine wpAny_Call_Name_kw (ld_blt I hg hm hv ?_ hn hdb)
    exact PyProof.Rows.callWith_builtin1 (ha.go tk ok I o.bind0 fun us s1 g1 rs vs e1 I1 r ok1 st rr p => call_end hc ok e1 I1 r ok1 st rr p) he hpl
theorem fe_callTy (hc : CallD X (.type T) op) (hg : Gl X x) (hm : X.mg x = none) (hv : bootBuiltins x = some (.type T)) (ha : FPs X (e :: es) f) (hn : x ≠ "__name__" := by decide) (hdb : (x == ("__debug__" : Str)) = false := by decide)
    (he : starEach (e :: es) X.env = (false, eval e X.env) :: starEach es X.env := by rfl) (hpl : (backTo pos (starEach es X.env)).any (·.1) = false := by rfl) : FE X (.Call (.Name x p) (e :: es) [] pos) (fCall op f) :=
  fe_mk fun W tk g pins s P ok I o => by
    refine wpAny_Call_Name_kw (ld_blt I hg hm hv ?_ hn hdb)
    exact PyProof.Rows.callWith_type1 (ha.go tk ok I o.bind0 fun us s1 g1 rs vs e1 I1 r ok1 st rr p => call_end hc ok e1 I1 r ok1 st rr p) he hpl
end
/-- from a rule of HandS -/
theorem CallD.of {X : Cx} {fv : Value} {r : List V → Hp → VK → Prop} {op : List PyData → Option RV} (h : CallR X fv r)
    (hq : ∀ (g : G) (xs : List PyData) (vs : List V) (res : RV) (Q : VK), g.Ok X.K → Dws X.K g.A g.H xs vs → op xs = some res →
      (∀ v' (g' : G), g'.st = g.st → g'.env = g.env → Stp g g' → g'.Ok X.K → RVR X.K g.H g' res v' → Q v' g'.H) → r vs g.H Q) : CallD X fv op := by
  intro g pins s xs vs us res ok I hx rv e
  refine thn (h pins s g.st g.H vs us (fun v' H' => ∃ g' : G, g'.H = H' ∧ g'.st = g.st ∧ g'.env = g.env ∧ Stp g g' ∧ g'.Ok X.K ∧ RVR X.K g.H g' res v') I rv (hq g xs vs res _ ok hx e fun v' g' e1 e2 e3 e4 e5 => ⟨g', rfl, e1, e2, e3, e4, e5⟩)) ?_
  rintro z s' ⟨v', H', I', r', g', rfl, e1, e2, e3, e4, e5⟩
  exact ⟨v', g', e1, e2, I', r', e3, e4, e5⟩
theorem dws1 {K : PySem.W.Frag} {A : AS} {H : Hp} {x : PyData} {vs : List V} (h : Dws K A H [x] vs) : ∃ v, vs = [v] ∧ Dw K A H x v := by
  obtain ⟨v, t, rfl, h, rfl⟩ := h
  exact ⟨v, rfl, h⟩
theorem dws2 {K : PySem.W.Frag} {A : AS} {H : Hp} {x y : PyData} {vs : List V} (h : Dws K A H [x, y] vs) : ∃ v w, vs = [v, w] ∧ Dw K A H x v ∧ Dw K A H y w := by
  obtain ⟨v, t, rfl, h, w, t2, rfl, h2, rfl⟩ := h
  exact ⟨v, w, rfl, h, h2⟩
def opLen : List PyData → Option RV
  | [.str z] => if z.length ≤ lim then some (.d (.int z.length)) else none
  | [.list xs] => some (.d (.int xs.length))
  | [.tuple xs] => some (.d (.int xs.length))
  | _ => none
def opAbs : List PyData → Option RV
  | [.int i] => some (.d (.int (if i < 0 then -i else i)))
  | _ => none
def opToInt : List PyData → Option RV
  | [.int i] => some (.d (.int i))
  | [.bool b] => some (.d (.int (if b then 1 else 0)))
  | _ => none
def opTuple : List PyData → Option RV
  | [.list xs] => some (.d (.tuple xs))
  | [.tuple xs] => some (.d (.tuple xs))
  | _ => none
def opList : List PyData → Option RV
  | [.list xs] => some (.tmp (.lst xs))
  | [.tuple xs] => some (.tmp (.lst xs))
  | _ => none
def opMax2 : List PyData → Option RV
  | [.int i, .int j] => some (.d (.int (if j > i then j else i)))
  | _ => none
def opMin2 : List PyData → Option RV
  | [.int i, .int j] => some (.d (.int (if j < i then j else i)))
  | _ => none
/-- ints out of data -/
def intsOf : List PyData → Option (List Int)
  | [] => some []
  | .int i :: r => (intsOf r).map (i :: ·)
  | _ => none
@[simp] theorem intsOf_ints (ns : List Int) : intsOf (ns.map .int) = some ns := by
  induction ns with
  | nil => rfl
  | cons n r ih => simp [intsOf, ih]
def boolsOf : List PyData → Option (List Bool)
  | [] => some []
  | .bool i :: r => (boolsOf r).map (i :: ·)
  | _ => none
theorem boolsOf_map {xs : List PyData} {ns : List Bool} (h : boolsOf xs = some ns) : xs = ns.map .bool := by
  induction xs generalizing ns with
  | nil => cases h; rfl
  | cons x r ih =>
    cases x with
    | bool i =>
      simp only [boolsOf] at h
      cases hr : boolsOf r with
      | none => rw [hr] at h; cases h
      | some ms => rw [hr] at h; cases h; rw [ih hr]; rfl
    | _ => simp [boolsOf] at h
@[simp] theorem boolsOf_bools (ns : List Bool) : boolsOf (ns.map .bool) = some ns := by
  induction ns with
  | nil => rfl
  | cons n r ih => simp [boolsOf, ih]
theorem dvs_bools {K : PySem.W.Frag} {A : AS} {H : Hp} : ∀ {ns : List Bool} {vs : List V}, Dvs K A H (ns.map .bool) vs → vs = ns.map V.bl
  | [], vs, h => by simpa [Dvs] using h
  | n :: ns, vs, h => by
    simp only [List.map_cons, Dvs] at h
    obtain ⟨v, r, rfl, h1, h2⟩ := h
    simp only [Dv] at h1
    rw [h1, dvs_bools h2]; rfl
def opAll : List PyData → Option RV
  | [.list xs] => (boolsOf xs).map fun bs => .d (.bool (bs.all id))
  | _ => none
section
variable {X : Cx}
theorem rvr_int {K : PySem.W.Frag} {H0 : Hp} {g : G} {i : Int} : RVR K H0 g (.d (.int i)) (.int i) := by show Dv _ _ _ _ _; simp only [Dv]
theorem rvr_bl {K : PySem.W.Frag} {H0 : Hp} {g : G} {i : Bool} : RVR K H0 g (.d (.bool i)) (.bl i) := by show Dv _ _ _ _ _; simp only [Dv]
theorem cd_len : CallD X (.builtin "len") opLen := .of call_len fun g xs vs res Q ok hx e hQ => by
  unfold opLen at e
  split at e
  · split at e
    · rename_i hz
      obtain ⟨v, rfl, hv⟩ := dws1 hx
      cases e
      obtain rfl := dw_str hv
      exact ⟨_, _, rfl, ⟨by rw [← lim_line]; exact hz, rfl⟩, hQ _ g rfl rfl (.refl g) ok rvr_int⟩
    · cases e
  · obtain ⟨v, rfl, hv⟩ := dws1 hx
    cases e
    obtain ⟨a, ws, rfl, q, r⟩ := dw_lst hv
    exact ⟨_, _, rfl, .inl ⟨ws, q, r.length⟩, hQ _ g rfl rfl (.refl g) ok rvr_int⟩
  · obtain ⟨v, rfl, hv⟩ := dws1 hx
    cases e
    obtain ⟨a, ws, rfl, q, r⟩ := dw_tup hv
    exact ⟨_, _, rfl, .inr ⟨ws, q, r.length⟩, hQ _ g rfl rfl (.refl g) ok rvr_int⟩
  · cases e
theorem cd_abs : CallD X (.builtin "abs") opAbs := .of call_abs fun g xs vs res Q ok hx e hQ => by
  unfold opAbs at e
  split at e
  · obtain ⟨v, rfl, hv⟩ := dws1 hx
    cases e
    obtain rfl := dw_int hv
    exact ⟨_, rfl, hQ _ g rfl rfl (.refl g) ok rvr_int⟩
  · cases e
theorem cd_int : CallD X (.type "int") opToInt := .of call_int1 fun g xs vs res Q ok hx e hQ => by
  unfold opToInt at e
  split at e
  · obtain ⟨v, rfl, hv⟩ := dws1 hx
    cases e
    obtain rfl := dw_int hv
    exact .inl ⟨_, rfl, hQ _ g rfl rfl (.refl g) ok rvr_int⟩
  · obtain ⟨v, rfl, hv⟩ := dws1 hx
    cases e
    rename_i b
    obtain rfl := dw_scal (x := .bool b) rfl hv
    exact .inr ⟨_, rfl, hQ _ g rfl rfl (.refl g) ok rvr_int⟩
  · cases e
theorem cd_tuple : CallD X (.type "tuple") opTuple := .of call_tuple_of fun g xs vs res Q ok hx e hQ => by
  unfold opTuple at e
  split at e
  · obtain ⟨v, rfl, hv⟩ := dws1 hx
    cases e
    obtain ⟨a, ws, rfl, q, r⟩ := dw_lst hv
    refine ⟨a, ws, rfl, .inl ⟨q, fun l hl => ?_⟩⟩
    obtain ⟨s2, ok2, r2⟩ := alloc_tup ok hl r
    exact hQ _ { g with H := upd g.H l (.tup ws) } rfl rfl s2 ok2 r2
  · obtain ⟨v, rfl, hv⟩ := dws1 hx
    cases e
    obtain ⟨a, ws, rfl, q, r⟩ := dw_tup hv
    exact ⟨a, ws, rfl, .inr ⟨q, hQ _ g rfl rfl (.refl g) ok hv⟩⟩
  · cases e
theorem cd_list : CallD X (.type "list") opList := .of call_list_of fun g xs vs res Q ok hx e hQ => by
  unfold opList at e
  split at e
  · obtain ⟨v, rfl, hv⟩ := dws1 hx
    cases e
    obtain ⟨a, ws, rfl, q, r⟩ := dw_lst hv
    refine ⟨a, ws, rfl, .inl q, fun l hl => ?_⟩
    obtain ⟨s2, ok2, r2⟩ := alloc_lst ok hl r
    exact hQ _ { g with A := fun b => g.A b ∨ b = l, H := upd g.H l (.lst ws) } rfl rfl s2 ok2 r2
  · obtain ⟨v, rfl, hv⟩ := dws1 hx
    cases e
    obtain ⟨a, ws, rfl, q, r⟩ := dw_tup hv
    refine ⟨a, ws, rfl, .inr q, fun l hl => ?_⟩
    obtain ⟨s2, ok2, r2⟩ := alloc_lst ok hl r
    exact hQ _ { g with A := fun b => g.A b ∨ b = l, H := upd g.H l (.lst ws) } rfl rfl s2 ok2 r2
  · cases e
theorem cd_max2 (hc : X.calm = true) : CallD X (.builtin "max") opMax2 := .of (call_max2 hc) fun g xs vs res Q ok hx e hQ => by
  unfold opMax2 at e
  split at e
  · obtain ⟨v, w, rfl, hv, hw⟩ := dws2 hx
    cases e
    obtain rfl := dw_int hv
    obtain rfl := dw_int hw
    exact ⟨_, _, rfl, hQ _ g rfl rfl (.refl g) ok rvr_int⟩
  · cases e
theorem cd_min2 (hc : X.calm = true) : CallD X (.builtin "min") opMin2 := .of (call_min2 hc) fun g xs vs res Q ok hx e hQ => by
  unfold opMin2 at e
  split at e
  · obtain ⟨v, w, rfl, hv, hw⟩ := dws2 hx
    cases e
    obtain rfl := dw_int hv
    obtain rfl := dw_int hw
    exact ⟨_, _, rfl, hQ _ g rfl rfl (.refl g) ok rvr_int⟩
  · cases e
theorem cd_all (hc : X.calm = true) : CallD X (.builtin "all") opAll := .of (cr_all hc) fun g xs vs res Q ok hx e hQ => by
  unfold opAll at e
  split at e
  · obtain ⟨v, rfl, hv⟩ := dws1 hx
    cases hi : boolsOf _ with
    | none => rw [hi] at e; cases e
    | some ns =>
      rw [hi] at e; cases e
      obtain ⟨a, ws, rfl, q, r⟩ := dw_lst hv
      rw [boolsOf_map hi] at r
      rw [dvs_bools r] at q
      exact ⟨a, ns, rfl, q, hQ _ g rfl rfl (.refl g) ok rvr_bl⟩
  · cases e
end
end BH
set_option maxRecDepth 100000
set_option maxHeartbeats 2000000
namespace BH
open PySem PySem.Spec PyProof.Rows L2
/-! ### slots locked while they are walked -/
def lock1 (env : SE) (i : Nat) : SE := match env[i]? with
  | some (some (.cell _ c)) => env.set i (some (.cell .lock c))
  | _ => env
def unlock1 (env0 : SE) (i : Nat) (env : SE) : SE := match env0[i]? with
  | some (some (.cell m c)) => env.set i (some (.cell m c))
  | _ => env
def lockAll : List Nat → SE → SE
  | [], env => env
  | i :: r, env => lockAll r (lock1 env i)
def unlockAll : List Nat → SE → SE → SE
  | [], _, env => env
  | i :: r, env0, env => unlock1 env0 i (unlockAll r (lock1 env0 i) env)
def lockG (lk : List Nat) (g : G) : G := { g with env := lockAll lk g.env }
section
variable {K : PySem.W.Frag} {g g' : G} {i : Nat}
theorem lock1_get {env : SE} {j : Nat} {mv : MV} (h : (lock1 env i)[j]? = some (some mv)) : (j ≠ i ∧ env[j]? = some (some mv)) ∨ (j = i ∧ ∃ m c, env[j]? = some (some (.cell m c)) ∧ mv = .cell .lock c) ∨ (j = i ∧ ∃ x, mv = .d x ∧ env[j]? = some (some (.d x))) := by
  unfold lock1 at h
  split at h
  · rename_i m c hi
    by_cases e : j = i
    · subst e
      have hl := (List.getElem?_eq_some_iff.mp hi).1
      rw [List.getElem?_set_self hl] at h
      simp only [Option.some.injEq] at h
      exact .inr (.inl ⟨rfl, m, c, hi, h.symm⟩)
    · rw [List.getElem?_set_ne (Ne.symm e)] at h
      exact .inl ⟨e, h⟩
  · rename_i hn
    by_cases e : j = i
    · subst e
      cases mv with
      | d x => exact .inr (.inr ⟨rfl, x, rfl, h⟩)
      | cell m c => exact absurd h (hn m c)
    · exact .inl ⟨e, h⟩
theorem lock1_cell {env : SE} {j : Nat} {m : Mode} {c : Cell} (h : (lock1 env i)[j]? = some (some (.cell m c))) : ∃ m', env[j]? = some (some (.cell m' c)) ∧ (j ≠ i → m' = m) ∧ (j = i → m = .lock) := by
  rcases lock1_get h with ⟨e, h⟩ | ⟨e, m', c', h1, h2⟩ | ⟨e, x, h1, h2⟩
  · exact ⟨m, h, fun _ => rfl, fun z => absurd z e⟩
  · cases h2; exact ⟨m', h1, fun z => absurd e z, fun _ => rfl⟩
  · cases h1
theorem lock1_length (env : SE) : (lock1 env i).length = env.length := by
  unfold lock1; split <;> simp
theorem ok_lock1 (ok : g.Ok K) : ({ g with env := lock1 g.env i } : G).Ok K where
  len := by show g.st.length = (lock1 g.env i).length; rw [lock1_length]; exact ok.len
  dat := fun j x h => by
    rcases lock1_get h with ⟨e, h⟩ | ⟨e, m', c', h1, h2⟩ | ⟨e, y, h1, h2⟩
    · exact ok.dat j x h
    · cases h2
    · cases h1; exact ok.dat j x h2
  cel := fun j m c h => by
    obtain ⟨m', h1, _, _⟩ := lock1_cell h
    exact ok.cel j m' c h1
  dis := fun j k m c m' c' a hj hk e1 e2 => by
    obtain ⟨m1, h1, _, _⟩ := lock1_cell hj
    obtain ⟨m2, h2, _, _⟩ := lock1_cell hk
    exact ok.dis j k m1 c m2 c' a h1 h2 e1 e2
  dom := ok.dom
theorem own_lock1 {a : Addr} (h : Own { g with env := lock1 g.env i } a) : Own g a := by
  obtain ⟨j, m, c, h1, h2, h3⟩ := h
  obtain ⟨m', q1, q2, q3⟩ := lock1_cell h1
  by_cases e : j = i
  · exact absurd (q3 e) h2
  · exact ⟨j, m', c, q1, by rw [q2 e]; exact h2, h3⟩
theorem unlock_step (ok : g.Ok K) (s : Stp { g with env := lock1 g.env i } g') (ok' : g'.Ok K) : Stp g { g' with env := unlock1 g.env i g'.env } ∧ ({ g' with env := unlock1 g.env i g'.env } : G).Ok K := by
  cases hi : g.env[i]? with
  | none =>
    have e1 : lock1 g.env i = g.env := by unfold lock1; rw [hi]
    have e2 : unlock1 g.env i g'.env = g'.env := by unfold unlock1; rw [hi]
    rw [e1] at s
    rw [e2]
    exact ⟨s, ok'⟩
  | some o =>
    cases o with
    | none =>
      have e1 : lock1 g.env i = g.env := by unfold lock1; rw [hi]
      have e2 : unlock1 g.env i g'.env = g'.env := by unfold unlock1; rw [hi]
      rw [e1] at s
      rw [e2]
      exact ⟨s, ok'⟩
    | some mv =>
      cases mv with
      | d x =>
        have e1 : lock1 g.env i = g.env := by unfold lock1; rw [hi]
        have e2 : unlock1 g.env i g'.env = g'.env := by unfold unlock1; rw [hi]
        rw [e1] at s
        rw [e2]
        exact ⟨s, ok'⟩
      | cell m c =>
        have e1 : lock1 g.env i = g.env.set i (some (.cell .lock c)) := by unfold lock1; rw [hi]
        have e2 : unlock1 g.env i g'.env = g'.env.set i (some (.cell m c)) := by unfold unlock1; rw [hi]
        have hil : i < g.env.length := (List.getElem?_eq_some_iff.mp hi).1
        have hl1 : (lock1 g.env i)[i]? = some (some (.cell .lock c)) := by rw [e1, List.getElem?_set_self hil]
        obtain ⟨z1, z2⟩ := s.lck i c hl1
        have hil' : i < g'.env.length := (List.getElem?_eq_some_iff.mp z2).1
        obtain ⟨a, q1, q2, q3⟩ := ok.cel i m c hi
        have z1 : g'.st[i]? = some (some (.ref a)) := z1.trans q1
        rw [e2]
        have get : ∀ {j : Nat} {mv : MV}, (g'.env.set i (some (.cell m c)))[j]? = some (some mv) → (j ≠ i ∧ g'.env[j]? = some (some mv)) ∨ (j = i ∧ mv = .cell m c) := fun {j mv} h => by
          by_cases e : j = i
          · subst e
            rw [List.getElem?_set_self hil'] at h
            simp only [Option.some.injEq] at h
            exact .inr ⟨rfl, h.symm⟩
          · rw [List.getElem?_set_ne (Ne.symm e)] at h
            exact .inl ⟨e, h⟩
        have back : ∀ {j : Nat} {m' c'}, (g'.env.set i (some (.cell m c)))[j]? = some (some (.cell m' c')) → ∃ m2, g'.env[j]? = some (some (.cell m2 c')) := fun {j m' c'} h => by
          rcases get h with ⟨_, h⟩ | ⟨e, h⟩
          · exact ⟨_, h⟩
          · cases h; subst e; exact ⟨_, z2⟩
        refine ⟨⟨⟨fun b o h n => s.ext.keep b o h fun z => n (own_lock1 z), s.ext.tup, s.ext.frz, s.ext.dom, fun b h n => s.ext.av1 b h fun z => n (own_lock1 z), s.ext.av2⟩, fun b hb => ?_, fun b hb => ?_, fun j c1 hj => ?_, fun j c1 hj => ?_⟩, ⟨by simpa using ok'.len, fun j x h => ?_, fun j m1 c1 h => ?_, fun j k m1 c1 m2 c2 b hj hk w1 w2 => ?_, ok'.dom⟩⟩
        · obtain ⟨j, m1, c1, h1, h2, h3⟩ := hb
          rcases get h1 with ⟨e, h⟩ | ⟨e, h⟩
          · rcases s.own b ⟨j, m1, c1, h, h2, h3⟩ with q | q
            · exact .inl (own_lock1 q)
            · exact .inr q
          · cases h; subst e
            have h3 : g'.st[j]? = some (some (.ref b)) := h3
            rw [z1] at h3; cases h3
            exact .inl ⟨j, m, c, hi, h2, q1⟩
        · obtain ⟨j, m1, c1, h1, h3⟩ := hb
          obtain ⟨m2, h⟩ := back h1
          rcases s.has b ⟨j, m2, c1, h, h3⟩ with ⟨j', m', c', q, q'⟩ | q
          · obtain ⟨m3, q5, _, _⟩ := lock1_cell q
            exact .inl ⟨j', m3, c', q5, q'⟩
          · exact .inr q
        · by_cases e : j = i
          · subst e
            rw [hi] at hj
            cases hj
            exact ⟨z1.trans q1.symm, c, by show (g'.env.set j _)[j]? = _; rw [List.getElem?_set_self hil']⟩
          · have : (lock1 g.env i)[j]? = some (some (.cell .bor c1)) := by rw [e1, List.getElem?_set_ne (Ne.symm e)]; exact hj
            obtain ⟨y1, c2, y2⟩ := s.bor j c1 this
            exact ⟨y1, c2, by show (g'.env.set i _)[j]? = _; rw [List.getElem?_set_ne (Ne.symm e)]; exact y2⟩
        · by_cases e : j = i
          · subst e
            rw [hi] at hj
            cases hj
            exact ⟨z1.trans q1.symm, by show (g'.env.set j _)[j]? = _; rw [List.getElem?_set_self hil']⟩
          · have : (lock1 g.env i)[j]? = some (some (.cell .lock c1)) := by rw [e1, List.getElem?_set_ne (Ne.symm e)]; exact hj
            obtain ⟨y1, y2⟩ := s.lck j c1 this
            exact ⟨y1, by show (g'.env.set i _)[j]? = _; rw [List.getElem?_set_ne (Ne.symm e)]; exact y2⟩
        · rcases get h with ⟨e, h⟩ | ⟨e, h⟩
          · exact ok'.dat j x h
          · cases h
        · obtain ⟨m2, h'⟩ := back h
          exact ok'.cel j m2 c1 h'
        · obtain ⟨m3, h3⟩ := back hj
          obtain ⟨m4, h4⟩ := back hk
          exact ok'.dis j k m3 c1 m4 c2 b h3 h4 w1 w2
end
theorem ok_lockAll {K : PySem.W.Frag} : ∀ (lk : List Nat) {g : G}, g.Ok K → (lockG lk g).Ok K
  | [], _, ok => ok
  | i :: r, g, ok => ok_lockAll r (g := { g with env := lock1 g.env i }) (ok_lock1 ok)
theorem unlock_all {K : PySem.W.Frag} : ∀ (lk : List Nat) {g g' : G}, g.Ok K → Stp (lockG lk g) g' → g'.Ok K →
    Stp g { g' with env := unlockAll lk g.env g'.env } ∧ ({ g' with env := unlockAll lk g.env g'.env } : G).Ok K
  | [], g, g', ok, s, ok' => ⟨s, ok'⟩
  | i :: r, g, g', ok, s, ok' => by
    obtain ⟨h1, h2⟩ := unlock_all r (g := { g with env := lock1 g.env i }) (g' := g') (ok_lock1 ok) s ok'
    exact unlock_step ok h1 h2
/-- a locked slot's object is no one's to change -/
theorem lock_not {K : PySem.W.Frag} {g : G} {i : Nat} {m : Mode} {c : Cell} {a : Addr} (ok : g.Ok K) (h : g.env[i]? = some (some (.cell m c))) (ha : g.st[i]? = some (some (.ref a))) : ¬ Own { g with env := lock1 g.env i } a := by
  rintro ⟨j, m', c', h1, h2, h3⟩
  obtain ⟨m2, q1, q2, q3⟩ := lock1_cell h1
  have h3 : g.st[j]? = some (some (.ref a)) := h3
  have e := ok.dis j i _ _ _ _ a q1 h h3 ha
  exact h2 (q3 e)
/-! ### what is walked -/
/-- the iterator yields just the data xs, as long as the objects at L stay -/
def ItOk (K : PySem.W.Frag) (L : AS) (J : It) (xs : List PyData) (A : AS) (H : Hp) : Prop :=
  ∃ S : AS → Hp → Prop, S A H ∧ (∀ O A H A' H', S A H → Ext O A H A' H' → (∀ a, O a → A a) → (∀ a, L a → ¬ O a) → S A' H') ∧ (∀ A H, S A H → ∀ a, L a → H a ≠ none) ∧
    ∀ A H, S A H → (∀ (i : Nat) x0, xs[i]? = some x0 → J.go i H ∧ ∀ x H', J.yld i H x H' → (∀ O, Ext O A H A H') ∧ Dv K A H' x0 x) ∧ J.stop xs.length H
abbrev IF := SE → Res ((List PyData × List Nat) × SE)
def tIt (X : Cx) (W : WX) (f : IF) : TI := fun σ H R => ∃ g : G, g.st = σ ∧ g.H = H ∧ g.Ok X.K ∧ Out X W g (f g.env) fun g' p => ∀ J L, (∀ a, L a → ¬ Own (lockG p.2 g') a) → ItOk X.K L J p.1 g'.A g'.H → R J g'.H
structure FI (X : Cx) (tg iter : Expr) (f : IF) : Prop where
  pi : ∀ W, Takes X W → PI X tg iter (tIt X W f)
def lkOf : RV → SE → List Nat
  | .slot i, env => match env[i]? with
    | some (some (.cell _ _)) => [i]
    | _ => []
  | _, _ => []
/-- where a list's items lie -/
theorem src_lst {K : PySem.W.Frag} {H0 : Hp} {g : G} {r : RV} {v : V} {ds : List PyData} (ok : g.Ok K) (h : RVR K H0 g r v) (e : r.view g.env = some (.list ds)) :
    ∃ a vs, ∃ L : AS, v = .ref a ∧ SqL K g.H a vs ∧ Dvs K g.A g.H ds vs ∧ (∀ b, L b → ¬ Own (lockG (lkOf r g.env) g) b) ∧
      ∃ S : AS → Hp → Prop, S g.A g.H ∧ (∀ O A H A' H', S A H → Ext O A H A' H' → (∀ a, O a → A a) → (∀ a, L a → ¬ O a) → S A' H') ∧ (∀ A H, S A H → ∀ b, L b → H b ≠ none) ∧
        ∀ A H, S A H → SqL K H a vs ∧ Dvs K A H ds vs := by
  have data : ∀ {x : PyData}, Dv K g.A g.H (.list ds) v → lkOf r g.env = [] → ∃ a vs, ∃ L : AS, v = .ref a ∧ SqL K g.H a vs ∧ Dvs K g.A g.H ds vs ∧ (∀ b, L b → ¬ Own (lockG (lkOf r g.env) g) b) ∧
      ∃ S : AS → Hp → Prop, S g.A g.H ∧ (∀ O A H A' H', S A H → Ext O A H A' H' → (∀ a, O a → A a) → (∀ a, L a → ¬ O a) → S A' H') ∧ (∀ A H, S A H → ∀ b, L b → H b ≠ none) ∧
        ∀ A H, S A H → SqL K H a vs ∧ Dvs K A H ds vs := fun {x} d el => by
    simp only [Dv] at d
    obtain ⟨a, vs, rfl, q, t⟩ := d
    refine ⟨a, vs, fun _ => False, rfl, q.sq, t, fun _ z => z.elim, fun A H => LsD K A H a vs ∧ Dvs K A H ds vs, ⟨q, t⟩, fun O A H A' H' ⟨h1, h2⟩ e hO _ => ⟨?_, Dvs.ext e hO ds vs h2⟩, fun _ _ _ _ z => z.elim, fun A H ⟨h1, h2⟩ => ⟨h1.sq, h2⟩⟩
    rcases h1 with ⟨n, q⟩ | q
    · refine .inl ⟨fun z => ?_, e.rd hO (fun z => n (hO a z)) q⟩
      rcases e.av2 a z with y | y
      · exact n y
      · exact rd_some q y
    · exact .inr q
  have cell : ∀ {a : Addr}, v = .ref a → g.A a → CellR K g.A g.H (.lst ds) a → ¬ Own (lockG (lkOf r g.env) g) a → ∃ a vs, ∃ L : AS, v = .ref a ∧ SqL K g.H a vs ∧ Dvs K g.A g.H ds vs ∧ (∀ b, L b → ¬ Own (lockG (lkOf r g.env) g) b) ∧
      ∃ S : AS → Hp → Prop, S g.A g.H ∧ (∀ O A H A' H', S A H → Ext O A H A' H' → (∀ a, O a → A a) → (∀ a, L a → ¬ O a) → S A' H') ∧ (∀ A H, S A H → ∀ b, L b → H b ≠ none) ∧
        ∀ A H, S A H → SqL K H a vs ∧ Dvs K A H ds vs := fun {a} ev hA hc no => by
    obtain ⟨vs, q, t⟩ := hc
    refine ⟨a, vs, fun b => b = a, ev, .of q, t, fun b hb => by rw [hb]; exact no, fun A H => H a = some (.lst vs) ∧ Dvs K A H ds vs, ⟨q, t⟩, fun O A H A' H' ⟨h1, h2⟩ e hO hL => ⟨e.keep _ _ h1 (hL a rfl), Dvs.ext e hO ds vs h2⟩, fun A H ⟨h1, _⟩ b hb => by rw [hb, h1]; simp, fun A H ⟨h1, h2⟩ => ⟨.of h1, h2⟩⟩
  cases r with
  | d y =>
    simp only [RV.view, Option.some.injEq] at e; subst e
    exact data (x := .none) h rfl
  | tmp c =>
    obtain ⟨a, ev, hA, hc, _, hs⟩ := h
    cases c with
    | lst xs =>
      simp only [RV.view, Cell.data, Option.some.injEq, PyData.list.injEq] at e; subst e
      exact cell ev hA hc fun ⟨i, m, c', q1, _, q2⟩ => hs ⟨i, m, c', q1, q2⟩
    | _ => simp [RV.view, Cell.data] at e
  | slot i =>
    have h1 : g.st[i]? = some (some v) := h
    cases h2 : g.env[i]? with
    | none => simp [RV.view, h2] at e
    | some o => cases o with
      | none => simp [RV.view, h2] at e
      | some mv =>
        simp only [RV.view, h2] at e
        cases mv with
        | d y =>
          simp only [MV.data, Option.some.injEq] at e; subst e
          obtain ⟨w, q1, q2⟩ := ok.dat i _ h2
          rw [h1] at q1; cases q1
          exact data (x := .none) q2 (by simp only [lkOf, h2])
        | cell m c =>
          obtain ⟨a, q1, q2, q3⟩ := ok.cel i m c h2
          have q1' := q1
          rw [h1] at q1; cases q1
          cases c with
          | lst xs =>
            simp only [MV.data, Cell.data, Option.some.injEq, PyData.list.injEq] at e; subst e
            have el : lkOf (.slot i) g.env = [i] := by simp only [lkOf, h2]
            refine cell rfl q2 q3 ?_
            rw [el]
            exact lock_not ok h2 q1'
          | _ => simp [MV.data, Cell.data] at e
def fSeq (f : EF) : IF := fun env => (f env).bind fun p => match p.1.view p.2 with
  | some (.list ds) => .ok ((ds, lkOf p.1 p.2), p.2)
  | some (.tuple ds) => .ok ((ds, []), p.2)
  | _ => .fail
theorem itl_ok {K : PySem.W.Frag} {L : AS} {a : Addr} {vs : List V} {ds : List PyData} {A : AS} {H : Hp} {S : AS → Hp → Prop} (h0 : S A H) (hs : ∀ O A H A' H', S A H → Ext O A H A' H' → (∀ a, O a → A a) → (∀ a, L a → ¬ O a) → S A' H') (hd : ∀ A H, S A H → ∀ b, L b → H b ≠ none)
    (hq : ∀ A H, S A H → SqL K H a vs ∧ Dvs K A H ds vs) : ItOk K L (Itl K a) ds A H := by
  refine ⟨S, h0, hs, hd, fun A H h => ?_⟩
  obtain ⟨q, t⟩ := hq A H h
  refine ⟨fun i x0 e => ?_, vs, q, Nat.le_of_eq t.length.symm⟩
  obtain ⟨v, e1, e2⟩ := t.getD e
  refine ⟨⟨vs, v, q, e1⟩, fun x H' y => ?_⟩
  obtain ⟨rfl, y⟩ := y
  have := y vs q
  rw [e1] at this; cases this
  exact ⟨fun O => .refl _ _ _, e2⟩
theorem itt_ok {K : PySem.W.Frag} {a : Addr} {vs : List V} {ds : List PyData} {A : AS} {H : Hp} (q : SqT K H a vs) (t : Dvs K A H ds vs) : ItOk K (fun _ => False) (Itt K a) ds A H := by
  refine ⟨fun A H => SqT K H a vs ∧ Dvs K A H ds vs, ⟨q, t⟩, fun O A H A' H' ⟨h1, h2⟩ e hO _ => ⟨sqt_ext e.tup e.frz h1, Dvs.ext e hO ds vs h2⟩, fun _ _ _ _ z => z.elim, fun A H ⟨q, t⟩ => ?_⟩
  refine ⟨fun i x0 e => ?_, vs, q, Nat.le_of_eq t.length.symm⟩
  obtain ⟨v, e1, e2⟩ := t.getD e
  refine ⟨⟨vs, v, q, e1⟩, fun x H' y => ?_⟩
  obtain ⟨rfl, y⟩ := y
  have := y vs q
  rw [e1] at this; cases this
  exact ⟨fun O => .refl _ _ _, e2⟩
theorem fi_seq {X : Cx} {tg l : Expr} {f : EF} (h : FE X l f) : FI X tg l (fSeq f) := by
  refine ⟨fun W tk => ⟨fun pins s σ H R I hq => ?_⟩⟩
  obtain ⟨g, rfl, rfl, ok, o⟩ := hq
  refine h.go tk ok I o.bind0 fun u s1 g1 rv v e1 I1 r ok1 st rr p => ?_
  split at p
  · rename_i ds hv
    obtain ⟨a, vs, L, rfl, q, t, hL, S, s1', s2, s3, s4⟩ := src_lst ok1 rr hv
    cases r
    obtain ⟨its, rv', pl, hz⟩ := I1.list q
    refine wpAny_pyIter_list pl.isList ?_
    refine ⟨s1.heap.objs.size, [s1.heap.objs.size], _, _, g1.H, rfl, by rw [← e1]; exact I1.kept (t' := s1.toks) fun b o e => Heap.get?_push_of_some _ e, turn_list a _, ⟨_, Heap.get?_push_size _ rfl, rfl, rfl⟩, fun b hb => ?_, p g1 rfl e1 st ok1 _ L hL (itl_ok s1' s2 s3 s4)⟩
    have e : b = s1.heap.objs.size := by simpa using hb
    subst e
    exact I1.fpOk (Nat.le_refl _) (I1.hok.fresh (Nat.le_refl _))
  · rename_i ds hv
    obtain ⟨a, vs, rfl, q, t⟩ := dw_tup (rr.dw ok1 hv)
    cases r
    obtain ⟨its, rv', pl, hz⟩ := I1.tuple q
    refine wpAny_pyIter_tuple (show s1.heap.IsTuple a its.toArray from pl) ?_
    refine ⟨s1.heap.objs.size, [s1.heap.objs.size], _, _, g1.H, rfl, by rw [← e1]; exact I1.kept (t' := s1.toks) fun b o e => Heap.get?_push_of_some _ e, turn_tuple a _, ⟨_, Heap.get?_push_size _ rfl, rfl, rfl⟩, fun b hb => ?_, p g1 rfl e1 st ok1 _ _ (fun _ z => z.elim) (itt_ok q t)⟩
    have e : b = s1.heap.objs.size := by simpa using hb
    subst e
    exact I1.fpOk (Nat.le_refl _) (I1.hok.fresh (Nat.le_refl _))
  · exact p.elim
/-! ### range -/
def rangeD (lo : Int) (n : Nat) : List PyData := (List.range n).map fun i => .int (lo + (i : Nat))
theorem itr_ok {K : PySem.W.Frag} {lo : Int} {n : Nat} {A : AS} {H : Hp} : ItOk K (fun _ => False) (Itr lo n) (rangeD lo n) A H := by
  refine ⟨fun _ _ => True, trivial, fun _ _ _ _ _ _ _ _ _ => trivial, fun _ _ _ _ z => z.elim, fun A H _ => ⟨fun i x0 e => ?_, ?_⟩⟩
  · unfold rangeD at e
    rw [List.getElem?_map] at e
    cases hr : (List.range n)[i]? with
    | none => rw [hr] at e; cases e
    | some j =>
      rw [hr] at e; cases e
      have hi : i < n := by
        have := (List.getElem?_eq_some_iff.mp hr).1
        simpa using this
      have hj : j = i := by
        rw [List.getElem?_range hi] at hr; cases hr; rfl
      subst hj
      refine ⟨hi, fun x H' y => ?_⟩
      obtain ⟨rfl, rfl⟩ := y
      exact ⟨fun O => .refl _ _ _, by simp only [Dv]⟩
  · show n ≤ (rangeD lo n).length
    unfold rangeD; simp
def rngG (j : Int) : Prop := -(2 ^ 62) ≤ j ∧ j < 2 ^ 62
instance (j : Int) : Decidable (rngG j) := by unfold rngG; exact inferInstance
def fRng1 (f : EFs) : IF := fun env => (f env).bind fun p => match views p.1 p.2 with
  | some [.int j] => if rngG j then .ok ((rangeD 0 j.toNat, []), p.2) else .fail
  | _ => .fail
def fRng2 (f : EFs) : IF := fun env => (f env).bind fun p => match views p.1 p.2 with
  | some [.int i, .int j] => if rngG i ∧ rngG j then .ok ((rangeD i (j - i).toNat, []), p.2) else .fail
  | _ => .fail
theorem fi_range1 {X : Cx} {tg a : Expr} {f : EFs} {p pos : Pos} (hg : Gl X "range") (hm : X.mg "range" = none) (ha : FPs X [a] f) (hs : starEach [a] X.env = [(false, eval a X.env)] := by rfl) : FI X tg (.Call (.Name "range" p) [a] [] pos) (fRng1 f) := by
  refine ⟨fun W tk => ⟨fun pins s σ H R I hq => ?_⟩⟩
  obtain ⟨g, rfl, rfl, ok, o⟩ := hq
  refine (pi_range1 hg hm (ha.pa W tk) hs).run pins s g.st g.H R I ⟨g, rfl, rfl, ok, o.bind0.imp fun g1 rs st e ok1 p vs rr => ?_⟩
  split at p
  · rename_i j hv
    obtain ⟨v, rfl, hx⟩ := dws1 (rr.dws ok1 hv)
    obtain rfl := dw_int hx
    split at p
    · rename_i hr
      exact ⟨j, rfl, hr.1, hr.2, p g1 rfl e st ok1 _ _ (fun _ z => z.elim) itr_ok⟩
    · exact p.elim
  · exact p.elim
theorem fi_range2 {X : Cx} {tg a b : Expr} {f : EFs} {p pos : Pos} (hg : Gl X "range") (hm : X.mg "range" = none) (ha : FPs X [a, b] f) (hs : starEach [a, b] X.env = [(false, eval a X.env), (false, eval b X.env)] := by rfl) (hs2 : starEach [b] X.env = [(false, eval b X.env)] := by rfl) : FI X tg (.Call (.Name "range" p) [a, b] [] pos) (fRng2 f) := by
  refine ⟨fun W tk => ⟨fun pins s σ H R I hq => ?_⟩⟩
  obtain ⟨g, rfl, rfl, ok, o⟩ := hq
  refine (pi_range2 hg hm (ha.pa W tk) hs hs2).run pins s g.st g.H R I ⟨g, rfl, rfl, ok, o.bind0.imp fun g1 rs st e ok1 p vs rr => ?_⟩
  split at p
  · rename_i i j hv
    obtain ⟨v, w, rfl, hx, hy⟩ := dws2 (rr.dws ok1 hv)
    obtain rfl := dw_int hx
    obtain rfl := dw_int hy
    split at p
    · rename_i hr
      exact ⟨i, j, rfl, ⟨hr.1.1, hr.1.2, hr.2.1, hr.2.2⟩, p g1 rfl e st ok1 _ _ (fun _ z => z.elim) itr_ok⟩
    · exact p.elim
  · exact p.elim
/-! ### targets -/
abbrev BF := PyData → SE → Option SE
/-- a slot takes a value, unless another's object stands there -/
def setS (env : SE) (i : Nat) (mv : MV) : Option SE := match env[i]? with
  | some (some (.cell .bor _)) => none
  | some (some (.cell .lock _)) => none
  | some _ => some (env.set i (some mv))
  | none => none
def bName (i : Nat) : BF := fun x env => setS env i (.d x)
/-- .. the state behind it -/
theorem set_data {K : PySem.W.Frag} {g : G} {i : Nat} {x : PyData} {v : V} {env' : SE} (ok : g.Ok K) (d : Dv K g.A g.H x v) (h : setS g.env i (.d x) = some env') :
    Stp g { g with st := g.st.set i (some v), env := env' } ∧ ({ g with st := g.st.set i (some v), env := env' } : G).Ok K := by
  unfold setS at h
  have core : ∀ o, g.env[i]? = some o → (∀ c, o ≠ some (.cell .bor c)) → (∀ c, o ≠ some (.cell .lock c)) → env' = g.env.set i (some (.d x)) → Stp g { g with st := g.st.set i (some v), env := env' } ∧ ({ g with st := g.st.set i (some v), env := env' } : G).Ok K := by
    intro o hi nb nl e
    subst e
    have hil : i < g.env.length := (List.getElem?_eq_some_iff.mp hi).1
    have his : i < g.st.length := by rw [ok.len]; exact hil
    have stn : ∀ j, j ≠ i → (g.st.set i (some v))[j]? = g.st[j]? := fun j e => List.getElem?_set_ne (Ne.symm e)
    have get : ∀ {j : Nat} {mv : MV}, (g.env.set i (some (.d x)))[j]? = some (some mv) → (j ≠ i ∧ g.env[j]? = some (some mv)) ∨ (j = i ∧ mv = .d x) := fun {j mv} h => by
      by_cases e : j = i
      · subst e
        rw [List.getElem?_set_self hil] at h
        simp only [Option.some.injEq] at h
        exact .inr ⟨rfl, h.symm⟩
      · rw [List.getElem?_set_ne (Ne.symm e)] at h
        exact .inl ⟨e, h⟩
    have cl : ∀ {j : Nat} {m c}, (g.env.set i (some (.d x)))[j]? = some (some (.cell m c)) → j ≠ i ∧ g.env[j]? = some (some (.cell m c)) := fun {j m c} h => by
      rcases get h with h | ⟨_, h⟩
      · exact h
      · cases h
    refine ⟨⟨.refl _ _ _, fun a ha => ?_, fun a ha => ?_, fun j c hj => ?_, fun j c hj => ?_⟩, ⟨by simpa using ok.len, fun j y hj => ?_, fun j m c hj => ?_, fun j k m c m' c' a hj hk e1 e2 => ?_, ok.dom⟩⟩
    · rcases own_set stn ha with q | ⟨m, c, q, _⟩
      · exact .inl q
      · cases q
    · rcases has_set stn ha with q | ⟨m, c, q, _⟩
      · exact .inl q
      · cases q
    · have : j ≠ i := by rintro rfl; rw [hi] at hj; exact nb c (Option.some.inj hj)
      exact ⟨stn j this, c, by show (g.env.set i _)[j]? = _; rw [List.getElem?_set_ne (Ne.symm this)]; exact hj⟩
    · have : j ≠ i := by rintro rfl; rw [hi] at hj; exact nl c (Option.some.inj hj)
      exact ⟨stn j this, by show (g.env.set i _)[j]? = _; rw [List.getElem?_set_ne (Ne.symm this)]; exact hj⟩
    · rcases get hj with ⟨e, hj⟩ | ⟨e, hj⟩
      · show ∃ w, (g.st.set i (some v))[j]? = _ ∧ _
        rw [stn j e]; exact ok.dat j y hj
      · cases hj; subst e
        exact ⟨v, by show (g.st.set j (some v))[j]? = _; rw [List.getElem?_set_self his], d⟩
    · obtain ⟨e, hj⟩ := cl hj
      show ∃ w, (g.st.set i (some v))[j]? = _ ∧ _
      rw [stn j e]; exact ok.cel j m c hj
    · obtain ⟨n1, hj⟩ := cl hj
      obtain ⟨n2, hk⟩ := cl hk
      have e1 : (g.st.set i (some v))[j]? = _ := e1
      have e2 : (g.st.set i (some v))[k]? = _ := e2
      rw [stn j n1] at e1
      rw [stn k n2] at e2
      exact ok.dis j k m c m' c' a hj hk e1 e2
  split at h
  · cases h
  · cases h
  · rename_i o nb nl hi
    cases h
    exact core o hi (fun c z => nb c z) (fun c z => nl c z) rfl
  · cases h
/-- the slots off vs stay -/
def Off (vs : List Nat) (g g' : G) : Prop := g'.st.length = g.st.length ∧ g'.env.length = g.env.length ∧ ∀ j, j ∉ vs → g'.st[j]? = g.st[j]? ∧ g'.env[j]? = g.env[j]?
theorem Off.trans {vs ws : List Nat} {g g1 g2 : G} (a : Off vs g g1) (b : Off ws g1 g2) : Off (vs ++ ws) g g2 :=
  ⟨b.1.trans a.1, b.2.1.trans a.2.1, fun j hj => by
    simp only [List.mem_append, not_or] at hj
    exact ⟨(b.2.2 j hj.2).1.trans (a.2.2 j hj.1).1, (b.2.2 j hj.2).2.trans (a.2.2 j hj.1).2⟩⟩
def tBd (X : Cx) (vs : List Nat) (b : BF) : TG := fun v σ H Q => ∃ (g : G) (x : PyData) (env' : SE), g.st = σ ∧ g.H = H ∧ g.Ok X.K ∧ Dv X.K g.A g.H x v ∧ b x g.env = some env' ∧ ∀ g' : G, g'.env = env' → g'.A = g.A → Off vs g g' → Stp g g' → g'.Ok X.K → g'.H = g.H → Q g'.st g'.H
structure FG (X : Cx) (tg : Expr) (vs : List Nat) (b : BF) : Prop where
  pg : PG X tg (tBd X vs b)
abbrev BFs := List PyData → SE → Option SE
def tBds (X : Cx) (vs : List Nat) (b : BFs) : TGs := fun v σ H Q => ∃ (g : G) (x : List PyData) (env' : SE), g.st = σ ∧ g.H = H ∧ g.Ok X.K ∧ Dvs X.K g.A g.H x v ∧ b x g.env = some env' ∧ ∀ g' : G, g'.env = env' → g'.A = g.A → Off vs g g' → Stp g g' → g'.Ok X.K → g'.H = g.H → Q g'.st g'.H
structure FGs (X : Cx) (ts : List Expr) (vs : List Nat) (b : BFs) : Prop where
  pgs : PGs X ts (tBds X vs b)
theorem setS_len {env env' : SE} {i : Nat} {mv : MV} (h : setS env i mv = some env') : env'.length = env.length ∧ ∀ j, j ≠ i → env'[j]? = env[j]? := by
  unfold setS at h
  split at h
  · cases h
  · cases h
  · cases h; exact ⟨by simp, fun j e => List.getElem?_set_ne (Ne.symm e)⟩
  · cases h
theorem fg_name {X : Cx} {x : Str} {i : Nat} {pos : Pos} (hN : X.N.Nodup) (hi : X.N[i]? = some x) (hx : Loc X.env.scope x) (hf : X.fn x = true ∨ X.env.scope.names.lookup x = some .local := by first | exact .inl rfl | exact .inr rfl | assumption) : FG X (.Name x pos) [i] (bName i) := by
  refine ⟨⟨fun pins s σ H v u Q I r h => ?_⟩⟩
  obtain ⟨g, y, env', rfl, rfl, ok, d, hb, hQ⟩ := h
  obtain ⟨s1, o1⟩ := set_data ok d hb
  obtain ⟨l1, l2⟩ := setS_len hb
  refine (pg_name hN hi hx hf).run pins s g.st g.H v u Q I r ?_
  exact hQ { g with st := g.st.set i (some v), env := env' } rfl rfl ⟨by simp, l1, fun j hj => ⟨List.getElem?_set_ne (by simp at hj; exact fun e => hj e.symm), l2 j (by simpa using hj)⟩⟩ s1 o1 rfl
def bNil : BFs := fun xs env => match xs with
  | [] => some env
  | _ => none
def bCons (b : BF) (t : BFs) : BFs := fun xs env => match xs with
  | x :: r => match b x env with
    | some env1 => t r env1
    | none => none
  | [] => none
def bTup (t : BFs) : BF := fun x env => match x with
  | .tuple ds => t ds env
  | _ => none
theorem fgs_nil {X : Cx} : FGs X [] [] bNil := ⟨⟨fun pins s σ H vs us Q I r h => by
  obtain ⟨g, xs, env', rfl, rfl, ok, d, hb, hQ⟩ := h
  cases xs with
  | nil =>
    cases hb
    simp only [Dvs] at d
    subst d
    exact pgs_nil.run pins s g.st g.H [] us Q I r ⟨rfl, hQ g rfl rfl ⟨rfl, rfl, fun _ _ => ⟨rfl, rfl⟩⟩ (.refl g) ok rfl⟩
  | cons x r => cases hb⟩⟩
theorem fgs_cons {X : Cx} {e : Expr} {es : List Expr} {vs ws : List Nat} {b : BF} {t : BFs} (h : FG X e vs b) (ht : FGs X es ws t) (hs : (assignEach (e :: es) X.env).map (·.2) = assign e X.env :: (assignEach es X.env).map (·.2) := by rfl) : FGs X (e :: es) (vs ++ ws) (bCons b t) := ⟨⟨fun pins s σ H vls us Q I r hh => by
  obtain ⟨g, xs, env', rfl, rfl, ok, d, hb, hQ⟩ := hh
  cases xs with
  | nil => cases hb
  | cons x xr =>
    simp only [Dvs] at d
    obtain ⟨v, vr, rfl, d1, d2⟩ := d
    simp only [bCons] at hb
    cases h1 : b x g.env with
    | none => rw [h1] at hb; cases hb
    | some env1 =>
      rw [h1] at hb
      refine (pgs_cons h.pg ht.pgs hs).run pins s g.st g.H (v :: vr) us Q I r ⟨v, vr, rfl, g, x, env1, rfl, rfl, ok, d1, h1, fun g1 e1 e2 f1 s1 o1 e3 => ?_⟩
      refine ⟨g1, xr, env', rfl, rfl, o1, s1.dvs ok d2, by rw [e1]; exact hb, fun g2 e4 e5 f2 s2 o2 e6 => ?_⟩
      exact hQ g2 e4 (e5.trans e2) (f1.trans f2) (s1.trans ok s2) o2 (e6.trans e3)⟩⟩
theorem fg_tup {X : Cx} {es : List Expr} {k : Nat} {vs : List Nat} {t : BFs} {pos : Pos} (hc : X.calm = true) (h : FGs X es vs t) (n : Nat) (hlen : ∀ ds env env', t ds env = some env' → ds.length = n)
    (hn : (assignEach es X.env).length = n := by rfl) (hst : (assignEach es X.env).findIdx? (·.1) = none := by rfl) : FG X (.Tuple es k pos) vs (bTup t) := ⟨⟨fun pins s σ H v u Q I r hh => by
  obtain ⟨g, x, env', rfl, rfl, ok, d, hb, hQ⟩ := hh
  cases x with
  | tuple ds =>
    simp only [Dv] at d
    obtain ⟨a, ws, rfl, q, d⟩ := d
    simp only [bTup] at hb
    refine (pg_tup hc h.pgs hn hst).run pins s g.st g.H (.ref a) u Q I r ⟨a, ws, rfl, q.sq, by rw [← d.length]; exact hlen _ _ _ hb, g, ds, env', rfl, rfl, ok, d, hb, hQ⟩
  | _ => cases hb⟩⟩
theorem bCons_len {b : BF} {t : BFs} {n : Nat} (ht : ∀ ds env env', t ds env = some env' → ds.length = n) : ∀ ds env env', bCons b t ds env = some env' → ds.length = n + 1 := by
  intro ds env env' h
  cases ds with
  | nil => cases h
  | cons x r =>
    simp only [bCons] at h
    split at h
    · simp [ht _ _ _ h]
    · cases h
theorem bNil_len : ∀ ds env env', bNil ds env = some env' → ds.length = 0 := by
  intro ds env env' h
  cases ds with
  | nil => rfl
  | cons x r => cases h
/-! ### statements -/
inductive Ret where
  | d (x : PyData)
  | tmp (c : Cell)
inductive Fl where
  | nx | bk | ct
  | rt (r : Ret)
def Bor (g : G) : AS := fun a => ∃ (i : Nat) (c : Cell), g.env[i]? = some (some (.cell .bor c)) ∧ g.st[i]? = some (some (.ref a))
/-- what a def hands back, begun at H0 -/
def RetR (K : PySem.W.Frag) (H0 : Hp) (g : G) : Ret → V → Prop
  | .d x, v => Dv K g.A g.H x v
  | .tmp c, v => ∃ a, v = .ref a ∧ g.A a ∧ CellR K g.A g.H c a ∧ (H0 a = none ∨ (Own g a ∧ ¬ Bor g a))
abbrev SF := SE → Res (Fl × SE)
def OutS (X : Cx) (W : WX) (g : G) (r : Res (Fl × SE)) (D : Ends) : Prop :=
  match r with
  | .ok (.nx, env') => ∀ g' : G, g'.env = env' → Stp g g' → g'.Ok X.K → D.nx g'.st g'.H
  | .ok (.bk, env') => ∀ g' : G, g'.env = env' → Stp g g' → g'.Ok X.K → D.bk g'.st g'.H
  | .ok (.ct, env') => ∀ g' : G, g'.env = env' → Stp g g' → g'.Ok X.K → D.ct g'.st g'.H
  | .ok (.rt r, env') => ∀ (g' : G) v, g'.env = env' → Stp g g' → g'.Ok X.K → RetR X.K g.H g' r v → D.rt v g'.H
  | .exc c fs env' => ∀ (g' : G) cls d, g'.env = env' → Stp g g' → g'.Ok X.K → ExcR X g' c fs cls d → W cls d g'.st g'.H
  | .fail => False
def tS (X : Cx) (W : WX) (f : SF) : TS := fun D σ H => ∃ g : G, g.st = σ ∧ g.H = H ∧ g.Ok X.K ∧ OutS X W g (f g.env) D
structure FS (X : Cx) (st : Stmt) (f : SF) : Prop where
  ps : ∀ W, Takes X W → PassesOwn (model X.prog X.w) X.A X.env X.xe → PS X st (tS X W f)
structure FSs (X : Cx) (st : List Stmt) (f : SF) : Prop where
  pss : ∀ W, Takes X W → PassesOwn (model X.prog X.w) X.A X.env X.xe → PSs X st (tS X W f)
theorem RetR.old {K : PySem.W.Frag} {H0 H1 : Hp} {g : G} {r : Ret} {v : V} (d : ∀ a, H0 a ≠ none → H1 a ≠ none) (h : RetR K H1 g r v) : RetR K H0 g r v := by
  cases r with
  | d x => exact h
  | tmp c =>
    obtain ⟨a, h1, h2, h3, h4⟩ := h
    exact ⟨a, h1, h2, h3, h4.imp (fun z => none_of_dom d z) id⟩
/-- seen from a later state -/
theorem OutS.rebase {X : Cx} {W : WX} {g g1 : G} {r : Res (Fl × SE)} {D : Ends} (ok : g.Ok X.K) (s : Stp g g1) (h : OutS X W g r D) : OutS X W g1 r D := by
  cases r with
  | ok y =>
    obtain ⟨x, env'⟩ := y
    cases x with
    | nx => exact fun g2 e1 s2 o2 => h g2 e1 (s.trans ok s2) o2
    | bk => exact fun g2 e1 s2 o2 => h g2 e1 (s.trans ok s2) o2
    | ct => exact fun g2 e1 s2 o2 => h g2 e1 (s.trans ok s2) o2
    | rt r => exact fun g2 v e1 s2 o2 rr => h g2 v e1 (s.trans ok s2) o2 (rr.old s.ext.dom)
  | exc c fs env' => exact fun g2 cls d e1 s2 o2 x2 => h g2 cls d e1 (s.trans ok s2) o2 x2
  | fail => exact h
/-- an expression ahead of a statement's rest -/
theorem OutS.bindE {α : Type} {X : Cx} {W : WX} {g : G} {r : Res (α × SE)} {k : α × SE → Res (Fl × SE)} {D : Ends} (h : OutS X W g (r.bind k) D) : Out X W g r fun g1 x => OutS X W g (k (x, g1.env)) D := by
  cases r with
  | ok y =>
    obtain ⟨x, env'⟩ := y
    intro g1 e1 e2 s1 o1
    rw [e1]
    exact h
  | exc c fs env' => exact fun g2 cls d e1 e2 s2 o2 x2 => by rw [← e2]; exact h g2 cls d e1 s2 o2 x2
  | fail => exact h
def fSeqS (f t : SF) : SF := fun env => (f env).bind fun p => match p.1 with
  | .nx => t p.2
  | _ => .ok p
def fNextS : SF := fun env => .ok (.nx, env)
theorem fss_nil {X : Cx} : FSs X [] fNextS := ⟨fun W tk hp => ⟨fun pins s σ H D I hq => by
  obtain ⟨g, rfl, rfl, ok, o⟩ := hq
  exact pss_nil.run pins s g.st g.H D I (o g rfl (.refl g) ok)⟩⟩
theorem fss_cons {X : Cx} {st : Stmt} {rest : List Stmt} {f t : SF} (h : FS X st f) (ht : FSs X rest t) : FSs X (st :: rest) (fSeqS f t) := by
  refine ⟨fun W tk hp => ⟨fun pins s σ H D I hq => ?_⟩⟩
  obtain ⟨g, rfl, rfl, ok, o⟩ := hq
  refine (pss_cons (h.ps W tk hp) (ht.pss W tk hp)).run pins s g.st g.H D I ⟨g, rfl, rfl, ok, ?_⟩
  unfold fSeqS at o
  cases hf : f g.env with
  | ok y =>
    rw [hf] at o
    obtain ⟨x, env'⟩ := y
    cases x with
    | nx =>
      intro g1 e1 s1 o1
      refine ⟨g1, rfl, rfl, o1, ?_⟩
      rw [e1]
      exact OutS.rebase ok s1 o
    | bk => exact o
    | ct => exact o
    | rt r => exact o
  | exc c fs env' => rw [hf] at o; exact o
  | fail => rw [hf] at o; exact o
def fIfS (c : TF) (a b : SF) : SF := fun env => (c env).bind fun p => if p.1 = true then a p.2 else b p.2
theorem fs_if {X : Cx} {c : Expr} {a b : List Stmt} {fc : TF} {fa fb : SF} {pos : Pos} (hc : FT X c fc) (ha : FSs X a fa) (hb : FSs X b fb) : FS X (.If c a b pos) (fIfS fc fa fb) := by
  refine ⟨fun W tk hp => ⟨fun pins s σ H D I hq => ?_⟩⟩
  obtain ⟨g, rfl, rfl, ok, o⟩ := hq
  refine (ps_if (hc.pt W tk) (ha.pss W tk hp) (hb.pss W tk hp)).run pins s g.st g.H D I ⟨g, rfl, rfl, ok, (OutS.bindE o).imp fun g1 b st e o1 p => ?_⟩
  cases b with
  | true => exact ⟨g1, e, rfl, o1, OutS.rebase ok st p⟩
  | false => exact ⟨g1, e, rfl, o1, OutS.rebase ok st p⟩
def fRet (f : EF) : SF := fun env => (f env).bind fun p => match p.1 with
  | .d x => .ok (.rt (.d x), p.2)
  | .tmp c => .ok (.rt (.tmp c), p.2)
  | .slot i => match p.2[i]? with
    | some (some (.d x)) => .ok (.rt (.d x), p.2)
    | some (some (.cell .own c)) => .ok (.rt (.tmp c), p.2)
    | _ => .fail
theorem fs_ret {X : Cx} {e : Expr} {f : EF} {pos : Pos} (h : FE X e f) : FS X (.Return (some e) pos) (fRet f) := by
  refine ⟨fun W tk hp => ⟨fun pins s σ H D I hq => ?_⟩⟩
  obtain ⟨g, rfl, rfl, ok, o⟩ := hq
  refine (ps_ret (h.pe W tk)).run pins s g.st g.H D I ⟨g, rfl, rfl, ok, (OutS.bindE o).imp fun g1 rv st e o1 p v rr => ?_⟩
  cases rv with
  | d x => exact p g1 v rfl st o1 rr
  | tmp c =>
    obtain ⟨a, h1, h2, h3, h4, _⟩ := rr
    exact p g1 v rfl st o1 ⟨a, h1, h2, h3, .inl h4⟩
  | slot i =>
    have h1 : g1.st[i]? = some (some v) := rr
    simp only at p
    split at p
    · rename_i x hi
      obtain ⟨w, q1, q2⟩ := o1.dat i x hi
      rw [h1] at q1; cases q1
      exact p g1 _ rfl st o1 q2
    · rename_i c hi
      obtain ⟨a, q1, q2, q3⟩ := o1.cel i _ c hi
      have q1' := q1
      rw [h1] at q1; cases q1
      refine p g1 _ rfl st o1 ⟨a, rfl, q2, q3, .inr ⟨⟨i, .own, c, hi, by simp, q1'⟩, fun ⟨j, c', z1, z2⟩ => ?_⟩⟩
      have := o1.dis j i _ _ _ _ a z1 hi z2 q1'
      subst this
      rw [hi] at z1; cases z1
    · exact p.elim
def fExpr (f : EF) : SF := fun env => (f env).bind fun p => .ok (.nx, p.2)
theorem fs_expr {X : Cx} {e : Expr} {f : EF} {pos : Pos} (h : FE X e f) (hs : swapsWith e none pos.line X.env = pure false := by rfl) : FS X (.Expr e pos) (fExpr f) := by
  refine ⟨fun W tk hp => ⟨fun pins s σ H D I hq => ?_⟩⟩
  obtain ⟨g, rfl, rfl, ok, o⟩ := hq
  exact (ps_expr (h.pe W tk) hs).run pins s g.st g.H D I ⟨g, rfl, rfl, ok, (OutS.bindE o).imp fun g1 rv st e o1 p v rr => by rw [← e]; exact p g1 rfl st o1⟩
end BH
set_option maxRecDepth 100000
set_option maxHeartbeats 2000000
namespace BH
open PySem PySem.Spec PyProof.Rows L2
/-! ### a result goes into a slot -/
/-- a name's own object becomes data ahead of a second name for it -/
def RV.norm : RV → SE → Option (RV × SE)
  | .d x, env => some (.d x, env)
  | .tmp c, env => some (.tmp c, env)
  | .slot i, env => match (RV.slot i).take env with
    | some (x, env') => some (.d x, env')
    | none => none
def RV.mv : RV → Option MV
  | .d x => some (.d x)
  | .tmp c => some (.cell .own c)
  | .slot _ => none
def asg (r : RV) (env : SE) (i : Nat) : Option SE := match r.norm env with
  | some (r', env') => match r'.mv with
    | some mv => setS env' i mv
    | none => none
  | none => none
section
variable {K : PySem.W.Frag}
theorem RVR.norm {H0 : Hp} {g : G} {r r' : RV} {v : V} {env' : SE} (ok : g.Ok K) (h : RVR K H0 g r v) (e : r.norm g.env = some (r', env')) :
    ∃ g' : G, g'.env = env' ∧ g'.st = g.st ∧ g'.H = g.H ∧ Stp g g' ∧ g'.Ok K ∧ RVR K H0 g' r' v ∧ (∀ i, r' ≠ .slot i) := by
  cases r with
  | d x => cases e; exact ⟨g, rfl, rfl, rfl, .refl g, ok, h, fun _ z => by cases z⟩
  | tmp c => cases e; exact ⟨g, rfl, rfl, rfl, .refl g, ok, h, fun _ z => by cases z⟩
  | slot i =>
    simp only [RV.norm] at e
    cases ht : (RV.slot i).take g.env with
    | none => rw [ht] at e; cases e
    | some q =>
      obtain ⟨x, env2⟩ := q
      rw [ht] at e
      cases e
      obtain ⟨g2, k1, k2, k3, k4, k5, k6⟩ := RVR.take (g := g) ok (.refl g) rfl ok (r := .slot i) h ht
      exact ⟨g2, k1, k2, k3, k4, k5, k6, fun _ z => by cases z⟩
/-- a new object of ours goes into a slot -/
theorem set_cell {g : G} {i : Nat} {c : Cell} {a : Addr} {env' : SE} (ok : g.Ok K) (hA : g.A a) (hc : CellR K g.A g.H c a) (hn : ¬ Has g a) (h : setS g.env i (.cell .own c) = some env') :
    ({ g with st := g.st.set i (some (.ref a)), env := env' } : G).Ok K ∧ (∀ b, Own { g with st := g.st.set i (some (.ref a)), env := env' } b → Own g b ∨ b = a) ∧ (∀ b, Has { g with st := g.st.set i (some (.ref a)), env := env' } b → Has g b ∨ b = a) ∧
      (∀ (j : Nat) c', g.env[j]? = some (some (.cell .bor c')) → (g.st.set i (some (V.ref a)))[j]? = g.st[j]? ∧ env'[j]? = some (some (.cell .bor c'))) ∧
      (∀ (j : Nat) c', g.env[j]? = some (some (.cell .lock c')) → (g.st.set i (some (V.ref a)))[j]? = g.st[j]? ∧ env'[j]? = some (some (.cell .lock c'))) := by
  unfold setS at h
  have core : ∀ o, g.env[i]? = some o → (∀ c, o ≠ some (.cell .bor c)) → (∀ c, o ≠ some (.cell .lock c)) → env' = g.env.set i (some (.cell .own c)) → (
      ({ g with st := g.st.set i (some (.ref a)), env := env' } : G).Ok K ∧ (∀ b, Own { g with st := g.st.set i (some (.ref a)), env := env' } b → Own g b ∨ b = a) ∧ (∀ b, Has { g with st := g.st.set i (some (.ref a)), env := env' } b → Has g b ∨ b = a) ∧
      (∀ (j : Nat) c', g.env[j]? = some (some (.cell .bor c')) → (g.st.set i (some (V.ref a)))[j]? = g.st[j]? ∧ env'[j]? = some (some (.cell .bor c'))) ∧
      (∀ (j : Nat) c', g.env[j]? = some (some (.cell .lock c')) → (g.st.set i (some (V.ref a)))[j]? = g.st[j]? ∧ env'[j]? = some (some (.cell .lock c')))) := by
    intro o hi nb nl e
    subst e
    have hil : i < g.env.length := (List.getElem?_eq_some_iff.mp hi).1
    have his : i < g.st.length := by rw [ok.len]; exact hil
    have stn : ∀ j, j ≠ i → (g.st.set i (some (.ref a)))[j]? = g.st[j]? := fun j e => List.getElem?_set_ne (Ne.symm e)
    have sti : (g.st.set i (some (V.ref a)))[i]? = some (some (.ref a)) := List.getElem?_set_self his
    have get : ∀ {j : Nat} {mv : MV}, (g.env.set i (some (.cell .own c)))[j]? = some (some mv) → (j ≠ i ∧ g.env[j]? = some (some mv)) ∨ (j = i ∧ mv = .cell .own c) := fun {j mv} h => by
      by_cases e : j = i
      · subst e
        rw [List.getElem?_set_self hil] at h
        simp only [Option.some.injEq] at h
        exact .inr ⟨rfl, h.symm⟩
      · rw [List.getElem?_set_ne (Ne.symm e)] at h
        exact .inl ⟨e, h⟩
    have other : ∀ {j : Nat} {m c'} {b : Addr}, g.env[j]? = some (some (.cell m c')) → g.st[j]? = some (some (.ref b)) → b ≠ a := fun {j m c' b} h1 h2 z => hn ⟨j, m, c', h1, by rw [← z]; exact h2⟩
    refine ⟨⟨by simpa using ok.len, fun j y hj => ?_, fun j m c1 hj => ?_, fun j k m c1 m' c2 b hj hk e1 e2 => ?_, ok.dom⟩, fun b hb => ?_, fun b hb => ?_, fun j c1 hj => ?_, fun j c1 hj => ?_⟩
    · rcases get hj with ⟨e, hj⟩ | ⟨_, hj⟩
      · show ∃ w, (g.st.set i (some (V.ref a)))[j]? = _ ∧ _
        rw [stn j e]; exact ok.dat j y hj
      · cases hj
    · rcases get hj with ⟨e, hj⟩ | ⟨e, hj⟩
      · show ∃ w, (g.st.set i (some (V.ref a)))[j]? = _ ∧ _
        rw [stn j e]; exact ok.cel j m c1 hj
      · cases hj; subst e
        exact ⟨a, sti, hA, hc⟩
    · have e1 : (g.st.set i (some (V.ref a)))[j]? = _ := e1
      have e2 : (g.st.set i (some (V.ref a)))[k]? = _ := e2
      rcases get hj with ⟨n1, hj'⟩ | ⟨n1, hj'⟩ <;> rcases get hk with ⟨n2, hk'⟩ | ⟨n2, hk'⟩
      · rw [stn j n1] at e1
        rw [stn k n2] at e2
        exact ok.dis j k m c1 m' c2 b hj' hk' e1 e2
      · rw [n2, sti] at e2; cases e2
        rw [stn j n1] at e1
        exact absurd rfl (other hj' e1)
      · rw [n1, sti] at e1; cases e1
        rw [stn k n2] at e2
        exact absurd rfl (other hk' e2)
      · rw [n1, n2]
    · rcases own_set stn hb with q | ⟨m, c1, q, q2, q3⟩
      · exact .inl q
      · rw [sti] at q3; cases q3; exact .inr rfl
    · rcases has_set stn hb with q | ⟨m, c1, q, q3⟩
      · exact .inl q
      · rw [sti] at q3; cases q3; exact .inr rfl
    · have : j ≠ i := by rintro rfl; rw [hi] at hj; exact nb c1 (Option.some.inj hj)
      exact ⟨stn j this, by rw [List.getElem?_set_ne (Ne.symm this)]; exact hj⟩
    · have : j ≠ i := by rintro rfl; rw [hi] at hj; exact nl c1 (Option.some.inj hj)
      exact ⟨stn j this, by rw [List.getElem?_set_ne (Ne.symm this)]; exact hj⟩
  split at h
  · cases h
  · cases h
  · rename_i o nb nl hi
    cases h
    exact core o hi (fun c z => nb c z) (fun c z => nl c z) rfl
  · cases h
/-- .. from the state g0 on -/
theorem set_rv {g0 g : G} {i : Nat} {r : RV} {v : V} {mv : MV} {env' : SE} (ok0 : g0.Ok K) (s : Stp g0 g) (ok : g.Ok K) (h : RVR K g0.H g r v) (e : r.mv = some mv) (hs : setS g.env i mv = some env') :
    Stp g0 { g with st := g.st.set i (some v), env := env' } ∧ ({ g with st := g.st.set i (some v), env := env' } : G).Ok K := by
  cases r with
  | d x =>
    cases e
    obtain ⟨s1, o1⟩ := set_data ok h hs
    exact ⟨s.trans ok0 s1, o1⟩
  | tmp c =>
    cases e
    obtain ⟨a, rfl, hA, hc, hf, hn⟩ := h
    obtain ⟨o1, h1, h2, h3, h4⟩ := set_cell ok hA hc hn hs
    refine ⟨⟨s.ext, fun b hb => ?_, fun b hb => ?_, fun j c1 hj => ?_, fun j c1 hj => ?_⟩, o1⟩
    · rcases h1 b hb with q | q
      · exact s.own b q
      · rw [q]; exact .inr hf
    · rcases h2 b hb with q | q
      · exact s.has b q
      · rw [q]; exact .inr hf
    · obtain ⟨e1, c2, e2⟩ := s.bor j c1 hj
      obtain ⟨e3, e4⟩ := h3 j c2 e2
      exact ⟨e3.trans e1, c2, e4⟩
    · obtain ⟨e1, e2⟩ := s.lck j c1 hj
      obtain ⟨e3, e4⟩ := h4 j c1 e2
      exact ⟨e3.trans e1, e4⟩
  | slot j => cases e
theorem asg_rv {g0 g : G} {i : Nat} {r : RV} {v : V} {env' : SE} (ok0 : g0.Ok K) (s : Stp g0 g) (ok : g.Ok K) (h : RVR K g0.H g r v) (hs : asg r g.env i = some env') :
    ∃ g' : G, g'.env = env' ∧ g'.st = g.st.set i (some v) ∧ g'.H = g.H ∧ Stp g0 g' ∧ g'.Ok K := by
  unfold asg at hs
  cases hn : r.norm g.env with
  | none => rw [hn] at hs; cases hs
  | some q =>
    obtain ⟨r', env1⟩ := q
    rw [hn] at hs
    simp only at hs
    obtain ⟨g1, k1, k2, k3, k4, k5, k6, _⟩ := h.norm ok hn
    cases hm : r'.mv with
    | none => rw [hm] at hs; cases hs
    | some mv =>
      rw [hm] at hs
      simp only at hs
      rw [← k1] at hs
      obtain ⟨s1, o1⟩ := set_rv ok0 (s.trans ok0 k4) k5 k6 hm hs
      exact ⟨{ g1 with st := g1.st.set i (some v), env := env' }, rfl, by simp only [k2], k3, s1, o1⟩
/-- an own list is changed -/
theorem poke {g : G} {i : Nat} {m : Mode} {c : Cell} {a : Addr} {xs : List PyData} {vs ws : List V} (ok : g.Ok K) (hi : g.env[i]? = some (some (.cell m c))) (hm : m ≠ .lock) (hst : g.st[i]? = some (some (.ref a))) (hH : g.H a = some (.lst vs)) (hd : Dvs K g.A g.H xs ws) :
    Stp g { g with H := upd g.H a (.lst ws), env := g.env.set i (some (.cell m (.lst xs))) } ∧ ({ g with H := upd g.H a (.lst ws), env := g.env.set i (some (.cell m (.lst xs))) } : G).Ok K := by
  have own : Own g a := ⟨i, m, c, hi, hm, hst⟩
  have hA : g.A a := Own.sub ok a own
  have hil : i < g.env.length := (List.getElem?_eq_some_iff.mp hi).1
  have e : Ext (fun b => b = a) g.A g.H g.A (upd g.H a (.lst ws)) :=
    ⟨fun b o h n => by rw [upd_ne n]; exact h, fun b o h => by rw [upd_ne (fun z => by rw [z, hH] at h; cases h)]; exact h, fun b o u h => by rw [upd_ne (fun z => by rw [z, hH] at h; cases h)]; exact h,
      fun b h => by by_cases z : b = a; (rw [z, upd_same]; simp); (rw [upd_ne z]; exact h), fun b h _ => h, fun b h => .inl h⟩
  have sub : ∀ b, b = a → g.A b := fun b z => by rw [z]; exact hA
  have get : ∀ {j : Nat} {mv : MV}, (g.env.set i (some (.cell m (.lst xs))))[j]? = some (some mv) → (j ≠ i ∧ g.env[j]? = some (some mv)) ∨ (j = i ∧ mv = .cell m (.lst xs)) := fun {j mv} h => by
    by_cases e : j = i
    · subst e
      rw [List.getElem?_set_self hil] at h
      simp only [Option.some.injEq] at h
      exact .inr ⟨rfl, h.symm⟩
    · rw [List.getElem?_set_ne (Ne.symm e)] at h
      exact .inl ⟨e, h⟩
  have cl : ∀ {j : Nat} {m' c'}, (g.env.set i (some (.cell m (.lst xs))))[j]? = some (some (.cell m' c')) → ∃ c2, g.env[j]? = some (some (.cell m' c2)) := fun {j m' c'} h => by
    rcases get h with ⟨_, h⟩ | ⟨e, h⟩
    · exact ⟨_, h⟩
    · cases h; subst e; exact ⟨_, hi⟩
  refine ⟨⟨⟨fun b o h n => e.keep b o h fun z => n (by rw [z]; exact own), e.tup, e.frz, e.dom, fun b h _ => h, fun b h => .inl h⟩, fun b hb => ?_, fun b hb => ?_, fun j c1 hj => ?_, fun j c1 hj => ?_⟩, ⟨by simpa using ok.len, fun j y hj => ?_, fun j m1 c1 hj => ?_, fun j k m1 c1 m2 c2 b hj hk e1 e2 => ?_, fun b hb => e.dom b (ok.dom b hb)⟩⟩
  · obtain ⟨j, m1, c1, h1, h2, h3⟩ := hb
    obtain ⟨c2, h1⟩ := cl h1
    exact .inl ⟨j, m1, c2, h1, h2, h3⟩
  · obtain ⟨j, m1, c1, h1, h3⟩ := hb
    obtain ⟨c2, h1⟩ := cl h1
    exact .inl ⟨j, m1, c2, h1, h3⟩
  · refine ⟨rfl, ?_⟩
    by_cases z : j = i
    · subst z
      rw [hi] at hj; cases hj
      exact ⟨.lst xs, by show (g.env.set j _)[j]? = _; rw [List.getElem?_set_self hil]⟩
    · exact ⟨c1, by show (g.env.set i _)[j]? = _; rw [List.getElem?_set_ne (Ne.symm z)]; exact hj⟩
  · have : j ≠ i := by rintro rfl; rw [hi] at hj; cases hj; exact hm rfl
    exact ⟨rfl, by show (g.env.set i _)[j]? = _; rw [List.getElem?_set_ne (Ne.symm this)]; exact hj⟩
  · rcases get hj with ⟨_, hj⟩ | ⟨_, hj⟩
    · obtain ⟨v, h1, h2⟩ := ok.dat j y hj
      exact ⟨v, h1, Dv.ext e sub y v h2⟩
    · cases hj
  · rcases get hj with ⟨z, hj⟩ | ⟨z, hj⟩
    · obtain ⟨b, h1, h2, h3⟩ := ok.cel j m1 c1 hj
      have hb : b ≠ a := fun q => z (ok.dis j i _ _ _ _ a hj hi (by rw [← q]; exact h1) hst)
      refine ⟨b, h1, h2, ?_⟩
      exact h3.go e sub hb fun dx q z => by rw [z, hH] at q; cases q
    · cases hj; subst z
      exact ⟨a, hst, hA, ws, upd_same, Dvs.ext e sub xs ws hd⟩
  · obtain ⟨c3, hj⟩ := cl hj
    obtain ⟨c4, hk⟩ := cl hk
    exact ok.dis j k m1 c3 m2 c4 b hj hk e1 e2
end
def fSet (i : Nat) (f : EF) : SF := fun env => (f env).bind fun p => match asg p.1 p.2 i with
  | some env' => .ok (.nx, env')
  | none => .fail
theorem set_end {X : Cx} {W : WX} {g g1 : G} {i : Nat} {rv : RV} {v : V} {D : Ends} (ok : g.Ok X.K) (st : Stp g g1) (e : g1.st = g.st) (o1 : g1.Ok X.K) (rr : RVR X.K g.H g1 rv v)
    (p : OutS X W g (match asg rv g1.env i with | some env' => .ok (.nx, env') | none => .fail) D) : D.nx (g.st.set i (some v)) g1.H := by
  cases ha : asg rv g1.env i with
  | none => rw [ha] at p; exact p.elim
  | some env' =>
    rw [ha] at p
    obtain ⟨g', k1, k2, k3, k4, k5⟩ := asg_rv ok st o1 rr ha
    have := p g' k1 k4 k5
    rw [k2, k3, e] at this
    exact this
theorem fs_set {X : Cx} {i : Nat} {x : Str} {e : Expr} {f : EF} {pos pos' : Pos} (hN : X.N.Nodup) (hi : X.N[i]? = some x) (hx : Loc X.env.scope x) (h : FE X e f) (hs : swapsWith e (some (.Name x pos')) pos.line X.env = pure false := by rfl)
    (hf : X.fn x = true ∨ X.env.scope.names.lookup x = some .local := by first | exact .inl rfl | exact .inr rfl | assumption) : FS X (.Assign [.Name x pos'] e pos) (fSet i f) := by
  refine ⟨fun W tk hp => ⟨fun pins s σ H D I hq => ?_⟩⟩
  obtain ⟨g, rfl, rfl, ok, o⟩ := hq
  exact (ps_set hN hi hx (h.pe W tk) hs hf).run pins s g.st g.H D I ⟨g, rfl, rfl, ok, (OutS.bindE o).imp fun g1 rv st e o1 p v rr => set_end ok st e o1 rr p⟩
/-- a further value is held over a store -/
theorem set_keep {K : PySem.W.Frag} {H0 : Hp} {g : G} {i : Nat} {r1 r2 : RV} {v w : V} {mv : MV} {env' : SE} (hm : r1.mv = some mv) (hs : setS g.env i mv = some env') (hr : ∀ k, r2 ≠ .slot k) (h : RVR K H0 g r2 w) (hi : i < g.st.length)
    (hne : (∃ c, r1 = .tmp c) → (∃ c, r2 = .tmp c) → w ≠ v) : RVR K H0 { g with st := g.st.set i (some v), env := env' } r2 w := by
  cases r2 with
  | d x => exact h
  | slot k => exact absurd rfl (hr k)
  | tmp c =>
    obtain ⟨a, rfl, h1, h2, h3, h4⟩ := h
    refine ⟨a, rfl, h1, h2, h3, fun z => ?_⟩
    have e : env' = g.env.set i (some mv) := by
      unfold setS at hs
      split at hs
      · cases hs
      · cases hs
      · cases hs; rfl
      · cases hs
    rw [e] at z
    rcases has_set (g := g) (fun j hj => List.getElem?_set_ne (Ne.symm hj)) z with q | ⟨m, c1, q, q2⟩
    · exact h4 q
    · cases r1 with
      | tmp c2 =>
        rw [List.getElem?_set_self hi] at q2
        exact hne ⟨_, rfl⟩ ⟨_, rfl⟩ (Option.some.inj (Option.some.inj q2)).symm
      | d x => cases hm; cases q
      | slot k => cases hm
theorem setS_lt {env env' : SE} {i : Nat} {mv : MV} (h : setS env i mv = some env') : i < env.length := by
  unfold setS at h
  split at h
  · cases h
  · cases h
  · rename_i hi; exact (List.getElem?_eq_some_iff.mp hi).1
  · cases h
/-- a, b = x, y with plain local names -/
def fPar (i j : Nat) (f : EFs) : SF := fun env => (f env).bind fun p => match p.1 with
  | [r1, r2] => match r1.norm p.2 with
    | some (r1', env1) => match r2.norm env1 with
      | some (r2', env2) => match r1'.mv, r2'.mv with
        | some m1, some m2 => match setS env2 i m1 with
          | some env3 => match setS env3 j m2 with
            | some env4 => .ok (.nx, env4)
            | none => .fail
          | none => .fail
        | _, _ => .fail
      | none => .fail
    | none => .fail
  | _ => .fail
theorem norm_tmp {r r' : RV} {env env' : SE} (h : r.norm env = some (r', env')) : (∃ c, r' = .tmp c) → ∃ c, r = .tmp c := by
  rintro ⟨c, rfl⟩
  cases r with
  | d x => cases h
  | tmp c => exact ⟨c, rfl⟩
  | slot i =>
    simp only [RV.norm] at h
    split at h
    · cases h
    · cases h
theorem fs_par {X : Cx} {i j : Nat} {x y : Str} {a b : Expr} {f : EFs} {px py pt pos : Pos} {kt k2 pt2} (hc : X.calm = true) (hN : X.N.Nodup) (hi : X.N[i]? = some x) (hj : X.N[j]? = some y) (hij : i ≠ j)
    (hx : X.env.scope.names.lookup x = some .local) (hy : X.env.scope.names.lookup y = some .local) (ha : FPs X [a, b] f)
    (hw : swappedStores [.Tuple [.Name x px, .Name y py] kt pt] (.Tuple [a, b] k2 pt2) X.env = pure (some [x, y]))
    (hs : swapsWithSole [.Tuple [.Name x px, .Name y py] kt pt] (.Tuple [a, b] k2 pt2) pos.line X.env = pure false := by rfl) : FS X (.Assign [.Tuple [.Name x px, .Name y py] kt pt] (.Tuple [a, b] k2 pt2) pos) (fPar i j f) := by
  refine ⟨fun W tk hp => ⟨fun pins s σ H D I hq => ?_⟩⟩
  obtain ⟨g, rfl, rfl, ok, o⟩ := hq
  refine (ps_par hc hN hi hj hij hx hy (ha.pa W tk) hw hs).run pins s g.st g.H D I ⟨g, rfl, rfl, ok, (OutS.bindE o).imp fun g1 rs st e o1 p vs rr => ?_⟩
  split at p
  · rename_i r1 r2 e0
    change rs = [r1, r2] at e0
    subst e0
    obtain ⟨v, t, rfl, rr1, ⟨w, t2, rfl, rr2, rfl, _⟩, ne⟩ := rr
    refine ⟨v, w, rfl, ?_⟩
    cases h1 : r1.norm g1.env with
    | none => rw [h1] at p; exact p.elim
    | some q1 =>
      obtain ⟨r1', env1⟩ := q1
      rw [h1] at p
      obtain ⟨g2, a1, a2, a3, a4, a5, a6, a7⟩ := rr1.norm o1 h1
      have rr2 := rr2.step o1 a4 a2
      simp only at p
      rw [← a1] at p
      cases h2 : r2.norm g2.env with
      | none => rw [h2] at p; exact p.elim
      | some q2 =>
        obtain ⟨r2', env2⟩ := q2
        rw [h2] at p
        obtain ⟨g3, b1, b2, b3, b4, b5, b6, b7⟩ := rr2.norm a5 h2
        have a6 := a6.step a5 b4 b2
        simp only at p
        rw [← b1] at p
        have st3 : Stp g g3 := (st.trans ok a4).trans ok b4
        split at p
        · rename_i m1 m2 hm1 hm2
          cases h3 : setS g3.env i m1 with
          | none => rw [h3] at p; exact p.elim
          | some env3 =>
            rw [h3] at p
            simp only at p
            obtain ⟨s4, o4⟩ := set_rv ok st3 b5 a6 hm1 h3
            have hil : i < g3.st.length := by rw [b5.len]; exact setS_lt h3
            have b6' := set_keep (v := v) hm1 h3 b7 b6 hil fun x1 x2 => by
              obtain ⟨c1, hc1⟩ := norm_tmp h1 x1
              obtain ⟨c2, hc2⟩ := norm_tmp h2 x2
              subst hc2
              exact (ne c1 hc1).1
            cases h4 : setS env3 j m2 with
            | none => rw [h4] at p; exact p.elim
            | some env4 =>
              rw [h4] at p
              obtain ⟨s5, o5⟩ := set_rv (g := { g3 with st := g3.st.set i (some v), env := env3 }) ok s4 o4 b6' hm2 h4
              have := p _ rfl s5 o5
              rw [← e, ← a2, ← b2, ← a3, ← b3]
              exact this
        · exact p.elim
  · exact p.elim
end BH
set_option maxRecDepth 100000
set_option maxHeartbeats 2000000
namespace BH
open PySem PySem.Spec PyProof.Rows L2
/-! ### loops -/
def fUnl (lk : List Nat) (env0 : SE) : Res (Fl × SE) → Res (Fl × SE)
  | .ok (x, e) => .ok (x, unlockAll lk env0 e)
  | .exc c fs e => .exc c fs (unlockAll lk env0 e)
  | .fail => .fail
theorem ret_unlock1 {K : PySem.W.Frag} {g g' : G} {i : Nat} {H0 : Hp} {r : Ret} {v : V} (s : Stp { g with env := lock1 g.env i } g') (ok' : g'.Ok K) (h : RetR K H0 g' r v) : RetR K H0 { g' with env := unlock1 g.env i g'.env } r v := by
  cases r with
  | d x => exact h
  | tmp c =>
    obtain ⟨a, h1, h2, h3, h4⟩ := h
    refine ⟨a, h1, h2, h3, h4.imp id fun ⟨⟨j, m, c1, q1, q2, q3⟩, nb⟩ => ?_⟩
    have same : ∀ e2, unlock1 g.env i g'.env = e2 → e2 = g'.env → Own { g' with env := unlock1 g.env i g'.env } a ∧ ¬ Bor { g' with env := unlock1 g.env i g'.env } a := fun e2 z1 z2 => by
      rw [z1, z2]; exact ⟨⟨j, m, c1, q1, q2, q3⟩, nb⟩
    cases hi : g.env[i]? with
    | none => exact same _ (by unfold unlock1; rw [hi]) rfl
    | some o => cases o with
      | none => exact same _ (by unfold unlock1; rw [hi]) rfl
      | some mv => cases mv with
        | d x => exact same _ (by unfold unlock1; rw [hi]) rfl
        | cell m0 c0 =>
          have e1 : lock1 g.env i = g.env.set i (some (.cell .lock c0)) := by unfold lock1; rw [hi]
          have e2 : unlock1 g.env i g'.env = g'.env.set i (some (.cell m0 c0)) := by unfold unlock1; rw [hi]
          have hil : i < g.env.length := (List.getElem?_eq_some_iff.mp hi).1
          have hl1 : (lock1 g.env i)[i]? = some (some (.cell .lock c0)) := by rw [e1, List.getElem?_set_self hil]
          obtain ⟨z1, z2⟩ := s.lck i c0 hl1
          rw [e2]
          have hj : j ≠ i := fun e => by subst e; rw [z2] at q1; cases q1; exact q2 rfl
          refine ⟨⟨j, m, c1, by show (g'.env.set i _)[j]? = _; rw [List.getElem?_set_ne (Ne.symm hj)]; exact q1, q2, q3⟩, fun ⟨k, c2, y1, y2⟩ => ?_⟩
          have y2 : g'.st[k]? = some (some (.ref a)) := y2
          by_cases e : k = i
          · subst e
            exact hj (ok'.dis j k _ _ _ _ a q1 z2 q3 y2)
          · have y1 : (g'.env.set i _)[k]? = _ := y1
            rw [List.getElem?_set_ne (Ne.symm e)] at y1
            exact nb ⟨k, c2, y1, y2⟩
theorem ret_unlock {K : PySem.W.Frag} {H0 : Hp} {r : Ret} {v : V} : ∀ (lk : List Nat) {g g' : G}, g.Ok K → Stp (lockG lk g) g' → g'.Ok K → RetR K H0 g' r v → RetR K H0 { g' with env := unlockAll lk g.env g'.env } r v
  | [], _, _, _, _, _, h => h
  | i :: q, g, g', ok, s, ok', h => by
    have h1 := ret_unlock q (g := { g with env := lock1 g.env i }) (g' := g') (ok_lock1 ok) s ok' h
    obtain ⟨s2, o2⟩ := unlock_all q (g := { g with env := lock1 g.env i }) (g' := g') (ok_lock1 ok) s ok'
    exact ret_unlock1 (g := g) s2 o2 h1
theorem outS_unlock {X : Cx} {W : WX} {g : G} {lk : List Nat} {r : Res (Fl × SE)} {D : Ends} (ok : g.Ok X.K) (h : OutS X W g (fUnl lk g.env r) D) : OutS X W (lockG lk g) r D := by
  cases r with
  | ok y =>
    obtain ⟨x, env'⟩ := y
    cases x with
    | nx => exact fun g2 e1 s2 o2 => by subst e1; obtain ⟨s3, o3⟩ := unlock_all lk ok s2 o2; exact h { g2 with env := unlockAll lk g.env g2.env } rfl s3 o3
    | bk => exact fun g2 e1 s2 o2 => by subst e1; obtain ⟨s3, o3⟩ := unlock_all lk ok s2 o2; exact h { g2 with env := unlockAll lk g.env g2.env } rfl s3 o3
    | ct => exact fun g2 e1 s2 o2 => by subst e1; obtain ⟨s3, o3⟩ := unlock_all lk ok s2 o2; exact h { g2 with env := unlockAll lk g.env g2.env } rfl s3 o3
    | rt r => exact fun g2 v e1 s2 o2 rr => by subst e1; obtain ⟨s3, o3⟩ := unlock_all lk ok s2 o2; exact h { g2 with env := unlockAll lk g.env g2.env } v rfl s3 o3 (ret_unlock lk ok s2 o2 rr)
  | exc c fs env' => exact fun g2 cls d e1 s2 o2 x2 => by subst e1; obtain ⟨s3, o3⟩ := unlock_all lk ok s2 o2; exact h { g2 with env := unlockAll lk g.env g2.env } cls d rfl s3 o3 x2
  | fail => exact h
def fLoop (b : BF) (body : SF) : List PyData → SE → Res (Fl × SE)
  | [], env => .ok (.nx, env)
  | x :: xs, env => match b x env with
    | none => .fail
    | some e1 => match body e1 with
      | .ok (.nx, e2) => fLoop b body xs e2
      | .ok (.ct, e2) => fLoop b body xs e2
      | .ok (.bk, e2) => .ok (.nx, e2)
      | .ok (.rt r, e2) => .ok (.rt r, e2)
      | .exc c fs e2 => .exc c fs e2
      | .fail => .fail
def fFor (fi : IF) (b : BF) (body : SF) : SF := fun env => (fi env).bind fun p => fUnl p.1.2 p.2 (fLoop b body p.1.1 (lockAll p.1.2 p.2))
theorem Stp.same {g : G} {H' : Hp} (ex : ∀ O, Ext O g.A g.H g.A H') : Stp g { g with H := H' } :=
  ⟨ex _, fun _ h => .inl h, fun _ h => .inl h, fun i c h => ⟨rfl, c, h⟩, fun i c h => ⟨rfl, h⟩⟩
theorem fs_for {X : Cx} {tg iter : Expr} {body : List Stmt} {fi : IF} {vs : List Nat} {b : BF} {fb : SF} {pos : Pos} (hc : X.calm = true) (hi : FI X tg iter fi) (hg : FG X tg vs b) (hb : FSs X body fb)
    (hs : ∀ x, foldedSetIterable iter X.env x = pure x := by first | exact fun _ => rfl | assumption) : FS X (.For tg iter body [] pos) (fFor fi b fb) := by
  refine ⟨fun W tk hp => ⟨fun pins s σ H D I hq => ?_⟩⟩
  obtain ⟨g, rfl, rfl, ok, o⟩ := hq
  refine (ps_for hp hc (hi.pi W tk) hg.pg (hb.pss W tk hp) hs).run pins s g.st g.H D I ⟨g, rfl, rfl, ok, (OutS.bindE o).imp fun g1 p st e o1 q J L hL hJ => ?_⟩
  obtain ⟨ds, lk⟩ := p
  obtain ⟨S, s0, sx, sd, sj⟩ := hJ
  have q := outS_unlock o1 (OutS.rebase ok st q)
  have oL : (lockG lk g1).Ok X.K := ok_lockAll lk o1
  refine ⟨fun i m σ H => m = ds.length - i ∧ i ≤ ds.length ∧ ∃ g2 : G, g2.st = σ ∧ g2.H = H ∧ g2.Ok X.K ∧ Stp (lockG lk g1) g2 ∧ S g2.A g2.H ∧ OutS X W g2 (fLoop b fb (ds.drop i) g2.env) D, ⟨ds.length, rfl, Nat.zero_le _, lockG lk g1, e, rfl, oL, .refl _, s0, q⟩, ?_⟩
  rintro i m σ' H' ⟨rfl, hle, g2, rfl, rfl, o2, s2, ss, oo⟩
  by_cases hlt : i < ds.length
  · obtain ⟨go, yl⟩ := (sj _ _ ss).1 i _ (List.getElem?_eq_getElem hlt)
    rw [List.drop_eq_getElem_cons hlt] at oo
    simp only [fLoop] at oo
    refine .inr ⟨go, fun σ' H' => ∃ g4 : G, g4.st = σ' ∧ g4.H = H' ∧ g4.Ok X.K ∧ Stp (lockG lk g1) g4 ∧ S g4.A g4.H ∧ OutS X W g4 (fLoop b fb (ds.drop (i + 1)) g4.env) D, ?_, ?_⟩
    · rintro σ' H' ⟨g4, h1, h2, h3, h4, h5, h6⟩
      exact ⟨ds.length - (i + 1), by omega, rfl, hlt, g4, h1, h2, h3, h4, h5, h6⟩
    · intro x H' hy
      obtain ⟨ex, dv⟩ := yl x H' hy
      have s3 : Stp g2 { g2 with H := H' } := Stp.same ex
      have o3 : ({ g2 with H := H' } : G).Ok X.K := o2.ext (ex _) (fun _ h => h) (fun a h => (ex (fun _ => False)).dom a (o2.dom a h))
      cases hb1 : b ds[i] g2.env with
      | none => rw [hb1] at oo; exact oo.elim
      | some env1 =>
        rw [hb1] at oo
        refine ⟨{ g2 with H := H' }, ds[i], env1, rfl, rfl, o3, dv, hb1, fun g4 e4 a4 f4 s4 o4 h4 => ⟨g4, rfl, rfl, o4, ?_⟩⟩
        rw [e4]
        have s24 : Stp g2 g4 := s3.trans o2 s4
        have next : ∀ g5 : G, Stp g4 g5 → g5.Ok X.K → OutS X W g2 (fLoop b fb (ds.drop (i + 1)) g5.env) D → ∃ g6 : G, g6.st = g5.st ∧ g6.H = g5.H ∧ g6.Ok X.K ∧ Stp (lockG lk g1) g6 ∧ S g6.A g6.H ∧ OutS X W g6 (fLoop b fb (ds.drop (i + 1)) g6.env) D := fun g5 s5 o5 k => by
          have s25 := s24.trans o2 s5
          refine ⟨g5, rfl, rfl, o5, s2.trans oL s25, sx (Own g2) _ _ _ _ ss s25.ext (Own.sub o2) fun a la ow => ?_, OutS.rebase o2 s25 k⟩
          rcases s2.own a ow with z | z
          · exact hL a la z
          · exact sd _ _ s0 a la z
        simp only at oo
        cases hf : fb env1 with
        | ok y =>
          rw [hf] at oo
          obtain ⟨x, env'⟩ := y
          cases x with
          | nx => exact fun g5 e5 s5 o5 => next g5 s5 o5 (by rw [e5]; exact oo)
          | ct => exact fun g5 e5 s5 o5 => next g5 s5 o5 (by rw [e5]; exact oo)
          | bk => exact fun g5 e5 s5 o5 => oo g5 e5 (s24.trans o2 s5) o5
          | rt r => exact fun g5 v e5 s5 o5 rr => oo g5 v e5 (s24.trans o2 s5) o5 (rr.old s24.ext.dom)
        | exc c fs env' => rw [hf] at oo; exact fun g5 cls d e5 s5 o5 x5 => oo g5 cls d e5 (s24.trans o2 s5) o5 x5
        | fail => rw [hf] at oo; exact oo.elim
  · have hi : i = ds.length := by omega
    subst hi
    refine .inl ⟨(sj _ _ ss).2, ?_⟩
    simp only [List.drop_length, fLoop] at oo
    exact oo g2 rfl (.refl g2) o2
end BH
set_option maxRecDepth 100000
set_option maxHeartbeats 2000000
namespace BH
open PySem PySem.Spec PyProof.Rows L2
/-! ### comprehensions -/
def wipeE (env : SE) : List Nat → SE
  | [] => env
  | v :: vs => (wipeE env vs).set v none
def noCell (env : SE) (vs : List Nat) : Bool := vs.all fun i => match env[i]? with
  | some (some (.cell _ _)) => false
  | _ => true
def restE (e0 : SE) : List Nat → SE → SE
  | [], e => e
  | v :: vs, e => match e0[v]? with
    | some o => (restE e0 vs e).set v o
    | none => restE e0 vs e
theorem wipeE_length (env : SE) : ∀ vs : List Nat, (wipeE env vs).length = env.length
  | [] => rfl
  | v :: vs => by unfold wipeE; rw [List.length_set, wipeE_length env vs]
theorem wipeE_out {env : SE} {i : Nat} : ∀ {vs : List Nat}, i ∉ vs → (wipeE env vs)[i]? = env[i]?
  | [], _ => rfl
  | v :: vs, h => by
    simp only [List.mem_cons, not_or] at h
    unfold wipeE
    rw [List.getElem?_set_ne (Ne.symm h.1), wipeE_out h.2]
theorem wipeE_some {env : SE} {i : Nat} {x : MV} : ∀ {vs : List Nat}, (wipeE env vs)[i]? = some (some x) → env[i]? = some (some x) ∧ i ∉ vs
  | [], h => ⟨h, by simp⟩
  | v :: vs, h => by
    unfold wipeE at h
    by_cases hi : v = i
    · subst hi
      rw [List.getElem?_set] at h
      simp only [if_true] at h
      split at h <;> simp at h
    · rw [List.getElem?_set_ne hi] at h
      obtain ⟨h1, h2⟩ := wipeE_some h
      exact ⟨h1, by simp only [List.mem_cons, not_or]; exact ⟨fun e => hi e.symm, h2⟩⟩
theorem restE_length (e0 e : SE) : ∀ vs : List Nat, (restE e0 vs e).length = e.length
  | [] => rfl
  | v :: vs => by unfold restE; split <;> simp [restE_length e0 e vs]
theorem restE_out {e0 e : SE} {i : Nat} : ∀ {vs : List Nat}, i ∉ vs → (restE e0 vs e)[i]? = e[i]?
  | [], _ => rfl
  | v :: vs, h => by
    simp only [List.mem_cons, not_or] at h
    unfold restE
    split
    · rw [List.getElem?_set_ne (Ne.symm h.1), restE_out h.2]
    · exact restE_out h.2
theorem restE_in {e0 e : SE} {i : Nat} (hl : e.length = e0.length) : ∀ {vs : List Nat}, i ∈ vs → (restE e0 vs e)[i]? = e0[i]?
  | [], h => by cases h
  | v :: vs, h => by
    unfold restE
    by_cases e1 : v = i
    · subst e1
      split
      · rename_i o ho
        have := (List.getElem?_eq_some_iff.mp ho).1
        rw [List.getElem?_set_self (by rw [restE_length, hl]; exact this), ho]
      · rename_i ho
        rw [ho, List.getElem?_eq_none_iff, restE_length, hl]
        exact List.getElem?_eq_none_iff.mp ho
    · have h2 : i ∈ vs := by
        rcases List.mem_cons.mp h with z | z
        · exact absurd z.symm e1
        · exact z
      split
      · rw [List.getElem?_set_ne e1, restE_in hl h2]
      · exact restE_in hl h2
theorem wipe_in {σ : L2.St} {i : Nat} : ∀ {vs : List Nat}, i ∈ vs → i < σ.length → (wipe σ vs)[i]? = some none
  | [], h, _ => by cases h
  | v :: vs, h, hl => by
    unfold wipe
    by_cases e1 : v = i
    · subst e1
      rw [List.getElem?_set_self (by rw [wipe_length]; exact hl)]
    · rw [List.getElem?_set_ne e1]
      refine wipe_in ?_ hl
      rcases List.mem_cons.mp h with z | z
      · exact absurd z.symm e1
      · exact z
theorem wipe_same {σ σ2 : L2.St} {vs : List Nat} (hl : σ2.length = σ.length) (h : ∀ j, j ∉ vs → σ2[j]? = σ[j]?) : wipe σ2 vs = wipe σ vs := by
  apply List.ext_getElem?
  intro j
  by_cases hj : j ∈ vs
  · by_cases hl2 : j < σ.length
    · rw [wipe_in hj hl2, wipe_in hj (by rw [hl]; exact hl2)]
    · rw [List.getElem?_eq_none_iff.mpr (by rw [wipe_length]; omega), List.getElem?_eq_none_iff.mpr (by rw [wipe_length]; omega)]
  · rw [wipe_out hj, wipe_out hj, h j hj]
theorem noCell_not {env : SE} {vs : List Nat} (h : noCell env vs = true) {i : Nat} (hi : i ∈ vs) {m : Mode} {c : Cell} : env[i]? ≠ some (some (.cell m c)) := fun e => by
  have := List.all_eq_true.mp h i hi
  rw [e] at this
  cases this
def wipeG (vs : List Nat) (g : G) : G := { g with st := wipe g.st vs, env := wipeE g.env vs }
section
variable {K : PySem.W.Frag} {g g' : G} {vs : List Nat}
theorem own_wipe {a : Addr} (h : Own (wipeG vs g) a) : Own g a := by
  obtain ⟨i, m, c, h1, h2, h3⟩ := h
  exact ⟨i, m, c, (wipeE_some h1).1, h2, (wipe_some h3).1⟩
theorem has_wipe {a : Addr} (h : Has (wipeG vs g) a) : Has g a := by
  obtain ⟨i, m, c, h1, h3⟩ := h
  exact ⟨i, m, c, (wipeE_some h1).1, (wipe_some h3).1⟩
theorem ok_wipe (ok : g.Ok K) : (wipeG vs g).Ok K where
  len := by show (wipe g.st vs).length = (wipeE g.env vs).length; rw [wipe_length, wipeE_length]; exact ok.len
  dat := fun i x h => by
    obtain ⟨h1, h2⟩ := wipeE_some h
    show ∃ v, (wipe g.st vs)[i]? = _ ∧ _
    rw [wipe_out h2]
    exact ok.dat i x h1
  cel := fun i m c h => by
    obtain ⟨h1, h2⟩ := wipeE_some h
    show ∃ v, (wipe g.st vs)[i]? = _ ∧ _
    rw [wipe_out h2]
    exact ok.cel i m c h1
  dis := fun i j m c m' c' a hi hj e1 e2 => ok.dis i j m c m' c' a (wipeE_some hi).1 (wipeE_some hj).1 (wipe_some e1).1 (wipe_some e2).1
  dom := ok.dom
/-- behind a turn the block's slots are as they were -/
theorem rest_step (ok : g.Ok K) (nc : noCell g.env vs = true) (s : Stp (wipeG vs g) g') (ok' : g'.Ok K) (hw : wipe g'.st vs = wipe g.st vs) :
    Stp g { g' with st := g.st, env := restE g.env vs g'.env } ∧ ({ g' with st := g.st, env := restE g.env vs g'.env } : G).Ok K ∧ ∀ a, Has { g' with st := g.st, env := restE g.env vs g'.env } a → Has g' a := by
  have hl : g'.env.length = g.env.length := by
    rw [← ok'.len, ← ok.len]
    have := congrArg List.length hw
    rw [wipe_length, wipe_length] at this
    exact this
  have get : ∀ {j : Nat} {mv : MV}, (restE g.env vs g'.env)[j]? = some (some mv) → (j ∈ vs ∧ g.env[j]? = some (some mv)) ∨ (j ∉ vs ∧ g'.env[j]? = some (some mv) ∧ g.st[j]? = g'.st[j]?) := fun {j mv} h => by
    by_cases hj : j ∈ vs
    · rw [restE_in hl hj] at h; exact .inl ⟨hj, h⟩
    · rw [restE_out hj] at h
      exact .inr ⟨hj, h, by rw [← wipe_out (σ := g.st) hj, ← hw, wipe_out hj]⟩
  have cl : ∀ {j : Nat} {m c}, (restE g.env vs g'.env)[j]? = some (some (.cell m c)) → j ∉ vs ∧ g'.env[j]? = some (some (.cell m c)) ∧ g.st[j]? = g'.st[j]? := fun {j m c} h => by
    rcases get h with ⟨h1, h2⟩ | h
    · exact absurd h2 (noCell_not nc h1)
    · exact h
  have hhas : ∀ a, Has { g' with st := g.st, env := restE g.env vs g'.env } a → Has g' a := fun a ⟨i, m, c, h1, h3⟩ => by
    obtain ⟨q1, q2, q3⟩ := cl h1
    exact ⟨i, m, c, q2, by rw [← q3]; exact h3⟩
  refine ⟨⟨⟨fun a o h n => s.ext.keep a o h fun z => n (own_wipe z), s.ext.tup, s.ext.frz, s.ext.dom, fun a h n => s.ext.av1 a h fun z => n (own_wipe z), s.ext.av2⟩, fun a h => ?_, fun a h => ?_, fun j c h => ?_, fun j c h => ?_⟩, ⟨?_, fun j x h => ?_, fun j m c h => ?_, fun i j m c m' c' a hi hj e1 e2 => ?_, ok'.dom⟩, hhas⟩
  · obtain ⟨i, m, c, h1, h2, h3⟩ := h
    obtain ⟨q1, q2, q3⟩ := cl h1
    rcases s.own a ⟨i, m, c, q2, h2, by rw [← q3]; exact h3⟩ with z | z
    · exact .inl (own_wipe z)
    · exact .inr z
  · rcases s.has a (hhas a h) with z | z
    · exact .inl (has_wipe z)
    · exact .inr z
  · have hj : j ∉ vs := fun z => noCell_not nc z h
    obtain ⟨_, c', y⟩ := s.bor j c (by show (wipeE g.env vs)[j]? = _; rw [wipeE_out hj]; exact h)
    exact ⟨rfl, c', by show (restE g.env vs g'.env)[j]? = _; rw [restE_out hj]; exact y⟩
  · have hj : j ∉ vs := fun z => noCell_not nc z h
    obtain ⟨_, y⟩ := s.lck j c (by show (wipeE g.env vs)[j]? = _; rw [wipeE_out hj]; exact h)
    exact ⟨rfl, by show (restE g.env vs g'.env)[j]? = _; rw [restE_out hj]; exact y⟩
  · show g.st.length = (restE g.env vs g'.env).length
    rw [restE_length, hl, ok.len]
  · rcases get h with ⟨h1, h2⟩ | ⟨h1, h2, h3⟩
    · obtain ⟨v, q1, q2⟩ := ok.dat j x h2
      exact ⟨v, q1, Dv.ext s.ext (fun a z => Own.sub ok a (own_wipe z)) x v q2⟩
    · obtain ⟨v, q1, q2⟩ := ok'.dat j x h2
      exact ⟨v, h3.trans q1, q2⟩
  · obtain ⟨h1, h2, h3⟩ := cl h
    obtain ⟨a, q1, q2⟩ := ok'.cel j m c h2
    exact ⟨a, h3.trans q1, q2⟩
  · obtain ⟨_, p2, p3⟩ := cl hi
    obtain ⟨_, q2, q3⟩ := cl hj
    exact ok'.dis i j m c m' c' a p2 q2 (p3.symm.trans e1) (q3.symm.trans e2)
theorem has_unlock1 {i : Nat} {a : Addr} (s : Stp { g with env := lock1 g.env i } g') (h : Has { g' with env := unlock1 g.env i g'.env } a) : Has g' a := by
  cases hi : g.env[i]? with
  | none => have e2 : unlock1 g.env i g'.env = g'.env := by unfold unlock1; rw [hi]
            rw [e2] at h; exact h
  | some o => cases o with
    | none => have e2 : unlock1 g.env i g'.env = g'.env := by unfold unlock1; rw [hi]
              rw [e2] at h; exact h
    | some mv => cases mv with
      | d x => have e2 : unlock1 g.env i g'.env = g'.env := by unfold unlock1; rw [hi]
               rw [e2] at h; exact h
      | cell m0 c0 =>
        have e1 : lock1 g.env i = g.env.set i (some (.cell .lock c0)) := by unfold lock1; rw [hi]
        have e2 : unlock1 g.env i g'.env = g'.env.set i (some (.cell m0 c0)) := by unfold unlock1; rw [hi]
        have hil : i < g.env.length := (List.getElem?_eq_some_iff.mp hi).1
        have hl1 : (lock1 g.env i)[i]? = some (some (.cell .lock c0)) := by rw [e1, List.getElem?_set_self hil]
        obtain ⟨z1, z2⟩ := s.lck i c0 hl1
        rw [e2] at h
        obtain ⟨k, m, c, y1, y2⟩ := h
        by_cases e : k = i
        · subst e; exact ⟨k, _, _, z2, y2⟩
        · have y1 : (g'.env.set i _)[k]? = _ := y1
          rw [List.getElem?_set_ne (Ne.symm e)] at y1
          exact ⟨k, m, c, y1, y2⟩
/-- a new list of ours that no slot holds is written -/
theorem bump {g0 : G} {D : Addr} {ws ws' : List V} (ok : g.Ok K) (hA : g.A D) (hn : ¬ Has g D) (hD : g.H D = some (.lst ws)) (h0 : g0.H D = none) (s : Stp g0 g) :
    Ext (fun b => b = D) g.A g.H g.A (upd g.H D (.lst ws')) ∧ Stp g0 { g with H := upd g.H D (.lst ws') } ∧ ({ g with H := upd g.H D (.lst ws') } : G).Ok K := by
  have e : Ext (fun b => b = D) g.A g.H g.A (upd g.H D (.lst ws')) :=
    ⟨fun b o h n => by rw [upd_ne n]; exact h, fun b o h => by rw [upd_ne (fun z => by rw [z, hD] at h; cases h)]; exact h, fun b o u h => by rw [upd_ne (fun z => by rw [z, hD] at h; cases h)]; exact h,
      fun b h => by by_cases z : b = D; (rw [z, upd_same]; simp); (rw [upd_ne z]; exact h), fun b h _ => h, fun b h => .inl h⟩
  have sub : ∀ b, b = D → g.A b := fun b z => by rw [z]; exact hA
  refine ⟨e, ⟨⟨fun b o h n => ?_, fun b o h => ?_, fun b o u h => ?_, fun b h => e.dom b (s.ext.dom b h), s.ext.av1, s.ext.av2⟩, s.own, s.has, s.bor, s.lck⟩, ⟨ok.len, fun j y hj => ?_, fun j m c hj => ?_, ok.dis, fun b hb => e.dom b (ok.dom b hb)⟩⟩
  · exact e.keep b o (s.ext.keep b o h n) fun z => by rw [z, h0] at h; cases h
  · exact e.tup b o (s.ext.tup b o h)
  · exact e.frz b o u (s.ext.frz b o u h)
  · obtain ⟨v, h1, h2⟩ := ok.dat j y hj
    exact ⟨v, h1, Dv.ext e sub y v h2⟩
  · obtain ⟨b, h1, h2, h3⟩ := ok.cel j m c hj
    refine ⟨b, h1, h2, ?_⟩
    exact h3.go e sub (fun z => hn ⟨j, m, _, hj, by rw [← z]; exact h1⟩) fun dx q z => by rw [z, hD] at q; cases q
end
theorem has_unlock {K : PySem.W.Frag} : ∀ (lk : List Nat) {g g' : G} {a : Addr}, g.Ok K → g'.Ok K → Stp (lockG lk g) g' → Has { g' with env := unlockAll lk g.env g'.env } a → Has g' a
  | [], _, _, _, _, _, _, h => h
  | i :: q, g, g', a, ok, ok', s, h => by
    obtain ⟨s2, o2⟩ := unlock_all q (g := { g with env := lock1 g.env i }) (g' := g') (ok_lock1 ok) s ok'
    exact has_unlock q (g := { g with env := lock1 g.env i }) (ok_lock1 ok) ok' s (has_unlock1 (g := g) s2 h)
/-- the tests of a clause -/
structure FTs (X : Cx) (es : List Expr) (f : TF) : Prop where
  pts : ∀ W, Takes X W → PTs X es (tTt X W f)
def fYes : TF := fun env => .ok (true, env)
theorem fts_nil {X : Cx} : FTs X [] fYes := ⟨fun W tk => ⟨fun pins s σ H Q I hq => by
  obtain ⟨g, rfl, rfl, ok, o⟩ := hq
  exact pts_nil.run pins s g.st g.H Q I (o g rfl rfl (.refl g) ok)⟩⟩
theorem fts_one {X : Cx} {c : Expr} {f : TF} (h : FT X c f) : FTs X [c] f := ⟨fun W tk => pts_one (h.pt W tk)⟩
def cLoop (b : BF) (vs : List Nat) (tt : TF) (te : CF) : List PyData → SE → List PyData → Res (List PyData × SE)
  | [], env, acc => .ok (acc, env)
  | x :: xs, env, acc => if noCell env vs = true then match b x (wipeE env vs) with
    | none => .fail
    | some e1 => match tt e1 with
      | .ok (true, e2) => match te e2 with
        | .ok (y, e3) => if acc.length < lim then cLoop b vs tt te xs (restE env vs e3) (acc ++ [y]) else .fail
        | .exc _ _ _ => .fail
        | .fail => .fail
      | .ok (false, e2) => cLoop b vs tt te xs (restE env vs e2) acc
      | .exc _ _ _ => .fail
      | .fail => .fail
    else .fail
def fComp (fi : IF) (b : BF) (vs : List Nat) (tt : TF) (te : CF) : EF := fun env => (fi env).bind fun p => match cLoop b vs tt te p.1.1 (lockAll p.1.2 p.2) [] with
  | .ok (acc, e) => .ok (.tmp (.lst acc), unlockAll p.1.2 p.2 e)
  | .exc _ _ _ => .fail
  | .fail => .fail
theorem comp_core {X : Cx} {own : List (Str × Nat)} {fi : IF} {vb : List Nat} {b : BF} {tt : TF} {te : CF} (hsub : ∀ i ∈ vb, i ∈ own.map (·.2)) {W : WX} {g : G} {Q : VK} (ok : g.Ok X.K) (o : Out X W g (fComp fi b (own.map (·.2)) tt te g.env) fun g' rv => ∀ v, RVR X.K g.H g' rv v → Q v g'.H) :
    tLc (tIt X W fi) (tBd X vb b) (tTt X (fun _ _ _ _ => False) tt) (tCn X (fun _ _ _ _ => False) te) (own.map (·.2)) g.st g.H Q := by
  generalize own.map (·.2) = vs at *
  refine ⟨g, rfl, rfl, ok, o.bind0.imp fun g1 p st e o1 q J L hL hJ D hD => ?_⟩
  obtain ⟨ds, lk⟩ := p
  obtain ⟨S, s0, sx, sd, sj⟩ := hJ
  cases hr : cLoop b vs tt te ds (lockAll lk g1.env) [] with
  | exc c fs env' => rw [hr] at q; exact q.elim
  | fail => rw [hr] at q; exact q.elim
  | ok y =>
  obtain ⟨fin, envF⟩ := y
  rw [hr] at q
  simp only at q
  have oL : (lockG lk g1).Ok X.K := ok_lockAll lk o1
  obtain ⟨sB1, sB2, a0, ha0, hA0, hC0, hf0, hh0⟩ := alloc_lst (g := lockG lk g1) oL hD Dvs.nil
  cases ha0
  have hLD : ∀ a, L a → a ≠ D := fun a la z => sd _ _ s0 a la (by rw [z]; exact hD)
  have hne : ∀ {a o}, g1.H a = some o → a ≠ D := fun {a o} h z => by rw [z, hD] at h; cases h
  have sS : S (fun b => g1.A b ∨ b = D) (upd g1.H D (.lst [])) := sx (fun _ => False) _ _ _ _ s0 ⟨fun a o h _ => by rw [upd_ne (hne h)]; exact h, sB1.ext.tup, sB1.ext.frz, sB1.ext.dom, fun a h _ => .inl h, sB1.ext.av2⟩ (fun _ z => z.elim) (fun _ _ z => z)
  refine ⟨fun i m H => m = ds.length - i ∧ i ≤ ds.length ∧ ∃ (g2 : G) (acc : List PyData) (ws : List V), g2.st = g.st ∧ g2.H = H ∧ g2.Ok X.K ∧ Stp (lockG lk g1) g2 ∧ S g2.A g2.H ∧ g2.A D ∧ g2.H D = some (.lst ws) ∧ Dvs X.K g2.A g2.H acc ws ∧ ¬ Has g2 D ∧ cLoop b vs tt te (ds.drop i) g2.env acc = .ok (fin, envF),
    ⟨ds.length, rfl, Nat.zero_le _, _, [], [], ?_, ?_, sB2, sB1, sS, .inr rfl, upd_same, Dvs.nil, hh0, hr⟩, ?_⟩
  · exact e
  · rfl
  rintro i m H' ⟨rfl, hle, g2, acc, ws, k1, rfl, o2, s2, ss, hA, hH, hd, hh, oo⟩
  by_cases hlt : i < ds.length
  · obtain ⟨go, yl⟩ := (sj _ _ ss).1 i _ (List.getElem?_eq_getElem hlt)
    rw [List.drop_eq_getElem_cons hlt] at oo
    simp only [cLoop] at oo
    split at oo
    · rename_i nc
      refine .inr ⟨go, _, fun H' z => ⟨ds.length - (i + 1), by omega, z⟩, fun x H' hy => ?_⟩
      obtain ⟨ex, dv⟩ := yl x H' hy
      have s3 : Stp g2 { g2 with H := H' } := Stp.same ex
      have o3 : ({ g2 with H := H' } : G).Ok X.K := o2.ext (ex _) (fun _ h => h) (fun a h => (ex (fun _ => False)).dom a (o2.dom a h))
      have h3 : H' D = some (.lst ws) := (ex (fun _ => False)).keep D _ hH id
      cases hb1 : b ds[i] (wipeE g2.env vs) with
      | none => rw [hb1] at oo; cases oo
      | some env1 =>
        rw [hb1] at oo
        simp only at oo
        rw [← k1]
        have turn : ∀ g5 : G, Stp (wipeG vs { g2 with H := H' }) g5 → g5.Ok X.K → wipe g5.st vs = wipe g2.st vs → ({ g5 with st := g2.st, env := restE g2.env vs g5.env } : G).Ok X.K ∧ Stp (lockG lk g1) { g5 with st := g2.st, env := restE g2.env vs g5.env } ∧ S g5.A g5.H ∧ g5.A D ∧ g5.H D = some (.lst ws) ∧ Dvs X.K g5.A g5.H acc ws ∧ ¬ Has { g5 with st := g2.st, env := restE g2.env vs g5.env } D := fun g5 s5 o5 hw => by
          obtain ⟨r1, r2, r3⟩ := rest_step (g := { g2 with H := H' }) o3 nc s5 o5 hw
          have s25 := s3.trans o2 r1
          have nh : ¬ Has (wipeG vs { g2 with H := H' }) D := fun z => hh (has_wipe z)
          have no : ¬ Own (wipeG vs { g2 with H := H' }) D := fun ⟨i, m, c, q1, _, q2⟩ => nh ⟨i, m, c, q1, q2⟩
          refine ⟨r2, s2.trans oL s25, sx (Own g2) _ _ _ _ ss s25.ext (Own.sub o2) (fun a la ow => ?_), s5.ext.av1 D hA no, s5.ext.keep D _ h3 no, s25.dvs o2 hd, fun z => ?_⟩
          · rcases s2.own a ow with z | z
            · exact hL a la z
            · exact sd _ _ s0 a la z
          · rcases s5.has D (r3 D z) with y | y
            · exact nh y
            · exact absurd y (by show H' D ≠ none; rw [h3]; simp)
        refine ⟨wipeG vs { g2 with H := H' }, ds[i], env1, rfl, rfl, ok_wipe o3, dv, hb1, fun g4 e4 a4 f4 s4 o4 h4 => ?_⟩
        have hw : wipe g4.st vs = wipe g2.st vs := wipe_same (by rw [f4.1]; exact wipe_length _ _) fun j hj => by
          rw [(f4.2.2 j fun z => hj (hsub j z)).1]
          exact wipe_out hj
        refine ⟨hw, g4, rfl, rfl, o4, ?_⟩
        rw [e4]
        cases ht : tt env1 with
        | exc c fs env' => rw [ht] at oo; cases oo
        | fail => rw [ht] at oo; cases oo
        | ok y =>
          obtain ⟨bb, e2⟩ := y
          rw [ht] at oo
          intro g5 e5 q5 s5 o5
          cases bb with
          | false =>
            simp only at oo
            obtain ⟨t1, t2, t3, t4, t5, t6, t7⟩ := turn g5 (s4.trans (ok_wipe o3) s5) o5 (by rw [q5]; exact hw)
            exact ⟨rfl, hlt, { g5 with st := g2.st, env := restE g2.env vs g5.env }, acc, ws, rfl, rfl, t1, t2, t3, t4, t5, t6, t7, by show cLoop b vs tt te _ (restE g2.env vs g5.env) _ = _; rw [e5]; exact oo⟩
          | true =>
            simp only at oo
            refine ⟨g5, q5, rfl, o5, ?_⟩
            rw [e5]
            cases hte : te e2 with
            | exc c fs env' => rw [hte] at oo; cases oo
            | fail => rw [hte] at oo; cases oo
            | ok y =>
              obtain ⟨y, e3⟩ := y
              rw [hte] at oo
              simp only at oo
              intro g6 e6 q6 s6 o6 v dv6
              obtain ⟨t1, t2, t3, t4, t5, t6, t7⟩ := turn g6 ((s4.trans (ok_wipe o3) s5).trans (ok_wipe o3) s6) o6 (by rw [q6, q5]; exact hw)
              split at oo
              · rename_i hlen
                obtain ⟨b1, b2, b3⟩ := bump (g0 := lockG lk g1) (g := { g6 with st := g2.st, env := restE g2.env vs g6.env }) (ws' := ws ++ [v]) t1 t4 t7 t5 hD t2
                have sub : ∀ b, b = D → g6.A b := fun b z => by rw [z]; exact t4
                refine ⟨ws, t5, by rw [← t6.length, ← lim_line]; exact hlen, rfl, hlt, { g6 with st := g2.st, env := restE g2.env vs g6.env, H := upd g6.H D (.lst (ws ++ [v])) }, acc ++ [y], ws ++ [v], rfl, rfl, b3, b2, sx (fun b => b = D) _ _ _ _ t3 b1 sub (fun a la z => hLD a la z), t4, upd_same, ?_, t7, ?_⟩
                · exact Dvs.append (Dvs.ext b1 sub _ _ t6) (Dvs.one (Dv.ext b1 sub _ _ dv6))
                · show cLoop b vs tt te _ (restE g2.env vs g6.env) _ = _
                  rw [e6]; exact oo
              · cases oo
    · cases oo
  · have hi : i = ds.length := by omega
    subst hi
    refine .inl ⟨(sj _ _ ss).2, ?_⟩
    simp only [List.drop_length, cLoop, Res.ok.injEq, Prod.mk.injEq] at oo
    obtain ⟨rfl, rfl⟩ := oo
    obtain ⟨s3, o3⟩ := unlock_all lk o1 s2 o2
    exact q { g2 with env := unlockAll lk g1.env g2.env } rfl k1 (st.trans ok s3) o3 (.ref D) ⟨D, rfl, hA, ⟨ws, hH, hd⟩, none_of_dom st.ext.dom hD, fun z => hh (has_unlock lk o1 o2 s2 z)⟩
theorem fe_comp {X : Cx} {elt tg iter : Expr} {ifs : List Expr} {scope : Scope} {own : List (Str × Nat)} {pos : Pos} {fi : IF} {vb : List Nat} {b : BF} {tt : TF} {te : CF} (hc : X.calm = true) (hN : X.N.Nodup) (hi : FI X tg iter fi) (ok : BlkOk X.N X.env.scope scope own)
    (hg : ∀ (s : Shared) (H : Hp) (C : Addr) (cl : List (Str × Addr)) (fp : List Addr), FG (X.blk s H scope (compEnvC scope cl C X.env) fp) tg vb b) (ht : ∀ (s : Shared) (H : Hp) (C : Addr) (cl : List (Str × Addr)) (fp : List Addr), FTs (X.blk s H scope (compEnvC scope cl C X.env) fp) ifs tt)
    (he : ∀ (s : Shared) (H : Hp) (C : Addr) (cl : List (Str × Addr)) (fp : List Addr), FC (X.blk s H scope (compEnvC scope cl C X.env) fp) elt te) (hsub : ∀ i ∈ vb, i ∈ own.map (·.2) := by decide)
    (hs : ∀ x, foldedSetIterable iter X.env x = pure x := by first | exact fun _ => rfl | assumption) : FE X (.ListComp elt [⟨tg, iter, ifs, 0⟩] scope pos) (fComp fi b (own.map (·.2)) tt te) := by
  refine ⟨fun W tk => ⟨fun pins s σ H Q I hq => ?_⟩⟩
  obtain ⟨g, rfl, rfl, o1, o⟩ := hq
  refine (pe_lc (X := X) (wi := tIt X W fi) (g := tBd X vb b) (tt := tTt X (fun _ _ _ _ => False) tt) (te := tCn X (fun _ _ _ _ => False) te) hc hN (hi.pi W tk) ok (fun s H C cl fp => (hg s H C cl fp).pg) (fun s H C cl fp => (ht s H C cl fp).pts _ takes0) (fun s H C cl fp => (he s H C cl fp).pe _ takes0) hs).run pins s g.st g.H Q I ?_
  exact comp_core hsub o1 o
end BH
set_option maxRecDepth 100000
set_option maxHeartbeats 2000000
namespace BH
open PySem PySem.Spec PyProof.Rows L2
/-! ### further stores -/
def fBind (b : BF) (f : CF) : SF := fun env => (f env).bind fun p => match b p.1 p.2 with
  | some env' => .ok (.nx, env')
  | none => .fail
theorem fs_bind {X : Cx} {tg e : Expr} {f : CF} {vs : List Nat} {b : BF} {pos : Pos} (h : FC X e f) (hg : FG X tg vs b) (hs : swapsWithSole [tg] e pos.line X.env = pure false := by rfl) (hw : swappedStores [tg] e X.env = pure none := by rfl)
    (h1 : (assignEach [tg] X.env).map (·.2) = [assign tg X.env] := by rfl) : FS X (.Assign [tg] e pos) (fBind b f) := by
  refine ⟨fun W tk hp => ⟨fun pins s σ H D I hq => ?_⟩⟩
  obtain ⟨g, rfl, rfl, ok, o⟩ := hq
  refine (ps_asg (h.pe W tk) hg.pg hs hw h1).run pins s g.st g.H D I ⟨g, rfl, rfl, ok, (OutS.bindE o).imp fun g1 x st e o1 p v dv => ?_⟩
  cases hb : b x g1.env with
  | none => rw [hb] at p; exact p.elim
  | some env' =>
    rw [hb] at p
    exact ⟨g1, x, env', e, rfl, o1, dv, hb, fun g2 e2 _ _ s2 o2 _ => p g2 e2 (st.trans ok s2) o2⟩
/-- an own list in slot j is changed -/
def pokeE (env : SE) (j : Nat) (f : List PyData → Option (List PyData)) : Option SE := match env[j]? with
  | some (some (.cell .own (.lst xs))) => (f xs).map fun ys => env.set j (some (.cell .own (.lst ys)))
  | some (some (.cell .bor (.lst xs))) => (f xs).map fun ys => env.set j (some (.cell .bor (.lst ys)))
  | _ => none
theorem poke_of {K : PySem.W.Frag} {g : G} {j : Nat} {f : List PyData → Option (List PyData)} {env' : SE} {v : V} (ok : g.Ok K) (hv : g.st[j]? = some (some v)) (h : pokeE g.env j f = some env') :
    ∃ (m : Mode) (a : Addr) (xs ys : List PyData) (vs : List V), v = .ref a ∧ m ≠ .lock ∧ g.env[j]? = some (some (.cell m (.lst xs))) ∧ f xs = some ys ∧ g.H a = some (.lst vs) ∧ Dvs K g.A g.H xs vs ∧ env' = g.env.set j (some (.cell m (.lst ys))) := by
  unfold pokeE at h
  split at h
  · rename_i xs hj
    cases hf : f xs with
    | none => rw [hf] at h; cases h
    | some ys =>
      rw [hf] at h; cases h
      obtain ⟨a, q1, q2, vs, q3, q4⟩ := ok.cel j _ _ hj
      rw [hv] at q1; cases q1
      exact ⟨.own, a, xs, ys, vs, rfl, by simp, hj, hf, q3, q4, rfl⟩
  · rename_i xs hj
    cases hf : f xs with
    | none => rw [hf] at h; cases h
    | some ys =>
      rw [hf] at h; cases h
      obtain ⟨a, q1, q2, vs, q3, q4⟩ := ok.cel j _ _ hj
      rw [hv] at q1; cases q1
      exact ⟨.bor, a, xs, ys, vs, rfl, by simp, hj, hf, q3, q4, rfl⟩
  · cases h
def fSetIx (fo : EF) (fi fv : CF) : SF := fun env => (fv env).bind fun p => (fo p.2).bind fun q => (fi q.2).bind fun r => match q.1, r.1 with
  | .slot j, .int k => match pokeE r.2 j fun xs => (ixN xs.length k).map fun n => xs.set n p.1 with
    | some env' => .ok (.nx, env')
    | none => .fail
  | _, _ => .fail
theorem fs_setIx {X : Cx} {o i e : Expr} {fo : EF} {fi fv : CF} {pos pos' : Pos} (hv : FC X e fv) (ho : FE X o fo) (hi : FC X i fi) (hs : swapsWithSole [.Subscript o i pos'] e pos.line X.env = pure false := by rfl) (hw : swappedStores [.Subscript o i pos'] e X.env = pure none := by rfl)
    (h1 : (assignEach [.Subscript o i pos'] X.env).map (·.2) = [assign (.Subscript o i pos') X.env] := by rfl)
    (ha : ∀ v, assign (.Subscript o i pos') X.env v = (do
      let ov ← holding [v] (eval o X.env)
      let iv ← holding [v, ov] (eval i X.env)
      standAt pos'
      holding [v, ov, iv] (setItem ov iv v)
      release [v, ov, iv] []) := by intro _; rfl) : FS X (.Assign [.Subscript o i pos'] e pos) (fSetIx fo fi fv) := by
  refine ⟨fun W tk hp => ⟨fun pins s σ H D I hq => ?_⟩⟩
  obtain ⟨g, rfl, rfl, ok, oo⟩ := hq
  refine (ps_asg (hv.pe W tk) (pg_sub (ho.pe W tk) (hi.pe W tk) set_list ha) hs hw h1).run pins s g.st g.H D I ⟨g, rfl, rfl, ok, (OutS.bindE oo).imp fun g1 x st e o1 p v dv => ?_⟩
  refine ⟨g1, e, rfl, o1, (OutS.bindE (OutS.rebase ok st p)).imp fun g2 rv st2 e2 o2 p2 w rr => ?_⟩
  refine ⟨g2, e2.trans e, rfl, o2, (OutS.bindE (OutS.rebase o1 st2 p2)).imp fun g3 y st3 e3 o3 p3 z dz => ?_⟩
  have dv3 := (st2.trans o1 st3).dv o1 dv
  have rr3 := rr.step o2 st3 e3
  split at p3
  · rename_i j k hq hk
    change rv = .slot j at hq
    change y = .int k at hk
    subst hq hk
    have hst : g3.st[j]? = some (some w) := rr3
    cases hp3 : pokeE g3.env j fun xs => (ixN xs.length k).map fun n => xs.set n x with
    | none => rw [hp3] at p3; exact p3.elim
    | some env' =>
      rw [hp3] at p3
      simp only at p3
      obtain ⟨m, a, xs, ys, vs, rfl, hm, hj, hf, hH, hd, he⟩ := poke_of o3 hst hp3
      cases hn : ixN xs.length k with
      | none => rw [hn] at hf; cases hf
      | some n =>
        rw [hn] at hf; cases hf
        simp only [Dv] at dz
        have dz := dz
        obtain ⟨s4, o4⟩ := poke (ws := vs.set n v) o3 hj hm hst hH (Dvs.set dv3 n hd)
        rw [← he] at s4 o4
        have e4 : g3.st = g.st := e3.trans (e2.trans e)
        refine ⟨a, vs, k, n, rfl, dz, hH, by rw [← hd.length]; exact hn, ?_⟩
        have := p3 _ rfl (st3.trans o2 s4) o4
        rw [← e4]
        exact this
  · exact p3.elim
/-! ### zip -/
end BH
set_option maxRecDepth 100000
set_option maxHeartbeats 2000000
namespace BH
open PySem PySem.Spec PyProof.Rows L2
/-! ### repr -/
/-! ### isinstance -/
def fIsa (op : PyData → Bool) (f : EF) : EF := fun env => (f env).bind fun p => match p.1.view p.2 with
  | some x => .ok (.d (.bool (op x)), p.2)
  | none => .fail
/-- the library's rule for the class T -/
def IsaRule (X : Cx) (T : String) (op : PyData → Bool) : Prop :=
  ∀ {s : Shared} {v : Value} {d : PyData} {as : List Addr} {Q : Value → Shared → Prop}, Reads s.heap v d as → (∀ tk, s.toks ≤ tk → Q (.bool (op d)) { s with toks := tk }) → wpAny (model X.prog X.w) X.A (call (.builtin "isinstance") [v, .type T]) Q X.xe s
theorem isa_int {X : Cx} : IsaRule X "int" PyData.isInt := fun r h => PySem.W.isinstance_int_data r h
theorem isa_bool {X : Cx} : IsaRule X "bool" PyData.isBool := fun r h => PySem.W.isinstance_bool_data r h
theorem isa_tuple {X : Cx} : IsaRule X "tuple" PyData.isTuple := fun r h => PySem.W.isinstance_tuple_data r h
theorem fe_isa {X : Cx} {T : String} {n : Str} {op : PyData → Bool} {e : Expr} {f : EF} {p pn pos : Pos} (hr : IsaRule X T op) (hg : Gl X "isinstance") (hm : X.mg "isinstance" = none) (hg2 : Gl X n) (hm2 : X.mg n = none) (hv2 : bootBuiltins n = some (.type T)) (h : FE X e f)
    (hn2 : n ≠ "__name__" := by decide) (hd2 : (n == ("__debug__" : Str)) = false := by decide)
    (he : starEach [e, .Name n pn] X.env = (false, eval e X.env) :: starEach [.Name n pn] X.env := by rfl) (hpl : (backTo pos (starEach [.Name n pn] X.env)).any (·.1) = false := by rfl)
    (he2 : starEach [.Name n pn] X.env = [(false, eval (.Name n pn) X.env)] := by rfl) : FE X (.Call (.Name "isinstance" p) [e, .Name n pn] [] pos) (fIsa op f) :=
  fe_mk fun W tk g pins s P ok I o => by
    refine wpAny_Call_Name_kw (ld_blt I hg hm (show bootBuiltins ("isinstance" : Str) = some (.builtin "isinstance") from rfl) ?_)
    refine PyProof.Rows.callWith_builtin1 ?_ he hpl
    rw [he, he2]
    show wpAny _ _ (spliced ((false, eval e X.env) :: backTo pos [(false, eval (.Name n pn) X.env)])) _ _ s
    refine Calls.spliced_cons (h.go tk ok I o.bind0 fun u s1 g1 rv v e1 I1 r o1 st rr p => ?_)
    refine Calls.spliced_cons ((pe_bltn (X := X) (v := .ty T) (pos := pn) hg2 hm2 hv2 rfl hn2 hd2).run pins s1 g1.st g1.H (fun v' H' => v' = .ty T ∧ H' = g1.H) I1 ⟨rfl, rfl⟩ |> fun q => thn q fun u2 s2 ⟨v2, H2, I2, r2, z1, z2⟩ => ?_)
    subst z1 z2
    cases r2
    refine Calls.spliced_nil ?_
    cases hx : rv.view g1.env with
    | none => rw [hx] at p; exact p.elim
    | some x =>
      rw [hx] at p
      obtain ⟨as, rd⟩ := (rr.dw o1 hx).reads I2 r
      refine hr rd fun tk' _ => ?_
      refine ⟨.bl (op x), g1, .d (.bool (op x)), ?_, rfl, by show Dv _ _ _ _ _; simp only [Dv], p g1 rfl e1 st o1⟩
      rw [← e1]
      exact I2.kept (t' := tk') fun _ _ e => e
end BH
set_option maxRecDepth 100000
set_option maxHeartbeats 2000000
namespace BH
open PySem PySem.Spec PyProof.Rows L2
/-! ### a def's promise, where no guard is on the stack -/
structure FnG (P : Program) (w : World) (K : PySem.W.Frag) (mg : Str → Option Value) (base : Heap) (k : Nat) (f : Addr) (fd : FuncData) (ps : List Str) (sp : Sp) : Prop where
  len : ∀ vs H Q E, sp vs H Q E → vs.length = ps.length
  go : ∀ (A : Around) (outer : List Env) (s : Shared) (H : Hp) (args : Args) (us : List Value) (vs : List V) (Q : VK) (E : XK), Room k A → A.guards = some [] → Env0 P w K mg base A outer s H → BindsTo s fd args (ps.zip us) → Vals vs us → sp vs H Q E →
    codeAny (model P w) A (.call (.ref f) args) (CR (L2.CX P w) outer P w H s Q E) s
theorem FnG.mono {P : Program} {w : World} {K : PySem.W.Frag} {mg : Str → Option Value} {base : Heap} {j k : Nat} {f : Addr} {fd : FuncData} {ps : List Str} {sp : Sp} (F : FnG P w K mg base j f fd ps sp) (h : j ≤ k) : FnG P w K mg base k f fd ps sp :=
  ⟨F.len, fun A o s H args us vs Q E hr hg => F.go A o s H args us vs Q E (hr.mono h) hg⟩
theorem fn_g {P : Program} {w : World} {K : PySem.W.Frag} {mg : Str → Option Value} {base : Heap} {x qual : Str} {st : Stmt} {f : Addr} {fd : FuncData} {N ps : List Str} {k : Nat} {sp : Sp} (F : Fun K x qual st f fd) (S : FnScope N ps (defScope st)) (len : ∀ vs H Q E, sp vs H Q E → vs.length = ps.length)
    (hbody : ∀ (cdv : Value) (A : Around) (outer : List Env) (s : Shared) (H : Hp) (vs : List V) (Q : VK) (E : XK), Room k (A.deeper (envOfC qual (defScope st) s.heap.objs.size f cdv)) → (A.deeper (envOfC qual (defScope st) s.heap.objs.size f cdv)).guards = some [] → sp vs H Q E →
      ∃ t, PSs (cxOf (L2.CX P w) P w K mg base N qual (defScope st) f cdv A outer s H E) (defBody st) t ∧ t { nx := fun _ H' => Q .non H', rt := Q } (L2.start N vs) H) : FnG P w K mg base (k + 1) f fd ps sp := by
  obtain ⟨oc, od, kV, doc, pm, an, cdv, ct, osl, rfl, lk, hcd⟩ := F.ex
  refine ⟨len, fun A outer s H args us vs Q E hr hg e0 hb r hsp => ?_⟩
  have hl := len _ _ _ _ hsp
  have inS : K.In s.heap := e0.mod.kin.keeps fun b o e => (e0.bs b o e).1
  have noL : s.heap.NoLimit := e0.mod.nolimit.keeps fun b o e => (e0.bs b o e).1
  have kinds : ∀ y ∈ ps.zip us, (defScope st).names.lookup y.1 = some .local ∨ ((defScope st).names.lookup y.1 = some .cell ∧ ((cellsFrom (s.heap.objs.size + 1) (defScope st).names []).lookup y.1).isSome = true) := by
    rintro ⟨n, v⟩ hy
    refine (S.par n (List.of_mem_zip hy).1).imp id fun q => ⟨q, ?_⟩
    exact PySem.W.cellsFrom_some _ _ _ (.inl q)
  refine codeAny_call_function hr.depth (inS _ _ lk) rfl S.co S.gen rfl (PySem.W.codeRec_of inS hcd) (hb _ _ _ _ ?_)
  refine wpAny_newFunctionEnv_cells S.kind kinds fun env he s1 ic => ?_
  subst he
  refine ⟨noL.keeps ic.toInCall.keep, codeAny_func ?_⟩
  obtain ⟨t, ht, hq⟩ := hbody cdv A outer s H vs Q E (hr.deeper _) hg hsp
  refine wpAny_mono (ht.run [] s1 (L2.start N vs) H _ (inv_start S hr.hd e0 hl r ic) hq) (fun fl s' hs => ?_) fun e s' hs => hs
  have done : ∀ {σ' : L2.St} {H' : Hp} {v : V} {u : Value}, Inv (cxOf (L2.CX P w) P w K mg base N qual (defScope st) f cdv A outer s H E) [] σ' H' s' → RelV v u → Q v H' → CE outer P w H s Q u s' :=
    fun {σ' H' v u} J rv q => ⟨v, H', J.os, J.bare, J.base, J.hok, rv, q⟩
  cases fl with
  | ret u => obtain ⟨v, σ', H', J, rv, q⟩ := hs; exact done J rv q
  | next => obtain ⟨σ', H', J, q⟩ := hs; exact done (v := V.non) (u := Value.none) J rfl q
  | brk => exact hs.elim fun _ z => z.elim fun _ z => z.2.elim
  | cont => exact hs.elim fun _ z => z.elim fun _ z => z.2.elim
theorem run_g {X : Cx} {k : Nat} {f : Addr} {fd : FuncData} {ps : List Str} {sp : Sp} {E : XK} {pins : List (Addr × Obj)} {σ : L2.St} {H : Hp} {s : Shared} {Q : VK} {us : List Value} {vs : List V} (F : FnG X.prog X.w X.K X.mg X.base k f fd ps sp) (hr : Room k X.A) (hg : X.A.guards = some []) (hb : Binds X.K fd ps [])
    (hx : PassesAt (L2.CX X.prog X.w) X σ E) (I : Inv X pins σ H s) (r : Vals vs us) (h : sp vs H Q E) : wpAny (model X.prog X.w) X.A (call (.ref f) us) (EP X pins σ Q) X.xe s := by
  have hl : us.length = ps.length := by rw [← r.length]; exact F.len _ _ _ _ h
  have b := hb s us I.kIn (by rw [List.append_nil]; exact hl)
  rw [List.append_nil] at b
  refine wpAny_call (codeAny_mono (F.go X.A X.stack s H ⟨us, []⟩ us vs Q E hr hg I.env0 b r h) fun res s' hq => ?_)
  match res, hq with
  | .error e, hq => exact hx pins H s e s' I hq
  | .ok (.ret u), hq => exact I.after hq
/-! ### promises about data -/
inductive Arg where
  | d (x : PyData)
  | bor (c : Cell)
inductive FRes where
  | ok (r : Ret) (outs : List Arg)
  | exc (c : String) (fs : List (String × PyData)) (outs : List Arg)
  | fail
def ArgR (K : PySem.W.Frag) (A : AS) (H : Hp) : Arg → V → Prop
  | .d x, v => Dv K A H x v
  | .bor c, v => ∃ a, v = .ref a ∧ A a ∧ CellR K A H c a
def ArgsR (K : PySem.W.Frag) (A : AS) (H : Hp) : List Arg → List V → Prop
  | [], vs => vs = []
  | a :: as, vs => ∃ v t, vs = v :: t ∧ ArgR K A H a v ∧ ArgsR K A H as t
def BorL : List Arg → List V → AS
  | .bor _ :: as, v :: vs, a => v = .ref a ∨ BorL as vs a
  | .d _ :: as, _ :: vs, a => BorL as vs a
  | _, _, _ => False
def DisL : List Arg → List V → Prop
  | .bor _ :: as, v :: vs => (∀ a, v = .ref a → ¬ BorL as vs a) ∧ DisL as vs
  | .d _ :: as, _ :: vs => DisL as vs
  | _, _ => True
def OutsL (K : PySem.W.Frag) (A : AS) (H : Hp) : List Arg → List Arg → List V → Prop
  | [], _, _ => True
  | .bor _ :: as, .bor c' :: os, v :: vs => (∃ a, v = .ref a ∧ A a ∧ CellR K A H c' a) ∧ OutsL K A H as os vs
  | .d _ :: as, _ :: os, _ :: vs => OutsL K A H as os vs
  | _, _, _ => False
def RetC (K : PySem.W.Frag) (H0 : Hp) (A : AS) (H : Hp) : Ret → V → Prop
  | .d x, v => Dv K A H x v
  | .tmp c, v => ∃ a, v = .ref a ∧ A a ∧ CellR K A H c a ∧ H0 a = none
def ExcC (mg : Str → Option Value) (K : PySem.W.Frag) (A : AS) (H : Hp) (c : String) (fs : List (String × PyData)) (cls : Value) (d : Option Addr) : Prop :=
  ∃ C, cls = .ref C ∧ mg (Str.ofString c) = some (.ref C) ∧
    ((fs = [] ∧ d = none) ∨ ∃ dd vs, d = some dd ∧ H dd = some (.xd vs) ∧ fs.length = vs.length ∧
      ∀ (i : Nat) n x, fs[i]? = some (n, x) → ∃ v, vs[i]? = some (Str.ofString n, v) ∧ Dv K A H x v)
def FPost (mg : Str → Option Value) (K : PySem.W.Frag) (A : AS) (H : Hp) (as : List Arg) (vs : List V) (Q : VK) (E : XK) : FRes → Prop
  | .ok r outs => ∀ (A' : AS) (H' : Hp) v, Ext (BorL as vs) A H A' H' → (∀ a, A' a → H' a ≠ none) → OutsL K A' H' as outs vs → RetC K H A' H' r v → Q v H'
  | .exc c fs outs => ∀ (A' : AS) (H' : Hp) cls d, Ext (BorL as vs) A H A' H' → (∀ a, A' a → H' a ≠ none) → OutsL K A' H' as outs vs → ExcC mg K A' H' c fs cls d → E cls d H'
  | .fail => False
def spF (mg : Str → Option Value) (K : PySem.W.Frag) (n : Nat) (F : List Arg → FRes) : Sp := fun vs H Q E => ∃ (A : AS) (as : List Arg), as.length = n ∧ ArgsR K A H as vs ∧ DisL as vs ∧ (∀ a, A a → H a ≠ none) ∧ FPost mg K A H as vs Q E (F as)
def Arg.mv : Arg → Option MV
  | .d x => some (.d x)
  | .bor c => some (.cell .bor c)
def envOf (n : Nat) (as : List Arg) : SE := as.map Arg.mv ++ List.replicate (n - as.length) none
def outsOf : List Arg → SE → List Arg
  | [], _ => []
  | .d x :: as, e => .d x :: outsOf as e.tail
  | .bor c :: as, e => (match e with
    | some (.cell _ c') :: _ => .bor c'
    | _ => .bor c) :: outsOf as e.tail
def fnF (n : Nat) (f : SF) (as : List Arg) : FRes := match f (envOf n as) with
  | .ok (.nx, e) => .ok (.d .none) (outsOf as e)
  | .ok (.rt r, e) => .ok r (outsOf as e)
  | .exc c fs e => .exc c fs (outsOf as e)
  | _ => .fail
section
variable {K : PySem.W.Frag} {A : AS} {H : Hp}
theorem ArgsR.len : ∀ {as : List Arg} {vs : List V}, ArgsR K A H as vs → vs.length = as.length
  | [], _, h => by cases h; rfl
  | _ :: as, _, ⟨v, t, e, _, h⟩ => by rw [e, List.length_cons, List.length_cons, h.len]
theorem ArgsR.get : ∀ {as : List Arg} {vs : List V} {i : Nat} {a : Arg}, ArgsR K A H as vs → as[i]? = some a → ∃ v, vs[i]? = some v ∧ ArgR K A H a v
  | [], _, _, _, _, e => by simp at e
  | _ :: _, _, 0, _, ⟨v, t, rfl, h, _⟩, e => by simp at e; subst e; exact ⟨v, rfl, h⟩
  | _ :: as, _, i + 1, _, ⟨v, t, rfl, _, h⟩, e => by simpa using h.get (by simpa using e)
theorem borL_get : ∀ {as : List Arg} {vs : List V} {i : Nat} {c : Cell} {a : Addr}, as[i]? = some (.bor c) → vs[i]? = some (.ref a) → BorL as vs a
  | [], _, _, _, _, e, _ => by simp at e
  | _ :: _, [], _, _, _, _, e => by simp at e
  | x :: as, v :: vs, 0, c, a, e, e2 => by simp at e e2; subst e e2; exact .inl rfl
  | x :: as, v :: vs, i + 1, c, a, e, e2 => by
    have := borL_get (as := as) (vs := vs) (i := i) (by simpa using e) (by simpa using e2)
    cases x with
    | d y => exact this
    | bor y => exact .inr this
theorem disL_get : ∀ {as : List Arg} {vs : List V} {i j : Nat} {c c' : Cell} {a : Addr}, DisL as vs → as[i]? = some (.bor c) → as[j]? = some (.bor c') → vs[i]? = some (.ref a) → vs[j]? = some (.ref a) → i = j
  | [], _, _, _, _, _, _, _, e, _, _, _ => by simp at e
  | _ :: _, [], _, _, _, _, _, _, _, _, e, _ => by simp at e
  | x :: as, v :: vs, 0, 0, _, _, _, _, _, _, _, _ => rfl
  | x :: as, v :: vs, 0, j + 1, c, c', a, d, e1, e2, e3, e4 => by
    simp at e1 e3; subst e1 e3
    exact absurd (borL_get (i := j) (by simpa using e2) (by simpa using e4)) (d.1 a rfl)
  | x :: as, v :: vs, i + 1, 0, c, c', a, d, e1, e2, e3, e4 => by
    simp at e2 e4; subst e2 e4
    exact absurd (borL_get (i := i) (by simpa using e1) (by simpa using e3)) (d.1 a rfl)
  | x :: as, v :: vs, i + 1, j + 1, c, c', a, d, e1, e2, e3, e4 => by
    have d' : DisL as vs := by cases x with
      | d y => exact d
      | bor y => exact d.2
    rw [disL_get (i := i) (j := j) d' (by simpa using e1) (by simpa using e2) (by simpa using e3) (by simpa using e4)]
theorem outs_spec : ∀ {as : List Arg} {vs : List V} {e : SE}, vs.length = as.length → (∀ (i : Nat) c, as[i]? = some (.bor c) → ∃ a c', vs[i]? = some (.ref a) ∧ e[i]? = some (some (.cell .bor c')) ∧ A a ∧ CellR K A H c' a) → OutsL K A H as (outsOf as e) vs
  | [], _, _, _, _ => trivial
  | _ :: _, [], _, h, _ => by simp at h
  | .d x :: as, v :: vs, e, hl, h => by
    show OutsL K A H as (outsOf as e.tail) vs
    refine outs_spec (by simpa using hl) fun i c hc => ?_
    obtain ⟨a, c', h1, h2, h3⟩ := h (i + 1) c (by simpa using hc)
    exact ⟨a, c', by simpa using h1, by rw [List.getElem?_tail]; exact h2, h3⟩
  | .bor c0 :: as, v :: vs, e, hl, h => by
    obtain ⟨a, c', h1, h2, h3, h4⟩ := h 0 c0 rfl
    have ih : OutsL K A H as (outsOf as e.tail) vs := outs_spec (by simpa using hl) fun i c hc => by
      obtain ⟨a, c', h1, h2, h3⟩ := h (i + 1) c (by simpa using hc)
      exact ⟨a, c', by simpa using h1, by rw [List.getElem?_tail]; exact h2, h3⟩
    cases e with
    | nil => simp at h2
    | cons o r =>
      simp at h1 h2
      subst h2
      exact ⟨⟨a, h1, h3, h4⟩, ih⟩
end
theorem envOf_get {n : Nat} {as : List Arg} {i : Nat} {mv : MV} (h : (envOf n as)[i]? = some (some mv)) : ∃ a, as[i]? = some a ∧ a.mv = some mv := by
  unfold envOf at h
  by_cases hi : i < as.length
  · rw [List.getElem?_append_left (by simpa using hi), List.getElem?_map] at h
    cases e : as[i]? with
    | none => rw [e] at h; cases h
    | some a => rw [e] at h; simp at h; exact ⟨a, rfl, h⟩
  · rw [List.getElem?_append_right (by simpa using hi), List.getElem?_replicate] at h
    split at h <;> cases h
theorem start_get {N : List Str} {vs : List V} {i : Nat} {v : V} (h : vs[i]? = some v) : (L2.start N vs)[i]? = some (some v) := by
  have hi := (List.getElem?_eq_some_iff.mp h).1
  unfold L2.start
  rw [List.getElem?_append_left (by simpa using hi), List.getElem?_map, h]; rfl
theorem start_of {N : List Str} {vs : List V} {i : Nat} {v : V} (h : (L2.start N vs)[i]? = some (some v)) : vs[i]? = some v := by
  unfold L2.start at h
  by_cases hi : i < vs.length
  · rw [List.getElem?_append_left (by simpa using hi), List.getElem?_map] at h
    cases e : vs[i]? with
    | none => rw [e] at h; cases h
    | some a => rw [e] at h; simp at h; rw [h]
  · rw [List.getElem?_append_right (by simpa using hi), List.getElem?_replicate] at h
    split at h <;> cases h
/-- the body of a def, at its entry -/
theorem entry {X : Cx} {W : WX} {N : List Str} {as : List Arg} {vs : List V} {A : AS} {H : Hp} {Q : VK} {E : XK} {f : SF} (hle : as.length ≤ N.length) (ha : ArgsR X.K A H as vs) (hd : DisL as vs) (hdom : ∀ a, A a → H a ≠ none) (hW : W = fun cls d _ H => E cls d H) (hp : FPost X.mg X.K A H as vs Q E (fnF N.length f as)) :
    tS X W f { nx := fun _ H' => Q .non H', rt := Q } (L2.start N vs) H := by
  have hl := ha.len
  have ok : ({ A := A, H := H, st := L2.start N vs, env := envOf N.length as } : G).Ok X.K := by
    refine ⟨?_, fun i x h => ?_, fun i m c h => ?_, fun i j m c m' c' a h1 h2 h3 h4 => ?_, hdom⟩
    · show (L2.start N vs).length = (envOf N.length as).length
      unfold L2.start envOf
      simp [hl]
    · obtain ⟨a, h1, h2⟩ := envOf_get h
      obtain ⟨v, q1, q2⟩ := ha.get h1
      cases a with
      | d y => cases h2; exact ⟨v, start_get q1, q2⟩
      | bor c => cases h2
    · obtain ⟨a, h1, h2⟩ := envOf_get h
      obtain ⟨v, q1, q2⟩ := ha.get h1
      cases a with
      | d y => cases h2
      | bor c => cases h2; obtain ⟨b, rfl, q3, q4⟩ := q2; exact ⟨b, start_get q1, q3, q4⟩
    · obtain ⟨a1, q1, q2⟩ := envOf_get h1
      obtain ⟨a2, q3, q4⟩ := envOf_get h2
      cases a1 with
      | d y => cases q2
      | bor c => cases a2 with
        | d y => cases q4
        | bor c2 => exact disL_get hd q1 q3 (start_of h3) (start_of h4)
  refine ⟨{ A := A, H := H, st := L2.start N vs, env := envOf N.length as }, rfl, rfl, ok, ?_⟩
  have own : ∀ {a}, Own { A := A, H := H, st := L2.start N vs, env := envOf N.length as } a → ∃ (i : Nat) (c : Cell), (envOf N.length as)[i]? = some (some (.cell .bor c)) ∧ (L2.start N vs)[i]? = some (some (.ref a)) ∧ BorL as vs a := fun {a} ⟨i, m, c, h1, h2, h3⟩ => by
    obtain ⟨a1, q1, q2⟩ := envOf_get h1
    cases a1 with
    | d y => cases q2
    | bor c => cases q2; exact ⟨i, _, h1, h3, borL_get q1 (start_of h3)⟩
  have ext : ∀ {g' : G}, Stp { A := A, H := H, st := L2.start N vs, env := envOf N.length as } g' → Ext (BorL as vs) A H g'.A g'.H := fun {g'} s =>
    ⟨fun a o h n => s.ext.keep a o h fun z => n (own z).choose_spec.choose_spec.2.2, s.ext.tup, s.ext.frz, s.ext.dom, fun a h n => s.ext.av1 a h fun z => n (own z).choose_spec.choose_spec.2.2, s.ext.av2⟩
  have outs : ∀ {g' : G}, Stp { A := A, H := H, st := L2.start N vs, env := envOf N.length as } g' → g'.Ok X.K → OutsL X.K g'.A g'.H as (outsOf as g'.env) vs := fun {g'} s o => outs_spec hl fun i c hc => by
    obtain ⟨v, q1, a, rfl, q2, q3⟩ := ha.get hc
    have he : (envOf N.length as)[i]? = some (some (.cell .bor c)) := by
      unfold envOf
      rw [List.getElem?_append_left (by simpa using (List.getElem?_eq_some_iff.mp hc).1), List.getElem?_map, hc]; rfl
    obtain ⟨e1, c', e2⟩ := s.bor i c he
    obtain ⟨b, z1, z2, z3⟩ := o.cel i _ _ e2
    have e1 := e1.symm.trans z1
    have e3 := start_get (N := N) q1
    rw [e3] at e1; cases e1
    exact ⟨a, c', q1, e2, z2, z3⟩
  unfold fnF at hp
  show OutS X W _ (f (envOf N.length as)) _
  cases hf : f (envOf N.length as) with
  | ok y =>
    obtain ⟨x, env'⟩ := y
    rw [hf] at hp
    cases x with
    | nx => exact fun g' e s o => hp g'.A g'.H .non (ext s) o.dom (by rw [← e]; exact outs s o) (by show Dv _ _ _ _ _; simp only [Dv])
    | bk => exact hp.elim
    | ct => exact hp.elim
    | rt r =>
      refine fun g' v e s o rr => hp g'.A g'.H v (ext s) o.dom (by rw [← e]; exact outs s o) ?_
      cases r with
      | d x => exact rr
      | tmp c =>
        obtain ⟨a, h1, h2, h3, h4⟩ := rr
        refine ⟨a, h1, h2, h3, ?_⟩
        rcases h4 with h4 | ⟨h4, h5⟩
        · exact h4
        · rcases s.own a h4 with z | z
          · obtain ⟨i, c', z1, z2, z3⟩ := own z
            obtain ⟨y1, c2, y2⟩ := s.bor i c' z1
            exact absurd ⟨i, c2, y2, y1.trans z2⟩ h5
          · exact z
  | exc c fs env' =>
    rw [hf] at hp
    refine fun g' cls d e s o x => ?_
    rw [hW]
    exact hp g'.A g'.H cls d (ext s) o.dom (by rw [← e]; exact outs s o) x
  | fail => rw [hf] at hp; exact hp.elim
/-- THE RULE for a def -/
theorem fn_data {P : Program} {w : World} {K : PySem.W.Frag} {mg : Str → Option Value} {base : Heap} {x qual : Str} {st : Stmt} {f : Addr} {fd : FuncData} {N ps : List Str} {k : Nat} {fS : SF} (F : Fun K x qual st f fd) (S : FnScope N ps (defScope st))
    (hb : ∀ (cdv : Value) (A : Around) (outer : List Env) (s : Shared) (H : Hp) (E : XK), Room k (A.deeper (envOfC qual (defScope st) s.heap.objs.size f cdv)) → (A.deeper (envOfC qual (defScope st) s.heap.objs.size f cdv)).guards = some [] →
      FSs (cxOf (L2.CX P w) P w K mg base N qual (defScope st) f cdv A outer s H E) (defBody st) fS) : FnG P w K mg base (k + 1) f fd ps (spF mg K ps.length (fnF N.length fS)) := by
  refine fn_g F S (fun vs H Q E h => ?_) fun cdv A outer s H vs Q E hr hg h => ?_
  · obtain ⟨A, as, h1, h2, _⟩ := h
    rw [h2.len, h1]
  · obtain ⟨A0, as, h1, h2, h3, h4, h5⟩ := h
    have hpl : ps.length ≤ N.length := by have := congrArg List.length S.pre; rw [List.length_take] at this; omega
    exact ⟨_, (hb cdv A outer s H E hr hg).pss (fun cls d _ H => E cls d H) (takes_of rfl rfl rfl rfl) (passes_of rfl), entry (by rw [h1]; exact hpl) h2 h3 h4 rfl h5⟩
end BH
set_option maxRecDepth 100000
set_option maxHeartbeats 2000000
namespace BH
open PySem PySem.Spec PyProof.Rows L2
/-! ### a call of a def -/
inductive AV where
  | d (x : PyData)
  | ref (i : Nat)
abbrev AF := SE → Res (List AV × SE)
def AVR (K : PySem.W.Frag) (g : G) : AV → V → Prop
  | .d x, v => Dv K g.A g.H x v
  | .ref i, v => g.st[i]? = some (some v)
def AVsR (K : PySem.W.Frag) (g : G) : List AV → List V → Prop
  | [], vs => vs = []
  | a :: as, vs => ∃ v t, vs = v :: t ∧ AVR K g a v ∧ AVsR K g as t
def tAs (X : Cx) (W : WX) (f : AF) : TA := fun σ H Q => ∃ g : G, g.st = σ ∧ g.H = H ∧ g.Ok X.K ∧ Out X W g (f g.env) fun g' as => ∀ vs, AVsR X.K g' as vs → Q vs g'.H
structure FAs (X : Cx) (es : List Expr) (f : AF) : Prop where
  pa : ∀ W, Takes X W → PA X es (tAs X W f)
def aNil : AF := fun env => .ok ([], env)
def aDat (f : CF) (t : AF) : AF := fun env => (f env).bind fun p => (t p.2).bind fun q => .ok (.d p.1 :: q.1, q.2)
def aRef (i : Nat) (t : AF) : AF := fun env => match env[i]? with
  | some (some (.cell _ _)) => (t env).bind fun q => .ok (.ref i :: q.1, q.2)
  | _ => .fail
theorem FAs.go {X : Cx} {es : List Expr} {f : AF} (h : FAs X es f) {W : WX} (tk : Takes X W) {g : G} (ok : g.Ok X.K) {pos : Pos} {pins : List (Addr × Obj)} {s : Shared} (I : Inv X pins g.st g.H s) {P : G → List AV → Prop} (o : Out X W g (f g.env) P)
    {Q : List Value → Shared → Prop} (hQ : ∀ u s' g' x v, g'.st = g.st → Inv X pins g'.st g'.H s' → Vals v u → g'.Ok X.K → Stp g g' → AVsR X.K g' x v → P g' x → Q u s') :
    wpAny (model X.prog X.w) X.A (spliced (backTo pos (starEach es X.env))) Q X.xe s := by
  refine thn ((h.pa W tk).run pos pins s g.st g.H (fun v H' => ∃ g' x, g'.H = H' ∧ g'.st = g.st ∧ g'.Ok X.K ∧ Stp g g' ∧ AVsR X.K g' x v ∧ P g' x) I ⟨g, rfl, rfl, ok, o.imp fun g' x st e o p v r => ⟨g', x, rfl, e, o, st, r, p⟩⟩) ?_
  rintro u s' ⟨v, H', I', r, g', x, rfl, e, o', st, rr, p⟩
  exact hQ u s' g' x v e (e ▸ I') r o' st rr p
theorem fas_nil {X : Cx} : FAs X [] aNil := ⟨fun W tk => ⟨fun pos pins s σ H Q I hq => by
  obtain ⟨g, rfl, rfl, ok, o⟩ := hq
  exact pa_nil.run pos pins s g.st g.H Q I (o g rfl rfl (.refl g) ok [] rfl)⟩⟩
theorem fas_dat {X : Cx} {e : Expr} {es : List Expr} {f : CF} {t : AF} (h : FC X e f) (ht : FAs X es t) (hs : starEach (e :: es) X.env = (false, eval e X.env) :: starEach es X.env := by rfl) : FAs X (e :: es) (aDat f t) := by
  refine ⟨fun W tk => ⟨fun pos pins s σ H Q I hq => ?_⟩⟩
  obtain ⟨g, rfl, rfl, ok, o⟩ := hq
  rw [hs]
  show wpAny _ _ (spliced ((false, eval e X.env) :: backTo pos (starEach es X.env))) _ _ s
  refine Calls.spliced_cons (h.go tk ok I o.bind0 fun u s1 g1 x v e1 I1 r o1 st dv p => ?_)
  refine ht.go tk o1 I1 (p.rebase ok st e1).bind0 fun us s2 g2 xs vs e2 I2 r2 o2 st2 rr2 p2 => ?_
  exact ⟨v :: vs, g2.H, by rw [← e1, ← e2]; exact I2, .cons r r2, p2 g2 rfl e2 st2 o2 _ ⟨v, vs, rfl, st2.dv o1 dv, rr2⟩⟩
theorem fas_ref {X : Cx} {e : Expr} {es : List Expr} {i : Nat} {t : AF} (h : PE X e (tVar i)) (ht : FAs X es t) (hs : starEach (e :: es) X.env = (false, eval e X.env) :: starEach es X.env := by rfl) : FAs X (e :: es) (aRef i t) := by
  refine ⟨fun W tk => ⟨fun pos pins s σ H Q I hq => ?_⟩⟩
  obtain ⟨g, rfl, rfl, ok, o⟩ := hq
  rw [hs]
  show wpAny _ _ (spliced ((false, eval e X.env) :: backTo pos (starEach es X.env))) _ _ s
  unfold aRef at o
  split at o
  · rename_i m c hi
    obtain ⟨a, q1, _⟩ := ok.cel i m c hi
    refine Calls.spliced_cons (thn (h.run pins s g.st g.H (fun v H' => v = .ref a ∧ H' = g.H) I ⟨_, q1, rfl, rfl⟩) fun u s1 ⟨v, H1, I1, r, e1, e2⟩ => ?_)
    subst e1 e2
    refine ht.go tk ok I1 o.bind0 fun us s2 g2 xs vs e2 I2 r2 o2 st2 rr2 p2 => ?_
    exact ⟨.ref a :: vs, g2.H, by rw [← e2]; exact I2, .cons r r2, p2 g2 rfl e2 st2 o2 _ ⟨.ref a, vs, rfl, by show g2.st[i]? = _; rw [e2]; exact q1, rr2⟩⟩
  · exact o.elim
def refsOf : List AV → List Nat
  | [] => []
  | .d _ :: r => refsOf r
  | .ref i :: r => i :: refsOf r
def toArgs : List AV → SE → Option (List Arg)
  | [], _ => some []
  | .d x :: r, e => (toArgs r e).map fun t => .d x :: t
  | .ref i :: r, e => match e[i]? with
    | some (some (.cell .own c)) => (toArgs r e).map fun t => .bor c :: t
    | some (some (.cell .bor c)) => (toArgs r e).map fun t => .bor c :: t
    | _ => none
def putOut (e : SE) (i : Nat) (c : Cell) : SE := match e[i]? with
  | some (some (.cell m _)) => e.set i (some (.cell m c))
  | _ => e
def putOuts : List AV → List Arg → SE → SE
  | .ref i :: r, .bor c :: o, e => putOuts r o (putOut e i c)
  | .d _ :: r, _ :: o, e => putOuts r o e
  | _, _, e => e
def Ret.rv : Ret → RV
  | .d x => .d x
  | .tmp c => .tmp c
def fCallF (n : Nat) (F : List Arg → FRes) (fa : AF) : EF := fun env => (fa env).bind fun p => if (refsOf p.1).Nodup then match toArgs p.1 p.2 with
    | some as => if as.length = n then match F as with
      | .ok r outs => .ok (r.rv, putOuts p.1 outs p.2)
      | .exc c fs outs => .exc c fs (putOuts p.1 outs p.2)
      | .fail => .fail
      else .fail
    | none => .fail
  else .fail
section
variable {K : PySem.W.Frag} {g : G}
theorem args_spec (ok : g.Ok K) : ∀ {avs : List AV} {as : List Arg} {vs : List V}, AVsR K g avs vs → toArgs avs g.env = some as → ArgsR K g.A g.H as vs ∧ ∀ a, BorL as vs a → ∃ i ∈ refsOf avs, g.st[i]? = some (some (.ref a)) ∧ ∃ m c, g.env[i]? = some (some (.cell m c)) ∧ m ≠ .lock
  | [], as, vs, h, e => by
    cases e; cases h
    exact ⟨rfl, fun a z => z.elim⟩
  | .d x :: r, as, vs, ⟨v, t, e1, h1, h2⟩, e => by
    simp only [toArgs] at e
    cases he : toArgs r g.env with
    | none => rw [he] at e; cases e
    | some as' =>
      rw [he] at e; cases e
      obtain ⟨q1, q2⟩ := args_spec ok h2 he
      subst e1
      exact ⟨⟨v, t, rfl, h1, q1⟩, fun a z => q2 a z⟩
  | .ref i :: r, as, vs, ⟨v, t, e1, h1, h2⟩, e => by
    have h1 : g.st[i]? = some (some v) := h1
    have core : ∀ m c, g.env[i]? = some (some (.cell m c)) → m ≠ .lock → (toArgs r g.env).map (fun t => Arg.bor c :: t) = some as → ArgsR K g.A g.H as vs ∧ ∀ a, BorL as vs a → ∃ j ∈ refsOf (AV.ref i :: r), g.st[j]? = some (some (.ref a)) ∧ ∃ m c, g.env[j]? = some (some (.cell m c)) ∧ m ≠ .lock := fun m c hi hm e => by
      cases he : toArgs r g.env with
      | none => rw [he] at e; cases e
      | some as' =>
        rw [he] at e; cases e
        obtain ⟨q1, q2⟩ := args_spec ok h2 he
        obtain ⟨a, y1, y2, y3⟩ := ok.cel i m c hi
        rw [h1] at y1; cases y1
        subst e1
        refine ⟨⟨_, t, rfl, ⟨a, rfl, y2, y3⟩, q1⟩, fun b z => ?_⟩
        rcases z with z | z
        · cases z; exact ⟨i, by simp [refsOf], h1, m, c, hi, hm⟩
        · obtain ⟨j, z1, z2⟩ := q2 b z
          exact ⟨j, by simp [refsOf, z1], z2⟩
    simp only [toArgs] at e
    split at e
    · rename_i c hi; exact core _ c hi (by simp) e
    · rename_i c hi; exact core _ c hi (by simp) e
    · cases e
theorem dis_spec (ok : g.Ok K) : ∀ {avs : List AV} {as : List Arg} {vs : List V}, AVsR K g avs vs → toArgs avs g.env = some as → (refsOf avs).Nodup → DisL as vs
  | [], as, vs, h, e, _ => by cases e; cases h; trivial
  | .d x :: r, as, vs, ⟨v, t, e1, h1, h2⟩, e, nd => by
    simp only [toArgs] at e
    cases he : toArgs r g.env with
    | none => rw [he] at e; cases e
    | some as' =>
      rw [he] at e; cases e; subst e1
      have ih : DisL as' t := dis_spec (avs := r) ok h2 he nd
      exact ih
  | .ref i :: r, as, vs, ⟨v, t, e1, h1, h2⟩, e, nd => by
    have h1 : g.st[i]? = some (some v) := h1
    have nd : (i :: refsOf r).Nodup := nd
    have core : ∀ m c, g.env[i]? = some (some (.cell m c)) → (toArgs r g.env).map (fun t => Arg.bor c :: t) = some as → DisL as vs := fun m c hi e => by
      cases he : toArgs r g.env with
      | none => rw [he] at e; cases e
      | some as' =>
        rw [he] at e; cases e
        subst e1
        refine ⟨fun a ea z => ?_, dis_spec ok h2 he (List.nodup_cons.mp nd).2⟩
        obtain ⟨j, z1, z2, m', c', z3, _⟩ := (args_spec ok h2 he).2 a z
        subst ea
        have := ok.dis i j _ _ _ _ a hi z3 h1 z2
        subst this
        exact (List.nodup_cons.mp nd).1 z1
    simp only [toArgs] at e
    split at e
    · rename_i c hi; exact core _ c hi e
    · rename_i c hi; exact core _ c hi e
    · cases e
theorem putOut_len {e : SE} {i : Nat} {c : Cell} : (putOut e i c).length = e.length := by unfold putOut; split <;> simp
theorem putOut_ne {e : SE} {i j : Nat} {c : Cell} (h : j ≠ i) : (putOut e i c)[j]? = e[j]? := by
  unfold putOut; split
  · exact List.getElem?_set_ne (Ne.symm h)
  · rfl
theorem put_spec {A' : AS} {H' : Hp} (ok : g.Ok K) : ∀ {avs : List AV} {as outs : List Arg} {vs : List V} {env : SE}, AVsR K g avs vs → toArgs avs g.env = some as → (refsOf avs).Nodup → OutsL K A' H' as outs vs → (∀ i ∈ refsOf avs, env[i]? = g.env[i]?) →
    (putOuts avs outs env).length = env.length ∧ (∀ j, j ∉ refsOf avs → (putOuts avs outs env)[j]? = env[j]?) ∧
      ∀ j ∈ refsOf avs, ∃ m c c' a, g.env[j]? = some (some (.cell m c)) ∧ m ≠ .lock ∧ (putOuts avs outs env)[j]? = some (some (.cell m c')) ∧ g.st[j]? = some (some (.ref a)) ∧ A' a ∧ CellR K A' H' c' a ∧ BorL as vs a
  | [], as, outs, vs, env, h, e, nd, o, hs => by
    refine ⟨?_, fun j _ => ?_, fun j hj => by cases hj⟩ <;> (unfold putOuts; rfl)
  | .d x :: r, as, outs, vs, env, ⟨v, t, e1, h1, h2⟩, e, nd, o, hs => by
    simp only [toArgs] at e
    cases he : toArgs r g.env with
    | none => rw [he] at e; cases e
    | some as' =>
      rw [he] at e; cases e
      subst e1
      cases outs with
      | nil => exact o.elim
      | cons o1 os =>
        have o' : OutsL K A' H' as' os t := o
        have ih := put_spec (avs := r) (env := env) ok h2 he nd o' hs
        exact ih
  | .ref i :: r, as, outs, vs, env, ⟨v, t, e1, h1, h2⟩, e, nd, o, hs => by
    have h1 : g.st[i]? = some (some v) := h1
    have nd : (i :: refsOf r).Nodup := nd
    have hs0 : env[i]? = g.env[i]? := hs i (by simp [refsOf])
    have core : ∀ m c, g.env[i]? = some (some (.cell m c)) → m ≠ .lock → (toArgs r g.env).map (fun t => Arg.bor c :: t) = some as → (putOuts (.ref i :: r) outs env).length = env.length ∧ (∀ j, j ∉ refsOf (AV.ref i :: r) → (putOuts (.ref i :: r) outs env)[j]? = env[j]?) ∧
      ∀ j ∈ refsOf (AV.ref i :: r), ∃ m c c' a, g.env[j]? = some (some (.cell m c)) ∧ m ≠ .lock ∧ (putOuts (.ref i :: r) outs env)[j]? = some (some (.cell m c')) ∧ g.st[j]? = some (some (.ref a)) ∧ A' a ∧ CellR K A' H' c' a ∧ BorL as vs a := fun m c hi hm e => by
      cases he : toArgs r g.env with
      | none => rw [he] at e; cases e
      | some as' =>
        rw [he] at e; cases e
        subst e1
        cases outs with
        | nil => exact o.elim
        | cons o1 os =>
          cases o1 with
          | d y => exact o.elim
          | bor c1 =>
            obtain ⟨⟨a, rfl, p1, p2⟩, o'⟩ := (o : (∃ a, v = .ref a ∧ A' a ∧ CellR K A' H' c1 a) ∧ OutsL K A' H' as' os t)
            have hp : (putOut env i c1)[i]? = some (some (.cell m c1)) := by
              unfold putOut
              rw [hs0, hi]
              exact List.getElem?_set_self (by rw [hi] at hs0; exact (List.getElem?_eq_some_iff.mp hs0).1)
            obtain ⟨q1, q2, q3⟩ := put_spec (env := putOut env i c1) ok h2 he (List.nodup_cons.mp nd).2 o' fun j hj => by
              have hji : j ≠ i := fun z => (List.nodup_cons.mp nd).1 (by rw [← z]; exact hj)
              rw [putOut_ne hji]
              exact hs j (by simp [refsOf, hj])
            refine ⟨q1.trans putOut_len, fun j hj => ?_, fun j hj => ?_⟩
            · simp only [refsOf, List.mem_cons, not_or] at hj
              exact (q2 j hj.2).trans (putOut_ne hj.1)
            · by_cases z : j = i
              · subst z
                exact ⟨m, c, c1, a, hi, hm, (q2 j (List.nodup_cons.mp nd).1).trans hp, h1, p1, p2, .inl rfl⟩
              · have hj' : j ∈ refsOf r := by
                  simp only [refsOf, List.mem_cons] at hj
                  exact hj.resolve_left z
                obtain ⟨m', c2, c3, b, y1, y2, y3, y4, y5, y6, y7⟩ := q3 j hj'
                exact ⟨m', c2, c3, b, y1, y2, y3, y4, y5, y6, .inr y7⟩
    simp only [toArgs] at e
    split at e
    · rename_i c hi; exact core _ c hi (by simp) e
    · rename_i c hi; exact core _ c hi (by simp) e
    · cases e
/-- the state behind a call -/
theorem behind {A' : AS} {H' : Hp} {avs : List AV} {as outs : List Arg} {vs : List V} (ok : g.Ok K) (h : AVsR K g avs vs) (e : toArgs avs g.env = some as) (nd : (refsOf avs).Nodup) (x : Ext (BorL as vs) g.A g.H A' H') (hd : ∀ a, A' a → H' a ≠ none) (o : OutsL K A' H' as outs vs) :
    Stp g { A := A', H := H', st := g.st, env := putOuts avs outs g.env } ∧ ({ A := A', H := H', st := g.st, env := putOuts avs outs g.env } : G).Ok K := by
  obtain ⟨p1, p2, p3⟩ := put_spec (env := g.env) ok h e nd o fun _ _ => rfl
  have bo : ∀ a, BorL as vs a → Own g a := fun a z => by
    obtain ⟨i, _, z2, m, c, z3, z4⟩ := (args_spec ok h e).2 a z
    exact ⟨i, m, c, z3, z4, z2⟩
  have bA : ∀ a, BorL as vs a → g.A a := fun a z => Own.sub ok a (bo a z)
  have cl : ∀ {j : Nat} {m c}, (putOuts avs outs g.env)[j]? = some (some (.cell m c)) → ∃ c', g.env[j]? = some (some (.cell m c')) := fun {j m c} h => by
    by_cases hj : j ∈ refsOf avs
    · obtain ⟨m', c1, c2, a, y1, _, y3, _⟩ := p3 j hj
      rw [y3] at h; cases h
      exact ⟨_, y1⟩
    · rw [p2 j hj] at h; exact ⟨_, h⟩
  refine ⟨⟨⟨fun a o h n => x.keep a o h fun z => n (bo a z), x.tup, x.frz, x.dom, fun a h n => x.av1 a h fun z => n (bo a z), x.av2⟩, fun a z => ?_, fun a z => ?_, fun j c hj => ?_, fun j c hj => ?_⟩, ⟨ok.len.trans p1.symm, fun j y hj => ?_, fun j m c hj => ?_, fun i j m c m' c' a hi hj e1 e2 => ?_, hd⟩⟩
  · obtain ⟨j, m, c, z1, z2, z3⟩ := z
    obtain ⟨c', y⟩ := cl z1
    exact .inl ⟨j, m, c', y, z2, z3⟩
  · obtain ⟨j, m, c, z1, z3⟩ := z
    obtain ⟨c', y⟩ := cl z1
    exact .inl ⟨j, m, c', y, z3⟩
  · by_cases h : j ∈ refsOf avs
    · obtain ⟨m', c1, c2, a, y1, _, y3, _⟩ := p3 j h
      rw [hj] at y1; cases y1
      exact ⟨rfl, c2, y3⟩
    · exact ⟨rfl, c, by show (putOuts avs outs g.env)[j]? = _; rw [p2 j h]; exact hj⟩
  · by_cases h : j ∈ refsOf avs
    · obtain ⟨m', c1, c2, a, y1, y2, y3, _⟩ := p3 j h
      rw [hj] at y1; cases y1
      exact absurd rfl y2
    · exact ⟨rfl, by show (putOuts avs outs g.env)[j]? = _; rw [p2 j h]; exact hj⟩
  · by_cases h : j ∈ refsOf avs
    · obtain ⟨m', c1, c2, a, y1, y2, y3, _⟩ := p3 j h
      have hj : (putOuts avs outs g.env)[j]? = _ := hj
      rw [y3] at hj; cases hj
    · have hj : (putOuts avs outs g.env)[j]? = _ := hj
      rw [p2 j h] at hj
      obtain ⟨v, q1, q2⟩ := ok.dat j y hj
      exact ⟨v, q1, Dv.ext x bA y v q2⟩
  · by_cases h : j ∈ refsOf avs
    · obtain ⟨m', c1, c2, a, y1, y2, y3, y4, y5, y6, _⟩ := p3 j h
      have hj : (putOuts avs outs g.env)[j]? = _ := hj
      rw [y3] at hj; cases hj
      exact ⟨a, y4, y5, y6⟩
    · have hj : (putOuts avs outs g.env)[j]? = _ := hj
      rw [p2 j h] at hj
      obtain ⟨a, q1, q2, q3⟩ := ok.cel j m c hj
      have nb : ¬ BorL as vs a := fun z => by
        obtain ⟨i, z1, z2, m', c', z3, z4⟩ := (args_spec ok ‹AVsR K g avs vs› e).2 a z
        have := ok.dis i j _ _ _ _ a z3 hj z2 q1
        subst this
        exact h z1
      refine ⟨a, q1, x.av1 a q2 nb, ?_⟩
      exact q3.go x bA nb fun dx q z => by
        obtain ⟨i, _, w4, m', c', w3, _⟩ := (args_spec ok ‹AVsR K g avs vs› e).2 dx z
        obtain ⟨b, w5, _, w6⟩ := ok.cel i m' c' w3
        rw [w4] at w5; cases w5
        exact w6.notOwn q
  · obtain ⟨c1, q1⟩ := cl hi
    obtain ⟨c2, q2⟩ := cl hj
    exact ok.dis i j _ _ _ _ a q1 q2 e1 e2
end
/-- f(..) -/
theorem fe_call {X : Cx} {k n : Nat} {f : Addr} {fd : FuncData} {ps : List Str} {F : List Arg → FRes} {x : Str} {p pos : Pos} {e : Expr} {es : List Expr} {fa : AF} (Fn : FnG X.prog X.w X.K X.mg X.base k f fd ps (spF X.mg X.K n F)) (hr : Room k X.A) (hgd : X.A.guards = some []) (hg : Gl X x) (hm : X.mg x = some (.ref f)) (hk : PySem.W.keepIn X.K (.ref f) = true)
    (hb : Binds X.K fd ps []) (ha : FAs X (e :: es) fa) (hdb : (x == ("__debug__" : Str)) = false := by decide) (he : starEach (e :: es) X.env = (false, eval e X.env) :: starEach es X.env := by rfl) (hpl : (backTo pos (starEach es X.env)).any (·.1) = false := by rfl) :
    FE X (.Call (.Name x p) (e :: es) [] pos) (fCallF n F fa) := by
  refine ⟨fun W tk => ⟨fun pins s σ H Q I hq => ?_⟩⟩
  obtain ⟨g, rfl, rfl, ok, o⟩ := hq
  refine wpAny_Call_Name_kw (ld_glob I hg hm ?_ hdb)
  refine PySem.W.callWith_K (h₀ := X.base) I.ok.mod.kin hk (ha.go tk ok I o.bind0 fun us s1 g1 avs vs e1 I1 r o1 st rr q => ⟨I1.kIn, ?_⟩) he hpl
  split at q
  · rename_i nd
    change (refsOf avs).Nodup at nd
    split at q
    · rename_i as ea
      change toArgs avs g1.env = some as at ea
      split at q
      · rename_i hn
        rw [← e1]
        refine run_g Fn hr hgd hb (passAt tk g1.st) I1 r ⟨g1.A, as, hn, (args_spec o1 rr ea).1, dis_spec o1 rr ea nd, o1.dom, ?_⟩
        cases hF : F as with
        | ok ret outs =>
          rw [hF] at q
          intro A' H' v x hd ho hrt
          obtain ⟨s2, o2⟩ := behind o1 rr ea nd x hd ho
          refine q { A := A', H := H', st := g1.st, env := putOuts avs outs g1.env } rfl e1 (st.trans ok s2) o2 v ?_
          cases ret with
          | d y => exact hrt
          | tmp c =>
            obtain ⟨a, rfl, h1, h2, h3⟩ := hrt
            refine ⟨a, rfl, h1, h2, none_of_dom st.ext.dom h3, fun z => ?_⟩
            obtain ⟨i, m, c', z1, z2⟩ := z
            rcases s2.has a ⟨i, m, c', z1, z2⟩ with ⟨j, m2, c2, y1, y2⟩ | y
            · obtain ⟨b, w1, w2, w3⟩ := o1.cel j m2 c2 y1
              rw [y2] at w1; cases w1
              exact w3.some h3
            · obtain ⟨j, m2, c2, y1, y2⟩ := (⟨i, m, c', z1, z2⟩ : Has _ a)
              have : ∃ c', g1.env[j]? = some (some (.cell m2 c')) := by
                obtain ⟨p1, p2, p3⟩ := put_spec (env := g1.env) o1 rr ea nd ho fun _ _ => rfl
                have y1 : (putOuts avs outs g1.env)[j]? = _ := y1
                by_cases hj : j ∈ refsOf avs
                · obtain ⟨m', c1, c3, b, w1, _, w3, _⟩ := p3 j hj
                  rw [w3] at y1; cases y1; exact ⟨_, w1⟩
                · rw [p2 j hj] at y1; exact ⟨_, y1⟩
              obtain ⟨c3, y3⟩ := this
              obtain ⟨b, w1, w2, w3⟩ := o1.cel j m2 c3 y3
              have y2 : g1.st[j]? = _ := y2
              rw [y2] at w1; cases w1
              exact w3.some h3
        | exc c fs outs =>
          rw [hF] at q
          intro A' H' cls d x hd ho hx
          obtain ⟨s2, o2⟩ := behind o1 rr ea nd x hd ho
          have := q { A := A', H := H', st := g1.st, env := putOuts avs outs g1.env } cls d rfl e1 (st.trans ok s2) o2 hx
          show W cls d g1.st H'
          rw [e1]; exact this
        | fail => rw [hF] at q; exact q.elim
      · exact q.elim
    · exact q.elim
  · exact q.elim
end BH
set_option maxRecDepth 100000
set_option maxHeartbeats 2000000
namespace BH
open PySem PySem.Spec PyProof.Rows L2
/-! ### the law's own call -/
theorem law_data {P : Program} {w : World} {K : PySem.W.Frag} {mg mb : Str → Option Value} {k n : Nat} {fa a : Addr} {fd : FuncData} {x : Str} {F : List Arg → FRes} {s₁ : Shared} {vs : List Value} {ns : List Int}
    (inK : K.In s₁.heap) (nsG : s₁.heap.Ns mainGlobals mg) (nsB : s₁.heap.Ns builtinsNs mb) (boot : ∀ x : Str, x ≠ "__name__" → mb x = bootBuiltins x) (noL : s₁.heap.NoLimit) (noG : s₁.gens = #[])
    (hobj : s₁.heap.get? a = some { cls := .type "list", data := .seq vs.toArray }) (hin : IntsAre vs ns) (hl : ns.length ≤ sizeLine) (hr : Room k callerA)
    (sy : ∃ mm, s₁.heap.Ns sysModules mm) (Fn : ∀ base : Heap, SysIn base → K.In base → base.Ns mainGlobals mg → FnG P w K mg base k fa fd [x] (spF mg K 1 F)) (hbind : ∀ (s : Shared) (u : Value), BindsTo s fd ⟨[u], []⟩ [(x, u)])
    (hF : ∃ outs, F [.d (.list (ns.map PyData.int))] = .ok (.d (.bool true)) outs) :
    codeAny (model P w) callerA (.call (.ref fa) ⟨[.ref a], []⟩) (fun r s' => r = .ok (.ret (.bool true)) ∧ OldK s₁.heap s'.heap ∧ s'.os = s₁.os ∧ AllBare s'.gens) s₁ := by
  have vals := vals_ints hin
  have vlen := hin.length
  have main : ∀ H : Hp, Only H → LsD K (fun _ => False) H a (ns.map V.int) → HOk P w H s₁.heap → (∀ b, H b ≠ none → b = a) → (H a ≠ none → K.lookup a = none) →
      codeAny (model P w) callerA (.call (.ref fa) ⟨[.ref a], []⟩) (fun r s' => r = .ok (.ret (.bool true)) ∧ OldK s₁.heap s'.heap ∧ s'.os = s₁.os ∧ AllBare s'.gens) s₁ := by
    intro H only hS hok onlyA freeK
    have inBase : ∀ {b : Addr} {o : Obj}, s₁.heap.get? b = some o → H b = none → (hidT s₁.heap H).get? b = some o := hidT_get
    have notDict : ∀ {b : Addr} {o : Obj} {es : Array DictEntry} {ep : Nat}, s₁.heap.get? b = some o → o.data = .dict es ep → H b = none := by
      intro b o es ep e1 e2
      by_cases z : H b = none
      · exact z
      · rw [onlyA b z, hobj] at e1
        cases e1
        have e3 : Data.seq vs.toArray _ = Data.dict es ep := e2
        cases e3
    have nsIn : ∀ {b : Addr} {m : Str → Option Value}, s₁.heap.Ns b m → (hidT s₁.heap H).Ns b m := by
      rintro b m ⟨o, es, ep, e1, e2, e3⟩
      exact ⟨o, es, ep, inBase e1 (notDict e1 e2), e2, e3⟩
    have baseK : K.In (hidT s₁.heap H) := by
      intro b o e1
      refine inBase (inK b o e1) ?_
      by_cases z : H b = none
      · exact z
      · have eb := onlyA b z
        subst eb
        rw [freeK z] at e1; cases e1
    have modB : Mod K mg (hidT s₁.heap H) := ⟨baseK, nsIn nsG, ⟨mb, nsIn nsB, boot⟩, let ⟨mc, y1, y2⟩ := noL; ⟨mc, nsIn y1, y2⟩⟩
    have env0 : Env0 P w K mg (hidT s₁.heap H) callerA [] s₁ H := ⟨rfl, modB, fun b o e => of_hidT e, Nat.le_of_eq (hidT_size _ _), trivial, fun b hb => absurd (show b ∈ ([] : List Addr) from hb) (by simp), hok, .of_eq noG⟩
    obtain ⟨outs, eF⟩ := hF
    have spec : spF mg K 1 F [.ref a] H (fun v _ => v = .bl true) fun _ _ _ => False := by
      refine ⟨fun _ => False, [.d (.list (ns.map PyData.int))], rfl, ⟨.ref a, [], rfl, ?_, rfl⟩, trivial, fun _ z => z.elim, ?_⟩
      · show Dv _ _ _ _ _
        simp only [Dv]
        refine ⟨a, ns.map V.int, rfl, hS, ?_⟩
        clear hS hin hobj hl eF vlen vals
        induction ns with
        | nil => simp only [List.map_nil, Dvs]
        | cons i r ih => exact Dvs.cons (by simp only [Dv]) ih
      · rw [eF]
        intro A' H' v _ _ _ hv
        have hv : Dv K A' H' (.bool true) v := hv
        simp only [Dv] at hv
        exact hv
    refine codeAny_mono ((Fn _ ⟨let ⟨mm, o, es, ep, e1, e2⟩ := sy; ⟨o, inBase e1 (notDict e1 e2.1)⟩⟩ baseK (nsIn nsG)).go callerA [] s₁ H ⟨[.ref a], []⟩ [.ref a] [.ref a] _ _ hr rfl env0 (hbind s₁ (.ref a)) (.cons rfl .nil) spec) fun r s' h => ?_
    match r, h with
    | .error e, h => obtain ⟨_, _, _, _, _, _, _, _, _, _, _, _, z⟩ := (h : L2.CX P w [] H s₁ _ e s'); exact z.elim
    | .ok (.ret u), h =>
      obtain ⟨v, H', os, bare, un, hok', rv, ev⟩ := h
      have ev : v = .bl true := ev
      subst ev
      obtain rfl : u = Value.bool true := rv
      refine ⟨rfl, OldK.of_keep fun b o e => ?_, os, bare⟩
      rcases only b with z | ⟨ob, xs, z⟩
      · exact un.keep b o e z (by intro q; exact absurd (show b ∈ ([] : List Addr) from q) (by simp)) (by simp)
      · obtain ⟨y1, _⟩ := hok b _ z
        obtain ⟨y2, _⟩ := hok' b _ (un.frzs b ob _ z)
        rw [e] at y1; cases y1
        exact y2
  have nq : a ≠ sysModules := fun q => by
    obtain ⟨mm, o', es, ep, e1, e2, _⟩ := sy
    rw [← q, hobj] at e1
    cases e1
    have e3 : Data.seq vs.toArray _ = Data.dict es ep := e2
    cases e3
  cases hk : K.lookup a with
  | some o =>
    have e := inK a o hk
    rw [hobj] at e
    cases e
    refine main (fun _ => none) (fun _ => .inl rfl) (.inr ⟨nq, fun _ => .inr ⟨_, vs.toArray, _, hk, rfl, rfl, rfl, by rw [List.size_toArray, vlen]; exact hl, by simpa using vals⟩⟩) (fun b u z => by cases (show (none : Option HO) = some u from z)) (fun b z => absurd rfl z) fun z => absurd rfl z
  | none =>
    refine main (fun b => if b = a then some (.frz { cls := .type "list", data := .seq vs.toArray } (.lst (ns.map V.int))) else none) (fun b => ?_) (.inl ⟨id, .inr ⟨{ cls := .type "list", data := .seq vs.toArray }, if_pos rfl⟩⟩) (fun b u z => ?_) (fun b z => ?_) fun _ => hk
    · by_cases q : b = a
      · exact .inr ⟨_, _, if_pos q⟩
      · exact .inl (if_neg q)
    · by_cases q : b = a
      · cases (if_pos q).symm.trans z
        subst q
        exact ⟨hobj, by rw [List.length_map]; exact hl, vs, _, vals, hobj⟩
      · cases (if_neg q).symm.trans z
    · by_cases q : b = a
      · exact q
      · exact absurd (if_neg q) z
theorem walk_data {l : PySem.W.OpenLaw} {n k : Nat} {q : Program} {loose : List Str} {XP : (Str → Option Value) → Heap → Prop} {YP : World → Heap → Prop} {d : DefRec} {K : Params → PySem.W.Frag} {x : Str} {F : List Arg → FRes}
    (hn : l.most = some n) (hn2 : n ≤ sizeLine) (hdf : d.params.defaults = []) (hr : Room k callerA) (hY : ∀ (w : World) (h : Heap), YP w h → (K w.params).In h)
    (Fn : ∀ (w : World) (mg : Str → Option Value) (fa : Addr) (h : Heap), (K w.params).In h → h.Ns mainGlobals mg → mg d.name = some (.ref fa) →
      ∃ fd : FuncData, (∀ (s : Shared) (u : Value), BindsTo s fd ⟨[u], []⟩ [(x, u)]) ∧ ∀ base : Heap, SysIn base → (K w.params).In base → base.Ns mainGlobals mg → FnG l.prog w (K w.params) mg base k fa fd [x] (spF mg (K w.params) 1 F))
    (hF : ∀ ns : List Int, ns.length ≤ n → ∃ outs, F [.d (.list (ns.map PyData.int))] = .ok (.d (.bool true)) outs) (hi : PyProof.Rows.importsNone q = true := by kernel_rfl) :
    PySem.W.WalkO q loose XP YP l.row.toRowW d [] (fun f vs => PySem.call f vs) := by
  refine Att.attach_call hn hdf fun w s₀ s₁ mg mb fa o pm cd doc a vs ns G Y ho hd hcd hmg hobj hints hlen hg => ?_
  obtain ⟨fd, hb, hFn⟩ := Fn w mg fa _ (hY w _ Y) G.T.g hmg
  exact law_data (n := n) (hY w _ Y) G.T.g G.T.b G.T.builtins G.T.nolimit hg hobj hints (Nat.le_trans hlen hn2) hr (let ⟨mm, y, _⟩ := (G.T.seer hi).mods; ⟨mm, y⟩) hFn hb (hF ns hlen)
end BH
set_option maxRecDepth 100000
set_option maxHeartbeats 2000000
namespace BH
open PySem PySem.Spec PyProof.Rows L2
/-- x = [.. for ..], x a plain local name -/
theorem fs_setLc {X : Cx} {i : Nat} {y : Str} {py : Pos} {elt tg iter : Expr} {ifs : List Expr} {scope : Scope} {own : List (Str × Nat)} {pos spos : Pos} {fi : IF} {vb : List Nat} {b : BF} {tt : TF} {te : CF} (hc : X.calm = true) (hN : X.N.Nodup) (hi' : X.N[i]? = some y) (hy : X.env.scope.names.lookup y = some .local)
    (hsw : swapsWith (.ListComp elt [⟨tg, iter, ifs, 0⟩] scope pos) (some (.Name y py)) spos.line X.env = pure true) (hi : FI X tg iter fi) (ok : BlkOk X.N X.env.scope scope own)
    (hg : ∀ (s : Shared) (H : Hp) (C : Addr) (cl : List (Str × Addr)) (fp : List Addr), FG (X.blk s H scope (compEnvC scope cl C X.env) fp) tg vb b) (ht : ∀ (s : Shared) (H : Hp) (C : Addr) (cl : List (Str × Addr)) (fp : List Addr), FTs (X.blk s H scope (compEnvC scope cl C X.env) fp) ifs tt)
    (he : ∀ (s : Shared) (H : Hp) (C : Addr) (cl : List (Str × Addr)) (fp : List Addr), FC (X.blk s H scope (compEnvC scope cl C X.env) fp) elt te) (hsub : ∀ i ∈ vb, i ∈ own.map (·.2) := by decide)
    (hs : ∀ x, foldedSetIterable iter X.env x = pure x := by first | exact fun _ => rfl | assumption) : FS X (.Assign [.Name y py] (.ListComp elt [⟨tg, iter, ifs, 0⟩] scope pos) spos) (fSet i (fComp fi b (own.map (·.2)) tt te)) := by
  refine ⟨fun W tk hp => ⟨fun pins s σ H D I hq => ?_⟩⟩
  obtain ⟨g, rfl, rfl, o1, o⟩ := hq
  refine (ps_setLc (X := X) (wi := tIt X W fi) (g := tBd X vb b) (tt := tTt X (fun _ _ _ _ => False) tt) (te := tCn X (fun _ _ _ _ => False) te) hc hN hi' hy hsw (hi.pi W tk) ok (fun s H C cl fp => (hg s H C cl fp).pg) (fun s H C cl fp => (ht s H C cl fp).pts _ takes0) (fun s H C cl fp => (he s H C cl fp).pe _ takes0) hs).run pins s g.st g.H D I ?_
  exact comp_core hsub o1 ((OutS.bindE o).imp fun g1 rv st e o2 p v rr => set_end o1 st e o2 rr p)
def fNeg (f : EF) : EF := fun env => (f env).bind fun p => match p.1.view p.2 with
  | some (.int i) => .ok (.d (.int (-i)), p.2)
  | _ => .fail
theorem fe_neg {X : Cx} {a : Expr} {f : EF} {pos : Pos} (h : FE X a f) : FE X (.UnaryOp .USub a pos) (fNeg f) := by
  refine ⟨fun W tk => ⟨fun pins s σ H Q I hq => ?_⟩⟩
  obtain ⟨g, rfl, rfl, ok, o⟩ := hq
  refine (pe_un un_neg (h.pe W tk)).run pins s g.st g.H Q I ⟨g, rfl, rfl, ok, o.bind0.imp fun g1 rv st e o1 p v rr => ?_⟩
  split at p
  · rename_i i hi
    obtain rfl := dw_int (rr.dw o1 hi)
    exact ⟨i, rfl, p g1 rfl e st o1 _ (by show Dv _ _ _ _ _; simp only [Dv])⟩
  · exact p.elim
def fDic0 : EF := fC (.dict [])
theorem fe_dict0 {X : Cx} {pos : Pos} : FE X (.Dict [] [] pos) fDic0 := by
  refine ⟨fun W tk => ⟨fun pins s σ H Q I hq => ?_⟩⟩
  obtain ⟨g, rfl, rfl, ok, o⟩ := hq
  refine pe_dnewT.run pins s g.st g.H Q I fun p hp => ?_
  have e : ∀ O, Ext O g.A g.H g.A (upd g.H p (.dT [])) := fun O => alloc_ext hp
  refine o { g with H := upd g.H p (.dT []) } rfl rfl (Stp.same e) (ok.ext (e _) (fun _ h => h) (fun a h => (e (fun _ => False)).dom a (ok.dom a h))) (.ref p) ?_
  show Dv _ _ _ _ _
  simp only [Dv]
  exact ⟨p, [], rfl, fun z => ok.dom p z hp, upd_same, by simp only [Dps]⟩
end BH
set_option maxRecDepth 100000
set_option maxHeartbeats 4000000
namespace BH
open PySem PySem.Spec PyProof.Rows L2
/-! ### a list of lists of our own, its items to be written -/
structure TbI (H0 : Hp) (g : G) (p : Addr) (as : List Addr) (wss : List (List Int)) : Prop where
  nd : as.Nodup
  pn : p ∉ as
  ln : as.length = wss.length
  it : ∀ (i : Nat) a ws, as[i]? = some a → wss[i]? = some ws → g.H a = some (.lst (ws.map V.int)) ∧ ¬ g.A a ∧ H0 a = none
structure Tb (H0 : Hp) (g : G) (p : Addr) (as : List Addr) (wss : List (List Int)) : Prop where
  hp : g.H p = some (.lst (as.map V.ref))
  np : ¬ g.A p
  fp : H0 p = none
  i : TbI H0 g p as wss
theorem off_keep {K : PySem.W.Frag} {g g' : G} {a : Addr} {o : HO} (ok : g.Ok K) (s : Stp g g') (h : g.H a = some o) (n : ¬ g.A a) : g'.H a = some o ∧ ¬ g'.A a := by
  refine ⟨s.ext.keep a o h fun z => n (Own.sub ok a z), fun z => ?_⟩
  rcases s.ext.av2 a z with y | y
  · exact n y
  · rw [h] at y; cases y
theorem TbI.get {H0 : Hp} {g : G} {p : Addr} {as : List Addr} {wss : List (List Int)} (t : TbI H0 g p as wss) {a : Addr} (h : a ∈ as) : ∃ (i : Nat) (ws : List Int), as[i]? = some a ∧ wss[i]? = some ws ∧ g.H a = some (.lst (ws.map V.int)) ∧ ¬ g.A a ∧ H0 a = none := by
  obtain ⟨i, hi⟩ := List.getElem?_of_mem h
  have hl : i < wss.length := by rw [← t.ln]; exact (List.getElem?_eq_some_iff.mp hi).1
  have hw : wss[i]? = some wss[i] := List.getElem?_eq_getElem hl
  obtain ⟨h1, h2, h3⟩ := t.it i a _ hi hw
  exact ⟨i, _, hi, hw, h1, h2, h3⟩
theorem TbI.step {K : PySem.W.Frag} {H0 : Hp} {g g' : G} {p : Addr} {as : List Addr} {wss : List (List Int)} (t : TbI H0 g p as wss) (ok : g.Ok K) (s : Stp g g') : TbI H0 g' p as wss :=
  ⟨t.nd, t.pn, t.ln, fun i a ws h1 h2 => by
    obtain ⟨q1, q2, q3⟩ := t.it i a ws h1 h2
    obtain ⟨y1, y2⟩ := off_keep ok s q1 q2
    exact ⟨y1, y2, q3⟩⟩
theorem Tb.step {K : PySem.W.Frag} {H0 : Hp} {g g' : G} {p : Addr} {as : List Addr} {wss : List (List Int)} (t : Tb H0 g p as wss) (ok : g.Ok K) (s : Stp g g') : Tb H0 g' p as wss := by
  obtain ⟨y1, y2⟩ := off_keep ok s t.hp t.np
  exact ⟨y1, y2, t.fp, t.i.step ok s⟩
def tabD (wss : List (List Int)) : PyData := .list (wss.map fun ws => .list (ws.map PyData.int))
theorem dvs_intsA {K : PySem.W.Frag} {A : AS} {H : Hp} : ∀ (ns : List Int), Dvs K A H (ns.map PyData.int) (ns.map V.int)
  | [] => by simp only [List.map_nil, Dvs]
  | n :: r => Dvs.cons (by simp only [Dv]) (dvs_intsA r)
theorem items_dv {K : PySem.W.Frag} {A : AS} {H : Hp} : ∀ {as : List Addr} {wss : List (List Int)}, as.length = wss.length → (∀ (i : Nat) a ws, as[i]? = some a → wss[i]? = some ws → H a = some (.lst (ws.map V.int)) ∧ ¬ A a) → Dvs K A H (wss.map fun ws => .list (ws.map PyData.int)) (as.map V.ref)
  | [], [], _, _ => by simp only [List.map_nil, Dvs]
  | [], _ :: _, h, _ => by simp at h
  | _ :: _, [], h, _ => by simp at h
  | a :: as, ws :: wss, h, hi => by
    obtain ⟨h1, h2⟩ := hi 0 a ws rfl rfl
    refine Dvs.cons ?_ (items_dv (by simpa using h) fun i a ws e1 e2 => hi (i + 1) a ws (by simpa using e1) (by simpa using e2))
    simp only [Dv]
    exact ⟨a, _, rfl, .inl ⟨h2, .inl h1⟩, dvs_intsA ws⟩
theorem Tb.dv {K : PySem.W.Frag} {H0 : Hp} {g : G} {p : Addr} {as : List Addr} {wss : List (List Int)} (t : Tb H0 g p as wss) : Dv K g.A g.H (tabD wss) (.ref p) := by
  unfold tabD
  simp only [Dv]
  exact ⟨p, _, rfl, .inl ⟨t.np, .inl t.hp⟩, items_dv t.i.ln fun i a ws h1 h2 => ⟨(t.i.it i a ws h1 h2).1, (t.i.it i a ws h1 h2).2.1⟩⟩
/-! ### [[..] for ..] -/
end BH
set_option maxRecDepth 100000
set_option maxHeartbeats 4000000
set_option maxRecDepth 100000
set_option maxHeartbeats 2000000
namespace BH
open PySem PySem.Spec PyProof.Rows L2
theorem hu65 {A : Around} {k : Nat} (hr : Room k A) : A.units + 65 < cLine := by have := hr.un; omega
def opLt : PyData → PyData → Option RV := opInt fun i j => decide (i < j)
def opGt : PyData → PyData → Option RV := opInt fun i j => decide (j < i)
def opGe : PyData → PyData → Option RV := opInt fun i j => decide (j ≤ i)
end BH
set_option maxRecDepth 100000
set_option maxHeartbeats 2000000
namespace BH
open PySem PySem.Spec PyProof.Rows L2
/-! ### reading a reading -/
def okO : Option MV → Prop
  | some (.cell .bor _) => False
  | some (.cell .lock _) => False
  | _ => True
def setO (o : Option MV) (env : SE) (i : Nat) (mv : MV) : Option SE := match o with
  | some (.cell .bor _) => none
  | some (.cell .lock _) => none
  | _ => some (env.set i (some mv))
theorem setS_def (env : SE) (i : Nat) (mv : MV) : setS env i mv = match env[i]? with
  | some o => setO o env i mv
  | none => none := by
  unfold setS
  cases h : env[i]? with
  | none => rfl
  | some o =>
    cases o with
    | none => rfl
    | some x => cases x with
      | d y => rfl
      | cell m c => cases m <;> rfl
theorem setO_ok {o : Option MV} {env : SE} {i : Nat} {mv : MV} (h : okO o) : setO o env i mv = some (env.set i (some mv)) := by
  unfold setO
  cases o with
  | none => rfl
  | some x => cases x with
    | d y => rfl
    | cell m c => cases m with
      | own => rfl
      | bor => exact h.elim
      | lock => exact h.elim
theorem okO_none : okO none := trivial
theorem okO_d {x : PyData} : okO (some (.d x)) := trivial
def Nx (r : Res (Fl × SE)) (R : SE → Prop) : Prop := ∃ e, r = .ok (.nx, e) ∧ R e
end BH
set_option maxRecDepth 100000
set_option maxHeartbeats 4000000
namespace BH
open PySem PySem.Spec PyProof.Rows L2
/-! ### methods that change an own list -/
/-- what a method of one argument does to the list, what it hands back -/
abbrev Op1 := List PyData → PyData → Option (PyData × List PyData)
def fMeth1 (j : Nat) (op : Op1) (fv : CF) : EF := fun env => match env[j]? with
  | some (some (.cell _ (.lst _))) => (fv env).bind fun p => match p.2[j]? with
    | some (some (.cell m (.lst xs))) => match op xs p.1 with
      | some r => match pokeE p.2 j fun _ => some r.2 with
        | some env' => .ok (.d r.1, env')
        | none => .fail
      | none => .fail
    | _ => .fail
  | _ => .fail
def Meth1 (r : V → List V → Hp → VK → Prop) (op : Op1) : Prop :=
  ∀ (K : PySem.W.Frag) (A : AS) (H : Hp) (a : Addr) (xs : List PyData) (vs : List V) (x : PyData) (v : V) (y : PyData) (ys : List PyData) (Q : VK), H a = some (.lst vs) → Dvs K A H xs vs → Dv K A H x v → op xs x = some (y, ys) →
    (∀ w ws, Dv K A H y w → Dvs K A H ys ws → Q w (upd H a (.lst ws))) → r (.ref a) [v] H Q
theorem poke_dv {K : PySem.W.Frag} {g : G} {a : Addr} {vs ws : List V} {y : PyData} {w : V} (hA : g.A a) (hH : g.H a = some (.lst vs)) (h : Dv K g.A g.H y w) : Dv K g.A (upd g.H a (.lst ws)) y w := by
  have e : Ext (fun b => b = a) g.A g.H g.A (upd g.H a (.lst ws)) :=
    ⟨fun b o h n => by rw [upd_ne n]; exact h, fun b o h => by rw [upd_ne (fun z => by rw [z, hH] at h; cases h)]; exact h, fun b o u h => by rw [upd_ne (fun z => by rw [z, hH] at h; cases h)]; exact h,
      fun b h => by by_cases z : b = a; (rw [z, upd_same]; simp); (rw [upd_ne z]; exact h), fun b h _ => h, fun b h => .inl h⟩
  exact Dv.ext e (fun b z => by rw [z]; exact hA) y w h
theorem fe_meth1 {X : Cx} {o e : Expr} {j : Nat} {name : Str} {apos cpos : Pos} {id : String} {r : V → List V → Hp → VK → Prop} {op : Op1} {fv : CF} (slot : Slot "list" name id) (hty : typeOf (.builtin id) = pure (.type "method_descriptor")) (hm : MtR X id r) (hop : Meth1 r op) (ho : PE X o (tVar j)) (hv : FC X e fv)
    (hbase : attributeBase o name X.env (eval o X.env) = eval o X.env := by rfl)
    (hfew : ((backTo cpos (starEach (e :: []) X.env)).all (fun x => !x.1) && (backToKw cpos (keywordEach [] X.env)).all (fun x => x.1.isSome)
      && decide ((e :: []).length + ([] : List Keyword).length + (if ([] : List Keyword).isEmpty then 0 else 1) < 30)) = true := by rfl)
    (hline : (apos.endLine == cpos.line) = true := by rfl) (hs : starEach (e :: []) X.env = (false, eval e X.env) :: starEach [] X.env := by rfl) (hplain : (backTo cpos (starEach [] X.env)).any (·.1) = false := by rfl) :
    FE X (.Call (.Attribute o name apos) [e] [] cpos) (fMeth1 j op fv) := by
  refine ⟨fun W tk => ⟨fun pins s σ H Q I hq => ?_⟩⟩
  obtain ⟨g, rfl, rfl, ok, oo⟩ := hq
  unfold fMeth1 at oo
  split at oo
  · rename_i m c hj
    obtain ⟨a, q1, q2, q3⟩ := ok.cel j m _ hj
    ·
      obtain ⟨vs0, y1, y2⟩ := q3
      refine (pe_bm (X := X) PySem.F.plainAttrs_list slot hty hm ho (pa_cons (hv.pe W tk) pa_nil hs) hbase hfew hline hs hplain).run pins s g.st g.H Q I ⟨.ref a, q1, .inl ⟨rfl, vs0, .of y1⟩, g, rfl, rfl, ok, oo.bind0.imp fun g1 x st e1 o1 p v dv => ?_⟩
      split at p
      · rename_i m1 xs hj1
        change g1.env[j]? = _ at hj1
        cases hr : op xs x with
        | none => rw [hr] at p; exact p.elim
        | some r1 =>
          obtain ⟨y, ys⟩ := r1
          rw [hr] at p
          simp only at p
          cases hp : pokeE g1.env j fun _ => some ys with
          | none => rw [hp] at p; exact p.elim
          | some env' =>
            rw [hp] at p
            simp only at p
            have hst : g1.st[j]? = some (some (.ref a)) := by rw [e1]; exact q1
            obtain ⟨m2, a2, xs2, ys2, vs2, ea, hm2, hj2, hf, hH, hd, he⟩ := poke_of o1 hst hp
            cases ea
            rw [hj1] at hj2; cases hj2
            cases hf
            have hA : g1.A a := by
              obtain ⟨b, w1, w2, _⟩ := o1.cel j _ _ hj1
              rw [hst] at w1; cases w1; exact w2
            refine hop X.K g1.A g1.H a xs vs2 x v y ys Q hH hd dv hr fun w ws hw hws => ?_
            obtain ⟨s4, o4⟩ := poke (ws := ws) o1 hj1 hm2 hst hH hws
            rw [← he] at s4 o4
            exact p { g1 with H := upd g1.H a (.lst ws), env := env' } rfl e1 (st.trans ok s4) o4 w (poke_dv hA hH hw)
      · exact p.elim
  · exact oo.elim
def opAppend : Op1 := fun xs x => if xs.length < lim then some (.none, xs ++ [x]) else none
theorem meth_append : Meth1 rAppend opAppend := by
  intro K A H a xs vs x v y ys Q hH hd hv e hQ
  unfold opAppend at e
  split at e
  · rename_i h
    cases e
    exact ⟨a, vs, v, rfl, rfl, hH, by rw [← hd.length, ← lim_line]; exact h, hQ .non _ (by simp only [Dv]) (hd.append (Dvs.one hv))⟩
  · cases e
theorem fe_append {X : Cx} {o e : Expr} {j : Nat} {apos cpos : Pos} {fv : CF} (ho : PE X o (tVar j)) (hv : FC X e fv) (hbase : attributeBase o "append" X.env (eval o X.env) = eval o X.env := by rfl)
    (hfew : ((backTo cpos (starEach (e :: []) X.env)).all (fun x => !x.1) && (backToKw cpos (keywordEach [] X.env)).all (fun x => x.1.isSome)
      && decide ((e :: []).length + ([] : List Keyword).length + (if ([] : List Keyword).isEmpty then 0 else 1) < 30)) = true := by rfl)
    (hline : (apos.endLine == cpos.line) = true := by rfl) (hs : starEach (e :: []) X.env = (false, eval e X.env) :: starEach [] X.env := by rfl) (hplain : (backTo cpos (starEach [] X.env)).any (·.1) = false := by rfl) : FE X (.Call (.Attribute o "append" apos) [e] [] cpos) (fMeth1 j opAppend fv) :=
  fe_meth1 PySem.F.slot_list_append PySem.F.type_list_append mt_append meth_append ho hv hbase hfew hline hs hplain
def opPopAt : Op1 := fun xs x => match x with
  | .int i => if -(2 ^ 63) ≤ i ∧ i < 2 ^ 63 then match ixN xs.length i with
    | some k => match xs[k]? with
      | some y => some (y, xs.eraseIdx k)
      | none => none
    | none => none
    else none
  | _ => none
theorem dvs_erase {K : PySem.W.Frag} {A : AS} {H : Hp} : ∀ {xs : List PyData} {vs : List V} (k : Nat), Dvs K A H xs vs → Dvs K A H (xs.eraseIdx k) (vs.eraseIdx k)
  | [], vs, k, h => by
    simp only [Dvs] at h
    subst h
    simp only [List.eraseIdx_nil, Dvs]
  | x :: xs, vs, 0, h => by
    simp only [Dvs] at h
    obtain ⟨v, t, rfl, _, h⟩ := h
    exact h
  | x :: xs, vs, k + 1, h => by
    simp only [Dvs] at h
    obtain ⟨v, t, rfl, h1, h⟩ := h
    simp only [List.eraseIdx_cons_succ]
    exact Dvs.cons h1 (dvs_erase k h)
theorem meth_popAt : Meth1 rPopAt opPopAt := by
  intro K A H a xs vs x v y ys Q hH hd hv e hQ
  unfold opPopAt at e
  split at e
  · rename_i i
    simp only [Dv] at hv
    subst hv
    split at e
    · rename_i hi
      cases hk : ixN xs.length i with
      | none => rw [hk] at e; cases e
      | some k =>
        rw [hk] at e
        simp only at e
        cases hy : xs[k]? with
        | none => rw [hy] at e; cases e
        | some z =>
          rw [hy] at e; cases e
          obtain ⟨w, h1, h2⟩ := hd.getD hy
          obtain ⟨s1, _⟩ := ixN_seq hk
          exact ⟨a, vs, i, k, w, rfl, rfl, hH, hi.1, hi.2, by rw [← hd.length]; exact s1, h1, hQ w _ h2 (dvs_erase k hd)⟩
    · cases e
  · cases e
theorem fe_popAt {X : Cx} {o e : Expr} {j : Nat} {apos cpos : Pos} {fv : CF} (ho : PE X o (tVar j)) (hv : FC X e fv) (hbase : attributeBase o "pop" X.env (eval o X.env) = eval o X.env := by rfl)
    (hfew : ((backTo cpos (starEach (e :: []) X.env)).all (fun x => !x.1) && (backToKw cpos (keywordEach [] X.env)).all (fun x => x.1.isSome)
      && decide ((e :: []).length + ([] : List Keyword).length + (if ([] : List Keyword).isEmpty then 0 else 1) < 30)) = true := by rfl)
    (hline : (apos.endLine == cpos.line) = true := by rfl) (hs : starEach (e :: []) X.env = (false, eval e X.env) :: starEach [] X.env := by rfl) (hplain : (backTo cpos (starEach [] X.env)).any (·.1) = false := by rfl) : FE X (.Call (.Attribute o "pop" apos) [e] [] cpos) (fMeth1 j opPopAt fv) :=
  fe_meth1 PySem.F.slot_list_pop PySem.F.type_list_pop mt_popAt meth_popAt ho hv hbase hfew hline hs hplain
end BH
set_option maxRecDepth 100000
set_option maxHeartbeats 4000000
namespace BH
open PySem PySem.Spec PyProof.Rows L2
/-! ### max, min of a list or a tuple of ints -/
def itemsOf : PyData → Option (List PyData)
  | .list xs => some xs
  | .tuple xs => some xs
  | _ => none
end BH
set_option maxRecDepth 100000
set_option maxHeartbeats 4000000
namespace BH
open PySem PySem.Spec PyProof.Rows L2
/-! ### zip of two, each a list or a tuple -/
/-- a list (false) or a tuple (true) -/
def SqK (K : PySem.W.Frag) (H : Hp) : Bool → Addr → List V → Prop
  | false, a, xs => SqL K H a xs
  | true, a, xs => SqT K H a xs
theorem SqK.inj {X : Cx} {pins : List (Addr × Obj)} {σ : L2.St} {H : Hp} {s : Shared} {k : Bool} {a : Addr} {xs ys : List V} (I : Inv X pins σ H s) (h : SqK X.K H k a xs) (h' : SqK X.K H k a ys) : xs = ys := by
  cases k with
  | false => exact I.list_inj h h'
  | true => exact I.tuple_inj h h'
def kindOf : PyData → Bool
  | .tuple _ => true
  | _ => false
end BH
set_option maxRecDepth 100000
set_option maxHeartbeats 4000000
set_option maxRecDepth 100000
set_option maxHeartbeats 2000000
namespace BH
open PySem PySem.Spec PyProof.Rows L2
/-! ### an own list that no one changes any more becomes data -/
def fFrzS (i : Nat) (f : SF) : SF := fun env => (f env).bind fun p => match p.1 with
  | .nx => match (RV.slot i).take p.2 with
    | some q => .ok (.nx, q.2)
    | none => .fail
  | _ => .ok p
theorem fs_frz {X : Cx} {st : Stmt} {f : SF} (i : Nat) (h : FS X st f) : FS X st (fFrzS i f) := by
  refine ⟨fun W tk hp => ⟨fun pins s σ H D I hq => ?_⟩⟩
  obtain ⟨g, rfl, rfl, ok, o⟩ := hq
  refine (h.ps W tk hp).run pins s g.st g.H D I ⟨g, rfl, rfl, ok, ?_⟩
  unfold fFrzS at o
  cases hf : f g.env with
  | fail => rw [hf] at o; exact o
  | exc c fs e => rw [hf] at o; exact o
  | ok p =>
    rw [hf] at o
    obtain ⟨fl, e⟩ := p
    cases fl with
    | bk => exact o
    | ct => exact o
    | rt r => exact o
    | nx =>
      simp only [Res.bind] at o
      cases ht : (RV.slot i).take e with
      | none => rw [ht] at o; exact o.elim
      | some q =>
        obtain ⟨x, e2⟩ := q
        rw [ht] at o
        intro g1 he st1 ok1
        subst he
        have hv : ∃ v, g1.st[i]? = some (some v) := by
          cases h2 : g1.env[i]? with
          | none => simp [RV.take, h2] at ht
          | some ov =>
            cases ov with
            | none => simp [RV.take, h2] at ht
            | some mv =>
              cases mv with
              | d y => obtain ⟨v, q, _⟩ := ok1.dat i y h2; exact ⟨v, q⟩
              | cell m c => obtain ⟨a, q, _⟩ := ok1.cel i m c h2; exact ⟨_, q⟩
        obtain ⟨v, hv⟩ := hv
        have rr : RVR X.K g1.H g1 (.slot i) v := hv
        obtain ⟨g2, k1, k2, k3, k4, k5, _⟩ := rr.take ok1 (Stp.refl g1) rfl ok1 ht
        have := o g2 k1 (Stp.trans ok st1 k4) k5
        rw [k2, k3] at this
        exact this
end BH
set_option maxRecDepth 100000
set_option maxHeartbeats 2000000
namespace BH
open PySem PySem.Spec PyProof.Rows L2
/-! ### repr of anything -/
def reprOk (d : PyData) : Prop := d.showable = true ∧ d.depth ≤ 60 ∧ d.shown.length ≤ lim
instance (d : PyData) : Decidable (reprOk d) := by unfold reprOk; exact inferInstance
def opReprA : List PyData → Option RV
  | [d] => if reprOk d then some (.d (.str d.shown)) else none
  | _ => none
theorem cd_reprA {X : Cx} (hg : X.A.guards = some []) (hu : X.A.units + 65 < cLine) (hsy : SysIn X.base) : CallD X (.builtin "repr") opReprA := by
  intro g pins s xs vs us r ok I hx rv e
  have core : ∀ (d : PyData) (a : Addr) (u : Value), Dw X.K g.A g.H d (.ref a) → RelV (.ref a) u → reprOk d → wpAny (model X.prog X.w) X.A (call (.builtin "repr") [u]) (OpQ X pins g (.d (.str d.shown))) X.xe s := by
    rintro d a u hd ru ⟨q1, q3, q4⟩
    cases ru
    obtain ⟨as, rd, ns⟩ := hd.reads2 I (show RelV (.ref a) (.ref a) from rfl)
    refine PySem.repr_of_reads' rd q1 (fun _ => ns) hg (by omega) (fun _ _ e => e) (fun h' u tk hk => ?_) (by rw [← lim_line]; exact q4)
    exact ⟨.str d.shown, g, rfl, rfl, I.kept (t' := tk) hk, ⟨u, rfl⟩, .refl g, ok, by show Dv _ _ _ _ _; simp only [Dv]⟩
  have fin : ∀ (x : Str) (t : Tok), OpQ X pins g (.d (.str x)) (.str x t) { s with toks := s.toks + 1 } := fun x t => ⟨.str x, g, rfl, rfl, I.kept (t' := s.toks + 1) fun _ _ e => e, ⟨t, rfl⟩, .refl g, ok, by show Dv _ _ _ _ _; simp only [Dv]⟩
  unfold opReprA at e
  split at e
  · rename_i d
    split at e
    · rename_i h
      cases e
      obtain ⟨v, rfl, hd⟩ := dws1 hx
      cases rv with
      | cons r1 r2 =>
        cases r2
        cases d with
        | none =>
          have q : v = .non := by simpa [Dw, Dv] using hd
          subst q
          cases r1
          refine PySem.P.repr_of_none ?_
          have := fin (PyData.none.shown) s.toks
          simpa only [PyData.shown] using this
        | bool b =>
          have q : v = .bl b := by simpa [Dw, Dv] using hd
          subst q
          cases r1
          refine PySem.P.repr_of_bool ?_
          have := fin ((PyData.bool b).shown) s.toks
          simpa only [PyData.shown] using this
        | int i =>
          obtain rfl := dw_int hd
          obtain ⟨t, rfl⟩ := r1
          have q : i.natAbs.log2 < 1920 := by simpa [PyData.showable] using h.1
          refine PySem.P.repr_of_int q ?_
          have := fin ((PyData.int i).shown) s.toks
          simpa only [PyData.shown] using this
        | str x =>
          have q : v = .str x := by simpa [Dw, Dv] using hd
          subst q
          obtain ⟨t, rfl⟩ := r1
          have q4 := h.2.2
          simp only [PyData.shown] at q4
          refine PySem.P.repr_of_str ?_ (by rw [← lim_line]; exact q4)
          have := fin ((PyData.str x).shown) s.toks
          simpa only [PyData.shown] using this
        | list ds =>
          obtain ⟨a, ws, rfl, q⟩ := dw_lst hd
          exact core _ a _ hd r1 h
        | tuple ds =>
          obtain ⟨a, ws, rfl, q⟩ := dw_tup hd
          exact core _ a _ hd r1 h
        | dict kvs =>
          have hd' := hd
          obtain ⟨a, es, rfl, _⟩ := hd'
          exact core _ a _ hd r1 h
    · cases e
  · cases e
end BH
set_option maxRecDepth 100000
set_option maxHeartbeats 4000000
set_option maxRecDepth 100000
set_option maxHeartbeats 4000000
set_option maxRecDepth 100000
set_option maxHeartbeats 4000000
namespace BH
open PySem PySem.Spec PyProof.Rows L2
/-! ### a method of one argument of a list or a text, that changes nothing -/
mutual
theorem Dv.dp {K : PySem.W.Frag} {A : AS} {H : Hp} : ∀ (d : PyData) (v : V), d.canLay0 = true → Dv K A H d v → Dp K H v d
  | .none, v, _, h => by simp only [Dv] at h; subst h; exact .non
  | .bool b, v, _, h => by simp only [Dv] at h; subst h; exact .bl b
  | .int i, v, _, h => by simp only [Dv] at h; subst h; exact .int i
  | .str x, v, _, h => by simp only [Dv] at h; subst h; exact .str x
  | .tuple ds, v, c, h => by
    simp only [Dv] at h
    obtain ⟨a, vs, rfl, q, r⟩ := h
    exact .tup q.sq (Dvs.dp ds vs (by simpa only [PyData.canLay0] using c) r)
  | .list ds, v, c, h => by
    simp only [Dv] at h
    obtain ⟨a, vs, rfl, q, r⟩ := h
    exact .lst q.sq (Dvs.dp ds vs (by simpa only [PyData.canLay0] using c) r)
  | .dict kvs, v, c, h => by simp [PyData.canLay0] at c
theorem Dvs.dp {K : PySem.W.Frag} {A : AS} {H : Hp} : ∀ (ds : List PyData) (vs : List V), PyData.canLayAll0 ds = true → Dvs K A H ds vs → DpAll K H vs ds
  | [], vs, _, h => by simp only [Dvs] at h; subst h; exact .nil
  | d :: ds, vs, c, h => by
    simp only [Dvs] at h
    obtain ⟨v, r, rfl, q, t⟩ := h
    simp only [PyData.canLayAll0, Bool.and_eq_true] at c
    exact .cons (Dv.dp d v c.1 q) (Dvs.dp ds r c.2 t)
end
/-! ### methods that change a list -/
/-! extend by a new list -/
def fExt (j : Nat) (fe : EF) : EF := fun env => match env[j]? with
  | some (some (.cell _ (.lst _))) => (fe env).bind fun p => match p.1, p.2[j]? with
    | .tmp (.lst zs), some (some (.cell _ (.lst xs))) => if xs.length + zs.length ≤ lim then match pokeE p.2 j fun _ => some (xs ++ zs) with
        | some env' => .ok (.d .none, env')
        | none => .fail
      else .fail
    | _, _ => .fail
  | _ => .fail
theorem fe_extend {X : Cx} {o e : Expr} {j : Nat} {apos cpos : Pos} {fe : EF} (ho : PE X o (tVar j)) (hv : FE X e fe) (hbase : attributeBase o "extend" X.env (eval o X.env) = eval o X.env := by rfl)
    (hfew : ((backTo cpos (starEach (e :: []) X.env)).all (fun x => !x.1) && (backToKw cpos (keywordEach [] X.env)).all (fun x => x.1.isSome)
      && decide ((e :: []).length + ([] : List Keyword).length + (if ([] : List Keyword).isEmpty then 0 else 1) < 30)) = true := by rfl)
    (hline : (apos.endLine == cpos.line) = true := by rfl) (hs : starEach (e :: []) X.env = (false, eval e X.env) :: starEach [] X.env := by rfl) (hplain : (backTo cpos (starEach [] X.env)).any (·.1) = false := by rfl) :
    FE X (.Call (.Attribute o "extend" apos) [e] [] cpos) (fExt j fe) := by
  refine ⟨fun W tk => ⟨fun pins s σ H Q I hq => ?_⟩⟩
  obtain ⟨g, rfl, rfl, ok, oo⟩ := hq
  unfold fExt at oo
  split at oo
  · rename_i m c hj
    obtain ⟨a, q1, q2, q3⟩ := ok.cel j m _ hj
    ·
      obtain ⟨vs0, y1, y2⟩ := q3
      refine (pe_bm (X := X) PySem.F.plainAttrs_list PySem.F.slot_list_extend PySem.F.type_list_extend mt_extend ho (pa_cons (hv.pe W tk) pa_nil hs) hbase hfew hline hs hplain).run pins s g.st g.H Q I ⟨.ref a, q1, .inl ⟨rfl, vs0, .of y1⟩, g, rfl, rfl, ok, oo.bind0.imp fun g1 rv st e1 o1 p v rr => ?_⟩
      split at p
      · rename_i zs m1 xs h1 hj1
        change rv = _ at h1
        subst h1
        change g1.env[j]? = _ at hj1
        split at p
        · rename_i hlen
          cases hp : pokeE g1.env j fun _ => some (xs ++ zs) with
          | none => rw [hp] at p; exact p.elim
          | some env' =>
            rw [hp] at p
            simp only at p
            have hst : g1.st[j]? = some (some (.ref a)) := by rw [e1]; exact q1
            obtain ⟨m2, a2, xs2, ys2, vs2, ea, hm2, hj2, hf, hH, hd, he⟩ := poke_of o1 hst hp
            cases ea
            rw [hj1] at hj2; cases hj2
            cases hf
            obtain ⟨b, rfl, bA, ⟨ws, bH, bd⟩, _, _⟩ := rr
            have hA : g1.A a := by
              obtain ⟨b', w1, w2, _⟩ := o1.cel j _ _ hj1
              rw [hst] at w1; cases w1; exact w2
            refine ⟨a, b, vs2, ws, rfl, rfl, hH, bH, by rw [← hd.length, ← bd.length, ← lim_line]; exact hlen, ?_⟩
            have hws : Dvs X.K g1.A g1.H (xs ++ zs) (vs2 ++ ws) := hd.append bd
            obtain ⟨s4, o4⟩ := poke (ws := vs2 ++ ws) o1 hj1 hm2 hst hH hws
            rw [← he] at s4 o4
            exact p { g1 with H := upd g1.H a (.lst (vs2 ++ ws)), env := env' } rfl e1 (st.trans ok s4) o4 .non (by show Dv _ _ _ _ _; simp only [Dv])
        · exact p.elim
      · exact p.elim
  · exact oo.elim
end BH
set_option maxRecDepth 100000
set_option maxHeartbeats 4000000
set_option maxRecDepth 100000
set_option maxHeartbeats 4000000
set_option maxRecDepth 100000
set_option maxHeartbeats 4000000
set_option maxRecDepth 100000
set_option maxHeartbeats 2000000
namespace BH
open PySem PySem.Spec PyProof.Rows L2
/-! ### what a def computes, over plain data -/
inductive M (α : Type) where
  | ok (a : α)
  | exc (c : String) (fs : List (String × PyData))
  | fail
protected def M.bind {α β : Type} : M α → (α → M β) → M β
  | .ok a, f => f a
  | .exc c fs, _ => .exc c fs
  | .fail, _ => .fail
instance : Monad M where
  pure := .ok
  bind := M.bind
section
variable {α β γ : Type}
@[simp] theorem M.ok_bind (a : α) (f : α → M β) : (M.ok a >>= f) = f a := rfl
@[simp] theorem M.exc_bind (c : String) (fs : List (String × PyData)) (f : α → M β) : (M.exc c fs >>= f) = .exc c fs := rfl
@[simp] theorem M.fail_bind (f : α → M β) : (M.fail >>= f) = .fail := rfl
@[simp] theorem M.pure_ok (a : α) : (pure a : M α) = .ok a := rfl
theorem M.assoc (m : M α) (f : α → M β) (h : β → M γ) : (m >>= f) >>= h = m >>= fun a => f a >>= h := by cases m <;> rfl
end
/-! ### the reading against it -/
def bnd {β γ : Type} (r : Res (β × SE)) (g : β → SE → Res γ) : Res γ := r.bind fun p => g p.1 p.2
theorem bnd_ok {β γ : Type} (b : β) (e : SE) (g : β → SE → Res γ) : bnd (.ok (b, e)) g = g b e := rfl
theorem bnd_assoc {β γ δ : Type} (r : Res (β × SE)) (f : β → SE → Res (γ × SE)) (g : γ → SE → Res δ) : bnd (bnd r f) g = bnd r fun b e => bnd (f b e) g := by cases r <;> rfl
def Sim {α β : Type} (r : Res (β × SE)) (m : M α) (k : α → β → SE → Prop) (x : SE → Prop) : Prop :=
  match m with
  | .ok a => ∃ b e, r = .ok (b, e) ∧ k a b e
  | .exc c fs => ∃ e, r = .exc c fs e ∧ x e
  | .fail => True
section
variable {α β γ δ σ ρ : Type} {env e : SE} {x : SE → Prop}
theorem sim_ret {a : α} {b : β} {k : α → β → SE → Prop} (h : k a b e) : Sim (.ok (b, e)) (.ok a) k x := ⟨b, e, rfl, h⟩
theorem sim_bind {r : Res (β × SE)} {m1 : M α} {k1 : α → β → SE → Prop} {g : β → SE → Res (δ × SE)} {m2 : α → M γ} {k : γ → δ → SE → Prop} (h : Sim r m1 k1 x) (hg : ∀ a b e, k1 a b e → Sim (g b e) (m2 a) k x) : Sim (bnd r g) (m1 >>= m2) k x := by
  cases m1 with
  | ok a => obtain ⟨b, e, rfl, h⟩ := h; exact hg a b e h
  | exc c fs => obtain ⟨e, rfl, h⟩ := h; exact ⟨e, rfl, h⟩
  | fail => exact trivial
theorem sim_bnd0 {r : Res (β × SE)} {m : M α} {k : α → β → SE → Prop} (h : Sim (bnd r fun b e => .ok (b, e)) m k x) : Sim r m k x := by
  have : (bnd r fun b e => Res.ok (b, e)) = r := by cases r <;> rfl
  rwa [this] at h
end
/-! ### constructs, step by step -/
def binR (op : PyData → PyData → Option RV) (a b : RV) (e : SE) : Res (RV × SE) := match a.view e, b.view e with
  | some x, some y => match op x y with
    | some r => .ok (r, e)
    | none => .fail
  | _, _ => .fail
def negR (a : RV) (e : SE) : Res (RV × SE) := match a.view e with
  | some (.int i) => .ok (.d (.int (-i)), e)
  | _ => .fail
def takeR (a : RV) (e : SE) : Res (PyData × SE) := match a.take e with
  | some q => .ok q
  | none => .fail
def tupR (xs : List PyData) (e : SE) : Res (RV × SE) := if xs.length ≤ lim then .ok (.d (.tuple xs), e) else .fail
def lstR (xs : List PyData) (e : SE) : Res (RV × SE) := if xs.length ≤ lim then .ok (.tmp (.lst xs), e) else .fail
def callBR (op : List PyData → Option RV) (rs : List RV) (e : SE) : Res (RV × SE) := match views rs e with
  | some xs => match op xs with
    | some r => .ok (r, e)
    | none => .fail
  | none => .fail
def callFR (n : Nat) (F : List Arg → FRes) (as : List AV) (e : SE) : Res (RV × SE) := if (refsOf as).Nodup then match toArgs as e with
    | some l => if l.length = n then match F l with
      | .ok r outs => .ok (r.rv, putOuts as outs e)
      | .exc c fs outs => .exc c fs (putOuts as outs e)
      | .fail => .fail
      else .fail
    | none => .fail
  else .fail
def slR (a : RV) (lo hi : Option Int) (e : SE) : Res (RV × SE) := match a.view e with
  | some x => match opSl x lo hi with
    | some res => .ok (res, e)
    | none => .fail
  | none => .fail
def partR (a : RV) (e : SE) : Res (Option Int × SE) := match a.view e with
  | some (.int i) => .ok (some i, e)
  | _ => .fail
def isaR (op : PyData → Bool) (a : RV) (e : SE) : Res (RV × SE) := match a.view e with
  | some x => .ok (.d (.bool (op x)), e)
  | none => .fail
def seqR (a : RV) (e : SE) : Res ((List PyData × List Nat) × SE) := match a.view e with
  | some (.list ds) => .ok ((ds, lkOf a e), e)
  | some (.tuple ds) => .ok ((ds, []), e)
  | _ => .fail
def rng1R (rs : List RV) (e : SE) : Res ((List PyData × List Nat) × SE) := match views rs e with
  | some [.int j] => if rngG j then .ok ((rangeD 0 j.toNat, []), e) else .fail
  | _ => .fail
def rng2R (rs : List RV) (e : SE) : Res ((List PyData × List Nat) × SE) := match views rs e with
  | some [.int i, .int j] => if rngG i ∧ rngG j then .ok ((rangeD i (j - i).toNat, []), e) else .fail
  | _ => .fail
def compR (b : BF) (vs : List Nat) (tt : TF) (te : CF) (it : List PyData × List Nat) (e : SE) : Res (RV × SE) := match cLoop b vs tt te it.1 (lockAll it.2 e) [] with
  | .ok (acc, e') => .ok (.tmp (.lst acc), unlockAll it.2 e e')
  | .exc _ _ _ => .fail
  | .fail => .fail
def forR (b : BF) (body : SF) (it : List PyData × List Nat) (e : SE) : Res (Fl × SE) := fUnl it.2 e (fLoop b body it.1 (lockAll it.2 e))
def asgR (i : Nat) (r : RV) (e : SE) : Res (Fl × SE) := match asg r e i with
  | some e' => .ok (.nx, e')
  | none => .fail
def parR (i j : Nat) (rs : List RV) (e : SE) : Res (Fl × SE) := match rs with
  | [r1, r2] => match r1.norm e with
    | some (r1', env1) => match r2.norm env1 with
      | some (r2', env2) => match r1'.mv, r2'.mv with
        | some m1, some m2 => match setS env2 i m1 with
          | some env3 => match setS env3 j m2 with
            | some env4 => .ok (.nx, env4)
            | none => .fail
          | none => .fail
        | _, _ => .fail
      | none => .fail
    | none => .fail
  | _ => .fail
def bindR (b : BF) (x : PyData) (e : SE) : Res (Fl × SE) := match b x e with
  | some e' => .ok (.nx, e')
  | none => .fail
def setIxR (p : PyData) (q : RV) (r : PyData) (e : SE) : Res (Fl × SE) := match q, r with
  | .slot j, .int k => match pokeE e j fun xs => (ixN xs.length k).map fun n => xs.set n p with
    | some env' => .ok (.nx, env')
    | none => .fail
  | _, _ => .fail
def retR (r : RV) (e : SE) : Res (Fl × SE) := match r with
  | .d x => .ok (.rt (.d x), e)
  | .tmp c => .ok (.rt (.tmp c), e)
  | .slot i => match e[i]? with
    | some (some (.d x)) => .ok (.rt (.d x), e)
    | some (some (.cell .own c)) => .ok (.rt (.tmp c), e)
    | _ => .fail
def seqK (t : SF) (fl : Fl) (e : SE) : Res (Fl × SE) := match fl with
  | .nx => t e
  | _ => .ok (fl, e)
def frzK (i : Nat) (fl : Fl) (e : SE) : Res (Fl × SE) := match fl with
  | .nx => match (RV.slot i).take e with
    | some q => .ok (.nx, q.2)
    | none => .fail
  | _ => .ok (fl, e)
def andVR (t : EF) (a : RV) (e : SE) : Res (RV × SE) := match a.view e with
  | some x => match truD x with
    | some true => t e
    | some false => .ok (a, e)
    | none => .fail
  | none => .fail
section
variable {α δ : Type} {env : SE} {m : M α} {k : α → δ → SE → Prop} {x : SE → Prop}
theorem c_name {i : Nat} {v : PyData} {g : RV → SE → Res (δ × SE)} (h : env[i]? = some (some (.d v))) (hg : Sim (g (.d v) env) m k x) : Sim (bnd (fName i env) g) m k x := by
  have : fName i env = .ok (.d v, env) := by unfold fName; rw [h]
  rw [this]; exact hg
theorem c_cell {i : Nat} {md : Mode} {c : Cell} {g : RV → SE → Res (δ × SE)} (h : env[i]? = some (some (.cell md c))) (hg : Sim (g (.slot i) env) m k x) : Sim (bnd (fName i env) g) m k x := by
  have : fName i env = .ok (.slot i, env) := by unfold fName; rw [h]
  rw [this]; exact hg
theorem c_const {v : PyData} {g : RV → SE → Res (δ × SE)} (hg : Sim (g (.d v) env) m k x) : Sim (bnd (fC v env) g) m k x := hg
theorem c_bin {op : PyData → PyData → Option RV} {fa fb : EF} {g : RV → SE → Res (δ × SE)} (h : Sim (bnd (fa env) fun a e1 => bnd (fb e1) fun b e2 => bnd (binR op a b e2) g) m k x) : Sim (bnd (fBin op fa fb env) g) m k x := by
  have e : fBin op fa fb env = bnd (fa env) fun a e1 => bnd (fb e1) fun b e2 => binR op a b e2 := rfl
  rw [e]; simpa only [bnd_assoc] using h
theorem c_neg {f : EF} {g : RV → SE → Res (δ × SE)} (h : Sim (bnd (f env) fun a e1 => bnd (negR a e1) g) m k x) : Sim (bnd (fNeg f env) g) m k x := by
  have e : fNeg f env = bnd (f env) fun a e1 => negR a e1 := rfl
  rw [e]; simpa only [bnd_assoc] using h
theorem c_take {f : EF} {g : PyData → SE → Res (δ × SE)} (h : Sim (bnd (f env) fun a e1 => bnd (takeR a e1) g) m k x) : Sim (bnd (fTake f env) g) m k x := by
  have e : fTake f env = bnd (f env) fun a e1 => takeR a e1 := rfl
  rw [e]; simpa only [bnd_assoc] using h
theorem c_nil {g : List PyData → SE → Res (δ × SE)} (h : Sim (g [] env) m k x) : Sim (bnd (fNil env) g) m k x := h
theorem c_cons {f : CF} {t : CFs} {g : List PyData → SE → Res (δ × SE)} (h : Sim (bnd (f env) fun a e1 => bnd (t e1) fun as e2 => g (a :: as) e2) m k x) : Sim (bnd (fCons f t env) g) m k x := by
  have e : fCons f t env = bnd (f env) fun a e1 => bnd (t e1) fun as e2 => .ok (a :: as, e2) := rfl
  rw [e]; simpa only [bnd_assoc, bnd_ok] using h
theorem c_pnil {g : List RV → SE → Res (δ × SE)} (h : Sim (g [] env) m k x) : Sim (bnd (fPNil env) g) m k x := h
theorem c_pcons {f : EF} {t : EFs} {g : List RV → SE → Res (δ × SE)} (h : Sim (bnd (f env) fun a e1 => bnd (t e1) fun as e2 => g (a :: as) e2) m k x) : Sim (bnd (fPCons f t env) g) m k x := by
  have e : fPCons f t env = bnd (f env) fun a e1 => bnd (t e1) fun as e2 => .ok (a :: as, e2) := rfl
  rw [e]; simpa only [bnd_assoc, bnd_ok] using h
theorem c_tup {f : CFs} {g : RV → SE → Res (δ × SE)} (h : Sim (bnd (f env) fun a e1 => bnd (tupR a e1) g) m k x) : Sim (bnd (fTup f env) g) m k x := by
  have e : fTup f env = bnd (f env) fun a e1 => tupR a e1 := rfl
  rw [e]; simpa only [bnd_assoc] using h
theorem c_lst {f : CFs} {g : RV → SE → Res (δ × SE)} (h : Sim (bnd (f env) fun a e1 => bnd (lstR a e1) g) m k x) : Sim (bnd (fLst f env) g) m k x := by
  have e : fLst f env = bnd (f env) fun a e1 => lstR a e1 := rfl
  rw [e]; simpa only [bnd_assoc] using h
theorem c_call {op : List PyData → Option RV} {f : EFs} {g : RV → SE → Res (δ × SE)} (h : Sim (bnd (f env) fun a e1 => bnd (callBR op a e1) g) m k x) : Sim (bnd (fCall op f env) g) m k x := by
  have e : fCall op f env = bnd (f env) fun a e1 => callBR op a e1 := rfl
  rw [e]; simpa only [bnd_assoc] using h
theorem c_callF {n : Nat} {F : List Arg → FRes} {f : AF} {g : RV → SE → Res (δ × SE)} (h : Sim (bnd (f env) fun a e1 => bnd (callFR n F a e1) g) m k x) : Sim (bnd (fCallF n F f env) g) m k x := by
  have e : fCallF n F f env = bnd (f env) fun a e1 => callFR n F a e1 := rfl
  rw [e]; simpa only [bnd_assoc] using h
theorem c_anil {g : List AV → SE → Res (δ × SE)} (h : Sim (g [] env) m k x) : Sim (bnd (aNil env) g) m k x := h
theorem c_adat {f : CF} {t : AF} {g : List AV → SE → Res (δ × SE)} (h : Sim (bnd (f env) fun a e1 => bnd (t e1) fun as e2 => g (.d a :: as) e2) m k x) : Sim (bnd (aDat f t env) g) m k x := by
  have e : aDat f t env = bnd (f env) fun a e1 => bnd (t e1) fun as e2 => .ok (.d a :: as, e2) := rfl
  rw [e]; simpa only [bnd_assoc, bnd_ok] using h
theorem c_aref {i : Nat} {md : Mode} {c : Cell} {t : AF} {g : List AV → SE → Res (δ × SE)} (hi : env[i]? = some (some (.cell md c))) (h : Sim (bnd (t env) fun as e2 => g (.ref i :: as) e2) m k x) : Sim (bnd (aRef i t env) g) m k x := by
  have e : aRef i t env = bnd (t env) fun as e2 => .ok (.ref i :: as, e2) := by unfold aRef; rw [hi]; rfl
  rw [e]; simpa only [bnd_assoc, bnd_ok] using h
theorem c_nopart {g : Option Int → SE → Res (δ × SE)} (h : Sim (g none env) m k x) : Sim (bnd (fNoPart env) g) m k x := h
theorem c_part {f : EF} {g : Option Int → SE → Res (δ × SE)} (h : Sim (bnd (f env) fun a e1 => bnd (partR a e1) g) m k x) : Sim (bnd (fPart f env) g) m k x := by
  have e : fPart f env = bnd (f env) fun a e1 => partR a e1 := rfl
  rw [e]; simpa only [bnd_assoc] using h
theorem c_sl {f : EF} {lo hi : OF} {g : RV → SE → Res (δ × SE)} (h : Sim (bnd (f env) fun a e1 => bnd (lo e1) fun l e2 => bnd (hi e2) fun r e3 => bnd (slR a l r e3) g) m k x) : Sim (bnd (fSl f lo hi env) g) m k x := by
  have e : fSl f lo hi env = bnd (f env) fun a e1 => bnd (lo e1) fun l e2 => bnd (hi e2) fun r e3 => slR a l r e3 := rfl
  rw [e]; simpa only [bnd_assoc] using h
theorem c_isa {op : PyData → Bool} {f : EF} {g : RV → SE → Res (δ × SE)} (h : Sim (bnd (f env) fun a e1 => bnd (isaR op a e1) g) m k x) : Sim (bnd (fIsa op f env) g) m k x := by
  have e : fIsa op f env = bnd (f env) fun a e1 => isaR op a e1 := rfl
  rw [e]; simpa only [bnd_assoc] using h
theorem c_comp {fi : IF} {b : BF} {vs : List Nat} {tt : TF} {te : CF} {g : RV → SE → Res (δ × SE)} (h : Sim (bnd (fi env) fun it e1 => bnd (compR b vs tt te it e1) g) m k x) : Sim (bnd (fComp fi b vs tt te env) g) m k x := by
  have e : fComp fi b vs tt te env = bnd (fi env) fun it e1 => compR b vs tt te it e1 := rfl
  rw [e]; simpa only [bnd_assoc] using h
theorem c_notV {f : TF} {g : RV → SE → Res (δ × SE)} (h : Sim (bnd (f env) fun b e1 => g (.d (.bool !b)) e1) m k x) : Sim (bnd (fNotV f env) g) m k x := by
  have e : fNotV f env = bnd (f env) fun b e1 => .ok (.d (.bool !b), e1) := rfl
  rw [e]; simpa only [bnd_assoc, bnd_ok] using h
theorem c_andV {f t : EF} {g : RV → SE → Res (δ × SE)} (h : Sim (bnd (f env) fun a e1 => bnd (andVR t a e1) g) m k x) : Sim (bnd (fAndV f t env) g) m k x := by
  have e : fAndV f t env = bnd (f env) fun a e1 => andVR t a e1 := rfl
  rw [e]; simpa only [bnd_assoc] using h
/-! tests -/
theorem c_tru {f : EF} {g : Bool → SE → Res (δ × SE)} (h : Sim (bnd (f env) fun a e1 => bnd (truR a e1) g) m k x) : Sim (bnd (fTru f env) g) m k x := by
  have e : fTru f env = bnd (f env) fun a e1 => truR a e1 := rfl
  rw [e]; simpa only [bnd_assoc] using h
theorem c_and {f t : TF} {g : Bool → SE → Res (δ × SE)} (h : Sim (bnd (f env) fun a e1 => bnd (if a = true then t e1 else .ok (false, e1)) g) m k x) : Sim (bnd (fAnd f t env) g) m k x := by
  have e : fAnd f t env = bnd (f env) fun a e1 => if a = true then t e1 else .ok (false, e1) := rfl
  rw [e]; simpa only [bnd_assoc] using h
theorem c_or {f t : TF} {g : Bool → SE → Res (δ × SE)} (h : Sim (bnd (f env) fun a e1 => bnd (if a = true then .ok (true, e1) else t e1) g) m k x) : Sim (bnd (fOr f t env) g) m k x := by
  have e : fOr f t env = bnd (f env) fun a e1 => if a = true then .ok (true, e1) else t e1 := rfl
  rw [e]; simpa only [bnd_assoc] using h
theorem c_not {f : TF} {g : Bool → SE → Res (δ × SE)} (h : Sim (bnd (f env) fun b e1 => g (!b) e1) m k x) : Sim (bnd (fNot f env) g) m k x := by
  have e : fNot f env = bnd (f env) fun b e1 => .ok (!b, e1) := rfl
  rw [e]; simpa only [bnd_assoc, bnd_ok] using h
/-! iterables -/
theorem c_seq {f : EF} {g : (List PyData × List Nat) → SE → Res (δ × SE)} (h : Sim (bnd (f env) fun a e1 => bnd (seqR a e1) g) m k x) : Sim (bnd (fSeq f env) g) m k x := by
  have e : fSeq f env = bnd (f env) fun a e1 => seqR a e1 := rfl
  rw [e]; simpa only [bnd_assoc] using h
theorem c_rng1 {f : EFs} {g : (List PyData × List Nat) → SE → Res (δ × SE)} (h : Sim (bnd (f env) fun a e1 => bnd (rng1R a e1) g) m k x) : Sim (bnd (fRng1 f env) g) m k x := by
  have e : fRng1 f env = bnd (f env) fun a e1 => rng1R a e1 := rfl
  rw [e]; simpa only [bnd_assoc] using h
theorem c_rng2 {f : EFs} {g : (List PyData × List Nat) → SE → Res (δ × SE)} (h : Sim (bnd (f env) fun a e1 => bnd (rng2R a e1) g) m k x) : Sim (bnd (fRng2 f env) g) m k x := by
  have e : fRng2 f env = bnd (f env) fun a e1 => rng2R a e1 := rfl
  rw [e]; simpa only [bnd_assoc] using h
/-! statements -/
theorem c_set {i : Nat} {f : EF} {g : Fl → SE → Res (δ × SE)} (h : Sim (bnd (f env) fun r e1 => bnd (asgR i r e1) g) m k x) : Sim (bnd (fSet i f env) g) m k x := by
  have e : fSet i f env = bnd (f env) fun r e1 => asgR i r e1 := rfl
  rw [e]; simpa only [bnd_assoc] using h
theorem c_frz {i : Nat} {f : SF} {g : Fl → SE → Res (δ × SE)} (h : Sim (bnd (f env) fun r e1 => bnd (frzK i r e1) g) m k x) : Sim (bnd (fFrzS i f env) g) m k x := by
  have e : fFrzS i f env = bnd (f env) fun r e1 => frzK i r e1 := rfl
  rw [e]; simpa only [bnd_assoc] using h
theorem c_par {i j : Nat} {f : EFs} {g : Fl → SE → Res (δ × SE)} (h : Sim (bnd (f env) fun r e1 => bnd (parR i j r e1) g) m k x) : Sim (bnd (fPar i j f env) g) m k x := by
  have e : fPar i j f env = bnd (f env) fun r e1 => parR i j r e1 := rfl
  rw [e]; simpa only [bnd_assoc] using h
theorem c_bindS {b : BF} {f : CF} {g : Fl → SE → Res (δ × SE)} (h : Sim (bnd (f env) fun r e1 => bnd (bindR b r e1) g) m k x) : Sim (bnd (fBind b f env) g) m k x := by
  have e : fBind b f env = bnd (f env) fun r e1 => bindR b r e1 := rfl
  rw [e]; simpa only [bnd_assoc] using h
theorem c_setIx {fo : EF} {fi fv : CF} {g : Fl → SE → Res (δ × SE)} (h : Sim (bnd (fv env) fun p e1 => bnd (fo e1) fun q e2 => bnd (fi e2) fun r e3 => bnd (setIxR p q r e3) g) m k x) : Sim (bnd (fSetIx fo fi fv env) g) m k x := by
  have e : fSetIx fo fi fv env = bnd (fv env) fun p e1 => bnd (fo e1) fun q e2 => bnd (fi e2) fun r e3 => setIxR p q r e3 := rfl
  rw [e]; simpa only [bnd_assoc] using h
theorem c_ifS {c : TF} {a b : SF} {g : Fl → SE → Res (δ × SE)} (h : Sim (bnd (c env) fun t e1 => bnd (if t = true then a e1 else b e1) g) m k x) : Sim (bnd (fIfS c a b env) g) m k x := by
  have e : fIfS c a b env = bnd (c env) fun t e1 => if t = true then a e1 else b e1 := rfl
  rw [e]; simpa only [bnd_assoc] using h
theorem c_ret {f : EF} {g : Fl → SE → Res (δ × SE)} (h : Sim (bnd (f env) fun r e1 => bnd (retR r e1) g) m k x) : Sim (bnd (fRet f env) g) m k x := by
  have e : fRet f env = bnd (f env) fun r e1 => retR r e1 := rfl
  rw [e]; simpa only [bnd_assoc] using h
theorem c_expr {f : EF} {g : Fl → SE → Res (δ × SE)} (h : Sim (bnd (f env) fun r e1 => g .nx e1) m k x) : Sim (bnd (fExpr f env) g) m k x := by
  have e : fExpr f env = bnd (f env) fun r e1 => .ok (.nx, e1) := rfl
  rw [e]; simpa only [bnd_assoc, bnd_ok] using h
theorem c_for {fi : IF} {b : BF} {body : SF} {g : Fl → SE → Res (δ × SE)} (h : Sim (bnd (fi env) fun it e1 => bnd (forR b body it e1) g) m k x) : Sim (bnd (fFor fi b body env) g) m k x := by
  have e : fFor fi b body env = bnd (fi env) fun it e1 => forR b body it e1 := rfl
  rw [e]; simpa only [bnd_assoc] using h
end
end BH
set_option maxRecDepth 100000
set_option maxHeartbeats 2000000
namespace BH
open PySem PySem.Spec PyProof.Rows L2
/-! ### how data is written -/
section
variable {α β γ : Type}
def eT (e : α → PyData) (xs : List α) : PyData := .tuple (xs.map e)
def eL (e : α → PyData) (xs : List α) : PyData := .list (xs.map e)
def eP (e : α → PyData) (f : β → PyData) (p : α × β) : PyData := .tuple [e p.1, f p.2]
def eP3 (e : α → PyData) (f : β → PyData) (h : γ → PyData) (p : α × β × γ) : PyData := .tuple [e p.1, f p.2.1, h p.2.2]
def eO (e : α → PyData) : Option α → PyData
  | none => .none
  | some a => e a
def eU (_ : Unit) : PyData := .none
/-- data that are told apart -/
structure EqT [DecidableEq α] (e : α → PyData) (d : Nat) : Prop where
  eqv : ∀ a b, PyData.eqv (e a) (e b) = decide (a = b)
  lay : ∀ a, (e a).canLay0 = true
  dep : ∀ a, (e a).depth ≤ d
def eqD [DecidableEq α] (a b : α) : Bool := decide (a = b)
def memD [DecidableEq α] (a : α) (xs : List α) : Bool := xs.any fun y => decide (y = a)
@[simp] theorem eqD_true [DecidableEq α] {a b : α} : eqD a b = true ↔ a = b := by simp [eqD]
@[simp] theorem eqD_false [DecidableEq α] {a b : α} : eqD a b = false ↔ a ≠ b := by simp [eqD]
@[simp] theorem memD_true [DecidableEq α] {a : α} {xs : List α} : memD a xs = true ↔ a ∈ xs := by
  simp [memD]
@[simp] theorem memD_false [DecidableEq α] {a : α} {xs : List α} : memD a xs = false ↔ a ∉ xs := by
  rw [Bool.eq_false_iff, ne_eq, memD_true]
theorem EqT.I : EqT PyData.int 0 := ⟨fun a b => by simp [PyData.eqv]; rfl, fun a => by simp [PyData.canLay0], fun a => by simp [PyData.depth]⟩
theorem EqT.all [DecidableEq α] {e : α → PyData} {d : Nat} (h : EqT e d) : ∀ (xs ys : List α), PyData.eqvAll (xs.map e) (ys.map e) = decide (xs = ys)
  | [], [] => by simp [PyData.eqvAll]
  | [], y :: ys => by simp [PyData.eqvAll]
  | x :: xs, [] => by simp [PyData.eqvAll]
  | x :: xs, y :: ys => by simp only [List.map_cons, PyData.eqvAll, h.eqv, EqT.all h xs ys, List.cons.injEq, Bool.decide_and]
theorem EqT.layAll [DecidableEq α] {e : α → PyData} {d : Nat} (h : EqT e d) : ∀ xs : List α, PyData.canLayAll0 (xs.map e) = true
  | [] => by simp [PyData.canLayAll0]
  | x :: xs => by simp [PyData.canLayAll0, h.lay, EqT.layAll h xs]
theorem EqT.depAll [DecidableEq α] {e : α → PyData} {d : Nat} (h : EqT e d) : ∀ xs : List α, PyData.depthAll (xs.map e) ≤ d
  | [] => by simp [PyData.depthAll]
  | x :: xs => by
    have := h.dep x
    have := EqT.depAll h xs
    simp only [List.map_cons, PyData.depthAll]; omega
theorem EqT.T [DecidableEq α] {e : α → PyData} {d : Nat} (h : EqT e d) : EqT (eT e) (d + 1) :=
  ⟨fun a b => by simp only [eT, PyData.eqv, h.all], fun a => by simp only [eT, PyData.canLay0, h.layAll], fun a => by have := h.depAll a; simp only [eT, PyData.depth]; omega⟩
theorem EqT.L [DecidableEq α] {e : α → PyData} {d : Nat} (h : EqT e d) : EqT (eL e) (d + 1) :=
  ⟨fun a b => by simp only [eL, PyData.eqv, h.all], fun a => by simp only [eL, PyData.canLay0, h.layAll], fun a => by have := h.depAll a; simp only [eL, PyData.depth]; omega⟩
theorem EqT.P [DecidableEq α] [DecidableEq β] {e : α → PyData} {f : β → PyData} {d d' : Nat} (h : EqT e d) (h' : EqT f d') : EqT (eP e f) (max d d' + 1) :=
  ⟨fun a b => by
      obtain ⟨a1, a2⟩ := a; obtain ⟨b1, b2⟩ := b
      simp only [eP, PyData.eqv, PyData.eqvAll, h.eqv, h'.eqv, Bool.and_true, Prod.mk.injEq, Bool.decide_and],
    fun a => by simp only [eP, PyData.canLay0, PyData.canLayAll0, h.lay, h'.lay, Bool.and_self],
    fun a => by have := h.dep a.1; have := h'.dep a.2; simp only [eP, PyData.depth, PyData.depthAll]; omega⟩
/-- never None -/
def NoN (e : α → PyData) : Prop := ∀ a, PyData.eqv .none (e a) = false ∧ PyData.eqv (e a) .none = false
theorem NoN.T {e : α → PyData} : NoN (eT e) := fun a => by simp [eT, PyData.eqv]
theorem NoN.L {e : α → PyData} : NoN (eL e) := fun a => by simp [eL, PyData.eqv]
theorem NoN.P {e : α → PyData} {f : β → PyData} : NoN (eP e f) := fun a => by simp [eP, PyData.eqv]
theorem EqT.shaped [DecidableEq α] {e : α → PyData} {d : Nat} (h : EqT e d) (hd : d ≤ 64) (a : α) : SeqAt.shaped (e a) = true := by
  unfold SeqAt.shaped
  rw [h.lay, Bool.true_and]
  exact decide_eq_true (Nat.le_trans (h.dep a) hd)
end
/-! ### operations that may fail -/
section
variable {α β γ : Type}
@[irreducible] def ixM (xs : List α) (i : Int) : M α := match atI xs i with
  | some a => .ok a
  | none => .fail
@[irreducible] def mulM (i j : Int) : M Int := if mulG i j then .ok (i * j) else .fail
@[irreducible] def divM (i j : Int) : M Int := if divG j then .ok (i / j) else if divN j then .ok (i.fdiv j) else .fail
@[irreducible] def modM (i j : Int) : M Int := if 0 < j then .ok (i % j) else if j ≠ 0 then .ok (i.fmod j) else .fail
@[irreducible] def lenG (xs : List α) : M (List α) := if xs.length ≤ lim then .ok xs else .fail
def rangeZ (lo : Int) (n : Nat) : List Int := (List.range n).map fun i => lo + (i : Nat)
@[irreducible] def range1M (j : Int) : M (List Int) := if rngG j then .ok (rangeZ 0 j.toNat) else .fail
@[irreducible] def range2M (i j : Int) : M (List Int) := if rngG i ∧ rngG j then .ok (rangeZ i (j - i).toNat) else .fail
@[irreducible] def reprM (d : PyData) : M Str := if reprOk d then .ok d.shown else .fail
@[irreducible] def setM (xs : List α) (i : Int) (a : α) : M (List α) := match ixN xs.length i with
  | some n => .ok (xs.set n a)
  | none => .fail
@[irreducible] def appM (xs : List α) (a : α) : M (List α) := if xs.length < lim then .ok (xs ++ [a]) else .fail
@[irreducible] def popM (xs : List α) (i : Int) : M (α × List α) := if -(2 ^ 63) ≤ i ∧ i < 2 ^ 63 then match ixN xs.length i with
    | some k => match xs[k]? with
      | some y => .ok (y, xs.eraseIdx k)
      | none => .fail
    | none => .fail
  else .fail
/-- an operator against it -/
def OpS (o : Option RV) (m : M α) (k : α → RV) : Prop := match m with
  | .ok a => o = some (k a)
  | .exc _ _ => False
  | .fail => True
theorem atI_map (f : α → β) (xs : List α) (i : Int) : atI (xs.map f) i = (atI xs i).map f := by
  unfold atI
  rw [List.length_map]
  cases ixN xs.length i with
  | none => rfl
  | some n => simp
theorem cutD_map (f : α → β) (xs : List α) (lo hi : Option Int) : cutD (xs.map f) lo hi = (cutD xs lo hi).map f := by
  simp [cutD, List.map_take, List.map_drop]
theorem ixS {e : α → PyData} {x : PyData} {xs : List α} {i : Int} (h : itemsOf x = some (xs.map e)) : OpS (opIx x (.int i)) (ixM xs i) fun a => .d (e a) := by
  have : opIx x (.int i) = (atI (xs.map e) i).map .d := by
    cases x <;> simp only [itemsOf, Option.some.injEq, reduceCtorEq] at h <;> subst h <;> rfl
  rw [this, atI_map]
  unfold ixM
  cases atI xs i <;> simp [OpS]
theorem mulS {i j : Int} : OpS (opMul (.int i) (.int j)) (mulM i j) fun v => .d (.int v) := by
  have : opMul (.int i) (.int j) = if mulG i j then some (.d (.int (i * j))) else none := rfl
  rw [this]; unfold mulM; split <;> simp [OpS]
theorem divS {i j : Int} : OpS (opDiv (.int i) (.int j)) (divM i j) fun v => .d (.int v) := by
  have : opDiv (.int i) (.int j) = if divG j then some (.d (.int (i / j))) else if divN j then some (.d (.int (i.fdiv j))) else none := rfl
  rw [this]; unfold divM; split
  · simp [OpS]
  · split <;> simp [OpS]
theorem modS {i j : Int} : OpS (opMod (.int i) (.int j)) (modM i j) fun v => .d (.int v) := by
  have : opMod (.int i) (.int j) = if 0 < j then some (.d (.int (i % j))) else if j ≠ 0 then some (.d (.int (i.fmod j))) else none := rfl
  rw [this]; unfold modM; split
  · simp [OpS]
  · split <;> simp [OpS]
theorem reprS {d : PyData} : OpS (opReprA [d]) (reprM d) fun v => .d (.str v) := by
  have : opReprA [d] = if reprOk d then some (.d (.str d.shown)) else none := rfl
  rw [this]; unfold reprM; split <;> simp [OpS]
def absZ (i : Int) : Int := if i < 0 then -i else i
def b2i (b : Bool) : Int := if b then 1 else 0
def max2 (i j : Int) : Int := if j > i then j else i
def min2 (i j : Int) : Int := if j < i then j else i
@[simp] theorem absZ_eq (i : Int) : absZ i = (i.natAbs : Int) := by unfold absZ; split <;> omega
@[simp] theorem max2_eq (i j : Int) : max2 i j = max i j := by unfold max2; split <;> omega
@[simp] theorem min2_eq (i j : Int) : min2 i j = min i j := by unfold min2; split <;> omega
theorem lenT {e : α → PyData} {xs : List α} : opLen [eT e xs] = some (.d (.int xs.length)) := by simp [opLen, eT]
theorem lenL {e : α → PyData} {xs : List α} : opLen [eL e xs] = some (.d (.int xs.length)) := by simp [opLen, eL]
theorem allL {bs : List Bool} : opAll [eL PyData.bool bs] = some (.d (.bool (bs.all id))) := by simp only [opAll, eL, boolsOf_bools, Option.map]
theorem mul_litR {i j : Int} (h : -(2 ^ 64) < j ∧ j < 2 ^ 64) : opMul (.int i) (.int j) = some (.d (.int (i * j))) := if_pos (.inl (.inr h))
theorem mul_litL {i j : Int} (h : -(2 ^ 64) < i ∧ i < 2 ^ 64) : opMul (.int i) (.int j) = some (.d (.int (i * j))) := if_pos (.inl (.inl h))
theorem div_lit {i j : Int} (h : divG j) : opDiv (.int i) (.int j) = some (.d (.int (i / j))) := if_pos h
theorem mod_lit {i j : Int} (h : 0 < j) : opMod (.int i) (.int j) = some (.d (.int (i % j))) := if_pos h
theorem pow_lit {i j : Int} (h : powG i j) : opPow (.int i) (.int j) = some (.d (.int (i ^ j.toNat))) := if_pos h
theorem catT {e : α → PyData} {xs ys : List α} : OpS (opAdd (eT e xs) (eT e ys)) (lenG (xs ++ ys)) fun v => .d (eT e v) := by
  unfold lenG; simp only [eT, opAdd, List.length_map, List.length_append]; split <;> simp [OpS, eT]
theorem catL {e : α → PyData} {xs ys : List α} : OpS (opAdd (eL e xs) (eL e ys)) (lenG (xs ++ ys)) fun v => .tmp (.lst (v.map e)) := by
  unfold lenG; simp only [eL, opAdd, List.length_map, List.length_append]; split <;> simp [OpS]
theorem eq_t [DecidableEq α] {e : α → PyData} {d : Nat} (h : EqT e d) (hd : d ≤ 64) {a b : α} : opEq false (e a) (e b) = some (.d (.bool (eqD a b))) := by
  simp [opEq, h.shaped hd, h.eqv, eqD]
theorem ne_t [DecidableEq α] {e : α → PyData} {d : Nat} (h : EqT e d) (hd : d ≤ 64) {a b : α} : opEq true (e a) (e b) = some (.d (.bool (!eqD a b))) := by
  simp [opEq, h.shaped hd, h.eqv, eqD]
theorem mem_any [DecidableEq α] {e : α → PyData} {d : Nat} (h : EqT e d) (a : α) (ys : List α) : ((ys.map e).any fun y => PyData.eqv y (e a)) = memD a ys := by
  unfold memD
  induction ys with
  | nil => rfl
  | cons y ys ih => simp [ih, h.eqv]
theorem in_t [DecidableEq α] {e : α → PyData} {d : Nat} (h : EqT e d) (hd : d + 1 ≤ 64) {a : α} {ys : List α} {y : PyData} (hy : y = eT e ys ∨ y = eL e ys) : opIn false (e a) y = some (.d (.bool (memD a ys))) := by
  rcases hy with rfl | rfl
  · have q : SeqAt.shaped (.tuple (ys.map e)) = true := h.T.shaped hd ys
    simp only [eT, opIn, h.shaped (Nat.le_of_succ_le hd), q, Bool.and_self, if_true, mem_any h]; rfl
  · have q : SeqAt.shaped (.list (ys.map e)) = true := h.L.shaped hd ys
    simp only [eL, opIn, h.shaped (Nat.le_of_succ_le hd), q, Bool.and_self, if_true, mem_any h]; rfl
theorem notin_t [DecidableEq α] {e : α → PyData} {d : Nat} (h : EqT e d) (hd : d + 1 ≤ 64) {a : α} {ys : List α} {y : PyData} (hy : y = eT e ys ∨ y = eL e ys) : opIn true (e a) y = some (.d (.bool (!memD a ys))) := by
  rcases hy with rfl | rfl
  · have q : SeqAt.shaped (.tuple (ys.map e)) = true := h.T.shaped hd ys
    simp only [eT, opIn, h.shaped (Nat.le_of_succ_le hd), q, Bool.and_self, if_true, mem_any h]
  · have q : SeqAt.shaped (.list (ys.map e)) = true := h.L.shaped hd ys
    simp only [eL, opIn, h.shaped (Nat.le_of_succ_le hd), q, Bool.and_self, if_true, mem_any h]
end
end BH
set_option maxRecDepth 100000
set_option maxHeartbeats 2000000
namespace BH
open PySem PySem.Spec PyProof.Rows L2
/-! ### slots -/
def datO (o : Option MV) : Prop := o = none ∨ ∃ x, o = some (.d x)
theorem datO_none : datO none := .inl rfl
theorem datO_d {x : PyData} : datO (some (.d x)) := .inr ⟨x, rfl⟩
theorem datO.ok {o : Option MV} (h : datO o) : okO o := by
  rcases h with rfl | ⟨x, rfl⟩ <;> exact trivial
theorem setS_ok {env e' : SE} {i : Nat} {mv : MV} {o : Option MV} (h : env[i]? = some o) (ho : okO o) (he : env.set i (some mv) = e') : setS env i mv = some e' := by
  rw [setS_def, h]; simp only [setO_ok ho, he]
theorem bn {env e' : SE} {i : Nat} {v : PyData} {o : Option MV} (h : env[i]? = some o) (ho : okO o) (he : env.set i (some (.d v)) = e') : bName i v env = some e' := setS_ok h ho he
theorem bt_nil {env : SE} : bNil [] env = some env := rfl
theorem bt_cons {b : BF} {t : BFs} {v : PyData} {vs : List PyData} {env e1 e2 : SE} (h : b v env = some e1) (ht : t vs e1 = some e2) : bCons b t (v :: vs) env = some e2 := by
  simp only [bCons, h, ht]
theorem bt_tup {t : BFs} {v : PyData} {ds : List PyData} {env e1 : SE} (hv : v = .tuple ds) (h : t ds env = some e1) : bTup t v env = some e1 := by subst hv; exact h
theorem nc_nil {env : SE} : noCell env [] = true := rfl
theorem nc_cons {env : SE} {v : Nat} {vs : List Nat} {o : Option MV} (h : env[v]? = some o) (ho : datO o) (t : noCell env vs = true) : noCell env (v :: vs) = true := by
  have : noCell env (v :: vs) = ((match env[v]? with | some (some (.cell _ _)) => false | _ => true) && noCell env vs) := rfl
  rw [this, h, t, Bool.and_true]
  rcases ho with rfl | ⟨x, rfl⟩ <;> rfl
/-! ### blocks -/
section
variable {α δ : Type} {env : SE} {m : M α} {k : α → δ → SE → Prop} {x : SE → Prop}
theorem c_blk {s r : SF} {g : Fl → SE → Res (δ × SE)} (h : Sim (bnd (s env) fun fl e => bnd (seqK r fl e) g) m k x) : Sim (bnd (fSeqS s r env) g) m k x := by
  have e : fSeqS s r env = bnd (s env) (seqK r) := rfl
  rw [e, bnd_assoc]; exact h
theorem c_blk1 {s r : SF} {g : Fl → SE → Res (δ × SE)} (h : Sim (bnd (s env) fun fl e => bnd (seqK r fl e) g) m k x) : Sim (bnd (seqK (fSeqS s r) .nx env) g) m k x := c_blk h
theorem c_end {g : Fl → SE → Res (δ × SE)} (h : Sim (g .nx env) m k x) : Sim (bnd (fNextS env) g) m k x := h
theorem c_end1 {g : Fl → SE → Res (δ × SE)} (h : Sim (g .nx env) m k x) : Sim (bnd (seqK fNextS .nx env) g) m k x := h
end
/-! ### the steps' ends -/
section
variable {α β γ δ σ τ : Type} {env e' : SE} {m : M α} {k : α → δ → SE → Prop} {x : SE → Prop}
theorem b_pure {op : PyData → PyData → Option RV} {a b r : RV} {u v : PyData} {g : RV → SE → Res (δ × SE)} (hx : a.view env = some u) (hy : b.view env = some v) (ho : op u v = some r) (hg : Sim (g r env) m k x) : Sim (bnd (binR op a b env) g) m k x := by
  have : binR op a b env = .ok (r, env) := by simp only [binR, hx, hy, ho]
  rw [this]; exact hg
theorem b_part {op : PyData → PyData → Option RV} {a b : RV} {u v : PyData} {m1 : M γ} {k1 : γ → RV} {m2 : γ → M α} {g : RV → SE → Res (δ × SE)} (hx : a.view env = some u) (hy : b.view env = some v) (ho : OpS (op u v) m1 k1) (hg : ∀ v, Sim (g (k1 v) env) (m2 v) k x) : Sim (bnd (binR op a b env) g) (m1 >>= m2) k x := by
  cases m1 with
  | ok w => exact b_pure hx hy ho (hg w)
  | exc c fs => exact False.elim ho
  | fail => exact trivial
theorem n_pure {a : RV} {i : Int} {g : RV → SE → Res (δ × SE)} (hx : a.view env = some (.int i)) (hg : Sim (g (.d (.int (-i))) env) m k x) : Sim (bnd (negR a env) g) m k x := by
  have : negR a env = .ok (.d (.int (-i)), env) := by simp only [negR, hx]
  rw [this]; exact hg
theorem t_pure {a : RV} {v : PyData} {g : PyData → SE → Res (δ × SE)} (h : a.take env = some (v, e')) (hg : Sim (g v e') m k x) : Sim (bnd (takeR a env) g) m k x := by
  have : takeR a env = .ok (v, e') := by simp only [takeR, h]
  rw [this]; exact hg
theorem tu_pure {xs : List PyData} {v : PyData} {g : RV → SE → Res (δ × SE)} (h : Nat.ble xs.length 64 = true) (hv : PyData.tuple xs = v) (hg : Sim (g (.d v) env) m k x) : Sim (bnd (tupR xs env) g) m k x := by
  have h2 : xs.length ≤ lim := by have := Nat.le_of_ble_eq_true h; unfold lim; omega
  subst hv
  have : tupR xs env = .ok (.d (.tuple xs), env) := by simp only [tupR, h2, if_true]
  rw [this]; exact hg
theorem ls_pure {xs ys : List PyData} {g : RV → SE → Res (δ × SE)} (h : Nat.ble xs.length 64 = true) (hv : xs = ys) (hg : Sim (g (.tmp (.lst ys)) env) m k x) : Sim (bnd (lstR xs env) g) m k x := by
  have h2 : xs.length ≤ lim := by have := Nat.le_of_ble_eq_true h; unfold lim; omega
  subst hv
  have : lstR xs env = .ok (.tmp (.lst xs), env) := by simp only [lstR, h2, if_true]
  rw [this]; exact hg
theorem cb_pure {op : List PyData → Option RV} {rs : List RV} {xs : List PyData} {r : RV} {g : RV → SE → Res (δ × SE)} (hv : views rs env = some xs) (ho : op xs = some r) (hg : Sim (g r env) m k x) : Sim (bnd (callBR op rs env) g) m k x := by
  have : callBR op rs env = .ok (r, env) := by simp only [callBR, hv, ho]
  rw [this]; exact hg
theorem cb_part {op : List PyData → Option RV} {rs : List RV} {xs : List PyData} {m1 : M γ} {k1 : γ → RV} {m2 : γ → M α} {g : RV → SE → Res (δ × SE)} (hv : views rs env = some xs) (ho : OpS (op xs) m1 k1) (hg : ∀ v, Sim (g (k1 v) env) (m2 v) k x) : Sim (bnd (callBR op rs env) g) (m1 >>= m2) k x := by
  cases m1 with
  | ok w => exact cb_pure hv ho (hg w)
  | exc c fs => exact False.elim ho
  | fail => exact trivial
theorem sl_pure {a r : RV} {v : PyData} {lo hi : Option Int} {g : RV → SE → Res (δ × SE)} (hv : a.view env = some v) (ho : opSl v lo hi = some r) (hg : Sim (g r env) m k x) : Sim (bnd (slR a lo hi env) g) m k x := by
  have : slR a lo hi env = .ok (r, env) := by simp only [slR, hv, ho]
  rw [this]; exact hg
theorem slT {e : β → PyData} {xs : List β} {lo hi : Option Int} : opSl (eT e xs) lo hi = some (.d (eT e (cutD xs lo hi))) := by simp only [eT, opSl, cutD_map]
theorem slL {e : β → PyData} {xs : List β} {lo hi : Option Int} : opSl (eL e xs) lo hi = some (.tmp (.lst ((cutD xs lo hi).map e))) := by simp only [eL, opSl, cutD_map]
theorem pt_pure {a : RV} {i : Int} {g : Option Int → SE → Res (δ × SE)} (hv : a.view env = some (.int i)) (hg : Sim (g (some i) env) m k x) : Sim (bnd (partR a env) g) m k x := by
  have : partR a env = .ok (some i, env) := by simp only [partR, hv]
  rw [this]; exact hg
theorem isa_pure {op : PyData → Bool} {a : RV} {v : PyData} {g : RV → SE → Res (δ × SE)} (hv : a.view env = some v) (hg : Sim (g (.d (.bool (op v))) env) m k x) : Sim (bnd (isaR op a env) g) m k x := by
  have : isaR op a env = .ok (.d (.bool (op v)), env) := by simp only [isaR, hv]
  rw [this]; exact hg
theorem sq_T {a : RV} {ds : List PyData} {g : (List PyData × List Nat) → SE → Res (δ × SE)} (hv : a.view env = some (.tuple ds)) (hg : Sim (g (ds, []) env) m k x) : Sim (bnd (seqR a env) g) m k x := by
  have : seqR a env = .ok ((ds, []), env) := by simp only [seqR, hv]
  rw [this]; exact hg
theorem sq_L {a : RV} {ds : List PyData} {lk : List Nat} {g : (List PyData × List Nat) → SE → Res (δ × SE)} (hv : a.view env = some (.list ds)) (hl : lkOf a env = lk) (hg : Sim (g (ds, lk) env) m k x) : Sim (bnd (seqR a env) g) m k x := by
  have : seqR a env = .ok ((ds, lk), env) := by simp only [seqR, hv, hl]
  rw [this]; exact hg
theorem rangeD_map (lo : Int) (n : Nat) : rangeD lo n = (rangeZ lo n).map PyData.int := by simp [rangeD, rangeZ]
theorem r1_part {rs : List RV} {j : Int} {m2 : List Int → M α} {g : (List PyData × List Nat) → SE → Res (δ × SE)} (hv : views rs env = some [.int j]) (hg : ∀ xs : List Int, Sim (g (xs.map .int, []) env) (m2 xs) k x) : Sim (bnd (rng1R rs env) g) (range1M j >>= m2) k x := by
  unfold range1M
  by_cases h : rngG j
  · rw [if_pos h]
    have : rng1R rs env = .ok (((rangeZ 0 j.toNat).map .int, []), env) := by simp only [rng1R, hv, h, if_true, rangeD_map]
    rw [this]; exact hg _
  · rw [if_neg h]; exact trivial
theorem r1_lit {rs : List RV} {j : Int} {g : (List PyData × List Nat) → SE → Res (δ × SE)} (hv : views rs env = some [.int j]) (hj : rngG j) (hg : Sim (g ((rangeZ 0 j.toNat).map .int, []) env) m k x) : Sim (bnd (rng1R rs env) g) m k x := by
  have : rng1R rs env = .ok (((rangeZ 0 j.toNat).map .int, []), env) := by simp only [rng1R, hv, hj, if_true, rangeD_map]
  rw [this]; exact hg
theorem r2_part {rs : List RV} {i j : Int} {m2 : List Int → M α} {g : (List PyData × List Nat) → SE → Res (δ × SE)} (hv : views rs env = some [.int i, .int j]) (hg : ∀ xs : List Int, Sim (g (xs.map .int, []) env) (m2 xs) k x) : Sim (bnd (rng2R rs env) g) (range2M i j >>= m2) k x := by
  unfold range2M
  by_cases h : rngG i ∧ rngG j
  · rw [if_pos h]
    have : rng2R rs env = .ok (((rangeZ i (j - i).toNat).map .int, []), env) := by simp only [rng2R, hv, h, and_self, if_true, rangeD_map]
    rw [this]; exact hg _
  · rw [if_neg h]; exact trivial
theorem tr_pure {a : RV} {v : PyData} {b : Bool} {g : Bool → SE → Res (δ × SE)} (hv : a.view env = some v) (ht : truD v = some b) (hg : Sim (g b env) m k x) : Sim (bnd (truR a env) g) m k x := by
  have : truR a env = .ok (b, env) := by simp only [truR, hv, ht]
  rw [this]; exact hg
theorem as_d {i : Nat} {v : PyData} {o : Option MV} {g : Fl → SE → Res (δ × SE)} (h : env[i]? = some o) (ho : okO o) (he : env.set i (some (.d v)) = e') (hg : Sim (g .nx e') m k x) : Sim (bnd (asgR i (.d v) env) g) m k x := by
  have : asgR i (.d v) env = .ok (.nx, e') := by
    have q : asg (.d v) env i = setS env i (.d v) := rfl
    simp only [asgR, q, setS_ok h ho he]
  rw [this]; exact hg
theorem as_t {i : Nat} {c : Cell} {o : Option MV} {g : Fl → SE → Res (δ × SE)} (h : env[i]? = some o) (ho : okO o) (he : env.set i (some (.cell .own c)) = e') (hg : Sim (g .nx e') m k x) : Sim (bnd (asgR i (.tmp c) env) g) m k x := by
  have : asgR i (.tmp c) env = .ok (.nx, e') := by
    have q : asg (.tmp c) env i = setS env i (.cell .own c) := rfl
    simp only [asgR, q, setS_ok h ho he]
  rw [this]; exact hg
theorem fz_t {i : Nat} {v : PyData} {g : Fl → SE → Res (δ × SE)} (h : (RV.slot i).take env = some (v, e')) (hg : Sim (g .nx e') m k x) : Sim (bnd (frzK i .nx env) g) m k x := by
  have : frzK i .nx env = .ok (.nx, e') := by simp only [frzK, h]
  rw [this]; exact hg
theorem pa_t {i j : Nat} {r1 r2 : RV} {m1 m2 : MV} {e1 e2 : SE} {g : Fl → SE → Res (δ × SE)} (hn1 : r1.norm env = some (r1, env)) (hn2 : r2.norm env = some (r2, env)) (hm1 : r1.mv = some m1) (hm2 : r2.mv = some m2) (hs1 : setS env i m1 = some e1) (hs2 : setS e1 j m2 = some e2) (hg : Sim (g .nx e2) m k x) : Sim (bnd (parR i j [r1, r2] env) g) m k x := by
  have : parR i j [r1, r2] env = .ok (.nx, e2) := by simp only [parR, hn1, hn2, hm1, hm2, hs1, hs2]
  rw [this]; exact hg
theorem bi_t {b : BF} {v : PyData} {g : Fl → SE → Res (δ × SE)} (h : b v env = some e') (hg : Sim (g .nx e') m k x) : Sim (bnd (bindR b v env) g) m k x := by
  have : bindR b v env = .ok (.nx, e') := by simp only [bindR, h]
  rw [this]; exact hg
def Wr (md : Mode) : Bool := match md with
  | .own => true
  | .bor => true
  | .lock => false
theorem poke_ok {j : Nat} {md : Mode} {xs : List PyData} {f : List PyData → Option (List PyData)} (h : env[j]? = some (some (.cell md (.lst xs)))) (hw : Wr md = true) : pokeE env j f = (f xs).map fun ys => env.set j (some (.cell md (.lst ys))) := by
  unfold pokeE
  rw [h]
  cases md <;> first | rfl | cases hw
theorem si_t {j : Nat} {md : Mode} {e : β → PyData} {xs : List β} {a : β} {i : Int} {e2 : List β → SE} {m2 : List β → M α} {g : Fl → SE → Res (δ × SE)} (h : env[j]? = some (some (.cell md (.lst (xs.map e))))) (hw : Wr md = true) (he : ∀ ys : List β, env.set j (some (.cell md (.lst (ys.map e)))) = e2 ys) (hg : ∀ ys, Sim (g .nx (e2 ys)) (m2 ys) k x) : Sim (bnd (setIxR (e a) (.slot j) (.int i) env) g) (setM xs i a >>= m2) k x := by
  unfold setM
  cases hi : ixN xs.length i with
  | none => exact trivial
  | some n =>
    have : setIxR (e a) (.slot j) (.int i) env = .ok (.nx, e2 (xs.set n a)) := by
      simp only [setIxR, poke_ok h hw, List.length_map, hi, Option.map, ← he, List.map_set]
    rw [this]; exact hg _
def methR (j : Nat) (op : Op1) (v : PyData) (e : SE) : Res (RV × SE) := match e[j]? with
    | some (some (.cell m (.lst xs))) => match op xs v with
      | some r => match pokeE e j fun _ => some r.2 with
        | some env' => .ok (.d r.1, env')
        | none => .fail
      | none => .fail
    | _ => .fail
theorem c_meth {j : Nat} {op : Op1} {fv : CF} {md : Mode} {xs0 : List PyData} {g : RV → SE → Res (δ × SE)} (hj : env[j]? = some (some (.cell md (.lst xs0)))) (h : Sim (bnd (fv env) fun v e1 => bnd (methR j op v e1) g) m k x) : Sim (bnd (fMeth1 j op fv env) g) m k x := by
  have e : fMeth1 j op fv env = bnd (fv env) fun v e1 => methR j op v e1 := by unfold fMeth1; rw [hj]; rfl
  rw [e]; simpa only [bnd_assoc] using h
theorem me_app {j : Nat} {md : Mode} {e : β → PyData} {xs : List β} {a : β} {e2 : List β → SE} {m2 : List β → M α} {g : RV → SE → Res (δ × SE)} (h : env[j]? = some (some (.cell md (.lst (xs.map e))))) (hw : Wr md = true) (he : ∀ ys : List β, env.set j (some (.cell md (.lst (ys.map e)))) = e2 ys) (hg : ∀ ys, Sim (g (.d .none) (e2 ys)) (m2 ys) k x) : Sim (bnd (methR j opAppend (e a) env) g) (appM xs a >>= m2) k x := by
  unfold appM
  by_cases hl : xs.length < lim
  · rw [if_pos hl]
    have : methR j opAppend (e a) env = .ok (.d .none, e2 (xs ++ [a])) := by
      unfold methR
      simp only [h, opAppend, List.length_map, hl, if_true, poke_ok h hw, Option.map, ← he, List.map_append, List.map_cons, List.map_nil]
    rw [this]; exact hg _
  · rw [if_neg hl]; exact trivial
theorem eraseIdx_map' (f : β → γ) : ∀ (xs : List β) (n : Nat), (xs.map f).eraseIdx n = (xs.eraseIdx n).map f
  | [], _ => rfl
  | _ :: _, 0 => rfl
  | x :: xs, n + 1 => by simp [eraseIdx_map' f xs n]
theorem me_pop {j : Nat} {md : Mode} {e : β → PyData} {xs : List β} {i : Int} {e2 : List β → SE} {m2 : β × List β → M α} {g : RV → SE → Res (δ × SE)} (h : env[j]? = some (some (.cell md (.lst (xs.map e))))) (hw : Wr md = true) (he : ∀ ys : List β, env.set j (some (.cell md (.lst (ys.map e)))) = e2 ys) (hg : ∀ p : β × List β, Sim (g (.d (e p.1)) (e2 p.2)) (m2 p) k x) : Sim (bnd (methR j opPopAt (.int i) env) g) (popM xs i >>= m2) k x := by
  unfold popM
  by_cases hl : -(2 ^ 63) ≤ i ∧ i < 2 ^ 63
  · rw [if_pos hl]
    cases hi : ixN xs.length i with
    | none => exact trivial
    | some n =>
      cases hn : xs[n]? with
      | none => simp only [hn]; exact trivial
      | some y =>
        have : methR j opPopAt (.int i) env = .ok (.d (e y), e2 (xs.eraseIdx n)) := by
          unfold methR
          simp only [h, opPopAt, List.length_map, hl, and_self, if_true, hi, List.getElem?_map, hn, Option.map, poke_ok h hw, ← he, eraseIdx_map']
        simp only [hn]
        rw [this]; exact hg (y, xs.eraseIdx n)
  · rw [if_neg hl]; exact trivial
theorem rt_d {v : PyData} {g : Fl → SE → Res (δ × SE)} (hg : Sim (g (.rt (.d v)) env) m k x) : Sim (bnd (retR (.d v) env) g) m k x := hg
theorem rt_t {c : Cell} {g : Fl → SE → Res (δ × SE)} (hg : Sim (g (.rt (.tmp c)) env) m k x) : Sim (bnd (retR (.tmp c) env) g) m k x := hg
theorem rt_s {i : Nat} {c : Cell} {g : Fl → SE → Res (δ × SE)} (h : env[i]? = some (some (.cell .own c))) (hg : Sim (g (.rt (.tmp c)) env) m k x) : Sim (bnd (retR (.slot i) env) g) m k x := by
  have : retR (.slot i) env = .ok (.rt (.tmp c), env) := by simp only [retR, h]
  rw [this]; exact hg
/-! ### ways -/
theorem ite_s {b : Bool} {r1 r2 : Res (δ × SE)} {m1 m2 : M α} (h1 : b = true → Sim r1 m1 k x) (h2 : b = false → Sim r2 m2 k x) : Sim (if b = true then r1 else r2) (if b = true then m1 else m2) k x := by
  cases b with
  | true => exact h1 rfl
  | false => exact h2 rfl
theorem ite_b {b : Bool} {r1 r2 : Res (β × SE)} {m1 m2 : M α} {g : β → SE → Res (δ × SE)} (h1 : b = true → Sim (bnd r1 g) m1 k x) (h2 : b = false → Sim (bnd r2 g) m2 k x) : Sim (bnd (if b = true then r1 else r2) g) (if b = true then m1 else m2) k x := by
  cases b with
  | true => exact h1 rfl
  | false => exact h2 rfl
def pureK (e0 : SE) (kk : γ → β) : γ → β → SE → Prop := fun s b e => b = kk s ∧ e = e0
theorem sim_eq {r : Res (β × SE)} {v : γ} {kk : γ → β} {e0 : SE} (h : Sim r (.ok v) (pureK e0 kk) fun _ => True) : r = .ok (kk v, e0) := by
  obtain ⟨b, e, rfl, h1, h2⟩ := h
  rw [h1, h2]
theorem and_p {a t : Bool} {f : TF} {g : Bool → SE → Res (δ × SE)} (ht : Sim (f env) (.ok t) (pureK env fun b => b) fun _ => True) (hg : Sim (g (a && t) env) m k x) : Sim (bnd (if a = true then f env else .ok (false, env)) g) m k x := by
  cases a with
  | true => rw [if_pos rfl, sim_eq ht]; exact hg
  | false => exact hg
theorem or_p {a t : Bool} {f : TF} {g : Bool → SE → Res (δ × SE)} (ht : Sim (f env) (.ok t) (pureK env fun b => b) fun _ => True) (hg : Sim (g (a || t) env) m k x) : Sim (bnd (if a = true then .ok (true, env) else f env) g) m k x := by
  cases a with
  | true => exact hg
  | false => rw [if_neg (by decide), sim_eq ht]; exact hg
theorem and_m {a : Bool} {f : TF} {mt : M Bool} {m2 : Bool → M α} {g : Bool → SE → Res (δ × SE)} (ht : Sim (f env) mt (pureK env fun b => b) x) (hg : ∀ b, Sim (g b env) (m2 b) k x) : Sim (bnd (if a = true then f env else .ok (false, env)) g) ((if a = true then mt else .ok false) >>= m2) k x := by
  refine sim_bind (k1 := pureK env fun b => b) ?_ fun s b e h => by rw [h.1, h.2]; exact hg s
  cases a with
  | true => exact ht
  | false => exact sim_ret ⟨rfl, rfl⟩
theorem or_m {a : Bool} {f : TF} {mt : M Bool} {m2 : Bool → M α} {g : Bool → SE → Res (δ × SE)} (ht : Sim (f env) mt (pureK env fun b => b) x) (hg : ∀ b, Sim (g b env) (m2 b) k x) : Sim (bnd (if a = true then .ok (true, env) else f env) g) ((if a = true then .ok true else mt) >>= m2) k x := by
  refine sim_bind (k1 := pureK env fun b => b) ?_ fun s b e h => by rw [h.1, h.2]; exact hg s
  cases a with
  | true => exact sim_ret ⟨rfl, rfl⟩
  | false => exact ht
def bKK (b : Bool) : RV := .d (.bool b)
theorem andV_m {a : RV} {c : Bool} {f : EF} {mt : M Bool} {m2 : Bool → M α} {g : RV → SE → Res (δ × SE)} (ha : a = .d (.bool c)) (ht : Sim (f env) mt (pureK env bKK) x) (hg : ∀ b, Sim (g (.d (.bool b)) env) (m2 b) k x) : Sim (bnd (andVR f a env) g) ((if c = true then mt else .ok false) >>= m2) k x := by
  subst ha
  refine sim_bind (k1 := pureK env bKK) ?_ fun s b e h => by rw [h.1, h.2]; exact hg s
  cases c with
  | true => exact ht
  | false => exact sim_ret ⟨rfl, rfl⟩
end
end BH
set_option maxRecDepth 100000
set_option maxHeartbeats 2000000
namespace BH
open PySem PySem.Spec PyProof.Rows L2
/-! ### loops, comprehensions, calls -/
section
variable {α β γ δ σ ρ : Type}
def forM' (f : α → σ → M σ) : List α → σ → M σ
  | [], s => .ok s
  | a :: as, s => f a s >>= fun s' => forM' f as s'
inductive Lp (σ ρ : Type) where
  | nx (s : σ)
  | bk (s : σ)
  | rt (r : ρ)
def forL (f : α → σ → M (Lp σ ρ)) : List α → σ → M (Lp σ ρ)
  | [], s => .ok (.nx s)
  | a :: as, s => f a s >>= fun l => match l with
    | .nx s' => forL f as s'
    | .bk s' => .ok (.nx s')
    | .rt r => .ok (.rt r)
def compG (f : α → σ → M (Option β × σ)) : List α → σ → List β → M (List β × σ)
  | [], s, acc => .ok (acc, s)
  | a :: as, s, acc => match f a s with
    | .ok (some b, s') => if acc.length < lim then compG f as s' (acc ++ [b]) else .fail
    | .ok (none, s') => compG f as s' acc
    | _ => .fail
def compS (f : α → σ → M (Option β × σ)) (xs : List α) (s : σ) : M (List β × σ) := compG f xs s []
def compPG (f : α → M (Option β)) : List α → List β → M (List β)
  | [], acc => .ok acc
  | a :: as, acc => match f a with
    | .ok (some b) => if acc.length < lim then compPG f as (acc ++ [b]) else .fail
    | .ok none => compPG f as acc
    | _ => .fail
def compP (f : α → M (Option β)) (xs : List α) : M (List β) := compPG f xs []
theorem compPG_ok {f : α → M (Option β)} {g : α → Option β} : ∀ (xs : List α) (acc : List β), (∀ a ∈ xs, f a = .ok (g a)) → acc.length + (xs.filterMap g).length ≤ lim → compPG f xs acc = .ok (acc ++ xs.filterMap g)
  | [], acc, _, _ => by simp [compPG]
  | a :: as, acc, h, hl => by
    have ha := h a (by simp)
    unfold compPG
    rw [ha]
    cases hg : g a with
    | none =>
      simp only [List.filterMap_cons, hg] at hl ⊢
      exact compPG_ok as acc (fun b hb => h b (by simp [hb])) hl
    | some b =>
      simp only [List.filterMap_cons, hg, List.length_cons] at hl ⊢
      rw [if_pos (by omega), compPG_ok as (acc ++ [b]) (fun b hb => h b (by simp [hb])) (by simp; omega)]
      simp
theorem compP_ok {f : α → M (Option β)} {xs : List α} (g : α → Option β) (h : ∀ a ∈ xs, f a = .ok (g a)) (hl : (xs.filterMap g).length ≤ lim) : compP f xs = .ok (xs.filterMap g) := by
  have := compPG_ok xs [] h (by simpa using hl)
  simpa [compP] using this
theorem compP_map {f : α → M (Option β)} {xs : List α} (g : α → β) (h : ∀ a ∈ xs, f a = .ok (some (g a))) (hl : xs.length ≤ lim) : compP f xs = .ok (xs.map g) := by
  have e : (xs.filterMap fun a => some (g a)) = xs.map g := by simp
  rw [compP_ok (fun a => some (g a)) h (by rw [e]; simpa using hl), e]
theorem compPG_lenG {p : α → Bool} {f : α → β} : ∀ (xs : List α) (acc : List β), acc.length ≤ lim → compPG (fun a => if p a = true then .ok (some (f a)) else .ok none) xs acc = lenG (acc ++ (xs.filter p).map f)
  | [], acc, h => by simp [compPG, lenG, h]
  | a :: as, acc, h => by
    unfold compPG
    cases hp : p a with
    | false =>
      simp only [hp, Bool.false_eq_true, if_false, List.filter_cons]
      exact compPG_lenG as acc h
    | true =>
      simp only [hp, if_true, List.filter_cons, List.map_cons]
      by_cases hl : acc.length < lim
      · rw [if_pos hl, compPG_lenG as (acc ++ [f a]) (by simp; omega)]
        simp
      · rw [if_neg hl]
        unfold lenG
        rw [if_neg (by simp; omega)]
theorem compP_lenG (p : α → Bool) (f : α → β) (xs : List α) : compP (fun a => if p a = true then .ok (some (f a)) else .ok none) xs = lenG ((xs.filter p).map f) := by
  have := compPG_lenG (p := p) (f := f) xs [] (by simp [lim])
  simpa [compP] using this
theorem compP_lenM (f : α → β) (xs : List α) : compP (fun a => .ok (some (f a))) xs = lenG (xs.map f) := by
  have := compP_lenG (fun _ => true) f xs
  have e : xs.filter (fun _ => true) = xs := by simp
  rw [e] at this
  simpa using this
end
section
variable {α β γ δ σ ρ τ : Type} {env el : SE} {m : M τ} {x : SE → Prop}
theorem fLoop_for {b : BF} {body : SF} {enc : α → PyData} {f : α → σ → M σ} (K : σ → SE → Prop) (hb : ∀ a s e, K s e → ∃ e2, b (enc a) e = some e2 ∧ Sim (body e2) (f a s) (fun s' fl e' => (fl = .nx ∨ fl = .ct) ∧ K s' e') x) :
    ∀ (xs : List α) (s : σ) (e : SE), K s e → Sim (fLoop b body (xs.map enc) e) (forM' f xs s) (fun s' fl e' => fl = .nx ∧ K s' e') x
  | [], s, e, h => ⟨.nx, e, rfl, rfl, h⟩
  | a :: as, s, e, h => by
    obtain ⟨e2, h1, h2⟩ := hb a s e h
    simp only [List.map_cons, fLoop, h1, forM']
    cases hf : f a s with
    | fail => exact trivial
    | exc c fs =>
      rw [hf] at h2
      obtain ⟨e3, h3, h4⟩ := h2
      rw [h3]
      exact ⟨e3, rfl, h4⟩
    | ok s' =>
      rw [hf] at h2
      obtain ⟨fl, e3, h3, h4, h5⟩ := h2
      rw [h3]
      have ih := fLoop_for K hb as s' e3 h5
      rcases h4 with rfl | rfl <;> exact ih
theorem fo_n {b : BF} {body : SF} {enc : α → PyData} {f : α → σ → M σ} {xs : List α} {lk : List Nat} {s0 : σ} {m2 : σ → M τ} {k : τ → δ → SE → Prop} {g : Fl → SE → Res (δ × SE)} (K : σ → SE → Prop) (h0 : K s0 (lockAll lk env)) (hx : ∀ e, x e → x (unlockAll lk env e))
    (hb : ∀ a s e, K s e → ∃ e2, b (enc a) e = some e2 ∧ Sim (body e2) (f a s) (fun s' fl e' => (fl = .nx ∨ fl = .ct) ∧ K s' e') x) (hg : ∀ s e, K s e → ∀ e', unlockAll lk env e = e' → Sim (g .nx e') (m2 s) k x) : Sim (bnd (forR b body (xs.map enc, lk) env) g) (forM' f xs s0 >>= m2) k x := by
  have q := fLoop_for K hb xs s0 _ h0
  unfold forR
  cases hf : forM' f xs s0 with
  | fail => exact trivial
  | exc c fs =>
    rw [hf] at q
    obtain ⟨e3, h3, h4⟩ := q
    rw [h3]
    exact ⟨_, rfl, hx _ h4⟩
  | ok s' =>
    rw [hf] at q
    obtain ⟨fl, e3, h3, h4, h5⟩ := q
    subst h4
    rw [h3]
    exact hg s' e3 h5 _ rfl
def LpK (K : σ → SE → Prop) (Kr : ρ → Ret → SE → Prop) : Lp σ ρ → Fl → SE → Prop
  | .nx s, fl, e => (fl = .nx ∨ fl = .ct) ∧ K s e
  | .bk s, fl, e => fl = .bk ∧ K s e
  | .rt r, fl, e => ∃ v, fl = .rt v ∧ Kr r v e
def LpO (K : σ → SE → Prop) (Kr : ρ → Ret → SE → Prop) : Lp σ ρ → Fl → SE → Prop
  | .nx s, fl, e => fl = .nx ∧ K s e
  | .bk _, _, _ => False
  | .rt r, fl, e => ∃ v, fl = .rt v ∧ Kr r v e
theorem fLoop_forL {b : BF} {body : SF} {enc : α → PyData} {f : α → σ → M (Lp σ ρ)} (K : σ → SE → Prop) (Kr : ρ → Ret → SE → Prop) (hb : ∀ a s e, K s e → ∃ e2, b (enc a) e = some e2 ∧ Sim (body e2) (f a s) (LpK K Kr) x) :
    ∀ (xs : List α) (s : σ) (e : SE), K s e → Sim (fLoop b body (xs.map enc) e) (forL f xs s) (LpO K Kr) x
  | [], s, e, h => ⟨.nx, e, rfl, rfl, h⟩
  | a :: as, s, e, h => by
    obtain ⟨e2, h1, h2⟩ := hb a s e h
    simp only [List.map_cons, fLoop, h1, forL]
    cases hf : f a s with
    | fail => exact trivial
    | exc c fs =>
      rw [hf] at h2
      obtain ⟨e3, h3, h4⟩ := h2
      rw [h3]
      exact ⟨e3, rfl, h4⟩
    | ok l =>
      rw [hf] at h2
      obtain ⟨fl, e3, h3, h4⟩ := h2
      rw [h3]
      cases l with
      | nx s' =>
        have ih := fLoop_forL K Kr hb as s' e3 h4.2
        rcases h4.1 with rfl | rfl <;> exact ih
      | bk s' =>
        obtain ⟨rfl, h5⟩ := h4
        exact ⟨.nx, e3, rfl, rfl, h5⟩
      | rt r =>
        obtain ⟨v, rfl, h5⟩ := h4
        exact ⟨_, e3, rfl, v, rfl, h5⟩
theorem fo_l {b : BF} {body : SF} {enc : α → PyData} {f : α → σ → M (Lp σ ρ)} {xs : List α} {lk : List Nat} {s0 : σ} {m2 : Lp σ ρ → M τ} {k : τ → δ → SE → Prop} {g : Fl → SE → Res (δ × SE)} (K : σ → SE → Prop) (Kr : ρ → Ret → SE → Prop) (h0 : K s0 (lockAll lk env)) (hx : ∀ e, x e → x (unlockAll lk env e))
    (hb : ∀ a s e, K s e → ∃ e2, b (enc a) e = some e2 ∧ Sim (body e2) (f a s) (LpK K Kr) x) (hg : ∀ s e, K s e → ∀ e', unlockAll lk env e = e' → Sim (g .nx e') (m2 (.nx s)) k x) (hr : ∀ r v e, Kr r v e → ∀ e', unlockAll lk env e = e' → Sim (g (.rt v) e') (m2 (.rt r)) k x) : Sim (bnd (forR b body (xs.map enc, lk) env) g) (forL f xs s0 >>= m2) k x := by
  have q := fLoop_forL K Kr hb xs s0 _ h0
  unfold forR
  cases hf : forL f xs s0 with
  | fail => exact trivial
  | exc c fs =>
    rw [hf] at q
    obtain ⟨e3, h3, h4⟩ := q
    rw [h3]
    exact ⟨_, rfl, hx _ h4⟩
  | ok l =>
    rw [hf] at q
    obtain ⟨fl, e3, h3, h4⟩ := q
    rw [h3]
    cases l with
    | nx s' => obtain ⟨rfl, h5⟩ := h4; exact hg s' e3 h5 _ rfl
    | bk s' => exact h4.elim
    | rt r => obtain ⟨v, rfl, h5⟩ := h4; exact hr r v e3 h5 _ rfl
/-! comprehensions -/
def turnR (tt : TF) (te : CF) (vs : List Nat) (el e2 : SE) : Res (Option PyData × SE) := bnd (tt e2) fun t e3 => if t = true then bnd (te e3) fun y e4 => .ok (some y, restE el vs e4) else .ok (none, restE el vs e3)
theorem cLoop_S {b : BF} {vs : List Nat} {tt : TF} {te : CF} {enc : α → PyData} {enc' : β → PyData} {f : α → σ → M (Option β × σ)} (K : σ → SE → Prop) (hnc : ∀ s e, K s e → noCell e vs = true)
    (hb : ∀ a s e, K s e → ∃ e2, b (enc a) (wipeE e vs) = some e2 ∧ Sim (turnR tt te vs e e2) (f a s) (fun p oy e' => oy = p.1.map enc' ∧ K p.2 e') fun _ => True) :
    ∀ (xs : List α) (s : σ) (e : SE) (acc : List β), K s e → match compG f xs s acc with
      | .ok (ys, s') => ∃ e', cLoop b vs tt te (xs.map enc) e (acc.map enc') = .ok (ys.map enc', e') ∧ K s' e'
      | .exc _ _ => False
      | .fail => True
  | [], s, e, acc, h => ⟨e, rfl, h⟩
  | a :: as, s, e, acc, h => by
    obtain ⟨e2, h1, h2⟩ := hb a s e h
    have nc := hnc s e h
    unfold compG
    cases hf : f a s with
    | fail => exact trivial
    | exc c fs => exact trivial
    | ok p =>
      obtain ⟨o, s'⟩ := p
      rw [hf] at h2
      obtain ⟨oy, e', q1, q2, q3⟩ := h2
      simp only at q2 q3
      subst q2
      simp only [List.map_cons, cLoop, nc, if_true, h1]
      unfold turnR at q1
      cases htt : tt e2 with
      | fail => rw [htt] at q1; cases q1
      | exc c fs ee => rw [htt] at q1; cases q1
      | ok p =>
        obtain ⟨t, e3⟩ := p
        rw [htt, bnd_ok] at q1
        cases t with
        | false =>
          simp only [Bool.false_eq_true, if_false, Res.ok.injEq, Prod.mk.injEq] at q1
          obtain ⟨q1, q1'⟩ := q1
          subst q1'
          cases o with
          | some y => cases q1
          | none => exact cLoop_S K hnc hb as s' _ acc q3
        | true =>
          simp only [if_true] at q1
          cases hte : te e3 with
          | fail => rw [hte] at q1; cases q1
          | exc c fs ee => rw [hte] at q1; cases q1
          | ok p =>
            obtain ⟨y, e4⟩ := p
            rw [hte, bnd_ok] at q1
            simp only [Res.ok.injEq, Prod.mk.injEq] at q1
            obtain ⟨q1, q1'⟩ := q1
            subst q1'
            cases o with
            | none => cases q1
            | some z =>
              simp only [Option.map, Option.some.injEq] at q1
              subst q1
              simp only [hte, List.length_map]
              by_cases hl : acc.length < lim
              · simp only [hl, if_true]
                have := cLoop_S K hnc hb as s' _ (acc ++ [z]) q3
                simpa using this
              · simp only [hl, if_false]
theorem co_s {b : BF} {vs : List Nat} {tt : TF} {te : CF} {enc : α → PyData} {enc' : β → PyData} {f : α → σ → M (Option β × σ)} {xs : List α} {lk : List Nat} {s0 : σ} {m2 : List β × σ → M τ} {k : τ → δ → SE → Prop} {g : RV → SE → Res (δ × SE)} (K : σ → SE → Prop) (h0 : K s0 (lockAll lk env)) (hnc : ∀ s e, K s e → noCell e vs = true)
    (hb : ∀ a s e, K s e → ∃ e2, b (enc a) (wipeE e vs) = some e2 ∧ Sim (turnR tt te vs e e2) (f a s) (fun p oy e' => oy = p.1.map enc' ∧ K p.2 e') fun _ => True)
    (hg : ∀ ys s e, K s e → ∀ e', unlockAll lk env e = e' → Sim (g (.tmp (.lst (ys.map enc'))) e') (m2 (ys, s)) k x) : Sim (bnd (compR b vs tt te (xs.map enc, lk) env) g) (compS f xs s0 >>= m2) k x := by
  have q := cLoop_S K hnc hb xs s0 _ [] h0
  unfold compS
  cases hf : compG f xs s0 [] with
  | fail => exact trivial
  | exc c fs => rw [hf] at q; exact q.elim
  | ok p =>
    obtain ⟨ys, s'⟩ := p
    rw [hf] at q
    obtain ⟨e', h1, h2⟩ := q
    have : compR b vs tt te (xs.map enc, lk) env = .ok (.tmp (.lst (ys.map enc')), unlockAll lk env e') := by
      simp only [List.map_nil] at h1
      simp only [compR, h1]
    rw [this]; exact hg ys s' e' h2 _ rfl
theorem compP_S (f : α → M (Option β)) : ∀ (xs : List α) (acc : List β), compG (fun a (_ : Unit) => f a >>= fun o => .ok (o, ())) xs () acc = compPG f xs acc >>= fun ys => .ok (ys, ())
  | [], acc => rfl
  | a :: as, acc => by
    unfold compG compPG
    cases hf : f a with
    | fail => simp
    | exc c fs => simp
    | ok o =>
      cases o with
      | none => simp only [M.ok_bind]; exact compP_S f as acc
      | some y =>
        simp only [M.ok_bind]
        split
        · exact compP_S f as _
        · rfl
theorem co_p {b : BF} {vs : List Nat} {tt : TF} {te : CF} {enc : α → PyData} {enc' : β → PyData} {f : α → M (Option β)} {xs : List α} {lk : List Nat} {m2 : List β → M τ} {k : τ → δ → SE → Prop} {g : RV → SE → Res (δ × SE)} (hl : lockAll lk env = el) (hnc : noCell el vs = true) (hu : unlockAll lk env el = env)
    (hb : ∀ a, ∃ e2, b (enc a) (wipeE el vs) = some e2 ∧ Sim (turnR tt te vs el e2) (f a) (fun o oy e' => oy = o.map enc' ∧ e' = el) fun _ => True)
    (hg : ∀ ys, Sim (g (.tmp (.lst (ys.map enc'))) env) (m2 ys) k x) : Sim (bnd (compR b vs tt te (xs.map enc, lk) env) g) (compP f xs >>= m2) k x := by
  have e : compP f xs >>= m2 = compS (fun a (_ : Unit) => f a >>= fun o => .ok (o, ())) xs () >>= fun p => m2 p.1 := by
    unfold compP compS
    rw [compP_S, M.assoc]; rfl
  rw [e]
  refine co_s (enc' := enc') (fun _ e => e = el) hl (fun _ e h => by rw [h]; exact hnc) (fun a _ e h => ?_) fun ys _ e h e' he => by rw [h, hu] at he; rw [← he]; exact hg ys
  subst h
  obtain ⟨e2, h1, h2⟩ := hb a
  refine ⟨e2, h1, ?_⟩
  cases hf : f a with
  | fail => exact trivial
  | exc c fs => rw [hf] at h2; exact h2
  | ok o => rw [hf] at h2; exact h2
theorem co_t {b : BF} {vs : List Nat} {tt : TF} {te : CF} {enc : α → PyData} {enc' : β → PyData} {p : α → Bool} {f : α → β} {xs : List α} {lk : List Nat} {m2 : List β → M τ} {k : τ → δ → SE → Prop} {g : RV → SE → Res (δ × SE)} (hl : lockAll lk env = el) (hnc : noCell el vs = true) (hu : unlockAll lk env el = env)
    (hb : ∀ a, ∃ e2, b (enc a) (wipeE el vs) = some e2 ∧ Sim (turnR tt te vs el e2) (if p a = true then .ok (some (f a)) else .ok none) (fun o oy e' => oy = o.map enc' ∧ e' = el) fun _ => True)
    (hg : ∀ ys, Sim (g (.tmp (.lst (ys.map enc'))) env) (m2 ys) k x) : Sim (bnd (compR b vs tt te (xs.map enc, lk) env) g) (lenG ((xs.filter p).map f) >>= m2) k x := by
  rw [← compP_lenG]; exact co_p hl hnc hu hb hg
theorem co_m {b : BF} {vs : List Nat} {tt : TF} {te : CF} {enc : α → PyData} {enc' : β → PyData} {f : α → β} {xs : List α} {lk : List Nat} {m2 : List β → M τ} {k : τ → δ → SE → Prop} {g : RV → SE → Res (δ × SE)} (hl : lockAll lk env = el) (hnc : noCell el vs = true) (hu : unlockAll lk env el = env)
    (hb : ∀ a, ∃ e2, b (enc a) (wipeE el vs) = some e2 ∧ Sim (turnR tt te vs el e2) (.ok (some (f a))) (fun o oy e' => oy = o.map enc' ∧ e' = el) fun _ => True)
    (hg : ∀ ys, Sim (g (.tmp (.lst (ys.map enc'))) env) (m2 ys) k x) : Sim (bnd (compR b vs tt te (xs.map enc, lk) env) g) (lenG (xs.map f) >>= m2) k x := by
  rw [← compP_lenM]; exact co_p hl hnc hu hb hg
theorem c_turn {tt : TF} {te : CF} {vs : List Nat} {el e2 : SE} {m : M τ} {k : τ → Option PyData → SE → Prop} (h : Sim (bnd (tt e2) fun t e3 => if t = true then bnd (te e3) fun y e4 => .ok (some y, restE el vs e4) else .ok (none, restE el vs e3)) m k x) : Sim (turnR tt te vs el e2) m k x := h
theorem c_turnY {te : CF} {vs : List Nat} {el e2 : SE} {m : M τ} {k : τ → Option PyData → SE → Prop} (h : Sim (bnd (te e2) fun y e4 => .ok (some y, restE el vs e4)) m k x) : Sim (turnR fYes te vs el e2) m k x := h
/-! calls of defs -/
def FSim (r : FRes) (m : M α) (kr : α → Ret) (ko : α → List Arg) : Prop := match m with
  | .ok a => r = .ok (kr a) (ko a)
  | .exc c fs => ∃ outs, r = .exc c fs outs
  | .fail => True
def FlE (fl : Fl) (r : Ret) : Prop := fl = .rt r ∨ (fl = .nx ∧ r = .d .none)
theorem fs_mk {n : Nat} {f : SF} {as : List Arg} {m : M α} {kr : α → Ret} {ko : α → List Arg} (h : Sim (f (envOf n as)) m (fun a fl e => FlE fl (kr a) ∧ outsOf as e = ko a) fun _ => True) : FSim (fnF n f as) m kr ko := by
  unfold FSim fnF
  cases m with
  | fail => exact trivial
  | exc c fs =>
    obtain ⟨e, h1, _⟩ := h
    rw [h1]; exact ⟨_, rfl⟩
  | ok a =>
    obtain ⟨fl, e, h1, h2, h3⟩ := h
    rw [h1]
    rcases h2 with rfl | ⟨rfl, h2⟩
    · show FRes.ok _ _ = FRes.ok _ _
      rw [h3]
    · show FRes.ok _ _ = FRes.ok _ _
      rw [h2, h3]
theorem cf_s {F : List Arg → FRes} {as : List AV} {n : Nat} {l : List Arg} {mf : M α} {kr : α → Ret} {ko : α → List Arg} {e2 : α → SE} {m2 : α → M τ} {k : τ → δ → SE → Prop} {g : RV → SE → Res (δ × SE)} (h : FSim (F l) mf kr ko) (hn : (refsOf as).Nodup) (hl : toArgs as env = some l) (hlen : l.length = n) (he : ∀ v, putOuts as (ko v) env = e2 v)
    (hx : ∀ outs, x (putOuts as outs env)) (hg : ∀ v, Sim (g (kr v).rv (e2 v)) (m2 v) k x) : Sim (bnd (callFR n F as env) g) (mf >>= m2) k x := by
  unfold callFR
  rw [if_pos hn, hl]
  simp only [hlen, if_true]
  cases mf with
  | fail => exact trivial
  | exc c fs =>
    obtain ⟨outs, h⟩ := h
    rw [h]
    exact ⟨_, rfl, hx outs⟩
  | ok a =>
    have h : F l = .ok (kr a) (ko a) := h
    rw [h]
    simp only [he]
    exact hg a
end
end BH
set_option maxRecDepth 100000
set_option maxHeartbeats 2000000
namespace BH
open PySem PySem.Spec PyProof.Rows L2
section
variable {α β γ δ σ ρ τ : Type} {env el : SE} {x : SE → Prop}
theorem lpk_nx {K : σ → SE → Prop} {Kr : ρ → Ret → SE → Prop} {s : σ} {e : SE} (h : K s e) : LpK K Kr (.nx s) .nx e := ⟨.inl rfl, h⟩
theorem lpk_rt {K : σ → SE → Prop} {Kr : ρ → Ret → SE → Prop} {r : ρ} {v : Ret} {e : SE} (h : Kr r v e) : LpK K Kr (.rt r) (.rt v) e := ⟨v, rfl, h⟩
def lendM (m : M α) : M α := match m with
  | .ok a => .ok a
  | _ => .fail
@[simp] theorem lendM_ok (a : α) : lendM (.ok a) = .ok a := rfl
end
end BH
set_option maxRecDepth 100000
set_option maxHeartbeats 2000000
namespace BH
open PySem PySem.Spec PyProof.Rows L2
/-! ### texts compared -/
@[irreducible] def eqSM (a b : Str) : M Bool := if SeqAt.shaped (.str a) = true ∧ SeqAt.shaped (.str b) = true then .ok (decide (a = b)) else .fail
theorem eqv_str (a b : Str) : PyData.eqv (.str a) (.str b) = decide (a = b) := by
  simp only [PyData.eqv]
  by_cases h : a = b
  · subst h; simp
  · simp [h]
theorem neSS {a b : Str} : OpS (opEq true (.str a) (.str b)) (eqSM a b) fun v => .d (.bool (!v)) := by
  unfold eqSM
  split
  · rename_i h
    simp only [OpS, opEq, h.1, h.2, Bool.and_self, if_true, eqv_str]
  · exact trivial
/-! ### a list of lists, an item of an item written -/
end BH
set_option maxRecDepth 100000
set_option maxHeartbeats 2000000
namespace BH
open PySem PySem.Spec PyProof.Rows L2
section
variable {α β γ δ τ : Type} {env e' : SE} {m : M α} {k : α → δ → SE → Prop} {x : SE → Prop}
/-! ### enumerate, zip of three -/
/-! ### methods -/
def extR (j : Nat) (a : RV) (e : SE) : Res (RV × SE) := match a, e[j]? with
    | .tmp (.lst zs), some (some (.cell _ (.lst xs))) => if xs.length + zs.length ≤ lim then match pokeE e j fun _ => some (xs ++ zs) with
        | some env' => .ok (.d .none, env')
        | none => .fail
      else .fail
    | _, _ => .fail
theorem c_ext {j : Nat} {fe : EF} {md : Mode} {xs0 : List PyData} {g : RV → SE → Res (δ × SE)} (hj : env[j]? = some (some (.cell md (.lst xs0)))) (h : Sim (bnd (fe env) fun v e1 => bnd (extR j v e1) g) m k x) : Sim (bnd (fExt j fe env) g) m k x := by
  have e : fExt j fe env = bnd (fe env) fun v e1 => extR j v e1 := by unfold fExt; rw [hj]; rfl
  rw [e]; simpa only [bnd_assoc] using h
theorem me_ext {j : Nat} {md : Mode} {e : β → PyData} {xs zs : List β} {e2 : List β → SE} {m2 : List β → M α} {g : RV → SE → Res (δ × SE)} (h : env[j]? = some (some (.cell md (.lst (xs.map e))))) (hw : Wr md = true) (he : ∀ ys : List β, env.set j (some (.cell md (.lst (ys.map e)))) = e2 ys) (hg : ∀ ys, Sim (g (.d .none) (e2 ys)) (m2 ys) k x) : Sim (bnd (extR j (.tmp (.lst (zs.map e))) env) g) (lenG (xs ++ zs) >>= m2) k x := by
  unfold lenG
  by_cases hl : (xs ++ zs).length ≤ lim
  · rw [if_pos hl]
    have : extR j (.tmp (.lst (zs.map e))) env = .ok (.d .none, e2 (xs ++ zs)) := by
      unfold extR
      rw [List.length_append] at hl
      simp only [h, List.length_map, hl, if_true, poke_ok h hw, Option.map, ← he, List.map_append]
    rw [this]; exact hg _
  · rw [if_neg hl]; exact trivial
/-! ### a, b, c = x, y, z -/
/-! ### a <= b <= c -/
def chR (k1 k2 : Int → Int → Bool) (fc : EF) (a b : RV) (e : SE) : Res (RV × SE) := match a.view e, b.view e with
  | some (.int i), some (.int j) => if k1 i j = true then (fc e).bind fun r => match r.1.view r.2 with
      | some (.int l) => .ok (.d (.bool (k2 j l)), r.2)
      | _ => .fail
    else .ok (.d (.bool false), e)
  | _, _ => .fail
theorem c_chain {k1 k2 : Int → Int → Bool} {fa fb fc : EF} {g : RV → SE → Res (δ × SE)} (h : Sim (bnd (fa env) fun a e1 => bnd (fb e1) fun b e2 => bnd (chR k1 k2 fc a b e2) g) m k x) : Sim (bnd (fChain k1 k2 fa fb fc env) g) m k x := by
  have e : fChain k1 k2 fa fb fc env = bnd (fa env) fun a e1 => bnd (fb e1) fun b e2 => chR k1 k2 fc a b e2 := rfl
  rw [e]; simpa only [bnd_assoc] using h
def iKK (v : Int) : RV := .d (.int v)
theorem ch_p {k1 k2 : Int → Int → Bool} {fc : EF} {a b : RV} {i j l : Int} {g : RV → SE → Res (δ × SE)} (ha : a.view env = some (.int i)) (hb : b.view env = some (.int j)) (hc : Sim (fc env) (.ok l) (pureK env iKK) fun _ => True) (hg : Sim (g (.d (.bool (k1 i j && k2 j l))) env) m k x) : Sim (bnd (chR k1 k2 fc a b env) g) m k x := by
  have : chR k1 k2 fc a b env = .ok (.d (.bool (k1 i j && k2 j l)), env) := by
    simp only [chR, ha, hb, sim_eq hc]
    cases k1 i j with
    | true => rfl
    | false => rfl
  rw [this]; exact hg
end
end BH
set_option maxRecDepth 100000
set_option maxHeartbeats 4000000
set_option maxRecDepth 100000
set_option maxHeartbeats 4000000
set_option maxRecDepth 100000
set_option maxHeartbeats 4000000
namespace BH
open PySem PySem.Spec PyProof.Rows L2
/-! ### try, with several clauses, named or not -/
structure Cl where
  c : Value
  i : Option Nat
  ts : Addr → Value → Option Addr → TS
def wCl (K : PySem.W.Frag) (Wout : WX) (D : Ends) : List Cl → WX
  | [] => Wout
  | l :: r => fun cls d σ H => ∃ b, PySem.W.exmOne K cls l.c = some b ∧
      (b = true → ∀ a, H a = none → match l.i with
        | none => l.ts a cls d D σ H
        | some i => l.ts a cls d { nx := fun σ' H' => D.nx (σ'.set i none) H', rt := D.rt, bk := fun σ' H' => D.bk (σ'.set i none) H', ct := fun σ' H' => D.ct (σ'.set i none) H' } (σ.set i (some (.ref a))) H) ∧
      (b = false → wCl K Wout D r cls d σ H)
inductive HdsC (X : Cx) : List ExceptHandler → List Cl → Prop
  | nil : HdsC X [] []
  | cons {x : Str} {c : Value} {ts : Addr → Value → Option Addr → TS} {b₀ : Stmt} {suite : List Stmt} {np pos' : Pos} {hds : List ExceptHandler} {l : List Cl} (hc : Names X x c)
      (hsu : ∀ (a : Addr) (oe : Obj) (cls : Value) (d : Option Addr) (pn : List (Addr × Obj)), Zc cls d oe → (∃ vs, oe.data = .fields vs) → PSs (X.suite a ((a, oe) :: pn)) (b₀ :: suite) (ts a cls d)) (r : HdsC X hds l) :
      HdsC X (.ExceptHandler (some (.Name x np)) none (b₀ :: suite) pos' :: hds) (⟨c, none, ts⟩ :: l)
  | named {x n : Str} {i : Nat} {c : Value} {ts : Addr → Value → Option Addr → TS} {b₀ : Stmt} {suite : List Stmt} {np pos' : Pos} {hds : List ExceptHandler} {l : List Cl} (hc : Names X x c)
      (hN : X.N.Nodup) (hi : X.N[i]? = some n) (hln : X.env.kindOf n = some .local)
      (hsu : ∀ (a : Addr) (oe : Obj) (cls : Value) (d : Option Addr) (pn : List (Addr × Obj)), Zc cls d oe → (∃ vs, oe.data = .fields vs) → PSs (X.suite a ((a, oe) :: pn)) (b₀ :: suite) (ts a cls d)) (r : HdsC X hds l) :
      HdsC X (.ExceptHandler (some (.Name x np)) (some n) (b₀ :: suite) pos' :: hds) (⟨c, some i, ts⟩ :: l)
section
variable {X : Cx} {body : List Stmt} {h₀ : ExceptHandler} {hds : List ExceptHandler} {l : List Cl} {pos : Pos} {tb : WX → TS} {Wout : WX}
theorem ps_try_cl (hs : X.stack = X.env :: X.outer) (hf : X.env.frame = some X.env.locals) (tk : Takes X Wout)
    (hb : ∀ (W : WX) (pn : List (Addr × Obj)) (xe : Value → Shared → Prop), Takes (X.tr pn xe) W → PassesOwn (model X.prog X.w) X.A X.env xe → PSs (X.tr pn xe) body (tb W))
    (hh : HdsC X (h₀ :: hds) l) : PS X (.Try body (h₀ :: hds) [] [] pos) (fun D σ H => tb (wCl X.K Wout D l) D σ H) := by
  refine ⟨fun pins s σ H D I h => ?_⟩
  have ok := I.ok
  have hfr : X.A.frames = some (X.env :: X.outer) := by rw [ok.frames, hs]
  refine wpAny_Try_except ?_
  refine wpAny_mono ((hb (wCl X.K Wout D l) (X.pn ++ pins) (fun e s₁ => wpAny (model X.prog X.w) X.A (noteFrame e X.env) (fun _ s₂ => wpAny (model X.prog X.w) X.A (setFlight e none) (fun _ s₃ =>
    wpAny (model X.prog X.w) X.A (handleBy e X.env (h₀ :: hds)) (SP X pins D) X.xe s₃) X.xe s₂) X.xe s₁) (fun u s' xx => ?_) PassesOwn.looking).run [] s σ H D (I.toTry _) h) (fun f s1 hsp => ?_) (fun e s1 he => he)
  · obtain ⟨a, B, sI, pins', σ', H', cls, d, rfl, J', nb, up, sky, na, os, ag, w⟩ := xx
    have J : Inv X pins σ' H' sI := J'.ofTry ok
    have sky' : Sky B (X.env :: X.outer) a (Zc cls d) X.env.locals s'.heap := by rw [← hs]; exact sky
    show wpAny (model X.prog X.w) X.A (noteFrame (.ref a) X.env) _ _ _
    refine Sky.land Zc.steady hfr hf sky' fun h3 fl3 up3 => ?_
    have J3 : Inv X pins σ' H' { s' with heap := h3 } := J.landed nb fl3.1 (up.trans up3) os ag
    obtain ⟨oe3, vs3, he3, hz3, hd3⟩ := fl3.there
    have notFr : ∀ {h : Heap} {o : Obj} {vs : Array Value}, h.FunFrames B (X.env :: X.outer) → h.get? a = some o → o.data = .fields vs → a ∉ frs (X.env :: X.outer) := fun {h o vs} ff e dd hm => by
      obtain ⟨_, o', e', hnf⟩ := ff.mem hm
      rw [e] at e'; cases e'
      exact hnf _ dd
    have nfr := notFr fl3.2.2.1 he3 hd3
    have nL : a ≠ X.env.locals := fun z => nfr (List.mem_filterMap.mpr ⟨X.env, List.mem_cons_self, by rw [hf, z]⟩)
    have nF : a ∉ X.fs := fun hm => by
      obtain ⟨e, he, q⟩ := List.mem_filterMap.mp hm
      exact nfr (List.mem_filterMap.mpr ⟨e, List.mem_cons_of_mem _ he, q⟩)
    have S3 := J3.suite he3 hd3 na nL nF
    have LT : PySem.W.Looks (model X.prog X.w) h3 (typeOf (.ref a)) cls := fun A Q E s k q => wpAny_typeOf_ref (k _ _ he3) (by rw [hz3.1]; exact q)
    have test : ∀ {x : Str} {c : Value} {np : Pos} {Q : Value → Shared → Prop} {E : Value → Shared → Prop}, Names X x c → Q c { s' with heap := h3 } → wpAny (model X.prog X.w) (X.A.mark (some (.ref a))) (eval (.Name x np) X.env) Q E { s' with heap := h3 } := fun {x c np Q E} hc q => by
      obtain ⟨hg, hdbg, hm | ⟨hm, hv, hnn⟩⟩ := hc
      · exact ld_glob (X := X.suite a ((a, oe3) :: (X.pn ++ pins))) S3 hg hm q hdbg
      · exact ld_blt (X := X.suite a ((a, oe3) :: (X.pn ++ pins))) S3 hg hm hv q hnn hdbg
    have go : ∀ {hds' : List ExceptHandler} {l' : List Cl}, HdsC X hds' l' → wCl X.K Wout D l' cls d σ' H' →
        wpAny (model X.prog X.w) X.A (handleBy (.ref a) X.env hds') (SP X pins D) X.xe { s' with heap := h3 } := by
      intro hds' l' hk
      induction hk with
      | nil =>
        intro w
        refine wpAny_handleBy_nil ?_
        obtain ⟨k1, k2, k3, oe, vs, T, oT, ts', he, hz, hd, h1, hr⟩ := id fl3
        unfold PySem.passOn
        refine wpAny_bind (wpAny_field he hd h1 ?_)
        rw [if_neg (show ¬ ((Value.ref T == Value.none) = true) from by simp)]
        have fin : wpAny (model X.prog X.w) X.A (setFlight (.ref a) X.env.frame) (fun _ s4 => wpAny (model X.prog X.w) X.A (throw (.ref a) : Sem Flow) (SP X pins D) X.xe s4) X.xe { s' with heap := h3 } := by
          rw [hf]
          refine HandSPX.setFlight_upZ fl3 fun h4 hh4 up4 => wpAny_throw (tk _ _ ?_)
          exact ⟨a, B, sI, pins, σ', H', cls, d, rfl, J, nb, (up.trans up3).trans up4, .inr (.inr (by rw [hs]; exact hh4)), na, os, ag, w⟩
        first
          | exact wpAny_bind (wpAny_pure (wpAny_bind fin))
          | exact wpAny_bind fin
      | @cons x c ts b₀ suite np pos' hds2 l2 hc hsu r ih =>
        intro w
        obtain ⟨b, hb1, hyes, hno⟩ := w
        refine wpAny_handleBy_cons (codeAny_handlers_test ?_) (by intro q; cases q)
        have LM := PySem.W.exm_one (M := model X.prog X.w) (J3.kIn) LT hb1
        refine test hc (LM.here ?_)
        cases b with
        | true =>
          refine codeAny_handlers_suite ?_
          refine HandSPX.lands_againZ fl3 fun h4 fl4 up4 => ?_
          have J4 : Inv X pins σ' H' { s' with heap := h4 } := J.landed nb fl4.1 ((up.trans up3).trans up4) os ag
          obtain ⟨oe4, vs4, he4, hz4, hd4⟩ := fl4.there
          have S4 := J4.suite he4 hd4 na nL nF
          refine wpAny_mono ((hsu a oe4 cls d (X.pn ++ pins) hz4 ⟨_, hd4⟩).run [] _ _ H' _ S4 (hyes rfl a na)) (fun f s6 hsp => ?_) (fun _ _ z => False.elim z)
          cases f with
          | next =>
            obtain ⟨σ6, H6, S6, q6⟩ := hsp
            exact ⟨_, _, S6.unsuite ok, q6⟩
          | brk =>
            obtain ⟨σ6, H6, S6, q6⟩ := hsp
            exact ⟨_, _, S6.unsuite ok, q6⟩
          | cont =>
            obtain ⟨σ6, H6, S6, q6⟩ := hsp
            exact ⟨_, _, S6.unsuite ok, q6⟩
          | ret u =>
            obtain ⟨v6, σ6, H6, S6, r6, q6⟩ := hsp
            exact ⟨_, _, _, S6.unsuite ok, r6, q6⟩
        | false =>
          show wpAny _ X.A (handleBy (.ref a) X.env hds2) _ _ _
          exact ih (hno rfl)
      | @named x n i c ts b₀ suite np pos' hds2 l2 hc hN hi hln hsu r ih =>
        intro w
        obtain ⟨b, hb1, hyes, hno⟩ := w
        have hloc : Loc X.env.scope n := .inl hln
        refine wpAny_handleBy_cons (codeAny_handlers_test ?_) (by intro q; cases q)
        have LM := PySem.W.exm_one (M := model X.prog X.w) (J3.kIn) LT hb1
        refine test hc (LM.here ?_)
        cases b with
        | true =>
          refine codeAny_handlers_suite_as ?_
          refine HandSPX.lands_againZ fl3 fun h4 fl4 up4 => ?_
          have J4 : Inv X pins σ' H' { s' with heap := h4 } := J.landed nb fl4.1 ((up.trans up3).trans up4) os ag
          obtain ⟨oe4, vs4, he4, hz4, hd4⟩ := fl4.there
          have S4 := J4.suite he4 hd4 na nL nF
          refine store_ok (X := X.suite a ((a, oe4) :: (X.pn ++ pins))) (v := .ref a) S4 hN hi hloc rfl (fun s5 S5 => ?_) (.inr hln)
          refine wpAny_mono ((hsu a oe4 cls d (X.pn ++ pins) hz4 ⟨_, hd4⟩).run [] s5 _ H' _ S5 (hyes rfl a na)) (fun f s6 hsp => ?_) (fun _ _ z => False.elim z)
          have end_ : ∀ {σ6 : L2.St} {H6 : Hp} {Q : Shared → Prop}, Inv (X.suite a ((a, oe4) :: (X.pn ++ pins))) [] σ6 H6 s6 → (∀ s7, Inv X pins (σ6.set i none) H6 s7 → Q s7) →
              wpAny (model X.prog X.w) X.A (do bindName X.env n .none; unbindBehindTheSuite X.env n pos') (fun _ s7 => Q s7) X.xe s6 := fun {σ6 H6 Q} S6 hq => gone_ok (S6.unsuite ok) hN hi hln hq
          cases f with
          | next =>
            obtain ⟨σ6, H6, S6, q6⟩ := hsp
            exact end_ S6 fun s7 J7 => ⟨_, _, J7, q6⟩
          | brk =>
            obtain ⟨σ6, H6, S6, q6⟩ := hsp
            exact end_ S6 fun s7 J7 => ⟨_, _, J7, q6⟩
          | cont =>
            obtain ⟨σ6, H6, S6, q6⟩ := hsp
            exact end_ S6 fun s7 J7 => ⟨_, _, J7, q6⟩
          | ret u =>
            obtain ⟨v6, σ6, H6, S6, r6, q6⟩ := hsp
            exact end_ S6 fun s7 J7 => ⟨_, _, _, J7, r6, q6⟩
        | false =>
          show wpAny _ X.A (handleBy (.ref a) X.env hds2) _ _ _
          exact ih (hno rfl)
    exact go hh w
  · cases f with
    | next =>
      obtain ⟨σ', H', J', q⟩ := hsp
      exact wpAny_execs_nil ⟨σ', H', J'.ofTry ok, q⟩
    | brk =>
      obtain ⟨σ', H', J', q⟩ := hsp
      exact ⟨σ', H', J'.ofTry ok, q⟩
    | cont =>
      obtain ⟨σ', H', J', q⟩ := hsp
      exact ⟨σ', H', J'.ofTry ok, q⟩
    | ret u =>
      obtain ⟨v, σ', H', J', r, q⟩ := hsp
      exact ⟨v, σ', H', J'.ofTry ok, r, q⟩
end
end BH
set_option maxRecDepth 100000
set_option maxHeartbeats 4000000
namespace BH
open PySem PySem.Spec PyProof.Rows L2
/-- what the written part tells of an exception class of the program -/
structure ExF (K : PySem.W.Frag) (mg : Str → Option Value) (c : String) (C : Addr) : Prop where
  gC : mg (Str.ofString c) = some (.ref C)
  kC : PySem.W.keepIn K (.ref C) = true
  bP : PySem.W.subIn K (.ref C) (.type "BaseException") = some true
  tP : PySem.W.typeIn K (.ref C) = some (.type "type")
  hd : PySem.W.hasDictIn K C = true
theorem ExF.exm {K : PySem.W.Frag} {mg : Str → Option Value} {c c' : String} {C D : Addr} {b : Bool} (F : ExF K mg c' D) (h : PySem.W.subIn K (.ref C) (.ref D) = some b) : PySem.W.exmOne K (.ref C) (.ref D) = some b :=
  PySem.W.exm_ref F.bP F.hd F.tP h
/-! ### a suite -/
/-- the suite's wish: an exception of one of the classes cs is at hand at a -/
def tSu (X : Cx) (i : Option Nat) (cs : List String) (su : String → List (String × PyData) → SF) (a : Addr) (cls : Value) (d : Option Addr) : TS := fun D σ H =>
  ∃ (g : G) (c : String) (fs : List (String × PyData)), g.st = σ ∧ g.H = H ∧ g.Ok X.K ∧ c ∈ cs ∧ ExcR X g c fs cls d ∧ (∀ k, i = some k → σ[k]? = some (some (.ref a))) ∧ OutS X (fun _ _ _ _ => False) g (su c fs g.env) D
structure FSu (X : Cx) (suite : List Stmt) (i : Option Nat) (cs : List String) (su : String → List (String × PyData) → SF) : Prop where
  go : ∀ (a : Addr) (oe : Obj) (cls : Value) (d : Option Addr) (pn : List (Addr × Obj)), Zc cls d oe → (∃ vs, oe.data = .fields vs) → PSs (X.suite a ((a, oe) :: pn)) suite (tSu X i cs su a cls d)
structure Hd where
  yes : List String
  no : List String
  i : Option Nat
  su : String → List (String × PyData) → SF
def fSuite : Option Nat → SF → SF
  | none, s => fun env => match s env with
    | .exc _ _ _ => .fail
    | r => r
  | some i, s => fun env => match env[i]? with
    | some none => match s env with
      | .ok (.nx, e) => match e[i]? with
        | some none => .ok (.nx, e)
        | _ => .fail
      | _ => .fail
    | _ => .fail
def fHands : List Hd → String → List (String × PyData) → SF
  | [], c, fs => fun env => .exc c fs env
  | h :: r, c, fs => if h.yes.contains c then fSuite h.i (h.su c fs) else if h.no.contains c then fHands r c fs else fun _ => .fail
def fTry (body : SF) (hs : List Hd) : SF := fun env => match body env with
  | .exc c fs e => fHands hs c fs e
  | r => r
/-- the clauses against their readings -/
inductive HdsX (X : Cx) : List ExceptHandler → List Hd → List Cl → Prop
  | nil : HdsX X [] [] []
  | cons {x : Str} {c : Value} {b₀ : Stmt} {suite : List Stmt} {np pos' : Pos} {hds : List ExceptHandler} {hs : List Hd} {l : List Cl} {yes no : List String} {su : String → List (String × PyData) → SF} (hc : Names X x c)
      (hy : ∀ n ∈ yes, ∀ C, X.mg (Str.ofString n) = some (.ref C) → PySem.W.exmOne X.K (.ref C) c = some true) (hn : ∀ n ∈ no, ∀ C, X.mg (Str.ofString n) = some (.ref C) → PySem.W.exmOne X.K (.ref C) c = some false)
      (hsu : FSu X (b₀ :: suite) none yes su) (r : HdsX X hds hs l) :
      HdsX X (.ExceptHandler (some (.Name x np)) none (b₀ :: suite) pos' :: hds) (⟨yes, no, none, su⟩ :: hs) (⟨c, none, tSu X none yes su⟩ :: l)
  | named {x n : Str} {i : Nat} {c : Value} {b₀ : Stmt} {suite : List Stmt} {np pos' : Pos} {hds : List ExceptHandler} {hs : List Hd} {l : List Cl} {yes no : List String} {su : String → List (String × PyData) → SF} (hc : Names X x c)
      (hN : X.N.Nodup) (hi : X.N[i]? = some n) (hln : X.env.kindOf n = some .local)
      (hy : ∀ n ∈ yes, ∀ C, X.mg (Str.ofString n) = some (.ref C) → PySem.W.exmOne X.K (.ref C) c = some true) (hn : ∀ n ∈ no, ∀ C, X.mg (Str.ofString n) = some (.ref C) → PySem.W.exmOne X.K (.ref C) c = some false)
      (hsu : FSu X (b₀ :: suite) (some i) yes su) (r : HdsX X hds hs l) :
      HdsX X (.ExceptHandler (some (.Name x np)) (some n) (b₀ :: suite) pos' :: hds) (⟨yes, no, some i, su⟩ :: hs) (⟨c, some i, tSu X (some i) yes su⟩ :: l)
theorem HdsX.cl {X : Cx} {hds : List ExceptHandler} {hs : List Hd} {l : List Cl} (h : HdsX X hds hs l) : HdsC X hds l := by
  induction h with
  | nil => exact .nil
  | cons hc hy hn hsu r ih => exact .cons hc hsu.go ih
  | named hc hN hi hln hy hn hsu r ih => exact .named hc hN hi hln hsu.go ih
/-- a slot without a value may hold anything -/
theorem ok_free {K : PySem.W.Frag} {g : G} {i : Nat} {o : Option V} (ok : g.Ok K) (hi : g.env[i]? = some none) : ({ g with st := g.st.set i o } : G).Ok K := by
  have ne : ∀ {j : Nat} {mv : MV}, g.env[j]? = some (some mv) → (g.st.set i o)[j]? = g.st[j]? := fun {j mv} h => List.getElem?_set_ne (fun z => by rw [← z, hi] at h; cases h)
  refine ⟨by simpa using ok.len, fun j y h => ?_, fun j m c h => ?_, fun j k m c m' c' a h1 h2 h3 h4 => ?_, ok.dom⟩
  · show ∃ v, (g.st.set i o)[j]? = _ ∧ _
    rw [ne h]; exact ok.dat j y h
  · show ∃ v, (g.st.set i o)[j]? = _ ∧ _
    rw [ne h]; exact ok.cel j m c h
  · have h3 : (g.st.set i o)[j]? = _ := h3
    have h4 : (g.st.set i o)[k]? = _ := h4
    rw [ne h1] at h3
    rw [ne h2] at h4
    exact ok.dis j k m c m' c' a h1 h2 h3 h4
theorem own_free {g : G} {i : Nat} {o : Option V} (hi : g.env[i]? = some none) {a : Addr} : (Own { g with st := g.st.set i o } a ↔ Own g a) ∧ (Has { g with st := g.st.set i o } a ↔ Has g a) := by
  have ne : ∀ {j : Nat} {mv : MV}, g.env[j]? = some (some mv) → (g.st.set i o)[j]? = g.st[j]? := fun {j mv} h => List.getElem?_set_ne (fun z => by rw [← z, hi] at h; cases h)
  refine ⟨⟨?_, ?_⟩, ⟨?_, ?_⟩⟩
  · rintro ⟨j, m, c, h1, h2, h3⟩
    exact ⟨j, m, c, h1, h2, by rw [← ne h1]; exact h3⟩
  · rintro ⟨j, m, c, h1, h2, h3⟩
    exact ⟨j, m, c, h1, h2, by show (g.st.set i o)[j]? = _; rw [ne h1]; exact h3⟩
  · rintro ⟨j, m, c, h1, h3⟩
    exact ⟨j, m, c, h1, by rw [← ne h1]; exact h3⟩
  · rintro ⟨j, m, c, h1, h3⟩
    exact ⟨j, m, c, h1, by show (g.st.set i o)[j]? = _; rw [ne h1]; exact h3⟩
theorem stp_free {g g' : G} {i : Nat} {o o' : Option V} (hi : g.env[i]? = some none) (hi' : g'.env[i]? = some none) (s : Stp { g with st := g.st.set i o } g') : Stp g { g' with st := g'.st.set i o' } := by
  have ne : ∀ {j : Nat} {mv : MV}, g.env[j]? = some (some mv) → (g.st.set i o)[j]? = g.st[j]? := fun {j mv} h => List.getElem?_set_ne (fun z => by rw [← z, hi] at h; cases h)
  have ne' : ∀ {j : Nat} {mv : MV}, g.env[j]? = some (some mv) → (g'.st.set i o')[j]? = g'.st[j]? := fun {j mv} h => List.getElem?_set_ne (fun z => by rw [← z, hi] at h; cases h)
  have eo : Own { g with st := g.st.set i o } = Own g := funext fun a => propext (own_free hi).1
  have eh : Has { g with st := g.st.set i o } = Has g := funext fun a => propext (own_free hi).2
  refine ⟨by rw [← eo]; exact s.ext, fun a h => ?_, fun a h => ?_, fun j c h => ?_, fun j c h => ?_⟩
  · have := s.own a ((own_free hi').1.mp h)
    rw [eo] at this; exact this
  · have := s.has a ((own_free hi').2.mp h)
    rw [eh] at this; exact this
  · obtain ⟨e1, c', e2⟩ := s.bor j c h
    exact ⟨(ne' h).trans (e1.trans (ne h)), c', e2⟩
  · obtain ⟨e1, e2⟩ := s.lck j c h
    exact ⟨(ne' h).trans (e1.trans (ne h)), e2⟩
theorem hands_w {X : Cx} {W : WX} {D : Ends} : ∀ {hds : List ExceptHandler} {hs : List Hd} {l : List Cl}, HdsX X hds hs l → ∀ {g : G} {c : String} {fs : List (String × PyData)} {cls : Value} {d : Option Addr}, g.Ok X.K → ExcR X g c fs cls d → OutS X W g (fHands hs c fs g.env) D → wCl X.K W D l cls d g.st g.H := by
  intro hds hs l h
  induction h with
  | nil => intro g c fs cls d ok x o; exact o g cls d rfl (.refl g) ok x
  | @cons x cv b₀ suite np pos' hds hs l yes no su hc hy hn hsu r ih =>
    intro g c fs cls d ok xr o
    obtain ⟨C, rfl, hm, _⟩ := id xr
    by_cases h1 : yes.contains c = true
    · have hmem : c ∈ yes := by simpa using h1
      refine ⟨true, hy c hmem C hm, fun _ a ha => ?_, fun q => Bool.noConfusion q⟩
      simp only [fHands, h1, if_true, fSuite] at o
      refine ⟨g, c, fs, rfl, rfl, ok, hmem, xr, fun k q => (by cases q), ?_⟩
      cases hf : su c fs g.env with
      | ok y => rw [hf] at o; obtain ⟨fl, e⟩ := y; cases fl <;> exact o
      | exc c' fs' e => rw [hf] at o; exact o.elim
      | fail => rw [hf] at o; exact o
    · simp only [fHands, h1, if_false, Bool.false_eq_true] at o
      by_cases h2 : no.contains c = true
      · have hmem : c ∈ no := by simpa using h2
        simp only [h2, if_true] at o
        exact ⟨false, hn c hmem C hm, fun q => Bool.noConfusion q, fun _ => ih ok xr o⟩
      · simp only [h2, if_false, Bool.false_eq_true] at o
        exact o.elim
  | @named x n i cv b₀ suite np pos' hds hs l yes no su hc hN hi hln hy hn hsu r ih =>
    intro g c fs cls d ok xr o
    obtain ⟨C, rfl, hm, _⟩ := id xr
    by_cases h1 : yes.contains c = true
    · have hmem : c ∈ yes := by simpa using h1
      refine ⟨true, hy c hmem C hm, fun _ a ha => ?_, fun q => Bool.noConfusion q⟩
      simp only [fHands, h1, if_true, fSuite] at o
      cases he : g.env[i]? with
      | none => rw [he] at o; exact o.elim
      | some oo =>
        cases oo with
        | some mv => rw [he] at o; exact o.elim
        | none =>
          rw [he] at o
          have hil : i < g.st.length := by rw [ok.len]; exact (List.getElem?_eq_some_iff.mp he).1
          refine ⟨{ g with st := g.st.set i (some (.ref a)) }, c, fs, rfl, rfl, ok_free ok he, hmem, xr, fun k q => ?_, ?_⟩
          · cases q; exact List.getElem?_set_self hil
          · show OutS X _ _ (su c fs g.env) _
            simp only at o
            cases hf : su c fs g.env with
            | exc c' fs' e => rw [hf] at o; exact o.elim
            | fail => rw [hf] at o; exact o
            | ok y =>
              rw [hf] at o
              obtain ⟨fl, e⟩ := y
              cases fl with
              | nx =>
                simp only at o
                cases he2 : e[i]? with
                | none => rw [he2] at o; exact o.elim
                | some oo =>
                  cases oo with
                  | some mv => rw [he2] at o; exact o.elim
                  | none =>
                    rw [he2] at o
                    intro g' e1 s1 o1
                    exact o { g' with st := g'.st.set i none } e1 (stp_free he (by rw [e1]; exact he2) s1) (ok_free o1 (by rw [e1]; exact he2))
              | bk => exact o.elim
              | ct => exact o.elim
              | rt r => exact o.elim
    · simp only [fHands, h1, if_false, Bool.false_eq_true] at o
      by_cases h2 : no.contains c = true
      · have hmem : c ∈ no := by simpa using h2
        simp only [h2, if_true] at o
        exact ⟨false, hn c hmem C hm, fun q => Bool.noConfusion q, fun _ => ih ok xr o⟩
      · simp only [h2, if_false, Bool.false_eq_true] at o
        exact o.elim
theorem fs_try {X : Cx} {body : List Stmt} {h₀ : ExceptHandler} {hds : List ExceptHandler} {hs : List Hd} {l : List Cl} {fb : SF} {pos : Pos} (h1 : X.stack = X.env :: X.outer) (h2 : X.env.frame = some X.env.locals)
    (hb : ∀ (pn : List (Addr × Obj)) (xe : Value → Shared → Prop), FSs (X.tr pn xe) body fb) (hh : HdsX X (h₀ :: hds) hs l) : FS X (.Try body (h₀ :: hds) [] [] pos) (fTry fb hs) := by
  refine ⟨fun W tk hp => ⟨fun pins s σ H D I hq => ?_⟩⟩
  obtain ⟨g, rfl, rfl, ok, o⟩ := hq
  refine (ps_try_cl (tb := fun W => tS X W fb) h1 h2 tk (fun W pn xe tk' hp' => (hb pn xe).pss W tk' hp') hh.cl).run pins s g.st g.H D I ⟨g, rfl, rfl, ok, ?_⟩
  unfold fTry at o
  cases hf : fb g.env with
  | ok y => rw [hf] at o; obtain ⟨fl, e⟩ := y; cases fl <;> exact o
  | fail => rw [hf] at o; exact o
  | exc c fs e =>
    rw [hf] at o
    simp only at o
    intro g' cls d e1 s1 o1 x1
    rw [← e1] at o
    exact hands_w hh o1 x1 (OutS.rebase ok s1 o)
/-! ### raise -/
theorem pmk_own0 {X : Cx} {C : Addr} {bmB : List Value} {B newId initId : String} {x : Str} {p pos : Pos} (F : ExcBaseFacts B newId initId bmB) (q : PySem.W.excIn X.K C bmB newId = true) (gC : X.mg x = some (.ref C)) (kC : PySem.W.keepIn X.K (.ref C) = true) (r : Raises X (.ref C)) (hg : Gl X x)
    (hdb : (x == ("__debug__" : Str)) = false := by decide) : PMk X (.Call (.Name x p) [] [] pos) (fun _ H Q => Q (.ref C) none H) := by
  intro pins s σ H Q I h
  refine wpAny_Call_Name_kw (ld_glob I hg gC ?_ hdb)
  refine PySem.W.callWith_K0 I.kIn kC ?_
  show wpAny _ _ (call (.ref C) []) _ _ _
  obtain ⟨bm, N, nm, qn, bs, hdct, sn, sub, ab, col, dd, k0, k1, k2, k3, k5, mN, hC, hN, hni, T⟩ := exc_obj I.kIn q
  refine wpAny_call_exc_subT F T hC hN hni (fun h' e hm => ?_) (Nat.zero_le _)
  exact mk_of I hm r h (I.hok.gone hm.new)
def fRaise0 (c : String) : SF := fun env => .exc c [] env
abbrev bmVE : List Value := [.type "ValueError", .type "Exception", .type "BaseException", .type "object"]
theorem fs_raise0 {X : Cx} {c : String} {C : Addr} {p pos pos' : Pos} (hc : X.calm = true) (F : ExF X.K X.mg c C) (q : PySem.W.excIn X.K C bmVE "ValueError.__new__" = true) (hg : Gl X (Str.ofString c)) (hdb : (Str.ofString c == ("__debug__" : Str)) = false := by decide) :
    FS X (.Raise (some (.Call (.Name (Str.ofString c) p) [] [] pos)) none pos') (fRaise0 c) := by
  refine ⟨fun W tk hp => ⟨fun pins s σ H D I hq => ?_⟩⟩
  obtain ⟨g, rfl, rfl, ok, o⟩ := hq
  refine (ps_raise hc tk (pmk_own0 PySem.F.excBase_ValueError q F.gC F.kC (raises_own F.bP F.tP) hg hdb)).run pins s g.st g.H D I ?_
  exact o g (.ref C) none rfl (.refl g) ok ⟨C, rfl, F.gC, .inl ⟨rfl, rfl⟩⟩
end BH
set_option maxRecDepth 100000
set_option maxHeartbeats 4000000
set_option maxRecDepth 100000
set_option maxHeartbeats 4000000
namespace BH
open PySem PySem.Spec PyProof.Rows L2
/-! ### suites -/
/-- a suite that does not look at the exception -/
theorem fsu_plain {X : Cx} {suite : List Stmt} {i : Option Nat} {cs : List String} {f : SF} (h : ∀ (a : Addr) (pn : List (Addr × Obj)), FSs (X.suite a pn) suite f) : FSu X suite i cs (fun _ _ => f) := by
  refine ⟨fun a oe cls d pn hz hf => ⟨fun pins s σ H D I hq => ?_⟩⟩
  obtain ⟨g, c, fs, rfl, rfl, ok, hc, xr, hi, o⟩ := hq
  have o : OutS X (fun _ _ _ _ => False) g (f g.env) D := o
  refine ((h a ((a, oe) :: pn)).pss (fun _ _ _ _ => False) takes0 PassesOwn.never).run pins s g.st g.H D I ⟨g, rfl, rfl, ok, ?_⟩
  cases hf : f g.env with
  | ok y => rw [hf] at o; obtain ⟨fl, e⟩ := y; cases fl <;> exact o
  | exc c' fs' e => rw [hf] at o; exact o
  | fail => rw [hf] at o; exact o
def DictAt (H : Hp) (d : Option Addr) : Prop := d = none ∨ ∃ dd fs, d = some dd ∧ H dd = some (.xd fs)
theorem ExcR.dict {X : Cx} {g : G} {c : String} {fs : List (String × PyData)} {cls : Value} {d : Option Addr} (h : ExcR X g c fs cls d) : DictAt g.H d := by
  obtain ⟨C, _, _, h | ⟨dd, vs, h1, h2, _⟩⟩ := h
  · exact .inl h.2
  · exact .inr ⟨dd, vs, h1, h2⟩
/-! ### parts: constants and the exception's fields -/
/-! ### if isinstance(error, ..): k = constant, one after another -/
end BH
set_option maxRecDepth 100000
set_option maxHeartbeats 4000000
namespace BH
open PySem PySem.Spec PyProof.Rows L2
section
variable {α β γ δ σ τ : Type} {env e e' : SE} {x : SE → Prop} {k : γ → δ → SE → Prop} {m : M γ}
/-! ### raise -/
theorem ra_0 {c : String} {g : Fl → SE → Res (δ × SE)} (h : x env) : Sim (bnd (fRaise0 c env) g) (.exc c []) k x := ⟨env, rfl, h⟩
/-! ### try -/
def tryM (m : M α) (h : String → List (String × PyData) → M α) : M α := match m with
  | .ok a => .ok a
  | .exc c fs => h c fs
  | .fail => .fail
@[simp] theorem tryM_ok (a : α) (h : String → List (String × PyData) → M α) : tryM (.ok a) h = .ok a := rfl
@[simp] theorem tryM_exc (c : String) (fs : List (String × PyData)) (h : String → List (String × PyData) → M α) : tryM (.exc c fs) h = h c fs := rfl
def handM : List (List String × List String × (String → List (String × PyData) → M α)) → String → List (String × PyData) → M α
  | [], c, fs => .exc c fs
  | (yes, no, f) :: r, c, fs => if yes.contains c then f c fs else if no.contains c then handM r c fs else .fail
theorem try_n {fb : SF} {hs : List Hd} {m1 : M σ} {h : String → List (String × PyData) → M σ} {m2 : σ → M γ} {g : Fl → SE → Res (δ × SE)} (K : σ → Fl → SE → Prop) (hb : Sim (fb env) m1 K fun e => e = env) (hh : ∀ c fs, Sim (fHands hs c fs env) (h c fs) K x)
    (hg : ∀ s fl e, K s fl e → Sim (g fl e) (m2 s) k x) : Sim (bnd (fTry fb hs env) g) (tryM m1 h >>= m2) k x := by
  refine sim_bind (k1 := K) ?_ hg
  cases m1 with
  | ok a => obtain ⟨b, e, h1, h2⟩ := hb; unfold fTry; rw [h1]; exact ⟨b, e, rfl, h2⟩
  | fail => trivial
  | exc c fs => obtain ⟨e, h1, rfl⟩ := hb; unfold fTry; rw [h1]; exact hh c fs
theorem hd_nil {K : σ → Fl → SE → Prop} {c : String} {fs : List (String × PyData)} (h : x env) : Sim (fHands [] c fs env) (handM [] c fs) K x := ⟨env, rfl, h⟩
theorem hd_cons {K : σ → Fl → SE → Prop} {yes no : List String} {i : Option Nat} {su : String → List (String × PyData) → SF} {hs : List Hd} {f : String → List (String × PyData) → M σ} {l : List (List String × List String × (String → List (String × PyData) → M σ))} {c : String} {fs : List (String × PyData)}
    (h1 : Sim (fSuite i (su c fs) env) (f c fs) K x) (h2 : Sim (fHands hs c fs env) (handM l c fs) K x) : Sim (fHands (⟨yes, no, i, su⟩ :: hs) c fs env) (handM ((yes, no, f) :: l) c fs) K x := by
  unfold fHands handM
  by_cases hy : yes.contains c = true
  · rw [if_pos hy, if_pos hy]; exact h1
  · rw [if_neg hy, if_neg hy]
    by_cases hn : no.contains c = true
    · rw [if_pos hn, if_pos hn]; exact h2
    · rw [if_neg hn, if_neg hn]; trivial
theorem su_0 {K : σ → Fl → SE → Prop} {f : SF} {m : M σ} (h : Sim (f env) m K fun _ => True) : Sim (fSuite none f env) (lendM m) K x := by
  cases m with
  | ok a => obtain ⟨b, e, h1, h2⟩ := h; exact ⟨b, e, by simp only [fSuite, h1], h2⟩
  | exc c fs => trivial
  | fail => trivial
/-! ### data of any kind as data of one kind -/
def Dec (dec : PyData → Option α) (enc : α → PyData) : Prop := ∀ x a, dec x = some a → x = enc a
@[irreducible] def castM (dec : PyData → Option α) (x : PyData) : M α := match dec x with
  | some a => .ok a
  | none => .fail
theorem cast_s {dec : PyData → Option α} {enc : α → PyData} (hd : Dec dec enc) {y : PyData} {r : Res (δ × SE)} {m2 : α → M γ} (hg : ∀ a, y = enc a → Sim r (m2 a) k x) : Sim r (castM dec y >>= m2) k x := by
  unfold castM
  cases h : dec y with
  | none => trivial
  | some a => exact hg a (hd y a h)
def decI : PyData → Option Int
  | .int i => some i
  | _ => none
def decAll (dec : PyData → Option α) : List PyData → Option (List α)
  | [] => some []
  | x :: xs => match dec x, decAll dec xs with
    | some a, some as => some (a :: as)
    | _, _ => none
def decT (dec : PyData → Option α) : PyData → Option (List α)
  | .tuple xs => decAll dec xs
  | _ => none
def decA : PyData → Option PyData := some
theorem dec_I : Dec decI PyData.int := fun x a h => by cases x <;> simp [decI] at h; rw [h]
theorem dec_A : Dec decA id := fun x a h => by simpa [decA] using h
theorem dec_all {dec : PyData → Option α} {enc : α → PyData} (hd : Dec dec enc) : ∀ (xs : List PyData) (as : List α), decAll dec xs = some as → xs = as.map enc
  | [], as, h => by simp [decAll] at h; subst h; rfl
  | x :: xs, as, h => by
    unfold decAll at h
    cases h1 : dec x with
    | none => rw [h1] at h; cases h
    | some a =>
      cases h2 : decAll dec xs with
      | none => rw [h1, h2] at h; cases h
      | some as' =>
        rw [h1, h2] at h; cases h
        rw [hd x a h1, dec_all hd xs as' h2]; rfl
theorem dec_T {dec : PyData → Option α} {enc : α → PyData} (hd : Dec dec enc) : Dec (decT dec) (eT enc) := fun x a h => by
  cases x <;> simp only [decT, reduceCtorEq] at h
  rw [dec_all hd _ _ h]; rfl
end
/-! ### facts for the walks -/
theorem all_c {P : String → Prop} {c : String} {r : List String} (h : P c) (t : ∀ n ∈ r, P n) : ∀ n ∈ c :: r, P n := fun n hn => by
  rcases List.mem_cons.mp hn with rfl | hn
  · exact h
  · exact t n hn
theorem all_n {P : String → Prop} : ∀ n ∈ ([] : List String), P n := fun n hn => by cases hn
theorem at_mg {mg : Str → Option Value} {x : Str} {a : Addr} {Q : Addr → Prop} (h : mg x = some (.ref a)) (q : Q a) : ∀ C, mg x = some (.ref C) → Q C := fun C hc => by
  rw [h] at hc; cases hc; exact q
end BH
set_option maxRecDepth 100000
set_option maxHeartbeats 4000000
namespace BH
open PySem PySem.Spec PyProof.Rows L2
/-! ### a new list as data -/
def fDat (f : EF) : EF := fun env => (fTake f env).bind fun p => .ok (.d p.1, p.2)
theorem fe_dat {X : Cx} {e : Expr} {f : EF} (h : FE X e f) : FE X e (fDat f) := by
  refine ⟨fun W tk => ⟨fun pins s σ H Q I hq => ?_⟩⟩
  obtain ⟨g, rfl, rfl, ok, o⟩ := hq
  exact (h.take.pe W tk).run pins s g.st g.H Q I ⟨g, rfl, rfl, ok, o.bind0.imp fun g1 x st e o1 p v r => p g1 rfl e st o1 v r⟩
/-! ### a <= b <= c as a test -/
theorem ft_chain {X : Cx} {a b c : Expr} {op op' : CmpOp} {k k' : Int → Int → Bool} {fa fb fc : EF} {pos : Pos}
    (hpt : ∀ {ta tb tc : TE}, PE X a ta → PE X b tb → PE X c tc → PT X (.Compare a [op, op'] [b, c] pos) (tTest (tChain (rI0 fun i j => .bl (k i j)) (rI0 fun i j => .bl (k' i j)) ta tb tc)))
    (ha : FE X a fa) (hb : FE X b fb) (hc : FE X c fc) : FT X (.Compare a [op, op'] [b, c] pos) (fTru (fChain k k' fa fb fc)) := by
  refine ⟨fun W tk => ⟨fun pins s σ H Q I hq => ?_⟩⟩
  obtain ⟨g, rfl, rfl, ok, o⟩ := hq
  have e0 : fTru (fChain k k' fa fb fc) g.env = (fa g.env).bind fun p => ((fb p.2).bind fun q =>
      ((match p.1.view q.2, q.1.view q.2 with
      | some (.int i), some (.int j) => if k i j = true then (fc q.2).bind fun r => match r.1.view r.2 with
          | some (.int l) => .ok (.d (.bool (k' j l)), r.2)
          | _ => .fail
        else .ok (.d (.bool false), q.2)
      | _, _ => .fail : Res (RV × SE)).bind fun z => truR z.1 z.2)) := by
    unfold fTru fChain
    cases fa g.env with
    | exc c fs e => rfl
    | fail => rfl
    | ok p =>
      show ((fb p.2).bind _).bind _ = (fb p.2).bind _
      cases fb p.2 with
      | exc c fs e => rfl
      | fail => rfl
      | ok q => rfl
  rw [e0] at o
  refine (hpt (ha.pe W tk) (hb.pe W tk) (hc.pe W tk)).run pins s g.st g.H Q I ⟨g, rfl, rfl, ok, o.bind0.imp fun g1 r1 st1 e1 ok1 p1 v1 rr1 => ?_⟩
  refine ⟨g1, e1, rfl, ok1, (p1.rebase ok st1 e1).bind0.imp fun g2 r2 st2 e2 ok2 p2 v2 rr2 => ?_⟩
  have rr1' := rr1.step ok1 st2 e2
  split at p2
  · rename_i i j h1 h2
    obtain rfl := dw_int (rr1'.dw ok2 h1)
    obtain rfl := dw_int (rr2.dw ok2 h2)
    refine ⟨i, j, rfl, rfl, k i j, rfl, ?_⟩
    by_cases hk : k i j = true
    · rw [if_pos hk] at p2 ⊢
      have e12 := e2.trans e1
      have p2 : Out X W g1 ((fc g2.env).bind fun r => ((match r.1.view r.2 with
          | some (.int l) => .ok (.d (.bool (k' j l)), r.2)
          | _ => .fail : Res (RV × SE)).bind fun z => truR z.1 z.2)) fun g' b => Q b g'.H := by
        have ea : (((fc g2.env).bind fun r => (match r.1.view r.2 with
          | some (.int l) => .ok (.d (.bool (k' j l)), r.2)
          | _ => .fail : Res (RV × SE))).bind fun z => truR z.1 z.2) = (fc g2.env).bind fun r => ((match r.1.view r.2 with
          | some (.int l) => .ok (.d (.bool (k' j l)), r.2)
          | _ => .fail : Res (RV × SE)).bind fun z => truR z.1 z.2) := by cases fc g2.env <;> rfl
        rw [← ea]; exact p2
      refine ⟨g2, e12, rfl, ok2, ((p2.rebase ok1 st2 e2).bind0).imp fun g3 r3 st3 e3 ok3 p3 v3 rr3 => ?_⟩
      split at p3
      · rename_i l h3
        obtain rfl := dw_int (rr3.dw ok3 h3)
        exact ⟨j, l, rfl, rfl, _, rfl, p3 g3 rfl e3 st3 ok3⟩
      · exact p3.elim
    · rw [if_neg hk] at p2 ⊢
      exact ⟨_, rfl, p2 g2 rfl e2 st2 ok2⟩
  · exact p2.elim
/-! ### sorted -/
end BH
set_option maxRecDepth 100000
set_option maxHeartbeats 4000000
namespace BH
open PySem PySem.Spec PyProof.Rows L2
section
variable {α β γ δ σ τ : Type} {env e e' : SE} {x : SE → Prop} {k : γ → δ → SE → Prop} {m : M γ}
theorem c_dat {f : EF} {g : RV → SE → Res (δ × SE)} (h : Sim (bnd (fTake f env) fun v e1 => g (.d v) e1) m k x) : Sim (bnd (fDat f env) g) m k x := by
  have e : fDat f env = bnd (fTake f env) fun v e1 => .ok (.d v, e1) := rfl
  rw [e]; simpa only [bnd_assoc, bnd_ok] using h
/-! ### data of any kind -/
@[irreducible] def eqAM (a b : PyData) : M Bool := if SeqAt.shaped a && SeqAt.shaped b then .ok (PyData.eqv a b) else .fail
theorem neAS {a b : PyData} : OpS (opEq true a b) (eqAM a b) fun v => .d (.bool (!v)) := by
  unfold eqAM opEq
  split
  · simp [OpS]
  · exact trivial
@[irreducible] def inAM (a : PyData) (ys : List PyData) : M Bool := if SeqAt.shaped a && (SeqAt.shaped (.tuple ys) && SeqAt.shaped (.list ys)) then .ok (ys.any fun y => PyData.eqv y a) else .fail
theorem notinAT {a : PyData} {e : β → PyData} {ws : List β} {xs : List PyData} (h : ws.map e = xs) : OpS (opIn true a (eT e ws)) (inAM a xs) fun v => .d (.bool (!v)) := by
  unfold inAM
  split
  · rename_i c
    simp only [Bool.and_eq_true] at c
    simp only [OpS, eT, h, opIn, c.1, c.2.1, Bool.and_self, if_true]
  · exact trivial
theorem putOuts_d : ∀ {as : List AV} {outs : List Arg} {e : SE}, refsOf as = [] → putOuts as outs e = e
  | [], outs, e, _ => by unfold putOuts; rfl
  | .d x :: r, [], e, h => by unfold putOuts; rfl
  | .d x :: r, o :: os, e, h => by
    have h : refsOf r = [] := h
    show putOuts r os e = e
    exact putOuts_d h
  | .ref i :: r, outs, e, h => by cases h
/-! ### sorted -/
end
end BH
set_option maxRecDepth 100000
set_option maxHeartbeats 4000000
namespace BH
open PySem PySem.Spec PyProof.Rows L2
/-! ### len(set(xs)), xs of ints or of tuples of ints -/
def dd {α : Type} [DecidableEq α] : List α → List α
  | [] => []
  | x :: xs => if x ∈ xs then dd xs else x :: dd xs
theorem dd_mem {α : Type} [DecidableEq α] : ∀ (xs : List α) (a : α), a ∈ dd xs ↔ a ∈ xs
  | [], a => by simp [dd]
  | x :: xs, a => by
    unfold dd
    by_cases h : x ∈ xs
    · rw [if_pos h, dd_mem xs a, List.mem_cons]
      constructor
      · exact .inr
      · rintro (rfl | q)
        · exact h
        · exact q
    · rw [if_neg h, List.mem_cons, List.mem_cons, dd_mem xs a]
theorem dd_nodup {α : Type} [DecidableEq α] : ∀ xs : List α, (dd xs).Nodup
  | [] => by simp [dd]
  | x :: xs => by
    unfold dd
    by_cases h : x ∈ xs
    · rw [if_pos h]; exact dd_nodup xs
    · rw [if_neg h, List.nodup_cons]; exact ⟨fun q => h ((dd_mem xs x).mp q), dd_nodup xs⟩
theorem nd_le {α : Type} [DecidableEq α] : ∀ (l D : List α), l.Nodup → (∀ x ∈ l, x ∈ D) → l.length ≤ D.length
  | [], _, _, _ => Nat.zero_le _
  | x :: l, D, hn, hs => by
    obtain ⟨h1, h2⟩ := List.nodup_cons.mp hn
    have hx : x ∈ D := hs x List.mem_cons_self
    have ih := nd_le l (D.erase x) h2 fun y hy => by
      have hne : y ≠ x := fun e => h1 (e ▸ hy)
      exact (List.mem_erase_of_ne hne).2 (hs y (List.mem_cons_of_mem _ hy))
    have e := List.length_erase_of_mem hx
    have hp : 0 < D.length := List.length_pos_of_mem hx
    rw [List.length_cons]
    omega
theorem nd_len {α : Type} [DecidableEq α] {l xs : List α} (h : l.Nodup) (hm : ∀ a, a ∈ l ↔ a ∈ xs) : l.length = (dd xs).length := by
  have h1 := nd_le l (dd xs) h fun x hx => (dd_mem xs x).mpr ((hm x).mp hx)
  have h2 := nd_le (dd xs) l (dd_nodup xs) fun x hx => (hm x).mpr ((dd_mem xs x).mp hx)
  omega
/-! ### typed -/
end BH
set_option maxRecDepth 100000
set_option maxHeartbeats 4000000
namespace BH
open PySem PySem.Spec PyProof.Rows L2
/-! ### [e for x in xs if .. for y in ys if ..] -/
abbrev W0 : WX := fun _ _ _ _ => False
def cDbl (b : BF) (vs : List Nat) (tt : TF) (fi1 : IF) (b1 : BF) (vs1 : List Nat) (tt1 : TF) (te : CF) : List PyData → SE → List PyData → Res (List PyData × SE)
  | [], env, acc => .ok (acc, env)
  | x :: xs, env, acc => if noCell env vs = true then match b x (wipeE env vs) with
    | none => .fail
    | some e1 => match tt e1 with
      | .ok (true, e2) => match fi1 e2 with
        | .ok ((ds, []), e3) => match cLoop b1 vs1 tt1 te ds e3 acc with
          | .ok (acc2, e4) => cDbl b vs tt fi1 b1 vs1 tt1 te xs (restE env vs e4) acc2
          | _ => .fail
        | _ => .fail
      | .ok (false, e2) => cDbl b vs tt fi1 b1 vs1 tt1 te xs (restE env vs e2) acc
      | _ => .fail
    else .fail
def fCDbl (fi : IF) (b : BF) (vs : List Nat) (tt : TF) (fi1 : IF) (b1 : BF) (vs1 : List Nat) (tt1 : TF) (te : CF) : EF := fun env => (fi env).bind fun p => match cDbl b vs tt fi1 b1 vs1 tt1 te p.1.1 (lockAll p.1.2 p.2) [] with
  | .ok (acc, e) => .ok (.tmp (.lst acc), unlockAll p.1.2 p.2 e)
  | _ => .fail
/-- an iterable that holds no object of ours -/
def tIt0 (X : Cx) (W : WX) (f : IF) : TI := fun σ H R => ∃ g : G, g.st = σ ∧ g.H = H ∧ g.Ok X.K ∧ Out X W g (f g.env) fun g' p => ∀ J, ItOk X.K (fun _ => False) J p.1 g'.A g'.H → R J g'.H
structure FI0 (X : Cx) (tg iter : Expr) (f : IF) : Prop where
  pi : ∀ W, Takes X W → PI X tg iter (tIt0 X W f)
theorem fi0_range1 {X : Cx} {tg a : Expr} {f : EFs} {p pos : Pos} (hg : Gl X "range") (hm : X.mg "range" = none) (ha : FPs X [a] f) (hs : starEach [a] X.env = [(false, eval a X.env)] := by rfl) : FI0 X tg (.Call (.Name "range" p) [a] [] pos) (fRng1 f) := by
  refine ⟨fun W tk => ⟨fun pins s σ H R I hq => ?_⟩⟩
  obtain ⟨g, rfl, rfl, ok, o⟩ := hq
  refine (pi_range1 hg hm (ha.pa W tk) hs).run pins s g.st g.H R I ⟨g, rfl, rfl, ok, o.bind0.imp fun g1 rs st e ok1 p vs rr => ?_⟩
  split at p
  · rename_i j hv
    obtain ⟨v, rfl, hx⟩ := dws1 (rr.dws ok1 hv)
    obtain rfl := dw_int hx
    split at p
    · rename_i hr
      exact ⟨j, rfl, hr.1, hr.2, p g1 rfl e st ok1 _ itr_ok⟩
    · exact p.elim
  · exact p.elim
theorem upd_back {H : Hp} {D : Addr} {x y : HO} (h : H D = some y) : upd (upd H D x) D y = H := by
  funext a
  by_cases e : a = D
  · subst e; rw [upd_same, h]
  · rw [upd_ne e, upd_ne e]
theorem upd_twice {H : Hp} {D : Addr} {x y : HO} : upd (upd H D x) D y = upd H D y := by
  funext a
  by_cases e : a = D
  · subst e; rw [upd_same, upd_same]
  · rw [upd_ne e, upd_ne e, upd_ne e]
/-- the same with another list at D, no slot's object -/
def gh (D : Addr) (ws : List V) (g : G) : G := { g with H := upd g.H D (.lst ws) }
theorem stp_gh {g g' : G} {D : Addr} {ws us us' : List V} (s : Stp g g') (h1 : g.H D = some (.lst us)) (h2 : g'.H D = some (.lst us')) : Stp (gh D ws g) (gh D ws g') := by
  have nn : ∀ {a}, g.H a = none → upd g.H D (.lst ws) a = none := fun {a} z => by
    have : a ≠ D := fun e => by rw [e, h1] at z; cases z
    rw [upd_ne this]; exact z
  refine ⟨⟨fun a o z n => ?_, fun a vs z => ?_, fun a u o z => ?_, fun a z => ?_, s.ext.av1, fun a z => ?_⟩, fun a z => (s.own a z).imp id nn, fun a z => (s.has a z).imp id nn, s.bor, s.lck⟩
  · by_cases e : a = D
    · subst e
      have z : upd g.H a (.lst ws) a = some o := z
      rw [upd_same] at z
      show upd g'.H a (.lst ws) a = some o
      rw [upd_same]; exact z
    · have z : upd g.H D (.lst ws) a = some o := z
      rw [upd_ne e] at z
      show upd g'.H D (.lst ws) a = some o
      rw [upd_ne e]; exact s.ext.keep a o z n
  · have z : upd g.H D (.lst ws) a = some _ := z
    have e : a ≠ D := fun e => by rw [e, upd_same] at z; cases z
    rw [upd_ne e] at z
    show upd g'.H D (.lst ws) a = some _
    rw [upd_ne e]; exact s.ext.tup a vs z
  · have z : upd g.H D (.lst ws) a = some _ := z
    have e : a ≠ D := fun e => by rw [e, upd_same] at z; cases z
    rw [upd_ne e] at z
    show upd g'.H D (.lst ws) a = some _
    rw [upd_ne e]; exact s.ext.frz a u o z
  · show upd g'.H D (.lst ws) a ≠ none
    by_cases e : a = D
    · subst e; rw [upd_same]; simp
    · have z : upd g.H D (.lst ws) a ≠ none := z
      rw [upd_ne e] at z ⊢
      exact s.ext.dom a z
  · rcases s.ext.av2 a z with y | y
    · exact .inl y
    · exact .inr (nn y)
theorem bump1 {K : PySem.W.Frag} {g : G} {D : Addr} {ws ws' : List V} (ok : g.Ok K) (hA : g.A D) (hn : ¬ Has g D) (hD : g.H D = some (.lst ws)) :
    Ext (fun b => b = D) g.A g.H g.A (upd g.H D (.lst ws')) ∧ (gh D ws' g).Ok K := by
  have e : Ext (fun b => b = D) g.A g.H g.A (upd g.H D (.lst ws')) :=
    ⟨fun b o h n => by rw [upd_ne n]; exact h, fun b o h => by rw [upd_ne (fun z => by rw [z, hD] at h; cases h)]; exact h, fun b o u h => by rw [upd_ne (fun z => by rw [z, hD] at h; cases h)]; exact h,
      fun b h => by by_cases z : b = D; (rw [z, upd_same]; simp); (rw [upd_ne z]; exact h), fun b h _ => h, fun b h => .inl h⟩
  have sub : ∀ b, b = D → g.A b := fun b z => by rw [z]; exact hA
  refine ⟨e, ⟨ok.len, fun j y hj => ?_, fun j m c hj => ?_, ok.dis, fun b hb => e.dom b (ok.dom b hb)⟩⟩
  · obtain ⟨v, h1, h2⟩ := ok.dat j y hj
    exact ⟨v, h1, Dv.ext e sub y v h2⟩
  · obtain ⟨b, h1, h2, h3⟩ := ok.cel j m c hj
    refine ⟨b, h1, h2, ?_⟩
    exact h3.go e sub (fun z => hn ⟨j, m, _, hj, by rw [← z]; exact h1⟩) fun dx q z => by rw [z, hD] at q; cases q
theorem inner_core {X : Cx} {fi1 : IF} {vb1 vs1 : List Nat} {b1 : BF} {tt1 : TF} {te : CF} (hsub : ∀ i ∈ vb1, i ∈ vs1) {g : G} {D : Addr} {acc : List PyData} {ws : List V}
    (ok : g.Ok X.K) (hA : g.A D) (hH : g.H D = some (.lst ws)) (hd : Dvs X.K g.A g.H acc ws) (hh : ¬ Has g D)
    {ds : List PyData} {e3 : SE} {fin : List PyData} {envF : SE} (hf : fi1 g.env = .ok ((ds, []), e3)) (hr : cLoop b1 vs1 tt1 te ds e3 acc = .ok (fin, envF))
    {Nx : Hp → Prop} (hN : ∀ (g' : G) ws', g'.st = g.st → g'.env = envF → g'.Ok X.K → Stp g (gh D ws g') → g'.A D → g'.H D = some (.lst ws') → Dvs X.K g'.A g'.H fin ws' → ¬ Has g' D → Nx g'.H) :
    tIt0 X W0 fi1 g.st g.H fun J1 H4 => ∃ W1 : Nat → Nat → Hp → Prop, (∃ m, W1 0 m H4) ∧ ∀ j k H, W1 j k H →
      (J1.stop j H ∧ Nx H) ∨ (J1.go j H ∧ ∃ Nx1 : Hp → Prop, (∀ H', Nx1 H' → ∃ k', k' < k ∧ W1 (j + 1) k' H') ∧ ∀ x H', J1.yld j H x H' → tBd X vb1 b1 x (wipe g.st vs1) H' fun σ3 H5 => wipe σ3 vs1 = wipe g.st vs1 ∧ tTt X W0 tt1 σ3 H5 fun b H6 =>
        if b = true then tCn X W0 te σ3 H6 fun y H7 => ∃ acc, H7 D = some (.lst acc) ∧ acc.length < sizeLine ∧ Nx1 (upd H7 D (.lst (acc ++ [y]))) else Nx1 H6) := by
  refine ⟨g, rfl, rfl, ok, ?_⟩
  rw [hf]
  intro g5 e5 q5 s5 o5 J hJ
  obtain ⟨S1, s0, sx, sd, sj⟩ := hJ
  have nO : ¬ Own g D := fun ⟨i, m, c, q1, _, q2⟩ => hh ⟨i, m, c, q1, q2⟩
  have h5 : g5.H D = some (.lst ws) := s5.ext.keep D _ hH nO
  have gg5 : gh D ws g5 = g5 := by
    unfold gh
    have : upd g5.H D (.lst ws) = g5.H := by
      funext a
      by_cases e : a = D
      · subst e; rw [upd_same, h5]
      · rw [upd_ne e]
    rw [this]
  refine ⟨fun i m H => m = ds.length - i ∧ i ≤ ds.length ∧ ∃ (g2 : G) (acc : List PyData) (us : List V), g2.st = g.st ∧ g2.H = H ∧ g2.Ok X.K ∧ Stp g (gh D ws g2) ∧ S1 g2.A g2.H ∧ g2.A D ∧ g2.H D = some (.lst us) ∧ Dvs X.K g2.A g2.H acc us ∧ ¬ Has g2 D ∧ cLoop b1 vs1 tt1 te (ds.drop i) g2.env acc = .ok (fin, envF),
    ⟨ds.length, rfl, Nat.zero_le _, g5, acc, ws, q5, rfl, o5, by rw [gg5]; exact s5, s0, s5.ext.av1 D hA nO, h5, s5.dvs ok hd, fun z => ?_, ?_⟩, ?_⟩
  · rcases s5.has D z with y | y
    · exact hh y
    · rw [hH] at y; cases y
  · rw [e5]; exact hr
  rintro i m H' ⟨rfl, hle, g2, acc, us, k1, rfl, o2, s2, ss1, hA, hH2, hd, hh, oo⟩
  by_cases hlt : i < ds.length
  · obtain ⟨go, yl⟩ := (sj _ _ ss1).1 i _ (List.getElem?_eq_getElem hlt)
    rw [List.drop_eq_getElem_cons hlt] at oo
    simp only [cLoop] at oo
    split at oo
    · rename_i nc
      refine .inr ⟨go, _, fun H' z => ⟨ds.length - (i + 1), by omega, z⟩, fun x H' hy => ?_⟩
      obtain ⟨ex, dv⟩ := yl x H' hy
      have s3 : Stp g2 { g2 with H := H' } := Stp.same ex
      have o3 : ({ g2 with H := H' } : G).Ok X.K := o2.ext (ex _) (fun _ h => h) (fun a h => (ex (fun _ => False)).dom a (o2.dom a h))
      have h3 : H' D = some (.lst us) := (ex (fun _ => False)).keep D _ hH2 id
      cases hb1 : b1 ds[i] (wipeE g2.env vs1) with
      | none => rw [hb1] at oo; cases oo
      | some env1 =>
        rw [hb1] at oo
        simp only at oo
        rw [← k1]
        have turn : ∀ g5' : G, Stp (wipeG vs1 { g2 with H := H' }) g5' → g5'.Ok X.K → wipe g5'.st vs1 = wipe g2.st vs1 → ({ g5' with st := g2.st, env := restE g2.env vs1 g5'.env } : G).Ok X.K ∧ Stp g (gh D ws { g5' with st := g2.st, env := restE g2.env vs1 g5'.env }) ∧ S1 g5'.A g5'.H ∧ g5'.A D ∧ g5'.H D = some (.lst us) ∧ Dvs X.K g5'.A g5'.H acc us ∧ ¬ Has { g5' with st := g2.st, env := restE g2.env vs1 g5'.env } D := fun g5' s5' o5' hw => by
          obtain ⟨r1, r2, r3⟩ := rest_step (g := { g2 with H := H' }) o3 nc s5' o5' hw
          have s25 := s3.trans o2 r1
          have nh : ¬ Has (wipeG vs1 { g2 with H := H' }) D := fun z => hh (has_wipe z)
          have no : ¬ Own (wipeG vs1 { g2 with H := H' }) D := fun ⟨i, m, c, q1, _, q2⟩ => nh ⟨i, m, c, q1, q2⟩
          have hk : g5'.H D = some (.lst us) := s5'.ext.keep D _ h3 no
          refine ⟨r2, s2.trans ok (stp_gh s25 hH2 hk), sx (Own g2) _ _ _ _ ss1 s25.ext (Own.sub o2) (fun a la ow => la.elim), s5'.ext.av1 D hA no, hk, s25.dvs o2 hd, fun z => ?_⟩
          rcases s5'.has D (r3 D z) with y | y
          · exact nh y
          · exact absurd y (by show H' D ≠ none; rw [h3]; simp)
        refine ⟨wipeG vs1 { g2 with H := H' }, ds[i], env1, rfl, rfl, ok_wipe o3, dv, hb1, fun g4 e4 a4 f4 s4 o4 h4 => ?_⟩
        have hw : wipe g4.st vs1 = wipe g2.st vs1 := wipe_same (by rw [f4.1]; exact wipe_length _ _) fun j hj => by
          rw [(f4.2.2 j fun z => hj (hsub j z)).1]
          exact wipe_out hj
        refine ⟨hw, g4, rfl, rfl, o4, ?_⟩
        rw [e4]
        cases ht : tt1 env1 with
        | exc c fs env' => rw [ht] at oo; cases oo
        | fail => rw [ht] at oo; cases oo
        | ok y =>
          obtain ⟨bb, e2⟩ := y
          rw [ht] at oo
          intro g5' e5' q5' s5' o5'
          cases bb with
          | false =>
            simp only at oo
            obtain ⟨t1, t2, t3, t4, t5, t6, t7⟩ := turn g5' (s4.trans (ok_wipe o3) s5') o5' (by rw [q5']; exact hw)
            exact ⟨rfl, hlt, { g5' with st := g2.st, env := restE g2.env vs1 g5'.env }, acc, us, rfl, rfl, t1, t2, t3, t4, t5, t6, t7, by show cLoop b1 vs1 tt1 te _ (restE g2.env vs1 g5'.env) _ = _; rw [e5']; exact oo⟩
          | true =>
            simp only at oo
            refine ⟨g5', q5', rfl, o5', ?_⟩
            rw [e5']
            cases hte : te e2 with
            | exc c fs env' => rw [hte] at oo; cases oo
            | fail => rw [hte] at oo; cases oo
            | ok y =>
              obtain ⟨y, e3⟩ := y
              rw [hte] at oo
              simp only at oo
              intro g6 e6 q6 s6 o6 v dv6
              obtain ⟨t1, t2, t3, t4, t5, t6, t7⟩ := turn g6 ((s4.trans (ok_wipe o3) s5').trans (ok_wipe o3) s6) o6 (by rw [q6, q5']; exact hw)
              split at oo
              · rename_i hlen
                obtain ⟨b1', b3⟩ := bump1 (g := { g6 with st := g2.st, env := restE g2.env vs1 g6.env }) (ws' := us ++ [v]) t1 t4 t7 t5
                have sub : ∀ b, b = D → g6.A b := fun b z => by rw [z]; exact t4
                refine ⟨us, t5, by rw [← t6.length, ← lim_line]; exact hlen, rfl, hlt, gh D (us ++ [v]) { g6 with st := g2.st, env := restE g2.env vs1 g6.env }, acc ++ [y], us ++ [v], rfl, rfl, b3, ?_, sx (fun b => b = D) _ _ _ _ t3 b1' sub (fun a la z => la.elim), t4, upd_same, ?_, t7, ?_⟩
                · have : gh D ws (gh D (us ++ [v]) { g6 with st := g2.st, env := restE g2.env vs1 g6.env }) = gh D ws { g6 with st := g2.st, env := restE g2.env vs1 g6.env } := by
                    unfold gh
                    simp only [upd_twice]
                  rw [this]; exact t2
                · exact Dvs.append (Dvs.ext b1' sub _ _ t6) (Dvs.one (Dv.ext b1' sub _ _ dv6))
                · show cLoop b1 vs1 tt1 te _ (restE g2.env vs1 g6.env) _ = _
                  rw [e6]; exact oo
              · cases oo
    · cases oo
  · have hi : i = ds.length := by omega
    subst hi
    refine .inl ⟨(sj _ _ ss1).2, ?_⟩
    simp only [List.drop_length, cLoop, Res.ok.injEq, Prod.mk.injEq] at oo
    obtain ⟨rfl, rfl⟩ := oo
    exact hN g2 us k1 rfl o2 s2 hA hH2 hd hh
theorem comp2_core {X : Cx} {own : List (Str × Nat)} {fi fi1 : IF} {vb vb1 vs1 : List Nat} {b b1 : BF} {tt tt1 : TF} {te : CF} (hsub : ∀ i ∈ vb, i ∈ own.map (·.2)) (hsub1 : ∀ i ∈ vb1, i ∈ vs1) (hv1 : ∀ i ∈ vs1, i ∈ own.map (·.2)) {W : WX} {g : G} {Q : VK} (ok : g.Ok X.K) (o : Out X W g (fCDbl fi b (own.map (·.2)) tt fi1 b1 vs1 tt1 te g.env) fun g' rv => ∀ v, RVR X.K g.H g' rv v → Q v g'.H) :
    tLc2 (tIt X W fi) (tBd X vb b) (tTt X W0 tt) (tIt0 X W0 fi1) (tBd X vb1 b1) (tTt X W0 tt1) (tCn X W0 te) (own.map (·.2)) vs1 g.st g.H Q := by
  generalize own.map (·.2) = vs at *
  refine ⟨g, rfl, rfl, ok, o.bind0.imp fun g1 p st e o1 q J L hL hJ D hD => ?_⟩
  obtain ⟨ds, lk⟩ := p
  obtain ⟨S, s0, sx, sd, sj⟩ := hJ
  cases hr : cDbl b vs tt fi1 b1 vs1 tt1 te ds (lockAll lk g1.env) [] with
  | exc c fs env' => rw [hr] at q; exact q.elim
  | fail => rw [hr] at q; exact q.elim
  | ok y =>
  obtain ⟨fin, envF⟩ := y
  rw [hr] at q
  simp only at q
  have oL : (lockG lk g1).Ok X.K := ok_lockAll lk o1
  obtain ⟨sB1, sB2, a0, ha0, hA0, hC0, hf0, hh0⟩ := alloc_lst (g := lockG lk g1) oL hD Dvs.nil
  cases ha0
  have hLD : ∀ a, L a → a ≠ D := fun a la z => sd _ _ s0 a la (by rw [z]; exact hD)
  have hne : ∀ {a o}, g1.H a = some o → a ≠ D := fun {a o} h z => by rw [z, hD] at h; cases h
  have sS : S (fun b => g1.A b ∨ b = D) (upd g1.H D (.lst [])) := sx (fun _ => False) _ _ _ _ s0 ⟨fun a o h _ => by rw [upd_ne (hne h)]; exact h, sB1.ext.tup, sB1.ext.frz, sB1.ext.dom, fun a h _ => .inl h, sB1.ext.av2⟩ (fun _ z => z.elim) (fun _ _ z => z)
  have hS1 : ∀ (g' : G) A2 H2, Stp (lockG lk g1) g' → g'.Ok X.K → S g'.A g'.H → Ext (Own g') g'.A g'.H A2 H2 → S A2 H2 := fun g' A2 H2 s2 o2 ss ex => sx (Own g') _ _ _ _ ss ex (Own.sub o2) (fun a la ow => by
    rcases s2.own a ow with z | z
    · exact hL a la z
    · exact sd _ _ s0 a la z)
  have hS2 : ∀ A1 H1 A2 H2, A1 D → S A1 H1 → Ext (fun b => b = D) A1 H1 A2 H2 → S A2 H2 := fun A1 H1 A2 H2 ad ss ex => sx (fun b => b = D) _ _ _ _ ss ex (fun b z => by rw [z]; exact ad) (fun a la z => hLD a la z)
  refine ⟨fun i m H => m = ds.length - i ∧ i ≤ ds.length ∧ ∃ (g2 : G) (acc : List PyData) (ws : List V), g2.st = g.st ∧ g2.H = H ∧ g2.Ok X.K ∧ Stp (lockG lk g1) g2 ∧ S g2.A g2.H ∧ g2.A D ∧ g2.H D = some (.lst ws) ∧ Dvs X.K g2.A g2.H acc ws ∧ ¬ Has g2 D ∧ cDbl b vs tt fi1 b1 vs1 tt1 te (ds.drop i) g2.env acc = .ok (fin, envF),
    ⟨ds.length, rfl, Nat.zero_le _, _, [], [], ?_, ?_, sB2, sB1, sS, .inr rfl, upd_same, Dvs.nil, hh0, hr⟩, ?_⟩
  · exact e
  · rfl
  rintro i m H' ⟨rfl, hle, g2, acc, ws, k1, rfl, o2, s2, ss, hA, hH, hd, hh, oo⟩
  by_cases hlt : i < ds.length
  · obtain ⟨go, yl⟩ := (sj _ _ ss).1 i _ (List.getElem?_eq_getElem hlt)
    rw [List.drop_eq_getElem_cons hlt] at oo
    simp only [cDbl] at oo
    split at oo
    · rename_i nc
      refine .inr ⟨go, _, fun H' z => ⟨ds.length - (i + 1), by omega, z⟩, fun x H' hy => ?_⟩
      obtain ⟨ex, dv⟩ := yl x H' hy
      have s3 : Stp g2 { g2 with H := H' } := Stp.same ex
      have o3 : ({ g2 with H := H' } : G).Ok X.K := o2.ext (ex _) (fun _ h => h) (fun a h => (ex (fun _ => False)).dom a (o2.dom a h))
      have h3 : H' D = some (.lst ws) := (ex (fun _ => False)).keep D _ hH id
      cases hb1 : b ds[i] (wipeE g2.env vs) with
      | none => rw [hb1] at oo; cases oo
      | some env1 =>
        rw [hb1] at oo
        simp only at oo
        rw [← k1]
        have turn : ∀ g5 : G, Stp (wipeG vs { g2 with H := H' }) g5 → g5.Ok X.K → wipe g5.st vs = wipe g2.st vs → ({ g5 with st := g2.st, env := restE g2.env vs g5.env } : G).Ok X.K ∧ Stp (lockG lk g1) { g5 with st := g2.st, env := restE g2.env vs g5.env } ∧ S g5.A g5.H ∧ g5.A D ∧ g5.H D = some (.lst ws) ∧ Dvs X.K g5.A g5.H acc ws ∧ ¬ Has { g5 with st := g2.st, env := restE g2.env vs g5.env } D := fun g5 s5 o5 hw => by
          obtain ⟨r1, r2, r3⟩ := rest_step (g := { g2 with H := H' }) o3 nc s5 o5 hw
          have s25 := s3.trans o2 r1
          have nh : ¬ Has (wipeG vs { g2 with H := H' }) D := fun z => hh (has_wipe z)
          have no : ¬ Own (wipeG vs { g2 with H := H' }) D := fun ⟨i, m, c, q1, _, q2⟩ => nh ⟨i, m, c, q1, q2⟩
          refine ⟨r2, s2.trans oL s25, hS1 g2 _ _ s2 o2 ss s25.ext, s5.ext.av1 D hA no, s5.ext.keep D _ h3 no, s25.dvs o2 hd, fun z => ?_⟩
          rcases s5.has D (r3 D z) with y | y
          · exact nh y
          · exact absurd y (by show H' D ≠ none; rw [h3]; simp)
        refine ⟨wipeG vs { g2 with H := H' }, ds[i], env1, rfl, rfl, ok_wipe o3, dv, hb1, fun g4 e4 a4 f4 s4 o4 h4 => ?_⟩
        have hw : wipe g4.st vs = wipe g2.st vs := wipe_same (by rw [f4.1]; exact wipe_length _ _) fun j hj => by
          rw [(f4.2.2 j fun z => hj (hsub j z)).1]
          exact wipe_out hj
        refine ⟨hw, g4, rfl, rfl, o4, ?_⟩
        rw [e4]
        cases ht : tt env1 with
        | exc c fs env' => rw [ht] at oo; cases oo
        | fail => rw [ht] at oo; cases oo
        | ok y =>
          obtain ⟨bb, e2⟩ := y
          rw [ht] at oo
          intro g5 e5 q5 s5 o5
          have t45 := s4.trans (ok_wipe o3) s5
          cases bb with
          | false =>
            simp only at oo
            obtain ⟨t1, t2, t3, t4, t5, t6, t7⟩ := turn g5 t45 o5 (by rw [q5]; exact hw)
            exact ⟨rfl, hlt, { g5 with st := g2.st, env := restE g2.env vs g5.env }, acc, ws, rfl, rfl, t1, t2, t3, t4, t5, t6, t7, by show cDbl b vs tt fi1 b1 vs1 tt1 te _ (restE g2.env vs g5.env) _ = _; rw [e5]; exact oo⟩
          | true =>
            simp only at oo
            split at oo
            · rename_i ds1 e3 hf1
              split at oo
              · rename_i acc2 e4' hc1
                obtain ⟨t1, t2, t3, t4, t5, t6, t7⟩ := turn g5 t45 o5 (by rw [q5]; exact hw)
                have n5 : ¬ Has g5 D := fun z => by
                  rcases t45.has D z with y | y
                  · exact hh (has_wipe y)
                  · exact absurd y (by show H' D ≠ none; rw [h3]; simp)
                rw [← q5]
                refine inner_core (D := D) hsub1 (g := g5) o5 t4 t5 t6 n5 (by rw [e5]; exact hf1) hc1 fun g6 ws6 q6 e6 o6 sgh a6 h6 d6 n6 => ?_
                obtain ⟨_, og⟩ := bump1 (ws' := ws) o6 a6 n6 h6
                obtain ⟨u1, u2, u3, u4, u5, u6, u7⟩ := turn (gh D ws g6) (t45.trans (ok_wipe o3) sgh) og (by show wipe g6.st vs = _; rw [q6, q5]; exact hw)
                obtain ⟨b1', b2, b3⟩ := bump (g0 := lockG lk g1) (g := { gh D ws g6 with st := g2.st, env := restE g2.env vs (gh D ws g6).env }) (ws' := ws6) u1 u4 u7 u5 hD u2
                have ub : upd (gh D ws g6).H D (.lst ws6) = g6.H := upd_back h6
                rw [ub] at b1' b2 b3
                exact ⟨rfl, hlt, { g6 with st := g2.st, env := restE g2.env vs g6.env }, acc2, ws6, rfl, rfl, b3, b2, hS2 _ _ _ _ u4 u3 b1', a6, h6, d6, u7, by show cDbl b vs tt fi1 b1 vs1 tt1 te _ (restE g2.env vs g6.env) _ = _; rw [e6]; exact oo⟩
              · cases oo
            · cases oo
    · cases oo
  · have hi : i = ds.length := by omega
    subst hi
    refine .inl ⟨(sj _ _ ss).2, ?_⟩
    simp only [List.drop_length, cDbl, Res.ok.injEq, Prod.mk.injEq] at oo
    obtain ⟨rfl, rfl⟩ := oo
    obtain ⟨s3, o3⟩ := unlock_all lk o1 s2 o2
    exact q { g2 with env := unlockAll lk g1.env g2.env } rfl k1 (st.trans ok s3) o3 (.ref D) ⟨D, rfl, hA, ⟨ws, hH, hd⟩, none_of_dom st.ext.dom hD, fun z => hh (has_unlock lk o1 o2 s2 z)⟩
end BH
set_option maxRecDepth 100000
set_option maxHeartbeats 4000000
namespace BH
open PySem PySem.Spec PyProof.Rows L2
theorem fs_setLc2 {X : Cx} {i : Nat} {y : Str} {py : Pos} {elt tg iter tg1 iter1 : Expr} {ifs ifs1 : List Expr} {scope : Scope} {own : List (Str × Nat)} {vs1 : List Nat} {pos spos : Pos} {fi fi1 : IF} {vb vb1 : List Nat} {b b1 : BF} {tt tt1 : TF} {te : CF} (hc : X.calm = true) (hN : X.N.Nodup) (hi' : X.N[i]? = some y) (hy : X.env.scope.names.lookup y = some .local)
    (hsw : swapsWith (.ListComp elt [⟨tg, iter, ifs, 0⟩, ⟨tg1, iter1, ifs1, 0⟩] scope pos) (some (.Name y py)) spos.line X.env = pure true) (hi : FI X tg iter fi) (ok : BlkOk X.N X.env.scope scope own)
    (hg : ∀ (s : Shared) (H : Hp) (C : Addr) (cl : List (Str × Addr)) (fp : List Addr), FG (X.blk s H scope (compEnvC scope cl C X.env) fp) tg vb b) (ht : ∀ (s : Shared) (H : Hp) (C : Addr) (cl : List (Str × Addr)) (fp : List Addr), FTs (X.blk s H scope (compEnvC scope cl C X.env) fp) ifs tt)
    (hi1 : ∀ (s : Shared) (H : Hp) (C : Addr) (cl : List (Str × Addr)) (fp : List Addr), FI0 (X.blk s H scope (compEnvC scope cl C X.env) fp) tg1 iter1 fi1)
    (hg1 : ∀ (s : Shared) (H : Hp) (C : Addr) (cl : List (Str × Addr)) (fp : List Addr), FG (X.blk s H scope (compEnvC scope cl C X.env) fp) tg1 vb1 b1) (ht1 : ∀ (s : Shared) (H : Hp) (C : Addr) (cl : List (Str × Addr)) (fp : List Addr), FTs (X.blk s H scope (compEnvC scope cl C X.env) fp) ifs1 tt1)
    (he : ∀ (s : Shared) (H : Hp) (C : Addr) (cl : List (Str × Addr)) (fp : List Addr), FC (X.blk s H scope (compEnvC scope cl C X.env) fp) elt te) (hsub : ∀ i ∈ vb, i ∈ own.map (·.2) := by decide) (hsub1 : ∀ i ∈ vb1, i ∈ vs1 := by decide) (hv1 : ∀ i ∈ vs1, i ∈ own.map (·.2) := by decide)
    (hs : ∀ x, foldedSetIterable iter X.env x = pure x := by first | exact fun _ => rfl | assumption) (hs1 : ∀ env x, foldedSetIterable iter1 env x = pure x := by first | exact fun _ _ => rfl | assumption) :
    FS X (.Assign [.Name y py] (.ListComp elt [⟨tg, iter, ifs, 0⟩, ⟨tg1, iter1, ifs1, 0⟩] scope pos) spos) (fSet i (fCDbl fi b (own.map (·.2)) tt fi1 b1 vs1 tt1 te)) := by
  refine ⟨fun W tk hp => ⟨fun pins s σ H D I hq => ?_⟩⟩
  obtain ⟨g, rfl, rfl, o1, o⟩ := hq
  refine (ps_setLc2 (X := X) (wi := tIt X W fi) (g := tBd X vb b) (tt := tTt X W0 tt) (wi1 := tIt0 X W0 fi1) (g1 := tBd X vb1 b1) (tt1 := tTt X W0 tt1) (te := tCn X W0 te) hc hN hi' hy hsw (hi.pi W tk) ok hv1 (fun s H C cl fp => (hg s H C cl fp).pg) (fun s H C cl fp => (ht s H C cl fp).pts _ takes0) (fun s H C cl fp => (hi1 s H C cl fp).pi _ takes0) (fun s H C cl fp => (hg1 s H C cl fp).pg) (fun s H C cl fp => (ht1 s H C cl fp).pts _ takes0) (fun s H C cl fp => (he s H C cl fp).pe _ takes0) hs hs1).run pins s g.st g.H D I ?_
  exact comp2_core hsub hsub1 hv1 o1 ((OutS.bindE o).imp fun g1 rv st e o2 p v rr => set_end o1 st e o2 rr p)
/-! ### typed -/
section
variable {α β γ δ τ σ : Type} {env el : SE} {x : SE → Prop} {k : τ → δ → SE → Prop} {m : M τ}
def cmp2R (b : BF) (vs : List Nat) (tt : TF) (fi1 : IF) (b1 : BF) (vs1 : List Nat) (tt1 : TF) (te : CF) (it : List PyData × List Nat) (e : SE) : Res (RV × SE) := match cDbl b vs tt fi1 b1 vs1 tt1 te it.1 (lockAll it.2 e) [] with
  | .ok (acc, e') => .ok (.tmp (.lst acc), unlockAll it.2 e e')
  | _ => .fail
theorem c_comp2 {fi : IF} {b : BF} {vs : List Nat} {tt : TF} {fi1 : IF} {b1 : BF} {vs1 : List Nat} {tt1 : TF} {te : CF} {g : RV → SE → Res (δ × SE)} (h : Sim (bnd (fi env) fun it e1 => bnd (cmp2R b vs tt fi1 b1 vs1 tt1 te it e1) g) m k x) : Sim (bnd (fCDbl fi b vs tt fi1 b1 vs1 tt1 te env) g) m k x := by
  have e : fCDbl fi b vs tt fi1 b1 vs1 tt1 te env = bnd (fi env) fun it e1 => cmp2R b vs tt fi1 b1 vs1 tt1 te it e1 := rfl
  rw [e]; simpa only [bnd_assoc] using h
def comp2G (ys : α → M (List β)) (f : α → β → M (Option γ)) : List α → List γ → M (List γ)
  | [], acc => .ok acc
  | a :: as, acc => match ys a with
    | .ok l => match compPG (f a) l acc with
      | .ok acc2 => comp2G ys f as acc2
      | _ => .fail
    | _ => .fail
def comp2P (ys : α → M (List β)) (f : α → β → M (Option γ)) (xs : List α) : M (List γ) := comp2G ys f xs []
theorem cDbl_S {b : BF} {vs : List Nat} {fi1 : IF} {b1 : BF} {vs1 : List Nat} {tt1 : TF} {te : CF} {enc : α → PyData} {enc1 : β → PyData} {enc' : γ → PyData} {ys : α → M (List β)} {f : α → β → M (Option γ)} (hnc : noCell el vs = true)
    (hb : ∀ a, ∃ e2, b (enc a) (wipeE el vs) = some e2 ∧ restE el vs e2 = el ∧ noCell e2 vs1 = true ∧ Sim (fi1 e2) (ys a) (fun l p e' => p = (l.map enc1, []) ∧ e' = e2) (fun _ => True) ∧
      ∀ c, ∃ e3, b1 (enc1 c) (wipeE e2 vs1) = some e3 ∧ Sim (turnR tt1 te vs1 e2 e3) (f a c) (fun o oy e' => oy = o.map enc' ∧ e' = e2) fun _ => True) :
    ∀ (xs : List α) (acc : List γ), match comp2G ys f xs acc with
      | .ok r => cDbl b vs fYes fi1 b1 vs1 tt1 te (xs.map enc) el (acc.map enc') = .ok (r.map enc', el)
      | _ => True
  | [], acc => rfl
  | a :: as, acc => by
    obtain ⟨e2, h1, h2, h3, h4, h5⟩ := hb a
    unfold comp2G
    cases hy : ys a with
    | fail => trivial
    | exc c fs => trivial
    | ok l =>
      rw [hy] at h4
      obtain ⟨p, e', q1, q2, q3⟩ := h4
      subst q2 q3
      have inner := cLoop_S (enc' := enc') (f := fun c (_ : Unit) => f a c >>= fun o => .ok (o, ())) (fun _ e => e = e') (fun _ e h => by rw [h]; exact h3) (fun c _ e h => by
        subst h
        obtain ⟨e3, z1, z2⟩ := h5 c
        refine ⟨e3, z1, ?_⟩
        cases hf : f a c with
        | fail => exact trivial
        | exc c fs => rw [hf] at z2; exact z2
        | ok o => rw [hf] at z2; exact z2) l () e' acc rfl
      rw [compP_S] at inner
      dsimp only
      cases hc : compPG (f a) l acc with
      | fail => trivial
      | exc c fs => trivial
      | ok acc2 =>
        rw [hc] at inner
        obtain ⟨e4, i1, i2⟩ := inner
        subst i2
        have ih := cDbl_S hnc hb as acc2
        dsimp only
        cases hr : comp2G ys f as acc2 with
        | fail => trivial
        | exc c fs => trivial
        | ok r =>
          rw [hr] at ih
          dsimp only at ih ⊢
          simp only [List.map_cons, cDbl, hnc, if_true, h1, fYes, q1, i1]
          rw [h2]
          exact ih
theorem co_2 {b : BF} {vs : List Nat} {fi1 : IF} {b1 : BF} {vs1 : List Nat} {tt1 : TF} {te : CF} {enc : α → PyData} {enc1 : β → PyData} {enc' : γ → PyData} {ys : α → M (List β)} {f : α → β → M (Option γ)} {xs : List α} {lk : List Nat} {m2 : List γ → M τ} {g : RV → SE → Res (δ × SE)}
    (hl : lockAll lk env = el) (hnc : noCell el vs = true) (hu : unlockAll lk env el = env)
    (hb : ∀ a, ∃ e2, b (enc a) (wipeE el vs) = some e2 ∧ restE el vs e2 = el ∧ noCell e2 vs1 = true ∧ Sim (fi1 e2) (ys a) (fun l p e' => p = (l.map enc1, []) ∧ e' = e2) (fun _ => True) ∧
      ∀ c, ∃ e3, b1 (enc1 c) (wipeE e2 vs1) = some e3 ∧ Sim (turnR tt1 te vs1 e2 e3) (f a c) (fun o oy e' => oy = o.map enc' ∧ e' = e2) fun _ => True)
    (hg : ∀ r, Sim (g (.tmp (.lst (r.map enc'))) env) (m2 r) k x) : Sim (bnd (cmp2R b vs fYes fi1 b1 vs1 tt1 te (xs.map enc, lk) env) g) (comp2P ys f xs >>= m2) k x := by
  have q := cDbl_S hnc hb xs []
  unfold comp2P
  cases hf : comp2G ys f xs [] with
  | fail => exact trivial
  | exc c fs =>
    exfalso
    clear q
    have : ∀ (xs : List α) (acc : List γ), comp2G ys f xs acc ≠ .exc c fs := by
      intro xs
      induction xs with
      | nil => intro acc h; cases h
      | cons a as ih =>
        intro acc h
        unfold comp2G at h
        split at h
        · split at h
          · exact ih _ h
          · cases h
        · cases h
    exact this _ _ hf
  | ok r =>
    rw [hf] at q
    dsimp only at q
    have e : cmp2R b vs fYes fi1 b1 vs1 tt1 te (xs.map enc, lk) env = .ok (.tmp (.lst (r.map enc')), env) := by
      simp only [cmp2R, hl]
      simp only [List.map_nil] at q
      rw [q]
      simp only [hu]
    rw [e]
    exact hg r
end
end BH
set_option maxRecDepth 100000
set_option maxHeartbeats 4000000
set_option maxRecDepth 100000
set_option maxHeartbeats 4000000
namespace BH
open PySem PySem.Spec PyProof.Rows L2
section
variable {α β γ δ τ σ : Type} {env el : SE} {x : SE → Prop} {k : τ → δ → SE → Prop} {m : M τ}
theorem c_dict0 {g : RV → SE → Res (δ × SE)} (h : Sim (g (.d (.dict [])) env) m k x) : Sim (bnd (fDic0 env) g) m k x := h
theorem eT_id {e : α → PyData} {xs : List α} : eT id (xs.map e) = eT e xs := by simp [eT]
end
end BH
set_option maxRecDepth 100000
set_option maxHeartbeats 4000000
set_option maxRecDepth 100000
set_option maxHeartbeats 4000000
set_option maxRecDepth 100000
set_option maxHeartbeats 4000000
set_option maxRecDepth 100000
set_option maxHeartbeats 4000000
set_option maxRecDepth 100000
set_option maxHeartbeats 4000000
set_option maxRecDepth 100000
set_option maxHeartbeats 4000000
set_option maxRecDepth 100000
set_option maxHeartbeats 4000000
set_option maxRecDepth 100000
set_option maxHeartbeats 4000000
set_option maxRecDepth 100000
set_option maxHeartbeats 4000000
set_option maxRecDepth 100000
set_option maxHeartbeats 4000000
set_option maxRecDepth 100000
set_option maxHeartbeats 4000000
set_option maxRecDepth 100000
set_option maxHeartbeats 4000000
set_option maxRecDepth 100000
set_option maxHeartbeats 4000000
set_option maxRecDepth 100000
set_option maxHeartbeats 4000000
set_option maxRecDepth 100000
set_option maxHeartbeats 4000000
set_option maxRecDepth 100000
set_option maxHeartbeats 4000000
set_option maxRecDepth 100000
set_option maxHeartbeats 4000000
set_option maxRecDepth 100000
set_option maxHeartbeats 2000000
namespace BH
open PySem PySem.Spec PyProof.Rows L2
/-! ### dicts with tuple keys -/
def keyS : PyData → Option Key
  | .int i => some (.inl i)
  | .str x => some (.inr x)
  | _ => none
def keysOf : List PyData → Option (List Key)
  | [] => some []
  | d :: ds => match keyS d, keysOf ds with
    | some k, some ks => some (k :: ks)
    | _, _ => none
def keyOf : PyData → Option (List Key)
  | .tuple (d :: ds) => keysOf (d :: ds)
  | _ => none
theorem keyS_eq {d : PyData} {k : Key} (h : keyS d = some k) : d = keyD k := by
  cases d <;> simp [keyS] at h <;> subst h <;> rfl
theorem keysOf_eq : ∀ {ds : List PyData} {k : List Key}, keysOf ds = some k → ds = k.map keyD
  | [], k, h => by simp [keysOf] at h; subst h; rfl
  | d :: ds, k, h => by
    simp only [keysOf] at h
    split at h
    · rename_i a b h1 h2
      cases h
      rw [keyS_eq h1, keysOf_eq h2]; rfl
    · cases h
@[simp] theorem keyS_keyD (k : Key) : keyS (keyD k) = some k := by cases k <;> rfl
@[simp] theorem keysOf_map : ∀ k : List Key, keysOf (k.map keyD) = some k
  | [] => rfl
  | a :: k => by simp [keysOf, keysOf_map k]
theorem keyOf_eq {d : PyData} {k : List Key} (h : keyOf d = some k) : d = .tuple (k.map keyD) ∧ k ≠ [] := by
  cases d with
  | tuple ds =>
    cases ds with
    | nil => simp [keyOf] at h
    | cons a ds =>
      simp only [keyOf] at h
      refine ⟨by rw [keysOf_eq h], ?_⟩
      rintro rfl
      have := keysOf_eq h
      simp at this
  | _ => simp [keyOf] at h
theorem keyOf_tup {k : List Key} (h : k ≠ []) : keyOf (.tuple (k.map keyD)) = some k := by
  cases k with
  | nil => exact absurd rfl h
  | cons a k => show keysOf (keyD a :: k.map keyD) = _; exact keysOf_map (a :: k)
/-- what a dict has under a key -/
def dget (k : List Key) : List (PyData × PyData) → Option PyData
  | [] => none
  | (kd, d) :: r => if keyOf kd = some k then some d else dget k r
def drepl (k : List Key) (d : PyData) : List (PyData × PyData) → List (PyData × PyData)
  | [] => []
  | (kd, x) :: r => (if keyOf kd = some k then (kd, d) else (kd, x)) :: drepl k d r
/-- a store under a key -/
def dput (k : List Key) (kd d : PyData) (kvs : List (PyData × PyData)) : List (PyData × PyData) :=
  if (dget k kvs).isSome then drepl k d kvs else kvs ++ [(kd, d)]
section
variable {K : PySem.W.Frag} {A : AS} {H : Hp}
theorem dvs_keys : ∀ {k : List Key} {vs : List V}, Dvs K A H (k.map keyD) vs → vs = k.map kV
  | [], vs, h => by simpa [Dvs] using h
  | .inl i :: k, vs, h => by
    simp only [List.map_cons, Dvs, keyD, Dv] at h
    obtain ⟨v, r, rfl, rfl, t⟩ := h
    rw [dvs_keys t]; rfl
  | .inr x :: k, vs, h => by
    simp only [List.map_cons, Dvs, keyD, Dv] at h
    obtain ⟨v, r, rfl, rfl, t⟩ := h
    rw [dvs_keys t]; rfl
theorem key_at {d : PyData} {v : V} {k : List Key} (h : Dv K A H d v) (e : keyOf d = some k) : ∃ b, v = .ref b ∧ H b = some (.tup (k.map kV)) := by
  obtain ⟨rfl, hk⟩ := keyOf_eq e
  simp only [Dv] at h
  obtain ⟨b, vs, rfl, q, r⟩ := h
  obtain rfl := dvs_keys r
  rcases q with q | ⟨z, _⟩
  · exact ⟨b, rfl, q⟩
  · simp at z; exact absurd z hk
theorem dps_get {k : List Key} (hk : k ≠ []) : ∀ {kvs : List (PyData × PyData)} {es : List (List Key × V)}, Dps K A H kvs es →
    (∀ d, dget k kvs = some d → ∃ v, valV es k = some v ∧ Dv K A H d v) ∧ (dget k kvs = none → valV es k = none)
  | [], es, h => by
    simp only [Dps] at h; subst h
    exact ⟨fun d e => (by cases e), fun _ => rfl⟩
  | (kd, d) :: ds, es, h => by
    simp only [Dps] at h
    obtain ⟨k', v, r, rfl, rfl, q, t⟩ := h
    obtain ⟨i1, i2⟩ := dps_get hk t
    by_cases e : k' = k
    · subst e
      refine ⟨fun d' e' => ?_, fun e' => ?_⟩
      · rw [dget, if_pos (keyOf_tup hk)] at e'
        cases e'
        exact ⟨v, valV_pos rfl, q⟩
      · rw [dget, if_pos (keyOf_tup hk)] at e'; cases e'
    · have ne : ¬ keyOf (.tuple (k'.map keyD)) = some k := fun z => by
        obtain ⟨z, _⟩ := keyOf_eq z
        have := congrArg keyOf z
        rw [keyOf_tup hk] at this
        by_cases h0 : k' = []
        · subst h0
          simp only [List.map_nil] at this
          cases this
        · rw [keyOf_tup h0] at this
          cases this
          exact e rfl
      refine ⟨fun d' e' => ?_, fun e' => ?_⟩
      · rw [dget, if_neg ne] at e'
        obtain ⟨w, w1, w2⟩ := i1 d' e'
        exact ⟨w, by rw [valV_neg e]; exact w1, w2⟩
      · rw [dget, if_neg ne] at e'
        rw [valV_neg e]; exact i2 e'
theorem dps_isSome {k : List Key} (hk : k ≠ []) {kvs : List (PyData × PyData)} {es : List (List Key × V)} (h : Dps K A H kvs es) : (valV es k).isSome = (dget k kvs).isSome := by
  obtain ⟨h1, h2⟩ := dps_get hk h
  cases e : dget k kvs with
  | none => rw [h2 e]; rfl
  | some d => obtain ⟨v, q, _⟩ := h1 d e; rw [q]; rfl
theorem dps_repl {k : List Key} (hk : k ≠ []) {d : PyData} {v : V} (q : Dv K A H d v) : ∀ {kvs : List (PyData × PyData)} {es : List (List Key × V)}, Dps K A H kvs es →
    Dps K A H (drepl k d kvs) (es.map fun kv => if kv.1 = k then (kv.1, v) else kv)
  | [], es, h => by simp only [Dps] at h; subst h; simp [drepl, Dps]
  | (kd, x) :: ds, es, h => by
    simp only [Dps] at h
    obtain ⟨k', w, r, rfl, rfl, p, t⟩ := h
    have ih := dps_repl hk q t
    by_cases e : k' = k
    · subst e
      simp only [drepl, keyOf_tup hk, if_true, List.map_cons]
      simp only [Dps]
      exact ⟨_, _, _, rfl, rfl, q, ih⟩
    · have ne : ¬ keyOf (.tuple (k'.map keyD)) = some k := fun z => by
        obtain ⟨z, _⟩ := keyOf_eq z
        have := congrArg keyOf z
        rw [keyOf_tup hk] at this
        by_cases h0 : k' = []
        · subst h0
          simp only [List.map_nil] at this
          cases this
        · rw [keyOf_tup h0] at this
          cases this
          exact e rfl
      simp only [drepl, if_neg ne, List.map_cons, if_neg e]
      simp only [Dps]
      exact ⟨_, _, _, rfl, rfl, p, ih⟩
theorem dps_snoc {k : List Key} {d : PyData} {v : V} (q : Dv K A H d v) : ∀ {kvs : List (PyData × PyData)} {es : List (List Key × V)}, Dps K A H kvs es →
    Dps K A H (kvs ++ [(.tuple (k.map keyD), d)]) (es ++ [(k, v)])
  | [], es, h => by
    simp only [Dps] at h; subst h
    simp only [List.nil_append, Dps]
    exact ⟨_, _, _, rfl, rfl, q, rfl⟩
  | (kd, x) :: ds, es, h => by
    simp only [Dps] at h
    obtain ⟨k', w, r, rfl, rfl, p, t⟩ := h
    simp only [List.cons_append, Dps]
    exact ⟨_, _, _, rfl, rfl, p, dps_snoc q t⟩
theorem dps_put {k : List Key} (hk : k ≠ []) {d : PyData} {v : V} (q : Dv K A H d v) {kvs : List (PyData × PyData)} {es : List (List Key × V)} (h : Dps K A H kvs es) :
    Dps K A H (dput k (.tuple (k.map keyD)) d kvs) (putK es k v) := by
  unfold dput putK
  rw [valV_any, dps_isSome hk h]
  split
  · exact dps_repl hk q h
  · exact dps_snoc q h
theorem Dps.length : ∀ {kvs : List (PyData × PyData)} {es : List (List Key × V)}, Dps K A H kvs es → kvs.length = es.length
  | [], es, h => by simp only [Dps] at h; subst h; rfl
  | (kd, x) :: ds, es, h => by
    simp only [Dps] at h
    obtain ⟨k', w, r, rfl, rfl, p, t⟩ := h
    simp [Dps.length t]
end
/-! in, not in -/
end BH
set_option maxRecDepth 100000
set_option maxHeartbeats 2000000
set_option maxRecDepth 100000
set_option maxHeartbeats 2000000
set_option maxRecDepth 100000
set_option maxHeartbeats 4000000
namespace BH
open PySem PySem.Spec PyProof.Rows L2
/-! ### for x in xs: row = d.setdefault(k, []); row.append(x) -/
/-! the loop's state -/
/-- an object apart, that may be written -/
structure Free (g : G) (p : Addr) (o : HO) : Prop where
  av : g.A p
  at_ : g.H p = some o
  nh : ¬ Has g p
  nt : ∀ ys, o ≠ .tup ys
  nf : ∀ ob u, o ≠ .frz ob u
  nw : ∀ a, o ≠ .own a
theorem Free.ext {g : G} {p : Addr} {o n : HO} (F : Free g p o) : Ext (fun b => b = p) g.A g.H g.A (upd g.H p n) :=
  ⟨fun b o h n => by rw [upd_ne n]; exact h, fun b ys h => by rw [upd_ne (fun z => by rw [z, F.at_] at h; cases h; exact F.nt _ rfl)]; exact h, fun b ob u h => by rw [upd_ne (fun z => by rw [z, F.at_] at h; cases h; exact F.nf _ _ rfl)]; exact h,
      fun b h => by by_cases z : b = p; (rw [z, upd_same]; simp); (rw [upd_ne z]; exact h), fun b h _ => h, fun b h => .inl h⟩
theorem free_write {K : PySem.W.Frag} {g g3 : G} {p : Addr} {o n : HO} (s : Stp g g3) (ok : g3.Ok K) (F : Free g3 p o) (hp : g.H p = none ∨ Own g p) :
    Stp g { g3 with H := upd g3.H p n } ∧ ({ g3 with H := upd g3.H p n } : G).Ok K := by
  have e := F.ext (n := n)
  have sub : ∀ b, b = p → g3.A b := fun b z => by rw [z]; exact F.av
  have ne : ∀ {b : Addr} {ob : HO}, g.H b = some ob → ¬ Own g b → b ≠ p := fun {b ob} h h2 z => by
    subst z
    rcases hp with hp | hp
    · rw [hp] at h; cases h
    · exact h2 hp
  have ft : ∀ {b : Addr} {ob : HO}, g.H b = some ob → (g3.H b = some ob) → (∀ z : b = p, ob = o) := fun {b ob} h h3 z => by rw [z, F.at_] at h3; cases h3; rfl
  refine ⟨⟨⟨fun b ob h n => ?_, fun b ys h => ?_, fun b ob u h => ?_, fun b h => e.dom b (s.ext.dom b h), s.ext.av1, s.ext.av2⟩, s.own, s.has, s.bor, s.lck⟩, ⟨ok.len, fun i x h => ?_, fun i m c h => ?_, ok.dis, fun b h => e.dom b (ok.dom b h)⟩⟩
  · show upd g3.H p _ b = _
    rw [upd_ne (ne h n)]; exact s.ext.keep b ob h n
  · exact e.tup b ys (s.ext.tup b ys h)
  · exact e.frz b ob u (s.ext.frz b ob u h)
  · obtain ⟨v, h1, h2⟩ := ok.dat i x h
    exact ⟨v, h1, Dv.ext e sub x v h2⟩
  · obtain ⟨b, h1, h2, h3⟩ := ok.cel i m c h
    exact ⟨b, h1, h2, h3.go e sub (fun z => F.nh ⟨i, m, c, h, by rw [← z]; exact h1⟩) fun dx q z => by rw [z, F.at_] at q; cases q; exact F.nw _ rfl⟩
/-- a slot of which nothing is said is stored -/
theorem st_none {K : PySem.W.Frag} {g g3 : G} {r : Nat} {v : V} (s : Stp g g3) (ok : g3.Ok K) (hr : g3.env[r]? = some none) (hg : ∀ m c, g.env[r]? ≠ some (some (.cell m c))) :
    Stp g { g3 with st := g3.st.set r (some v) } ∧ ({ g3 with st := g3.st.set r (some v) } : G).Ok K ∧ (∀ a, Has { g3 with st := g3.st.set r (some v) } a → Has g3 a) := by
  have get : ∀ {i : Nat} {mv : MV}, g3.env[i]? = some (some mv) → (g3.st.set r (some v))[i]? = g3.st[i]? := fun {i mv} h => by
    have : i ≠ r := by rintro rfl; rw [hr] at h; cases h
    rw [List.getElem?_set_ne (Ne.symm this)]
  have hs : ∀ a, Has { g3 with st := g3.st.set r (some v) } a → Has g3 a := fun a ⟨i, m, c, h, h2⟩ => ⟨i, m, c, h, by rw [← get h]; exact h2⟩
  refine ⟨⟨s.ext, fun a ⟨i, m, c, h, h1, h2⟩ => s.own a ⟨i, m, c, h, h1, by rw [← get h]; exact h2⟩, fun a h => s.has a (hs a h), fun i c h => ?_, fun i c h => ?_⟩, ⟨by simpa using ok.len, fun i x h => ?_, fun i m c h => ?_, fun i j m c m' c' a h1 h2 h3 h4 => ok.dis i j m c m' c' a h1 h2 (by rw [← get h1]; exact h3) (by rw [← get h2]; exact h4), ok.dom⟩, hs⟩
  · obtain ⟨h1, c', h2⟩ := s.bor i c h
    exact ⟨(get h2).trans h1, c', h2⟩
  · obtain ⟨h1, h2⟩ := s.lck i c h
    exact ⟨(get h2).trans h1, h2⟩
  · obtain ⟨w, h1, h2⟩ := ok.dat i x h
    exact ⟨w, (get h).trans h1, h2⟩
  · obtain ⟨a, h1, h2⟩ := ok.cel i m c h
    exact ⟨a, (get h).trans h1, h2⟩
/-- one of the dict's lists -/
def SdB (K : PySem.W.Frag) (g1 g : G) (b : Addr) (vs : List V) (xs : List PyData) : Prop := g1.H b = none ∧ g.A b ∧ ¬ Has g b ∧ g.H b = some (.lst vs) ∧ Dvs K g.A g.H xs vs
def SdL (K : PySem.W.Frag) (g1 g : G) : List (PyData × List PyData) → List (List Key × V) → Prop
  | [], es => es = []
  | (kd, xs) :: L, es => ∃ k b vs r, es = (k, .ref b) :: r ∧ kd = .tuple (k.map keyD) ∧ SdB K g1 g b vs xs ∧ SdL K g1 g L r
theorem SdB.free {K : PySem.W.Frag} {g1 g : G} {b : Addr} {vs : List V} {xs : List PyData} (h : SdB K g1 g b vs xs) : Free g b (.lst vs) :=
  ⟨h.2.1, h.2.2.2.1, h.2.2.1, fun _ z => (nomatch z), fun _ _ z => (nomatch z), fun _ z => (nomatch z)⟩
theorem SdL.imp {K : PySem.W.Frag} {g1 g g' : G} : ∀ {L : List (PyData × List PyData)} {es : List (List Key × V)}, SdL K g1 g L es → (∀ k b vs xs, (k, V.ref b) ∈ es → SdB K g1 g b vs xs → SdB K g1 g' b vs xs) → SdL K g1 g' L es
  | [], es, h, _ => h
  | (kd, xs) :: L, es, h, f => by
    obtain ⟨k, b, vs, r, rfl, e, q, t⟩ := h
    exact ⟨k, b, vs, r, rfl, e, f k b vs xs (by simp) q, SdL.imp t fun k b vs xs m => f k b vs xs (List.mem_cons_of_mem _ m)⟩
def sdAdd (k : List Key) (kd x : PyData) : List (PyData × List PyData) → List (PyData × List PyData)
  | [] => [(kd, [x])]
  | (kd', xs) :: L => if keyOf kd' = some k then (kd', xs ++ [x]) :: L else (kd', xs) :: sdAdd k kd x L
theorem keyOf_ne {k k' : List Key} (hk : k ≠ []) (e : ¬ k' = k) : ¬ keyOf (.tuple (k'.map keyD)) = some k := fun z => by
  obtain ⟨z, _⟩ := keyOf_eq z
  have := congrArg keyOf z
  rw [keyOf_tup hk] at this
  by_cases h0 : k' = []
  · subst h0
    simp only [List.map_nil] at this
    cases this
  · rw [keyOf_tup h0] at this
    cases this
    exact e rfl
theorem sdl_there {K : PySem.W.Frag} {g1 g g' : G} {k : List Key} {kd x : PyData} {w : V} {bb : Addr} (hk : k ≠ []) (hne : ∀ b vs xs, b ≠ bb → SdB K g1 g b vs xs → SdB K g1 g' b vs xs) (he : ∀ vs xs, SdB K g1 g bb vs xs → SdB K g1 g' bb (vs ++ [w]) (xs ++ [x])) :
    ∀ {L : List (PyData × List PyData)} {es : List (List Key × V)}, SdL K g1 g L es → (es.map (·.2)).Nodup → valV es k = some (.ref bb) → SdL K g1 g' (sdAdd k kd x L) es
  | [], es, h, _, hv => by
    have h : es = [] := h
    subst h; cases hv
  | (kd', xs) :: L, es, h, nd, hv => by
    obtain ⟨k', b, vs, r, rfl, e, q, t⟩ := h
    simp only [List.map_cons, List.nodup_cons] at nd
    subst e
    by_cases e : k' = k
    · subst e
      rw [valV_pos rfl] at hv
      cases hv
      simp only [sdAdd, keyOf_tup hk, if_true]
      refine ⟨_, _, _, _, rfl, rfl, he _ _ q, SdL.imp t fun k b vs xs m => hne b vs xs fun z => ?_⟩
      subst z
      exact nd.1 (List.mem_map.mpr ⟨_, m, rfl⟩)
    · rw [valV_neg e] at hv
      simp only [sdAdd, keyOf_ne hk e, if_false]
      refine ⟨_, _, _, _, rfl, rfl, hne b vs xs (fun z => ?_) q, sdl_there hk hne he t nd.2 hv⟩
      subst z
      have : (k, V.ref b) ∈ r := by
        unfold valV at hv
        cases hf : r.find? fun kv => decide (kv.1 = k) with
        | none => rw [hf] at hv; cases hv
        | some z =>
          rw [hf] at hv
          have m := List.mem_of_find?_eq_some hf
          have pz := List.find?_some hf
          simp only [decide_eq_true_eq] at pz
          have hv : z.2 = V.ref b := by simpa using hv
          obtain ⟨z1, z2⟩ := z
          simp only at pz hv
          subst pz hv
          exact m
      exact nd.1 (List.mem_map.mpr ⟨_, this, rfl⟩)
theorem sdl_new {K : PySem.W.Frag} {g1 g g' : G} {k : List Key} {x : PyData} {w : V} {q : Addr} (hk : k ≠ []) (hne : ∀ b vs xs, SdB K g1 g b vs xs → SdB K g1 g' b vs xs) (he : SdB K g1 g' q [w] [x]) :
    ∀ {L : List (PyData × List PyData)} {es : List (List Key × V)}, SdL K g1 g L es → valV es k = none → SdL K g1 g' (sdAdd k (.tuple (k.map keyD)) x L) (es ++ [(k, .ref q)])
  | [], es, h, _ => by
    have h : es = [] := h
    subst h
    exact ⟨k, q, [w], [], rfl, rfl, he, rfl⟩
  | (kd', xs) :: L, es, h, hv => by
    obtain ⟨k', b, vs, r, rfl, e, p, t⟩ := h
    subst e
    by_cases e : k' = k
    · subst e
      rw [valV_pos rfl] at hv; cases hv
    · rw [valV_neg e] at hv
      simp only [sdAdd, keyOf_ne hk e, if_false]
      exact ⟨_, _, _, _, rfl, rfl, hne b vs xs p, sdl_new hk hne he t hv⟩
theorem SdL.refs {K : PySem.W.Frag} {g1 g : G} : ∀ {L : List (PyData × List PyData)} {es : List (List Key × V)}, SdL K g1 g L es → ∀ k v, (k, v) ∈ es → ∃ b vs xs, v = .ref b ∧ SdB K g1 g b vs xs
  | [], es, h, k, v, m => by
    have h : es = [] := h
    subst h; cases m
  | (kd', xs) :: L, es, h, k, v, m => by
    obtain ⟨k', b, vs, r, rfl, e, p, t⟩ := h
    rcases List.mem_cons.mp m with m | m
    · cases m; exact ⟨b, vs, xs, rfl, p⟩
    · exact t.refs k v m
theorem valV_mem {es : List (List Key × V)} {k : List Key} {v : V} (h : valV es k = some v) : (k, v) ∈ es := by
  unfold valV at h
  cases hf : es.find? fun kv => decide (kv.1 = k) with
  | none => rw [hf] at h; cases h
  | some z =>
    rw [hf] at h
    have m := List.mem_of_find?_eq_some hf
    have pz := List.find?_some hf
    simp only [decide_eq_true_eq] at pz
    have hv : z.2 = v := by simpa using h
    obtain ⟨z1, z2⟩ := z
    simp only at pz hv
    subst pz hv
    exact m
end BH
set_option maxRecDepth 100000
set_option maxHeartbeats 4000000
namespace BH
open PySem PySem.Spec PyProof.Rows L2
structure SdS (K : PySem.W.Frag) (g0 : G) (j r : Nat) (p : Addr) (g : G) (L : List (PyData × List PyData)) (es : List (List Key × V)) : Prop where
  ok : g.Ok K
  stp : Stp g0 g
  ej : g.env[j]? = some none
  sj : g.st[j]? = some (some (.ref p))
  er : g.env[r]? = some none
  fp : Free g p (.dT es)
  sl : SdL K g0 g L es
  nd : (es.map (·.2)).Nodup
theorem not_own {g : G} {p : Addr} (h : ¬ Has g p) : ¬ Own g p := fun ⟨i, m, c, q1, _, q2⟩ => h ⟨i, m, c, q1, q2⟩
section
variable {K : PySem.W.Frag} {g0 g g' : G} {j r : Nat} {p : Addr} {L : List (PyData × List PyData)} {es : List (List Key × V)}
theorem Free.step {o : HO} (F : Free g p o) (s : Stp g g') : Free g' p o :=
  ⟨s.ext.av1 p F.av (not_own F.nh), s.ext.keep p o F.at_ (not_own F.nh), fun h => (s.has p h).elim F.nh fun z => (by rw [F.at_] at z; cases z), F.nt, F.nf, F.nw⟩
theorem SdS.step (ok0 : g0.Ok K) (S : SdS K g0 j r p g L es) (s : Stp g g') (ok : g'.Ok K) (h1 : g'.st[j]? = g.st[j]?) (h2 : g'.env[j]? = some none) (h3 : g'.env[r]? = some none) : SdS K g0 j r p g' L es where
  ok := ok
  stp := S.stp.trans ok0 s
  ej := h2
  sj := h1.trans S.sj
  er := h3
  fp := S.fp.step s
  sl := S.sl.imp fun k b vs xs _ h => by
    have f := h.free.step s
    exact ⟨h.1, f.av, f.nh, f.at_, s.dvs S.ok h.2.2.2.2⟩
  nd := S.nd
/-- a list of the dict is longer by one -/
theorem SdS.there {k : List Key} {kd x : PyData} {w : V} {bb : Addr} {vs : List V} (S : SdS K g0 j r p g L es) (hr0 : ∀ m c, g0.env[r]? ≠ some (some (.cell m c))) (hjr : j ≠ r) (hk : k ≠ []) (hv : valV es k = some (.ref bb)) (hb : g.H bb = some (.lst vs)) (hx : Dv K g.A g.H x w) :
    SdS K g0 j r p { g with H := upd g.H bb (.lst (vs ++ [w])), st := g.st.set r (some (.ref bb)) } (sdAdd k kd x L) es := by
  obtain ⟨b, vs', xs', eb, sb⟩ := S.sl.refs k _ (valV_mem hv)
  cases eb
  have F := sb.free
  have ev : vs' = vs := by have := F.at_; rw [hb] at this; cases this; rfl
  subst ev
  have e := F.ext (n := .lst (vs' ++ [w]))
  have sub : ∀ b, b = bb → g.A b := fun b z => by rw [z]; exact F.av
  obtain ⟨s1, o1⟩ := free_write (n := .lst (vs' ++ [w])) S.stp S.ok F (.inl sb.1)
  obtain ⟨s2, o2, h2⟩ := st_none (v := .ref bb) s1 o1 S.er hr0
  have npb : p ≠ bb := fun z => by
    have := S.fp.at_
    rw [z, hb] at this; cases this
  have hne : ∀ b vs xs, b ≠ bb → SdB K g0 g b vs xs → SdB K g0 { g with H := upd g.H bb (.lst (vs' ++ [w])), st := g.st.set r (some (.ref bb)) } b vs xs := fun b vs xs ne ⟨q1, q2, q3, q4, q5⟩ =>
    ⟨q1, q2, fun z => q3 (h2 b z), by show upd g.H bb _ b = _; rw [upd_ne ne]; exact q4, Dvs.ext e sub _ _ q5⟩
  exact {
    ok := o2, stp := s2, ej := S.ej, sj := by show (g.st.set r _)[j]? = _; rw [List.getElem?_set_ne (Ne.symm hjr)]; exact S.sj
    er := S.er
    fp := ⟨S.fp.av, by show upd g.H bb _ p = _; rw [upd_ne npb]; exact S.fp.at_, fun z => S.fp.nh (h2 p z), S.fp.nt, S.fp.nf, S.fp.nw⟩
    sl := sdl_there hk hne (fun vs xs ⟨q1, q2, q3, q4, q5⟩ => by
      rw [hb] at q4; cases q4
      exact ⟨q1, q2, fun z => q3 (h2 bb z), upd_same, Dvs.append (Dvs.ext e sub _ _ q5) (Dvs.one (Dv.ext e sub _ _ hx))⟩) S.sl S.nd hv
    nd := S.nd }
/-- a new list in the dict -/
theorem SdS.new {k : List Key} {x : PyData} {w : V} {q : Addr} (S : SdS K g0 j r p g L es) (hp0 : Own g0 p) (hr0 : ∀ m c, g0.env[r]? ≠ some (some (.cell m c))) (hjr : j ≠ r) (hk : k ≠ []) (hv : valV es k = none) (hq0 : g0.H q = none) (F : Free g q (.lst []))
    (hqn : ∀ k' v, (k', v) ∈ es → v ≠ .ref q) (hx : Dv K g.A g.H x w) :
    SdS K g0 j r p { g with H := upd (upd g.H p (.dT (es ++ [(k, .ref q)]))) q (.lst [w]), st := g.st.set r (some (.ref q)) } (sdAdd k (.tuple (k.map keyD)) x L) (es ++ [(k, .ref q)]) := by
  have npq : q ≠ p := fun z => by
    have := S.fp.at_
    rw [← z, F.at_] at this; cases this
  have e1 := S.fp.ext (n := .dT (es ++ [(k, .ref q)]))
  have sub1 : ∀ b, b = p → g.A b := fun b z => by rw [z]; exact S.fp.av
  obtain ⟨s1, o1⟩ := free_write (n := .dT (es ++ [(k, .ref q)])) S.stp S.ok S.fp (.inr hp0)
  have F1 : Free ({ g with H := upd g.H p (.dT (es ++ [(k, .ref q)])) } : G) q (.lst []) := ⟨F.av, by show upd g.H p _ q = _; rw [upd_ne npq]; exact F.at_, F.nh, F.nt, F.nf, F.nw⟩
  have e2 := F1.ext (n := .lst [w])
  have sub2 : ∀ b, b = q → ({ g with H := upd g.H p (.dT (es ++ [(k, .ref q)])) } : G).A b := fun b z => by rw [z]; exact F.av
  obtain ⟨s2, o2⟩ := free_write (n := .lst [w]) s1 o1 F1 (.inl hq0)
  obtain ⟨s3, o3, h3⟩ := st_none (v := .ref q) s2 o2 S.er hr0
  have dvs : ∀ xs vs, Dvs K g.A g.H xs vs → Dvs K g.A (upd (upd g.H p (.dT (es ++ [(k, .ref q)]))) q (.lst [w])) xs vs := fun xs vs h => Dvs.ext e2 sub2 xs vs (Dvs.ext e1 sub1 xs vs h)
  have hne : ∀ b vs xs, b ≠ q → SdB K g0 g b vs xs → SdB K g0 { g with H := upd (upd g.H p (.dT (es ++ [(k, .ref q)]))) q (.lst [w]), st := g.st.set r (some (.ref q)) } b vs xs := fun b vs xs nq ⟨q1, q2, q3, q4, q5⟩ => by
    have np : b ≠ p := fun z => by
      have := S.fp.at_
      rw [← z, q4] at this; cases this
    exact ⟨q1, q2, fun z => q3 (h3 b z), by show upd (upd g.H p _) q _ b = _; rw [upd_ne nq, upd_ne np]; exact q4, dvs _ _ q5⟩
  have sl : SdL K g0 { g with H := upd (upd g.H p (.dT (es ++ [(k, .ref q)]))) q (.lst [w]), st := g.st.set r (some (.ref q)) } L es := S.sl.imp fun k' b vs xs m h => hne b vs xs (fun z => hqn k' (.ref b) m (by rw [z])) h
  have hq' : SdB K g0 { g with H := upd (upd g.H p (.dT (es ++ [(k, .ref q)]))) q (.lst [w]), st := g.st.set r (some (.ref q)) } q [w] [x] :=
    ⟨hq0, F.av, fun z => F.nh (h3 q z), upd_same, dvs [x] [w] (Dvs.one hx)⟩
  exact {
    ok := o3, stp := s3, ej := S.ej, sj := by show (g.st.set r _)[j]? = _; rw [List.getElem?_set_ne (Ne.symm hjr)]; exact S.sj
    er := S.er
    fp := ⟨S.fp.av, by show upd (upd g.H p _) q _ p = _; rw [upd_ne (Ne.symm npq)]; exact upd_same, fun z => S.fp.nh (h3 p z), fun _ z => (nomatch z), fun _ _ z => (nomatch z), fun _ z => (nomatch z)⟩
    sl := sdl_new hk (fun _ _ _ h => h) hq' sl hv
    nd := by
      rw [List.map_append, List.map_singleton, List.nodup_append]
      refine ⟨S.nd, by simp, fun a ha b hb z => ?_⟩
      simp only [List.mem_singleton] at hb
      subst hb
      obtain ⟨⟨k', v⟩, m, rfl⟩ := List.mem_map.mp ha
      exact hqn k' v m z }
end
end BH
set_option maxRecDepth 100000
set_option maxHeartbeats 4000000
set_option maxRecDepth 100000
set_option maxHeartbeats 4000000
set_option maxRecDepth 100000
set_option maxHeartbeats 4000000
namespace BH
open PySem PySem.Spec PyProof.Rows L2
/-! ### dict(xs) of pairs, the keys tuples -/
def dictOf : List PyData → List (PyData × PyData) → Option (List (PyData × PyData))
  | [], acc => some acc
  | .tuple [kd, d] :: ps, acc => match keyOf kd with
    | some k => dictOf ps (dput k kd d acc)
    | none => none
  | _, _ => none
def opDictP : List PyData → Option RV
  | [.list ps] => if ps.length ≤ lim then (dictOf ps []).map fun kvs => .d (.dict kvs) else none
  | _ => none
/-- the pairs as they lie -/
def PrD (K : PySem.W.Frag) (A : AS) (H : Hp) : List PyData → List V → List (List Key × Addr × PyData × V) → Prop
  | [], vs, r => vs = [] ∧ r = []
  | .tuple [kd, d] :: ps, vs, r => ∃ T k b v vs' r', vs = .ref T :: vs' ∧ r = (k, b, d, v) :: r' ∧ SqT K H T [.ref b, v] ∧ kd = .tuple (k.map keyD) ∧ k ≠ [] ∧ H b = some (.tup (k.map kV)) ∧ Dv K A H d v ∧ PrD K A H ps vs' r'
  | _, _, _ => False
def mergeT (acc : List (List Key × V)) (r : List (List Key × Addr × PyData × V)) : List (List Key × V) := r.foldl (fun a q => putK a q.1 q.2.2.2) acc
section
variable {K : PySem.W.Frag} {A : AS} {H : Hp}
theorem prd_of : ∀ {ps : List PyData} {vs : List V} {acc kvs : List (PyData × PyData)} {es : List (List Key × V)}, dictOf ps acc = some kvs → Dvs K A H ps vs → Dps K A H acc es → ∃ r, PrD K A H ps vs r ∧ Dps K A H kvs (mergeT es r)
  | [], vs, acc, kvs, es, h, hv, ha => by
    simp only [dictOf, Option.some.injEq] at h
    subst h
    simp only [Dvs] at hv
    exact ⟨[], ⟨hv, rfl⟩, ha⟩
  | p :: ps, vs, acc, kvs, es, h, hv, ha => by
    unfold dictOf at h
    split at h
    · cases ‹_ :: _ = []›
    · rename_i kd d qs e
      cases e
      split at h
      · rename_i k hk
        obtain ⟨ek, nk⟩ := keyOf_eq hk
        simp only [Dvs] at hv
        obtain ⟨v0, vs', rfl, hp, ht⟩ := hv
        simp only [Dv] at hp
        obtain ⟨T, ws, rfl, hT, w1, w2, rfl, dk, y, z, rfl, dd, rfl⟩ := (by
          obtain ⟨T, ws, e1, hT, hw⟩ := hp
          simp only [Dvs] at hw
          obtain ⟨w1, w2, e2, dk, y, z, e3, dd, e4⟩ := hw
          exact ⟨T, ws, e1, hT, w1, w2, e2, dk, y, z, e3, dd, e4⟩ : ∃ T ws, v0 = V.ref T ∧ TpD K H T ws ∧ ∃ w1 w2, ws = w1 :: w2 ∧ Dv K A H kd w1 ∧ ∃ y z, w2 = y :: z ∧ Dv K A H d y ∧ z = [])
        obtain ⟨b, rfl, hb⟩ := key_at dk hk
        have ha' := dps_put nk dd ha
        rw [← ek] at ha'
        obtain ⟨r, q1, q2⟩ := prd_of h ht ha'
        exact ⟨(k, b, d, y) :: r, ⟨T, k, b, y, vs', r, rfl, rfl, hT.sq, ek, nk, hb, dd, q1⟩, q2⟩
      · cases h
    · cases h
theorem prd_len : ∀ {ps : List PyData} {vs : List V} {r : List (List Key × Addr × PyData × V)}, PrD K A H ps vs r → vs.length = r.length ∧ vs.length = ps.length
  | [], vs, r, h => by obtain ⟨rfl, rfl⟩ := h; simp
  | p :: ps, vs, r, h => by
    unfold PrD at h
    split at h
    · cases ‹_ :: _ = []›
    · rename_i kd d qs e
      cases e
      obtain ⟨T, k, b, v, vs', r', rfl, rfl, _, _, _, _, _, h⟩ := h
      have := prd_len h
      simp [this.1]; omega
    · exact h.elim
end
/-- their objects -/
theorem prd_heap {X : Cx} {pins : List (Addr × Obj)} {σ : L2.St} {A : AS} {H : Hp} {s : Shared} (I : Inv X pins σ H s) : ∀ {ps : List PyData} {vs : List V} {r : List (List Key × Addr × PyData × V)}, PrD X.K A H ps vs r →
    ∃ (Ts : List Addr) (xs : List (List Key × Addr × Value)), vs = Ts.map V.ref ∧ Ts.length = xs.length ∧ Paired (fun (q : List Key × Addr × PyData × V) x => q.1 = x.1 ∧ q.2.1 = x.2.1 ∧ L2.RelV q.2.2.2 x.2.2) r xs ∧
      (∀ (j : Nat) x, xs[j]? = some x → ∃ T, Ts[j]? = some T ∧ IsTup s.heap T #[.ref x.2.1, x.2.2]) ∧ ∀ x ∈ xs, H x.2.1 = some (.tup (x.1.map kV))
  | [], vs, r, h => by
    obtain ⟨rfl, rfl⟩ := h
    exact ⟨[], [], rfl, rfl, .nil, fun j x e => by simp at e, fun x hx => by simp at hx⟩
  | p :: ps, vs, r, h => by
    unfold PrD at h
    split at h
    · cases ‹_ :: _ = []›
    · rename_i kd d qs e
      cases e
      obtain ⟨T, k, b, v, vs', r', rfl, rfl, hT, _, _, hb, _, h⟩ := h
      obtain ⟨Ts, xs, e1, e2, e3, e4, e5⟩ := prd_heap I h
      obtain ⟨its, rv, ht, _⟩ := I.tuple hT
      obtain ⟨u, y, ei, ru, ry⟩ := vals2 rv
      subst ei
      cases ru
      refine ⟨T :: Ts, (k, b, y) :: xs, by rw [e1]; rfl, by simp [e2], .cons ⟨rfl, rfl, ry⟩ e3, fun j x e => ?_, fun x hx => ?_⟩
      · cases j with
        | zero =>
          simp only [List.getElem?_cons_zero, Option.some.injEq] at e
          subst e
          exact ⟨T, by simp, ht⟩
        | succ j =>
          simp only [List.getElem?_cons_succ] at e
          obtain ⟨T', q1, q2⟩ := e4 j x e
          exact ⟨T', by simpa using q1, q2⟩
      · rcases List.mem_cons.mp hx with rfl | hx
        · exact hb
        · exact e5 x hx
    · exact h.elim
theorem kt_all {H : Hp} : ∀ {r : List (List Key × Addr × PyData × V)} {xs : List (List Key × Addr × Value)} {es : List (List Key × V)} {ys : List (List Key × Addr × Value)},
    Paired (fun (q : List Key × Addr × PyData × V) x => q.1 = x.1 ∧ q.2.1 = x.2.1 ∧ L2.RelV q.2.2.2 x.2.2) r xs → (∀ x ∈ xs, H x.2.1 = some (.tup (x.1.map kV))) → KT H es ys → KT H (mergeT es r) (storedAllH ys xs) := by
  intro r xs es ys p
  induction p generalizing es ys with
  | nil => intro _ h; exact h
  | @cons q x r xs h t ih =>
    intro hx hk
    obtain ⟨k, b, d, v⟩ := q
    obtain ⟨k', b', u⟩ := x
    obtain ⟨e1, e2, e3⟩ := h
    simp only at e1 e2 e3
    subst e1 e2
    have h0 := hx (k, b, u) (by simp)
    exact ih (fun x h => hx x (by simp [h])) (hk.put k h0 e3)
section
variable {X : Cx}
theorem cd_dictP (hc : X.calm = true) (hu : X.A.units + 65 < cLine) : CallD X (.type "dict") opDictP := by
  intro g pins s xs vs us rr ok I hx r e
  unfold opDictP at e
  split at e
  · rename_i ps
    split at e
    · rename_i hl
      obtain ⟨v, rfl, hv⟩ := dws1 hx
      cases hd : dictOf ps [] with
      | none => rw [hd] at e; cases e
      | some kvs =>
        rw [hd] at e
        cases e
        obtain ⟨a, ws, rfl, q, dv⟩ := dw_lst hv
        obtain ⟨u, eu, rx⟩ := vals1 r
        subst eu
        cases rx
        obtain ⟨rl, p1, p2⟩ := prd_of hd dv (show Dps X.K g.A g.H [] [] by simp only [Dps])
        obtain ⟨Ts, ys, e1, e2, e3, e4, e5⟩ := prd_heap I p1
        subst e1
        obtain ⟨its, rv, pl, hz⟩ := I.list q
        have ei := refs_at rv
        have hlen := (prd_len p1).2
        rw [List.length_map] at hlen hz
        obtain ⟨o, n, ho, hcl, hdd, hdat⟩ := pl
        have esz : its.toArray.size = ys.length := by rw [ei]; simp [e2]
        have P := PairArg.list (prog := X.prog) (w := X.w) a its.toArray (fun j => (Ts[j]?).getD 0) (ys.map fun x => (.ref x.2.1, x.2.2))
        have hTs : ∀ (j : Nat) (T : Addr), Ts[j]? = some T → (fun j => (Ts[j]?).getD 0) j = T := fun j T h => by simp [h]
        have okP : PlainSeq "list" s.heap a its.toArray ∧ PairItems s.heap its.toArray (fun j => (Ts[j]?).getD 0) (ys.map fun x => (.ref x.2.1, x.2.2)) := by
          refine ⟨⟨o, n, ho, hcl, hdd, hdat⟩, by rw [esz, List.length_map], fun j k v h => ?_⟩
          rw [List.getElem?_map] at h
          cases hy : ys[j]? with
          | none => rw [hy] at h; cases h
          | some x =>
            rw [hy] at h
            simp only [Option.map_some, Option.some.injEq, Prod.mk.injEq] at h
            obtain ⟨rfl, rfl⟩ := h
            obtain ⟨T, q1, q2⟩ := e4 j x hy
            rw [hTs j T q1]
            refine ⟨?_, .inl q2⟩
            rw [ei]
            simp [q1]
        refine call_dict_pairsH (knd := tupleKind (mixKind X.prog X.w)) (ps := ys) P (I.ok.hd hc) (by show X.A.units + 1 + 1 < cLine; omega) okP ⟨by simp, fun i key v h => ?_⟩ (fun h' hk x hx => ?_) (by rw [List.length_map, ← e2]; exact hz) fun h' tk hd' hk => ?_
        · have h : (ys.map fun x => (Value.ref x.2.1, x.2.2))[i]? = some (key, v) := h
          rw [List.getElem?_map] at h
          cases hy : ys[i]? with
          | none => rw [hy] at h; cases h
          | some x =>
            rw [hy] at h
            simp only [Option.map_some, Option.some.injEq, Prod.mk.injEq] at h
            obtain ⟨rfl, rfl⟩ := h
            exact ⟨x.1, x.2.1, rfl, rfl⟩
        · obtain ⟨ob, it2, n2, h1, h2, h3, h4⟩ := key_of (P := X.prog) (w := X.w) I.hok (e5 x hx)
          exact ⟨ob, it2, n2, hk _ _ (Nat.ne_of_lt (Heap.lt_size h1)) (by simp) h1, h2, h3, h4⟩
        · have hn := I.hok.fresh (Nat.le_refl s.heap.objs.size)
          have hm : (s.heap.objs.size == sysModules) = false := beq_eq_false_iff_ne.mpr (Nat.ne_of_gt I.big)
          have hml : (mergeT [] rl).length ≤ sizeLine := by
            have : ∀ (r : List (List Key × Addr × PyData × V)) (acc : List (List Key × V)), (mergeT acc r).length ≤ acc.length + r.length := by
              intro r
              induction r with
              | nil => intro acc; show acc.length ≤ _; omega
              | cons q r ih =>
                intro acc
                have h1 := ih (putK acc q.1 q.2.2.2)
                have h2 := length_putK acc q.1 q.2.2.2
                show (mergeT (putK acc q.1 q.2.2.2) r).length ≤ _
                rw [List.length_cons]; omega
            have h1 := this rl []
            have h2 := (prd_len p1).1
            rw [List.length_map] at h2
            simp only [List.length_nil, Nat.zero_add] at h1
            omega
          have kt := kt_all e3 e5 (.nil : KT g.H [] [])
          obtain ⟨ob, es, ep, hq, h2, h3, h4, _, h5⟩ := hd'
          have ext : ∀ O, Ext O g.A g.H g.A (upd g.H s.heap.objs.size (.dT (mergeT [] rl))) := fun O => alloc_ext hn
          refine ⟨.ref s.heap.objs.size, { g with H := upd g.H s.heap.objs.size (.dT (mergeT [] rl)) }, rfl, rfl, ?_, rfl, Stp.same ext, ok.ext (ext _) (fun _ h => h) (fun a h => (ext (fun _ => False)).dom a (ok.dom a h)), ?_⟩
          · exact I.laid (t' := tk) (fun b o hb => hk b o (by simp) hb) (Nat.le_refl _) (show ObjOk X.prog X.w _ _ _ (.dT (mergeT [] rl)) from ⟨hml, hm, _, kt.keeps fun c ys ec => by
              rw [upd_ne (fun z => by rw [z] at ec; rw [hn] at ec; cases ec)]; exact ec, ob, es, ep, hq, h2, h3, h4, h5⟩)
          · show Dv _ _ _ _ _
            simp only [Dv]
            exact ⟨s.heap.objs.size, _, rfl, fun z => ok.dom _ z hn, upd_same, Dps.ext (ext (fun _ => False)) (fun _ z => z.elim) _ _ p2⟩
    · cases e
  · cases e
end
/-! typed -/
@[irreducible] def dictAM (ps : List PyData) : M PyData := match opDictP [.list ps] with
  | some (.d x) => .ok x
  | _ => .fail
theorem dictAS {ps : List PyData} : OpS (opDictP [.list ps]) (dictAM ps) fun v => .d (id v) := by
  unfold dictAM
  cases h : opDictP [.list ps] with
  | none => exact trivial
  | some r =>
    cases r with
    | d x => exact rfl
    | tmp c => exact trivial
    | slot i => exact trivial
end BH
set_option maxRecDepth 100000
set_option maxHeartbeats 4000000
namespace BH
open PySem PySem.Spec PyProof.Rows L2
/-- _law_deck(script): slots script, great, mixed, cell, more -/
def f_law_deck : SF :=
  (fSeqS (fPar 1 2 (fPCons (fC (.int 0)) (fPCons (fBin opAdd (fC (.int 2845)) (fBin opMul (fC (.int 43)) (fCall opLen (fPCons (fName 0) fPNil)))) fPNil))) (fSeqS (fFor (fSeq (fSl (fName 0) fNoPart (fPart (fC (.int 60))))) (bName 3) (fSeqS (fSet 4 (fBin opAdd (fBin opAdd (fBin opMul (fC (.int 2)) (fCall opAbs (fPCons (fName 3) fPNil))) (fCall opToInt (fPCons (fBin opLt (fName 3) (fC (.int 0))) fPNil))) (fC (.int 1)))) (fSeqS (fSet 2 (fBin opMod (fCall opToInt (fPCons (fBin opAdd (fBin opMul (fName 2) (fC (.int 6364136223846793005))) (fName 4)) fPNil)) (fC (.int 2305843009213693951)))) (fSeqS (fIfS (fTru (fBin opGe (fCall opAbs (fPCons (fName 3) fPNil)) (fBin opPow (fC (.int 10)) (fC (.int 18))))) (fSeqS (fSet 1 (fBin opAdd (fBin opMul (fName 1) (fC (.int 37))) (fCall opAbs (fPCons (fName 3) fPNil)))) fNextS) fNextS) fNextS)))) (fSeqS (fRet (fLst (fCons (fTake (fName 1)) (fCons (fTake (fName 2)) (fCons (fTake (fC (.int 0))) fNil))))) fNextS)))
def F_law_deck : List Arg → FRes := fnF 5 f_law_deck
/-- _law_draw(deck, many): slots deck, many, digit, mixed -/
def f_law_draw : SF :=
  (fSeqS (fIfS (fTru (fBin opGt (fBin opIx (fName 0) (fC (.int 0))) (fC (.int 0)))) (fSeqS (fSet 2 (fBin opMod (fCall opToInt (fPCons (fBin opIx (fName 0) (fC (.int 0))) fPNil)) (fName 1))) (fSeqS (fSetIx (fName 0) (fTake (fC (.int 0))) (fTake (fBin opDiv (fBin opIx (fName 0) (fC (.int 0))) (fName 1)))) (fSeqS (fRet (fName 2)) fNextS))) fNextS) (fSeqS (fSetIx (fName 0) (fTake (fC (.int 2))) (fTake (fBin opAdd (fBin opIx (fName 0) (fC (.int 2))) (fC (.int 1))))) (fSeqS (fSet 3 (fBin opMod (fCall opToInt (fPCons (fBin opAdd (fBin opIx (fName 0) (fC (.int 1))) (fBin opMul (fC (.int 11400714819323198485)) (fBin opIx (fName 0) (fC (.int 2))))) fPNil)) (fC (.int 18446744073709551557)))) (fSeqS (fSet 3 (fBin opMod (fCall opToInt (fPCons (fBin opMul (fName 3) (fBin opAdd (fBin opMod (fName 3) (fC (.int 4294967291))) (fC (.int 11)))) fPNil)) (fC (.int 2305843009213693951)))) (fSeqS (fRet (fBin opMod (fBin opDiv (fBin opMod (fCall opToInt (fPCons (fBin opMul (fName 3) (fName 3)) fPNil)) (fC (.int 2305843009213693921))) (fC (.int 2048))) (fName 1))) fNextS)))))
def F_law_draw : List Arg → FRes := fnF 4 f_law_draw
/-- _law_pick(deck, items): slots deck, items -/
def f_law_pick : SF :=
  (fSeqS (fRet (fBin opIx (fName 1) (fCallF 2 F_law_draw (aRef 0 (aDat (fTake (fCall opLen (fPCons (fName 1) fPNil))) aNil))))) fNextS)
def F_law_pick : List Arg → FRes := fnF 2 f_law_pick
def S_law_deck (script_ : List Int) : M ((List Int)) :=
  forM' (fun (a4 : Int) (s1 : Int × Int) =>
  (if (decide (((10 : Int) ^ ((18 : Int)).toNat) ≤ (absZ a4))) = true then (.ok ((s1.1 * (37 : Int)) + (absZ a4))) else (.ok s1.1)) >>= fun s5 =>
  .ok (s5, (((s1.2 * (6364136223846793005 : Int)) + ((((2 : Int) * (absZ a4)) + (b2i (decide (a4 < (0 : Int))))) + (1 : Int))) % (2305843009213693951 : Int)))) (cutD script_ none (some (60 : Int))) ((0 : Int), ((2845 : Int) + ((43 : Int) * ((script_).length : Int)))) >>= fun s1 =>
  .ok [s1.1, s1.2, (0 : Int)]
theorem L_law_deck (script_ : List Int) : FSim (F_law_deck [.d ((eL PyData.int) script_)]) (S_law_deck script_) (fun (r : (List Int)) => Ret.tmp (.lst (List.map PyData.int r))) (fun (r : (List Int)) => [.d ((eL PyData.int) script_)]) := by
  refine fs_mk ?_
  unfold S_law_deck
  refine sim_bnd0 ?_
  have e0 : envOf 5 [.d ((eL PyData.int) script_)] = [some (.d ((eL PyData.int) script_)), none, none, none, none] := rfl
  rw [e0]
  unfold f_law_deck
  refine c_blk ?_
  refine c_par ?_
  refine c_pcons ?_
  refine c_const ?_
  refine c_pcons ?_
  refine c_bin ?_
  refine c_const ?_
  refine c_bin ?_
  refine c_const ?_
  refine c_call ?_
  refine c_pcons ?_
  refine c_name rfl ?_
  refine c_pnil ?_
  refine cb_pure (xs := [(eL PyData.int) script_]) rfl lenL ?_
  refine b_pure rfl rfl (mul_litL (by decide)) ?_
  refine b_pure rfl rfl rfl ?_
  refine c_pnil ?_
  refine pa_t (e1 := [some (.d ((eL PyData.int) script_)), some (.d (PyData.int (0 : Int))), none, none, none]) (e2 := [some (.d ((eL PyData.int) script_)), some (.d (PyData.int (0 : Int))), some (.d (PyData.int ((2845 : Int) + ((43 : Int) * ((script_).length : Int))))), none, none]) rfl rfl rfl rfl (setS_ok rfl okO_none rfl) (setS_ok rfl okO_none rfl) ?_
  refine c_blk1 ?_
  refine c_for ?_
  refine c_seq ?_
  refine c_sl ?_
  refine c_name rfl ?_
  refine c_nopart ?_
  refine c_part ?_
  refine c_const ?_
  refine pt_pure rfl ?_
  refine sl_pure (v := (eL PyData.int) script_) rfl slL ?_
  refine sq_L (ds := List.map PyData.int (cutD script_ none (some (60 : Int)))) (lk := []) rfl rfl ?_
  refine fo_n (fun (s1 : Int × Int) (e : SE) => ∃ (o2 : Option MV), ∃ (o3 : Option MV), datO o2 ∧ datO o3 ∧ e = [some (.d ((eL PyData.int) script_)), some (.d (PyData.int s1.1)), some (.d (PyData.int s1.2)), o2, o3]) ⟨_, _, datO_none, datO_none, rfl⟩ (fun _ _ => trivial) ?_ ?_
  · intro a4 s1 e hK
    obtain ⟨o2, o3, ho2, ho3, he⟩ := hK
    subst he
    refine ⟨[some (.d ((eL PyData.int) script_)), some (.d (PyData.int s1.1)), some (.d (PyData.int s1.2)), some (.d (PyData.int a4)), o3], (bn (e' := [some (.d ((eL PyData.int) script_)), some (.d (PyData.int s1.1)), some (.d (PyData.int s1.2)), some (.d (PyData.int a4)), o3]) rfl (datO.ok ho2) rfl), ?_⟩
    refine sim_bnd0 ?_
    refine c_blk ?_
    refine c_set ?_
    refine c_bin ?_
    refine c_bin ?_
    refine c_bin ?_
    refine c_const ?_
    refine c_call ?_
    refine c_pcons ?_
    refine c_name rfl ?_
    refine c_pnil ?_
    refine cb_pure (r := .d (.int (absZ a4))) rfl rfl ?_
    refine b_pure rfl rfl (mul_litL (by decide)) ?_
    refine c_call ?_
    refine c_pcons ?_
    refine c_bin ?_
    refine c_name rfl ?_
    refine c_const ?_
    refine b_pure rfl rfl rfl ?_
    refine c_pnil ?_
    refine cb_pure (r := .d (.int (b2i (decide (a4 < (0 : Int)))))) rfl rfl ?_
    refine b_pure rfl rfl rfl ?_
    refine c_const ?_
    refine b_pure rfl rfl rfl ?_
    refine as_d (e' := [some (.d ((eL PyData.int) script_)), some (.d (PyData.int s1.1)), some (.d (PyData.int s1.2)), some (.d (PyData.int a4)), some (.d (PyData.int ((((2 : Int) * (absZ a4)) + (b2i (decide (a4 < (0 : Int))))) + (1 : Int))))]) rfl (datO.ok ho3) rfl ?_
    refine c_blk1 ?_
    refine c_set ?_
    refine c_bin ?_
    refine c_call ?_
    refine c_pcons ?_
    refine c_bin ?_
    refine c_bin ?_
    refine c_name rfl ?_
    refine c_const ?_
    refine b_pure rfl rfl (mul_litR (by decide)) ?_
    refine c_name rfl ?_
    refine b_pure rfl rfl rfl ?_
    refine c_pnil ?_
    refine cb_pure rfl rfl ?_
    refine c_const ?_
    refine b_pure rfl rfl (mod_lit (by decide)) ?_
    refine as_d (e' := [some (.d ((eL PyData.int) script_)), some (.d (PyData.int s1.1)), some (.d (PyData.int (((s1.2 * (6364136223846793005 : Int)) + ((((2 : Int) * (absZ a4)) + (b2i (decide (a4 < (0 : Int))))) + (1 : Int))) % (2305843009213693951 : Int)))), some (.d (PyData.int a4)), some (.d (PyData.int ((((2 : Int) * (absZ a4)) + (b2i (decide (a4 < (0 : Int))))) + (1 : Int))))]) rfl okO_d rfl ?_
    refine c_blk1 ?_
    refine c_ifS ?_
    refine c_tru ?_
    refine c_bin ?_
    refine c_call ?_
    refine c_pcons ?_
    refine c_name rfl ?_
    refine c_pnil ?_
    refine cb_pure (r := .d (.int (absZ a4))) rfl rfl ?_
    refine c_bin ?_
    refine c_const ?_
    refine c_const ?_
    refine b_pure rfl rfl (pow_lit (by decide +kernel)) ?_
    refine b_pure rfl rfl rfl ?_
    refine tr_pure rfl rfl ?_
    refine sim_bind (k1 := fun (s5 : Int) (fl : Fl) (e : SE) => fl = .nx ∧ e = [some (.d ((eL PyData.int) script_)), some (.d (PyData.int s5)), some (.d (PyData.int (((s1.2 * (6364136223846793005 : Int)) + ((((2 : Int) * (absZ a4)) + (b2i (decide (a4 < (0 : Int))))) + (1 : Int))) % (2305843009213693951 : Int)))), some (.d (PyData.int a4)), some (.d (PyData.int ((((2 : Int) * (absZ a4)) + (b2i (decide (a4 < (0 : Int))))) + (1 : Int))))]) (ite_s (fun _ => ?_) (fun _ => ?_)) ?_
    · refine sim_bnd0 ?_
      refine c_blk ?_
      refine c_set ?_
      refine c_bin ?_
      refine c_bin ?_
      refine c_name rfl ?_
      refine c_const ?_
      refine b_pure rfl rfl (mul_litR (by decide)) ?_
      refine c_call ?_
      refine c_pcons ?_
      refine c_name rfl ?_
      refine c_pnil ?_
      refine cb_pure (r := .d (.int (absZ a4))) rfl rfl ?_
      refine b_pure rfl rfl rfl ?_
      refine as_d (e' := [some (.d ((eL PyData.int) script_)), some (.d (PyData.int ((s1.1 * (37 : Int)) + (absZ a4)))), some (.d (PyData.int (((s1.2 * (6364136223846793005 : Int)) + ((((2 : Int) * (absZ a4)) + (b2i (decide (a4 < (0 : Int))))) + (1 : Int))) % (2305843009213693951 : Int)))), some (.d (PyData.int a4)), some (.d (PyData.int ((((2 : Int) * (absZ a4)) + (b2i (decide (a4 < (0 : Int))))) + (1 : Int))))]) rfl okO_d rfl ?_
      refine c_end1 ?_
      exact sim_ret ⟨rfl, rfl⟩
    · refine sim_bnd0 ?_
      refine c_end ?_
      exact sim_ret ⟨rfl, rfl⟩
    rintro s5 fl e ⟨rfl, rfl⟩
    refine c_end1 ?_
    exact sim_ret ⟨.inl rfl, ⟨_, _, datO_d, datO_d, rfl⟩⟩
  intro s1 e hK e' hu
  obtain ⟨o2, o3, ho2, ho3, he⟩ := hK
  obtain rfl : e' = [some (.d ((eL PyData.int) script_)), some (.d (PyData.int s1.1)), some (.d (PyData.int s1.2)), o2, o3] := by rw [← hu, he]; rfl
  clear hu he
  refine c_blk1 ?_
  refine c_ret ?_
  refine c_lst ?_
  refine c_cons ?_
  refine c_take ?_
  refine c_name rfl ?_
  refine t_pure rfl ?_
  refine c_cons ?_
  refine c_take ?_
  refine c_name rfl ?_
  refine t_pure rfl ?_
  refine c_cons ?_
  refine c_take ?_
  refine c_const ?_
  refine t_pure rfl ?_
  refine c_nil ?_
  refine ls_pure (ys := List.map PyData.int [s1.1, s1.2, (0 : Int)]) rfl rfl ?_
  refine rt_t ?_
  exact sim_ret ⟨.inl rfl, rfl⟩
def S_law_draw (deck_ : List Int) (many_ : Int) : M (Int × (List Int)) :=
  ixM deck_ (0 : Int) >>= fun it1 =>
  if (decide ((0 : Int) < it1)) = true then (ixM deck_ (0 : Int) >>= fun it2 =>
  modM it2 many_ >>= fun rem3 =>
  ixM deck_ (0 : Int) >>= fun it4 =>
  divM it4 many_ >>= fun quo5 =>
  setM deck_ (0 : Int) quo5 >>= fun ys6 =>
  .ok (rem3, ys6))
  else
  ixM deck_ (2 : Int) >>= fun it7 =>
  setM deck_ (2 : Int) (it7 + (1 : Int)) >>= fun ys8 =>
  ixM ys8 (1 : Int) >>= fun it9 =>
  ixM ys8 (2 : Int) >>= fun it10 =>
  mulM ((it9 + ((11400714819323198485 : Int) * it10)) % (18446744073709551557 : Int)) ((((it9 + ((11400714819323198485 : Int) * it10)) % (18446744073709551557 : Int)) % (4294967291 : Int)) + (11 : Int)) >>= fun mul11 =>
  mulM (mul11 % (2305843009213693951 : Int)) (mul11 % (2305843009213693951 : Int)) >>= fun mul12 =>
  modM ((mul12 % (2305843009213693921 : Int)) / (2048 : Int)) many_ >>= fun rem13 =>
  .ok (rem13, ys8)
theorem L_law_draw (deck_ : List Int) (many_ : Int) : FSim (F_law_draw [.bor (.lst (List.map PyData.int deck_)), .d (PyData.int many_)]) (S_law_draw deck_ many_) (fun (r : Int × (List Int)) => Ret.d (PyData.int r.1)) (fun (r : Int × (List Int)) => [.bor (.lst (List.map PyData.int r.2)), .d (PyData.int many_)]) := by
  refine fs_mk ?_
  unfold S_law_draw
  refine sim_bnd0 ?_
  have e0 : envOf 4 [.bor (.lst (List.map PyData.int deck_)), .d (PyData.int many_)] = [some (.cell .bor (.lst (List.map PyData.int deck_))), some (.d (PyData.int many_)), none, none] := rfl
  rw [e0]
  unfold f_law_draw
  refine c_blk ?_
  refine c_ifS ?_
  refine c_tru ?_
  refine c_bin ?_
  refine c_bin ?_
  refine c_cell rfl ?_
  refine c_const ?_
  refine b_part (u := (eL PyData.int) deck_) rfl rfl (ixS (e := PyData.int) (xs := deck_) rfl) ?_
  intro it1
  refine c_const ?_
  refine b_pure rfl rfl rfl ?_
  refine tr_pure rfl rfl ?_
  refine ite_b (fun _ => ?_) (fun _ => ?_)
  · refine c_blk ?_
    refine c_set ?_
    refine c_bin ?_
    refine c_call ?_
    refine c_pcons ?_
    refine c_bin ?_
    refine c_cell rfl ?_
    refine c_const ?_
    refine b_part (u := (eL PyData.int) deck_) rfl rfl (ixS (e := PyData.int) (xs := deck_) rfl) ?_
    intro it2
    refine c_pnil ?_
    refine cb_pure rfl rfl ?_
    refine c_name rfl ?_
    refine b_part rfl rfl modS ?_
    intro rem3
    refine as_d (e' := [some (.cell .bor (.lst (List.map PyData.int deck_))), some (.d (PyData.int many_)), some (.d (PyData.int rem3)), none]) rfl okO_none rfl ?_
    refine c_blk1 ?_
    refine c_setIx ?_
    refine c_take ?_
    refine c_bin ?_
    refine c_bin ?_
    refine c_cell rfl ?_
    refine c_const ?_
    refine b_part (u := (eL PyData.int) deck_) rfl rfl (ixS (e := PyData.int) (xs := deck_) rfl) ?_
    intro it4
    refine c_name rfl ?_
    refine b_part rfl rfl divS ?_
    intro quo5
    refine t_pure rfl ?_
    refine c_cell rfl ?_
    refine c_take ?_
    refine c_const ?_
    refine t_pure rfl ?_
    refine si_t (e := PyData.int) (a := quo5) (e2 := fun ys6 => [some (.cell .bor (.lst (List.map PyData.int ys6))), some (.d (PyData.int many_)), some (.d (PyData.int rem3)), none]) rfl rfl (fun _ => rfl) ?_
    intro ys6
    refine c_blk1 ?_
    refine c_ret ?_
    refine c_name rfl ?_
    refine rt_d ?_
    exact sim_ret ⟨.inl rfl, rfl⟩
  refine c_end ?_
  refine c_blk1 ?_
  refine c_setIx ?_
  refine c_take ?_
  refine c_bin ?_
  refine c_bin ?_
  refine c_cell rfl ?_
  refine c_const ?_
  refine b_part (u := (eL PyData.int) deck_) rfl rfl (ixS (e := PyData.int) (xs := deck_) rfl) ?_
  intro it7
  refine c_const ?_
  refine b_pure rfl rfl rfl ?_
  refine t_pure rfl ?_
  refine c_cell rfl ?_
  refine c_take ?_
  refine c_const ?_
  refine t_pure rfl ?_
  refine si_t (e := PyData.int) (a := (it7 + (1 : Int))) (e2 := fun ys8 => [some (.cell .bor (.lst (List.map PyData.int ys8))), some (.d (PyData.int many_)), none, none]) rfl rfl (fun _ => rfl) ?_
  intro ys8
  refine c_blk1 ?_
  refine c_set ?_
  refine c_bin ?_
  refine c_call ?_
  refine c_pcons ?_
  refine c_bin ?_
  refine c_bin ?_
  refine c_cell rfl ?_
  refine c_const ?_
  refine b_part (u := (eL PyData.int) ys8) rfl rfl (ixS (e := PyData.int) (xs := ys8) rfl) ?_
  intro it9
  refine c_bin ?_
  refine c_const ?_
  refine c_bin ?_
  refine c_cell rfl ?_
  refine c_const ?_
  refine b_part (u := (eL PyData.int) ys8) rfl rfl (ixS (e := PyData.int) (xs := ys8) rfl) ?_
  intro it10
  refine b_pure rfl rfl (mul_litL (by decide)) ?_
  refine b_pure rfl rfl rfl ?_
  refine c_pnil ?_
  refine cb_pure rfl rfl ?_
  refine c_const ?_
  refine b_pure rfl rfl (mod_lit (by decide)) ?_
  refine as_d (e' := [some (.cell .bor (.lst (List.map PyData.int ys8))), some (.d (PyData.int many_)), none, some (.d (PyData.int ((it9 + ((11400714819323198485 : Int) * it10)) % (18446744073709551557 : Int))))]) rfl okO_none rfl ?_
  refine c_blk1 ?_
  refine c_set ?_
  refine c_bin ?_
  refine c_call ?_
  refine c_pcons ?_
  refine c_bin ?_
  refine c_name rfl ?_
  refine c_bin ?_
  refine c_bin ?_
  refine c_name rfl ?_
  refine c_const ?_
  refine b_pure rfl rfl (mod_lit (by decide)) ?_
  refine c_const ?_
  refine b_pure rfl rfl rfl ?_
  refine b_part rfl rfl mulS ?_
  intro mul11
  refine c_pnil ?_
  refine cb_pure rfl rfl ?_
  refine c_const ?_
  refine b_pure rfl rfl (mod_lit (by decide)) ?_
  refine as_d (e' := [some (.cell .bor (.lst (List.map PyData.int ys8))), some (.d (PyData.int many_)), none, some (.d (PyData.int (mul11 % (2305843009213693951 : Int))))]) rfl okO_d rfl ?_
  refine c_blk1 ?_
  refine c_ret ?_
  refine c_bin ?_
  refine c_bin ?_
  refine c_bin ?_
  refine c_call ?_
  refine c_pcons ?_
  refine c_bin ?_
  refine c_name rfl ?_
  refine c_name rfl ?_
  refine b_part rfl rfl mulS ?_
  intro mul12
  refine c_pnil ?_
  refine cb_pure rfl rfl ?_
  refine c_const ?_
  refine b_pure rfl rfl (mod_lit (by decide)) ?_
  refine c_const ?_
  refine b_pure rfl rfl (div_lit (by decide +kernel)) ?_
  refine c_name rfl ?_
  refine b_part rfl rfl modS ?_
  intro rem13
  refine rt_d ?_
  exact sim_ret ⟨.inl rfl, rfl⟩
def S_law_rank (rows_ : List (List Int)) : M (Int) :=
  lenG (List.map (fun (a1 : List Int) => a1) rows_) >>= fun xs2 =>
  ixM rows_ (0 : Int) >>= fun it3 =>
  range1M ((it3).length : Int) >>= fun rng4 =>
  forM' (fun (a10 : Int) (s5 : (List (List Int)) × Int) =>
  range1M ((s5.1).length : Int) >>= fun rng11 =>
  compP (fun (a12 : Int) => ixM s5.1 a12 >>= fun it13 =>
  ixM it13 a10 >>= fun it14 =>
  if (!eqD it14 (0 : Int)) = true then (.ok (some a12)) else (.ok none)) rng11 >>= fun xs15 =>
  (if (!eqD xs15 ([] : List Int)) = true then (ixM xs15 (0 : Int) >>= fun it19 =>
  ixM s5.1 it19 >>= fun it20 =>
  ixM xs15 (0 : Int) >>= fun it21 =>
  ixM xs15 (0 : Int) >>= fun it22 =>
  lenG ((cutD s5.1 none (some it21)) ++ (cutD s5.1 (some (it22 + (1 : Int))) none)) >>= fun cat23 =>
  compP (fun (a24 : List Int) => compP (fun (a25 : Int × Int) => ixM ((it20, (s5.2 + (1 : Int))).1) a10 >>= fun it26 =>
  mulM a25.1 it26 >>= fun mul27 =>
  ixM a24 a10 >>= fun it28 =>
  mulM a25.2 it28 >>= fun mul29 =>
  .ok (some (mul27 - mul29))) (List.zip a24 ((it20, (s5.2 + (1 : Int))).1)) >>= fun xs30 =>
  .ok (some xs30)) cat23 >>= fun xs31 =>
  .ok (xs31, (it20, (s5.2 + (1 : Int))).2)) else (.ok (s5.1, s5.2))) >>= fun s16 =>
  .ok (s16.1, s16.2)) rng4 ((xs2, (0 : Int)).1, (xs2, (0 : Int)).2) >>= fun s5 =>
  .ok s5.2
def S_law_pick {α : Type} (deck_ : List Int) (items_ : List α) : M (α × (List Int)) :=
  S_law_draw deck_ ((items_).length : Int) >>= fun r1 =>
  ixM items_ r1.1 >>= fun it2 =>
  .ok (it2, r1.2)
theorem L_law_pick {α : Type} (eα : α → PyData) (deck_ : List Int) (items_ : List α) : FSim (F_law_pick [.bor (.lst (List.map PyData.int deck_)), .d ((eL eα) items_)]) (S_law_pick deck_ items_) (fun (r : α × (List Int)) => Ret.d (eα r.1)) (fun (r : α × (List Int)) => [.bor (.lst (List.map PyData.int r.2)), .d ((eL eα) items_)]) := by
  refine fs_mk ?_
  unfold S_law_pick
  refine sim_bnd0 ?_
  have e0 : envOf 2 [.bor (.lst (List.map PyData.int deck_)), .d ((eL eα) items_)] = [some (.cell .bor (.lst (List.map PyData.int deck_))), some (.d ((eL eα) items_))] := rfl
  rw [e0]
  unfold f_law_pick
  refine c_blk ?_
  refine c_ret ?_
  refine c_bin ?_
  refine c_name rfl ?_
  refine c_callF ?_
  refine c_aref rfl ?_
  refine c_adat ?_
  refine c_take ?_
  refine c_call ?_
  refine c_pcons ?_
  refine c_name rfl ?_
  refine c_pnil ?_
  refine cb_pure (xs := [(eL eα) items_]) rfl lenL ?_
  refine t_pure rfl ?_
  refine c_anil ?_
  refine cf_s (e2 := fun r1 => [some (.cell .bor (.lst (List.map PyData.int r1.2))), some (.d ((eL eα) items_))]) (L_law_draw deck_ ((items_).length : Int)) (show List.Nodup ([0] : List Nat) by decide) rfl rfl (fun _ => rfl) (fun _ => trivial) ?_
  intro r1
  refine b_part (u := (eL eα) items_) rfl rfl (ixS (e := eα) (xs := items_) rfl) ?_
  intro it2
  refine rt_d ?_
  exact sim_ret ⟨.inl rfl, rfl⟩
end BH
set_option maxRecDepth 100000
set_option maxHeartbeats 4000000
set_option maxRecDepth 100000
set_option maxHeartbeats 4000000
namespace BH
open PySem PySem.Spec PyProof.Rows L2
/-- _law_mixed(deck, items): slots deck, items, rest, found, turn -/
def f_law_mixed : SF :=
  (fSeqS (fPar 2 3 (fPCons (fCall opList (fPCons (fName 1) fPNil)) (fPCons (fLst fNil) fPNil))) (fSeqS (fFor (fRng1 (fPCons (fCall opLen (fPCons (fName 1) fPNil)) fPNil)) (bName 4) (fSeqS (fExpr (fMeth1 3 opAppend (fTake (fMeth1 2 opPopAt (fTake (fCallF 2 F_law_draw (aRef 0 (aDat (fTake (fCall opLen (fPCons (fName 2) fPNil))) aNil)))))))) fNextS)) (fSeqS (fRet (fName 3)) fNextS)))
def F_law_mixed : List Arg → FRes := fnF 5 f_law_mixed
end BH
set_option maxRecDepth 100000
set_option maxHeartbeats 4000000
set_option maxRecDepth 100000
set_option maxHeartbeats 4000000
namespace BH
open PySem PySem.Spec PyProof.Rows L2
/-- _law_shape(deck): slots deck, rows -/
def f_law_shape : SF :=
  (fSeqS (fSet 1 (fBin opAdd (fC (.int 1)) (fCallF 2 F_law_draw (aRef 0 (aDat (fTake (fC (.int 5))) aNil))))) (fSeqS (fRet (fTup (fCons (fTake (fName 1)) (fCons (fTake (fBin opAdd (fC (.int 1)) (fCallF 2 F_law_draw (aRef 0 (aDat (fTake (fBin opSub (fC (.int 6)) (fName 1))) aNil))))) fNil)))) fNextS))
def F_law_shape : List Arg → FRes := fnF 2 f_law_shape
/-- _law_bars(deck, rows, columns): slots deck, rows, columns, spots, row, least, many, column -/
def f_law_bars : SF :=
  (fSeqS (fSet 3 (fLst fNil)) (fSeqS (fFor (fRng1 (fPCons (fName 1) fPNil)) (bName 4) (fSeqS (fExpr (fExt 3 (fComp (fRng1 (fPCons (fName 2) fPNil)) (bName 7) [7] fYes (fTake (fTup (fCons (fTake (fName 4)) (fCons (fTake (fName 7)) fNil))))))) fNextS)) (fSeqS (fSet 5 (fCall opMax2 (fPCons (fC (.int 0)) (fPCons (fBin opSub (fCall opLen (fPCons (fName 3) fPNil)) (fC (.int 6))) fPNil)))) (fSeqS (fSet 6 (fCall opMin2 (fPCons (fBin opSub (fCall opLen (fPCons (fName 3) fPNil)) (fC (.int 1))) (fPCons (fBin opAdd (fName 5) (fCallF 2 F_law_draw (aRef 0 (aDat (fTake (fC (.int 3))) aNil)))) fPNil)))) (fSeqS (fRet (fCall opTuple (fPCons (fSl (fCallF 2 F_law_mixed (aRef 0 (aDat (fTake (fName 3)) aNil))) fNoPart (fPart (fName 6))) fPNil))) fNextS)))))
def F_law_bars : List Arg → FRes := fnF 8 f_law_bars
/-- _law_left(rows, columns, bars): slots rows, columns, bars, found, row, column -/
def f_law_left : SF :=
  (fSeqS (fSet 3 (fLst fNil)) (fSeqS (fFor (fRng1 (fPCons (fName 0) fPNil)) (bName 4) (fSeqS (fExpr (fExt 3 (fComp (fRng1 (fPCons (fName 1) fPNil)) (bName 5) [5] (fTru (fBin (opIn true) (fTup (fCons (fTake (fName 4)) (fCons (fTake (fName 5)) fNil))) (fName 2))) (fTake (fTup (fCons (fTake (fName 4)) (fCons (fTake (fName 5)) fNil))))))) fNextS)) (fSeqS (fRet (fCall opTuple (fPCons (fName 3) fPNil))) fNextS)))
def F_law_left : List Arg → FRes := fnF 6 f_law_left
/-- is_integer(value, low, high): slots value, low, high -/
def f_is_integer : SF :=
  (fSeqS (fRet (fAndV (fIsa PyData.isInt (fName 0)) (fAndV (fNotV (fTru (fIsa PyData.isBool (fName 0)))) (fChain (fun i j => decide (i ≤ j)) (fun i j => decide (i ≤ j)) (fName 1) (fName 0) (fName 2))))) fNextS)
def F_is_integer : List Arg → FRes := fnF 3 f_is_integer
/-- is_cell(rows, columns, value): slots rows, columns, value -/
def f_is_cell : SF :=
  (fSeqS (fIfS (fOr (fNot (fTru (fIsa PyData.isTuple (fName 2)))) (fTru (fBin (opEq true) (fCall opLen (fPCons (fName 2) fPNil)) (fC (.int 2))))) (fSeqS (fRet (fC (.bool false))) fNextS) fNextS) (fSeqS (fRet (fAndV (fCallF 3 F_is_integer (aDat (fTake (fBin opIx (fName 2) (fC (.int 0)))) (aDat (fTake (fC (.int 0))) (aDat (fTake (fBin opSub (fName 0) (fC (.int 1)))) aNil)))) (fCallF 3 F_is_integer (aDat (fTake (fBin opIx (fName 2) (fC (.int 1)))) (aDat (fTake (fC (.int 0))) (aDat (fTake (fBin opSub (fName 1) (fC (.int 1)))) aNil)))))) fNextS))
def F_is_cell : List Arg → FRes := fnF 3 f_is_cell
/-- cells(rows, columns, value): slots rows, columns, value, left, one, row, column -/
def f_cells : SF :=
  (fSeqS (fIfS (fOr (fNot (fTru (fIsa PyData.isTuple (fName 2)))) (fNot (fTru (fCall opAll (fPCons (fComp (fSeq (fName 2)) (bName 4) [4] fYes (fTake (fCallF 3 F_is_cell (aDat (fTake (fName 0)) (aDat (fTake (fName 1)) (aDat (fTake (fName 4)) aNil)))))) fPNil))))) (fSeqS (fRaise0 "BadBars") fNextS) fNextS) (fSeqS (fFrzS 3 (fSet 3 (fCDbl (fRng1 (fPCons (fName 0) fPNil)) (bName 5) [5, 6] fYes (fRng1 (fPCons (fName 1) fPNil)) (bName 6) [6] (fTru (fBin (opIn true) (fTup (fCons (fTake (fName 5)) (fCons (fTake (fName 6)) fNil))) (fName 2))) (fTake (fTup (fCons (fTake (fName 5)) (fCons (fTake (fName 6)) fNil))))))) (fSeqS (fIfS (fOr (fTru (fBin opLt (fBin opSub (fBin opMul (fName 0) (fName 1)) (fCall opLen (fPCons (fName 3) fPNil))) (fCall opLen (fPCons (fName 2) fPNil)))) (fNot (fTru (fChain (fun i j => decide (i ≤ j)) (fun i j => decide (i ≤ j)) (fC (.int 1)) (fCall opLen (fPCons (fName 3) fPNil)) (fC (.int 6)))))) (fSeqS (fRaise0 "BadBars") fNextS) fNextS) (fSeqS (fRet (fCall opTuple (fPCons (fName 3) fPNil))) fNextS))))
def F_cells : List Arg → FRes := fnF 7 f_cells
/-- table_scale(rows, columns, value): slots rows, columns, value, kinds, found, row, cell, column -/
def f_table_scale : SF :=
  (fSeqS (fFrzS 3 (fSet 3 (fCallF 3 F_cells (aDat (fTake (fName 0)) (aDat (fTake (fName 1)) (aDat (fTake (fName 2)) aNil)))))) (fSeqS (fFrzS 4 (fSet 4 (fComp (fRng1 (fPCons (fName 0) fPNil)) (bName 5) [5] fYes (fTake (fCall opTuple (fPCons (fComp (fSeq (fName 3)) (bName 6) [6] fYes (fTake (fCall opToInt (fPCons (fBin (opEq false) (fBin opIx (fName 6) (fC (.int 0))) (fName 5)) fPNil)))) fPNil)))))) (fSeqS (fRet (fCall opTuple (fPCons (fBin opAdd (fName 4) (fComp (fRng1 (fPCons (fName 1) fPNil)) (bName 7) [7] fYes (fTake (fCall opTuple (fPCons (fComp (fSeq (fName 3)) (bName 6) [6] fYes (fTake (fCall opToInt (fPCons (fBin (opEq false) (fBin opIx (fName 6) (fC (.int 1))) (fName 7)) fPNil)))) fPNil))))) fPNil))) fNextS)))
def F_table_scale : List Arg → FRes := fnF 8 f_table_scale
def S_law_shape (deck_ : List Int) : M ((Int × Int) × (List Int)) :=
  S_law_draw deck_ (5 : Int) >>= fun r1 =>
  S_law_draw r1.2 ((6 : Int) - ((1 : Int) + r1.1)) >>= fun r2 =>
  .ok ((((1 : Int) + r1.1), ((1 : Int) + r2.1)), r2.2)
theorem L_law_shape (deck_ : List Int) : FSim (F_law_shape [.bor (.lst (List.map PyData.int deck_))]) (S_law_shape deck_) (fun (r : (Int × Int) × (List Int)) => Ret.d ((eP PyData.int PyData.int) r.1)) (fun (r : (Int × Int) × (List Int)) => [.bor (.lst (List.map PyData.int r.2))]) := by
  refine fs_mk ?_
  unfold S_law_shape
  refine sim_bnd0 ?_
  have e0 : envOf 2 [.bor (.lst (List.map PyData.int deck_))] = [some (.cell .bor (.lst (List.map PyData.int deck_))), none] := rfl
  rw [e0]
  unfold f_law_shape
  refine c_blk ?_
  refine c_set ?_
  refine c_bin ?_
  refine c_const ?_
  refine c_callF ?_
  refine c_aref rfl ?_
  refine c_adat ?_
  refine c_take ?_
  refine c_const ?_
  refine t_pure rfl ?_
  refine c_anil ?_
  refine cf_s (e2 := fun r1 => [some (.cell .bor (.lst (List.map PyData.int r1.2))), none]) (L_law_draw deck_ (5 : Int)) (show List.Nodup ([0] : List Nat) by decide) rfl rfl (fun _ => rfl) (fun _ => trivial) ?_
  intro r1
  refine b_pure rfl rfl rfl ?_
  refine as_d (e' := [some (.cell .bor (.lst (List.map PyData.int r1.2))), some (.d (PyData.int ((1 : Int) + r1.1)))]) rfl okO_none rfl ?_
  refine c_blk1 ?_
  refine c_ret ?_
  refine c_tup ?_
  refine c_cons ?_
  refine c_take ?_
  refine c_name rfl ?_
  refine t_pure rfl ?_
  refine c_cons ?_
  refine c_take ?_
  refine c_bin ?_
  refine c_const ?_
  refine c_callF ?_
  refine c_aref rfl ?_
  refine c_adat ?_
  refine c_take ?_
  refine c_bin ?_
  refine c_const ?_
  refine c_name rfl ?_
  refine b_pure rfl rfl rfl ?_
  refine t_pure rfl ?_
  refine c_anil ?_
  refine cf_s (e2 := fun r2 => [some (.cell .bor (.lst (List.map PyData.int r2.2))), some (.d (PyData.int ((1 : Int) + r1.1)))]) (L_law_draw r1.2 ((6 : Int) - ((1 : Int) + r1.1))) (show List.Nodup ([0] : List Nat) by decide) rfl rfl (fun _ => rfl) (fun _ => trivial) ?_
  intro r2
  refine b_pure rfl rfl rfl ?_
  refine t_pure rfl ?_
  refine c_nil ?_
  refine tu_pure (v := (eP PyData.int PyData.int) (((1 : Int) + r1.1), ((1 : Int) + r2.1))) rfl rfl ?_
  refine rt_d ?_
  exact sim_ret ⟨.inl rfl, rfl⟩
def S_law_mixed_2 (deck_ : List Int) (items_ : List (Int × Int)) : M ((List (Int × Int)) × (List Int)) :=
  range1M ((items_).length : Int) >>= fun rng1 =>
  forM' (fun (a4 : Int) (s2 : (List Int) × (List (Int × Int)) × (List (Int × Int))) =>
  S_law_draw s2.1 ((s2.2.1).length : Int) >>= fun r5 =>
  popM s2.2.1 r5.1 >>= fun pp6 =>
  appM s2.2.2 pp6.1 >>= fun ys7 =>
  .ok (r5.2, pp6.2, ys7)) rng1 (deck_, items_, ([] : List (Int × Int))) >>= fun s2 =>
  .ok (s2.2.2, s2.1)
theorem L_law_mixed_2 (deck_ : List Int) (items_ : List (Int × Int)) : FSim (F_law_mixed [.bor (.lst (List.map PyData.int deck_)), .d ((eL (eP PyData.int PyData.int)) items_)]) (S_law_mixed_2 deck_ items_) (fun (r : (List (Int × Int)) × (List Int)) => Ret.tmp (.lst (List.map (eP PyData.int PyData.int) r.1))) (fun (r : (List (Int × Int)) × (List Int)) => [.bor (.lst (List.map PyData.int r.2)), .d ((eL (eP PyData.int PyData.int)) items_)]) := by
  refine fs_mk ?_
  unfold S_law_mixed_2
  refine sim_bnd0 ?_
  have e0 : envOf 5 [.bor (.lst (List.map PyData.int deck_)), .d ((eL (eP PyData.int PyData.int)) items_)] = [some (.cell .bor (.lst (List.map PyData.int deck_))), some (.d ((eL (eP PyData.int PyData.int)) items_)), none, none, none] := rfl
  rw [e0]
  unfold f_law_mixed
  refine c_blk ?_
  refine c_par ?_
  refine c_pcons ?_
  refine c_call ?_
  refine c_pcons ?_
  refine c_name rfl ?_
  refine c_pnil ?_
  refine cb_pure (r := .tmp (.lst (List.map (eP PyData.int PyData.int) items_))) rfl rfl ?_
  refine c_pcons ?_
  refine c_lst ?_
  refine c_nil ?_
  refine ls_pure (ys := List.map (eP PyData.int PyData.int) ([] : List (Int × Int))) rfl rfl ?_
  refine c_pnil ?_
  refine pa_t (e1 := [some (.cell .bor (.lst (List.map PyData.int deck_))), some (.d ((eL (eP PyData.int PyData.int)) items_)), some (.cell .own (.lst (List.map (eP PyData.int PyData.int) items_))), none, none]) (e2 := [some (.cell .bor (.lst (List.map PyData.int deck_))), some (.d ((eL (eP PyData.int PyData.int)) items_)), some (.cell .own (.lst (List.map (eP PyData.int PyData.int) items_))), some (.cell .own (.lst (List.map (eP PyData.int PyData.int) ([] : List (Int × Int))))), none]) rfl rfl rfl rfl (setS_ok rfl okO_none rfl) (setS_ok rfl okO_none rfl) ?_
  refine c_blk1 ?_
  refine c_for ?_
  refine c_rng1 ?_
  refine c_pcons ?_
  refine c_call ?_
  refine c_pcons ?_
  refine c_name rfl ?_
  refine c_pnil ?_
  refine cb_pure (xs := [(eL (eP PyData.int PyData.int)) items_]) rfl lenL ?_
  refine c_pnil ?_
  refine r1_part rfl ?_
  intro rng1
  refine fo_n (fun (s2 : (List Int) × (List (Int × Int)) × (List (Int × Int))) (e : SE) => ∃ (o3 : Option MV), datO o3 ∧ e = [some (.cell .bor (.lst (List.map PyData.int s2.1))), some (.d ((eL (eP PyData.int PyData.int)) items_)), some (.cell .own (.lst (List.map (eP PyData.int PyData.int) s2.2.1))), some (.cell .own (.lst (List.map (eP PyData.int PyData.int) s2.2.2))), o3]) ⟨_, datO_none, rfl⟩ (fun _ _ => trivial) ?_ ?_
  · intro a4 s2 e hK
    obtain ⟨o3, ho3, he⟩ := hK
    subst he
    refine ⟨[some (.cell .bor (.lst (List.map PyData.int s2.1))), some (.d ((eL (eP PyData.int PyData.int)) items_)), some (.cell .own (.lst (List.map (eP PyData.int PyData.int) s2.2.1))), some (.cell .own (.lst (List.map (eP PyData.int PyData.int) s2.2.2))), some (.d (PyData.int a4))], (bn (e' := [some (.cell .bor (.lst (List.map PyData.int s2.1))), some (.d ((eL (eP PyData.int PyData.int)) items_)), some (.cell .own (.lst (List.map (eP PyData.int PyData.int) s2.2.1))), some (.cell .own (.lst (List.map (eP PyData.int PyData.int) s2.2.2))), some (.d (PyData.int a4))]) rfl (datO.ok ho3) rfl), ?_⟩
    refine sim_bnd0 ?_
    refine c_blk ?_
    refine c_expr ?_
    refine c_meth rfl ?_
    refine c_take ?_
    refine c_meth rfl ?_
    refine c_take ?_
    refine c_callF ?_
    refine c_aref rfl ?_
    refine c_adat ?_
    refine c_take ?_
    refine c_call ?_
    refine c_pcons ?_
    refine c_cell rfl ?_
    refine c_pnil ?_
    refine cb_pure (xs := [(eL (eP PyData.int PyData.int)) s2.2.1]) rfl lenL ?_
    refine t_pure rfl ?_
    refine c_anil ?_
    refine cf_s (e2 := fun r5 => [some (.cell .bor (.lst (List.map PyData.int r5.2))), some (.d ((eL (eP PyData.int PyData.int)) items_)), some (.cell .own (.lst (List.map (eP PyData.int PyData.int) s2.2.1))), some (.cell .own (.lst (List.map (eP PyData.int PyData.int) s2.2.2))), some (.d (PyData.int a4))]) (L_law_draw s2.1 ((s2.2.1).length : Int)) (show List.Nodup ([0] : List Nat) by decide) rfl rfl (fun _ => rfl) (fun _ => trivial) ?_
    intro r5
    refine t_pure rfl ?_
    refine me_pop (e := (eP PyData.int PyData.int)) (e2 := fun pp6 => [some (.cell .bor (.lst (List.map PyData.int r5.2))), some (.d ((eL (eP PyData.int PyData.int)) items_)), some (.cell .own (.lst (List.map (eP PyData.int PyData.int) pp6))), some (.cell .own (.lst (List.map (eP PyData.int PyData.int) s2.2.2))), some (.d (PyData.int a4))]) rfl rfl (fun _ => rfl) ?_
    intro pp6
    refine t_pure rfl ?_
    refine me_app (e := (eP PyData.int PyData.int)) (a := pp6.1) (e2 := fun ys7 => [some (.cell .bor (.lst (List.map PyData.int r5.2))), some (.d ((eL (eP PyData.int PyData.int)) items_)), some (.cell .own (.lst (List.map (eP PyData.int PyData.int) pp6.2))), some (.cell .own (.lst (List.map (eP PyData.int PyData.int) ys7))), some (.d (PyData.int a4))]) rfl rfl (fun _ => rfl) ?_
    intro ys7
    refine c_end1 ?_
    exact sim_ret ⟨.inl rfl, ⟨_, datO_d, rfl⟩⟩
  intro s2 e hK e' hu
  obtain ⟨o3, ho3, he⟩ := hK
  obtain rfl : e' = [some (.cell .bor (.lst (List.map PyData.int s2.1))), some (.d ((eL (eP PyData.int PyData.int)) items_)), some (.cell .own (.lst (List.map (eP PyData.int PyData.int) s2.2.1))), some (.cell .own (.lst (List.map (eP PyData.int PyData.int) s2.2.2))), o3] := by rw [← hu, he]; rfl
  clear hu he
  refine c_blk1 ?_
  refine c_ret ?_
  refine c_cell rfl ?_
  refine rt_s rfl ?_
  exact sim_ret ⟨.inl rfl, rfl⟩
def S_law_bars (deck_ : List Int) (rows_ : Int) (columns_ : Int) : M ((List (Int × Int)) × (List Int)) :=
  range1M rows_ >>= fun rng1 =>
  forM' (fun (a4 : Int) (s2 : (List (Int × Int))) =>
  range1M columns_ >>= fun rng5 =>
  lenG (List.map (fun (a6 : Int) => (a4, a6)) rng5) >>= fun xs7 =>
  lenG (s2 ++ xs7) >>= fun ys8 =>
  .ok ys8) rng1 ([] : List (Int × Int)) >>= fun s2 =>
  S_law_draw deck_ (3 : Int) >>= fun r9 =>
  S_law_mixed_2 r9.2 s2 >>= fun r10 =>
  .ok ((cutD r10.1 none (some (min2 (((s2).length : Int) - (1 : Int)) ((max2 (0 : Int) (((s2).length : Int) - (6 : Int))) + r9.1)))), r10.2)
theorem L_law_bars (deck_ : List Int) (rows_ : Int) (columns_ : Int) : FSim (F_law_bars [.bor (.lst (List.map PyData.int deck_)), .d (PyData.int rows_), .d (PyData.int columns_)]) (S_law_bars deck_ rows_ columns_) (fun (r : (List (Int × Int)) × (List Int)) => Ret.d ((eT (eP PyData.int PyData.int)) r.1)) (fun (r : (List (Int × Int)) × (List Int)) => [.bor (.lst (List.map PyData.int r.2)), .d (PyData.int rows_), .d (PyData.int columns_)]) := by
  refine fs_mk ?_
  unfold S_law_bars
  refine sim_bnd0 ?_
  have e0 : envOf 8 [.bor (.lst (List.map PyData.int deck_)), .d (PyData.int rows_), .d (PyData.int columns_)] = [some (.cell .bor (.lst (List.map PyData.int deck_))), some (.d (PyData.int rows_)), some (.d (PyData.int columns_)), none, none, none, none, none] := rfl
  rw [e0]
  unfold f_law_bars
  refine c_blk ?_
  refine c_set ?_
  refine c_lst ?_
  refine c_nil ?_
  refine ls_pure (ys := List.map (eP PyData.int PyData.int) ([] : List (Int × Int))) rfl rfl ?_
  refine as_t (e' := [some (.cell .bor (.lst (List.map PyData.int deck_))), some (.d (PyData.int rows_)), some (.d (PyData.int columns_)), some (.cell .own (.lst (List.map (eP PyData.int PyData.int) ([] : List (Int × Int))))), none, none, none, none]) rfl okO_none rfl ?_
  refine c_blk1 ?_
  refine c_for ?_
  refine c_rng1 ?_
  refine c_pcons ?_
  refine c_name rfl ?_
  refine c_pnil ?_
  refine r1_part rfl ?_
  intro rng1
  refine fo_n (fun (s2 : (List (Int × Int))) (e : SE) => ∃ (o3 : Option MV), datO o3 ∧ e = [some (.cell .bor (.lst (List.map PyData.int deck_))), some (.d (PyData.int rows_)), some (.d (PyData.int columns_)), some (.cell .own (.lst (List.map (eP PyData.int PyData.int) s2))), o3, none, none, none]) ⟨_, datO_none, rfl⟩ (fun _ _ => trivial) ?_ ?_
  · intro a4 s2 e hK
    obtain ⟨o3, ho3, he⟩ := hK
    subst he
    refine ⟨[some (.cell .bor (.lst (List.map PyData.int deck_))), some (.d (PyData.int rows_)), some (.d (PyData.int columns_)), some (.cell .own (.lst (List.map (eP PyData.int PyData.int) s2))), some (.d (PyData.int a4)), none, none, none], (bn (e' := [some (.cell .bor (.lst (List.map PyData.int deck_))), some (.d (PyData.int rows_)), some (.d (PyData.int columns_)), some (.cell .own (.lst (List.map (eP PyData.int PyData.int) s2))), some (.d (PyData.int a4)), none, none, none]) rfl (datO.ok ho3) rfl), ?_⟩
    refine sim_bnd0 ?_
    refine c_blk ?_
    refine c_expr ?_
    refine c_ext rfl ?_
    refine c_comp ?_
    refine c_rng1 ?_
    refine c_pcons ?_
    refine c_name rfl ?_
    refine c_pnil ?_
    refine r1_part rfl ?_
    intro rng5
    refine co_m (enc' := (eP PyData.int PyData.int)) (el := [some (.cell .bor (.lst (List.map PyData.int deck_))), some (.d (PyData.int rows_)), some (.d (PyData.int columns_)), some (.cell .own (.lst (List.map (eP PyData.int PyData.int) s2))), some (.d (PyData.int a4)), none, none, none]) rfl (nc_cons rfl datO_none nc_nil) rfl ?_ ?_
    · intro a6
      refine ⟨[some (.cell .bor (.lst (List.map PyData.int deck_))), some (.d (PyData.int rows_)), some (.d (PyData.int columns_)), some (.cell .own (.lst (List.map (eP PyData.int PyData.int) s2))), some (.d (PyData.int a4)), none, none, some (.d (PyData.int a6))], (bn (e' := [some (.cell .bor (.lst (List.map PyData.int deck_))), some (.d (PyData.int rows_)), some (.d (PyData.int columns_)), some (.cell .own (.lst (List.map (eP PyData.int PyData.int) s2))), some (.d (PyData.int a4)), none, none, some (.d (PyData.int a6))]) rfl okO_none rfl), ?_⟩
      refine c_turnY ?_
      refine c_take ?_
      refine c_tup ?_
      refine c_cons ?_
      refine c_take ?_
      refine c_name rfl ?_
      refine t_pure rfl ?_
      refine c_cons ?_
      refine c_take ?_
      refine c_name rfl ?_
      refine t_pure rfl ?_
      refine c_nil ?_
      refine tu_pure (v := (eP PyData.int PyData.int) (a4, a6)) rfl rfl ?_
      refine t_pure rfl ?_
      exact sim_ret ⟨rfl, rfl⟩
    intro xs7
    refine me_ext (e := (eP PyData.int PyData.int)) (zs := xs7) (e2 := fun ys8 => [some (.cell .bor (.lst (List.map PyData.int deck_))), some (.d (PyData.int rows_)), some (.d (PyData.int columns_)), some (.cell .own (.lst (List.map (eP PyData.int PyData.int) ys8))), some (.d (PyData.int a4)), none, none, none]) rfl rfl (fun _ => rfl) ?_
    intro ys8
    refine c_end1 ?_
    exact sim_ret ⟨.inl rfl, ⟨_, datO_d, rfl⟩⟩
  intro s2 e hK e' hu
  obtain ⟨o3, ho3, he⟩ := hK
  obtain rfl : e' = [some (.cell .bor (.lst (List.map PyData.int deck_))), some (.d (PyData.int rows_)), some (.d (PyData.int columns_)), some (.cell .own (.lst (List.map (eP PyData.int PyData.int) s2))), o3, none, none, none] := by rw [← hu, he]; rfl
  clear hu he
  refine c_blk1 ?_
  refine c_set ?_
  refine c_call ?_
  refine c_pcons ?_
  refine c_const ?_
  refine c_pcons ?_
  refine c_bin ?_
  refine c_call ?_
  refine c_pcons ?_
  refine c_cell rfl ?_
  refine c_pnil ?_
  refine cb_pure (xs := [(eL (eP PyData.int PyData.int)) s2]) rfl lenL ?_
  refine c_const ?_
  refine b_pure rfl rfl rfl ?_
  refine c_pnil ?_
  refine cb_pure (r := .d (.int (max2 (0 : Int) (((s2).length : Int) - (6 : Int))))) rfl rfl ?_
  refine as_d (e' := [some (.cell .bor (.lst (List.map PyData.int deck_))), some (.d (PyData.int rows_)), some (.d (PyData.int columns_)), some (.cell .own (.lst (List.map (eP PyData.int PyData.int) s2))), o3, some (.d (PyData.int (max2 (0 : Int) (((s2).length : Int) - (6 : Int))))), none, none]) rfl okO_none rfl ?_
  refine c_blk1 ?_
  refine c_set ?_
  refine c_call ?_
  refine c_pcons ?_
  refine c_bin ?_
  refine c_call ?_
  refine c_pcons ?_
  refine c_cell rfl ?_
  refine c_pnil ?_
  refine cb_pure (xs := [(eL (eP PyData.int PyData.int)) s2]) rfl lenL ?_
  refine c_const ?_
  refine b_pure rfl rfl rfl ?_
  refine c_pcons ?_
  refine c_bin ?_
  refine c_name rfl ?_
  refine c_callF ?_
  refine c_aref rfl ?_
  refine c_adat ?_
  refine c_take ?_
  refine c_const ?_
  refine t_pure rfl ?_
  refine c_anil ?_
  refine cf_s (e2 := fun r9 => [some (.cell .bor (.lst (List.map PyData.int r9.2))), some (.d (PyData.int rows_)), some (.d (PyData.int columns_)), some (.cell .own (.lst (List.map (eP PyData.int PyData.int) s2))), o3, some (.d (PyData.int (max2 (0 : Int) (((s2).length : Int) - (6 : Int))))), none, none]) (L_law_draw deck_ (3 : Int)) (show List.Nodup ([0] : List Nat) by decide) rfl rfl (fun _ => rfl) (fun _ => trivial) ?_
  intro r9
  refine b_pure rfl rfl rfl ?_
  refine c_pnil ?_
  refine cb_pure (r := .d (.int (min2 (((s2).length : Int) - (1 : Int)) ((max2 (0 : Int) (((s2).length : Int) - (6 : Int))) + r9.1)))) rfl rfl ?_
  refine as_d (e' := [some (.cell .bor (.lst (List.map PyData.int r9.2))), some (.d (PyData.int rows_)), some (.d (PyData.int columns_)), some (.cell .own (.lst (List.map (eP PyData.int PyData.int) s2))), o3, some (.d (PyData.int (max2 (0 : Int) (((s2).length : Int) - (6 : Int))))), some (.d (PyData.int (min2 (((s2).length : Int) - (1 : Int)) ((max2 (0 : Int) (((s2).length : Int) - (6 : Int))) + r9.1)))), none]) rfl okO_none rfl ?_
  refine c_blk1 ?_
  refine c_ret ?_
  refine c_call ?_
  refine c_pcons ?_
  refine c_sl ?_
  refine c_callF ?_
  refine c_aref rfl ?_
  refine c_adat ?_
  refine c_take ?_
  refine c_cell rfl ?_
  refine t_pure (v := (eL (eP PyData.int PyData.int)) s2) (e' := [some (.cell .bor (.lst (List.map PyData.int r9.2))), some (.d (PyData.int rows_)), some (.d (PyData.int columns_)), some (.d ((eL (eP PyData.int PyData.int)) s2)), o3, some (.d (PyData.int (max2 (0 : Int) (((s2).length : Int) - (6 : Int))))), some (.d (PyData.int (min2 (((s2).length : Int) - (1 : Int)) ((max2 (0 : Int) (((s2).length : Int) - (6 : Int))) + r9.1)))), none]) rfl ?_
  refine c_anil ?_
  refine cf_s (e2 := fun r10 => [some (.cell .bor (.lst (List.map PyData.int r10.2))), some (.d (PyData.int rows_)), some (.d (PyData.int columns_)), some (.d ((eL (eP PyData.int PyData.int)) s2)), o3, some (.d (PyData.int (max2 (0 : Int) (((s2).length : Int) - (6 : Int))))), some (.d (PyData.int (min2 (((s2).length : Int) - (1 : Int)) ((max2 (0 : Int) (((s2).length : Int) - (6 : Int))) + r9.1)))), none]) (L_law_mixed_2 r9.2 s2) (show List.Nodup ([0] : List Nat) by decide) rfl rfl (fun _ => rfl) (fun _ => trivial) ?_
  intro r10
  refine c_nopart ?_
  refine c_part ?_
  refine c_name rfl ?_
  refine pt_pure rfl ?_
  refine sl_pure (v := (eL (eP PyData.int PyData.int)) r10.1) rfl slL ?_
  refine c_pnil ?_
  refine cb_pure (r := .d (eT (eP PyData.int PyData.int) (cutD r10.1 none (some (min2 (((s2).length : Int) - (1 : Int)) ((max2 (0 : Int) (((s2).length : Int) - (6 : Int))) + r9.1)))))) rfl rfl ?_
  refine rt_d ?_
  exact sim_ret ⟨.inl rfl, rfl⟩
def S_law_left (rows_ : Int) (columns_ : Int) (bars_ : List (Int × Int)) : M ((List (Int × Int))) :=
  range1M rows_ >>= fun rng1 =>
  forM' (fun (a4 : Int) (s2 : (List (Int × Int))) =>
  range1M columns_ >>= fun rng5 =>
  lenG (List.map (fun (a6 : Int) => (a4, a6)) (List.filter (fun (a6 : Int) => (!memD (a4, a6) bars_)) rng5)) >>= fun xs7 =>
  lenG (s2 ++ xs7) >>= fun ys8 =>
  .ok ys8) rng1 ([] : List (Int × Int)) >>= fun s2 =>
  .ok s2
theorem L_law_left (rows_ : Int) (columns_ : Int) (bars_ : List (Int × Int)) : FSim (F_law_left [.d (PyData.int rows_), .d (PyData.int columns_), .d ((eT (eP PyData.int PyData.int)) bars_)]) (S_law_left rows_ columns_ bars_) (fun (r : (List (Int × Int))) => Ret.d ((eT (eP PyData.int PyData.int)) r)) (fun (r : (List (Int × Int))) => [.d (PyData.int rows_), .d (PyData.int columns_), .d ((eT (eP PyData.int PyData.int)) bars_)]) := by
  refine fs_mk ?_
  unfold S_law_left
  refine sim_bnd0 ?_
  have e0 : envOf 6 [.d (PyData.int rows_), .d (PyData.int columns_), .d ((eT (eP PyData.int PyData.int)) bars_)] = [some (.d (PyData.int rows_)), some (.d (PyData.int columns_)), some (.d ((eT (eP PyData.int PyData.int)) bars_)), none, none, none] := rfl
  rw [e0]
  unfold f_law_left
  refine c_blk ?_
  refine c_set ?_
  refine c_lst ?_
  refine c_nil ?_
  refine ls_pure (ys := List.map (eP PyData.int PyData.int) ([] : List (Int × Int))) rfl rfl ?_
  refine as_t (e' := [some (.d (PyData.int rows_)), some (.d (PyData.int columns_)), some (.d ((eT (eP PyData.int PyData.int)) bars_)), some (.cell .own (.lst (List.map (eP PyData.int PyData.int) ([] : List (Int × Int))))), none, none]) rfl okO_none rfl ?_
  refine c_blk1 ?_
  refine c_for ?_
  refine c_rng1 ?_
  refine c_pcons ?_
  refine c_name rfl ?_
  refine c_pnil ?_
  refine r1_part rfl ?_
  intro rng1
  refine fo_n (fun (s2 : (List (Int × Int))) (e : SE) => ∃ (o3 : Option MV), datO o3 ∧ e = [some (.d (PyData.int rows_)), some (.d (PyData.int columns_)), some (.d ((eT (eP PyData.int PyData.int)) bars_)), some (.cell .own (.lst (List.map (eP PyData.int PyData.int) s2))), o3, none]) ⟨_, datO_none, rfl⟩ (fun _ _ => trivial) ?_ ?_
  · intro a4 s2 e hK
    obtain ⟨o3, ho3, he⟩ := hK
    subst he
    refine ⟨[some (.d (PyData.int rows_)), some (.d (PyData.int columns_)), some (.d ((eT (eP PyData.int PyData.int)) bars_)), some (.cell .own (.lst (List.map (eP PyData.int PyData.int) s2))), some (.d (PyData.int a4)), none], (bn (e' := [some (.d (PyData.int rows_)), some (.d (PyData.int columns_)), some (.d ((eT (eP PyData.int PyData.int)) bars_)), some (.cell .own (.lst (List.map (eP PyData.int PyData.int) s2))), some (.d (PyData.int a4)), none]) rfl (datO.ok ho3) rfl), ?_⟩
    refine sim_bnd0 ?_
    refine c_blk ?_
    refine c_expr ?_
    refine c_ext rfl ?_
    refine c_comp ?_
    refine c_rng1 ?_
    refine c_pcons ?_
    refine c_name rfl ?_
    refine c_pnil ?_
    refine r1_part rfl ?_
    intro rng5
    refine co_t (enc' := (eP PyData.int PyData.int)) (el := [some (.d (PyData.int rows_)), some (.d (PyData.int columns_)), some (.d ((eT (eP PyData.int PyData.int)) bars_)), some (.cell .own (.lst (List.map (eP PyData.int PyData.int) s2))), some (.d (PyData.int a4)), none]) (p := fun (a6 : Int) => (!memD (a4, a6) bars_)) (f := fun (a6 : Int) => (a4, a6)) rfl (nc_cons rfl datO_none nc_nil) rfl ?_ ?_
    · intro a6
      refine ⟨[some (.d (PyData.int rows_)), some (.d (PyData.int columns_)), some (.d ((eT (eP PyData.int PyData.int)) bars_)), some (.cell .own (.lst (List.map (eP PyData.int PyData.int) s2))), some (.d (PyData.int a4)), some (.d (PyData.int a6))], (bn (e' := [some (.d (PyData.int rows_)), some (.d (PyData.int columns_)), some (.d ((eT (eP PyData.int PyData.int)) bars_)), some (.cell .own (.lst (List.map (eP PyData.int PyData.int) s2))), some (.d (PyData.int a4)), some (.d (PyData.int a6))]) rfl okO_none rfl), ?_⟩
      refine c_turn ?_
      refine c_tru ?_
      refine c_bin ?_
      refine c_tup ?_
      refine c_cons ?_
      refine c_take ?_
      refine c_name rfl ?_
      refine t_pure rfl ?_
      refine c_cons ?_
      refine c_take ?_
      refine c_name rfl ?_
      refine t_pure rfl ?_
      refine c_nil ?_
      refine tu_pure (v := (eP PyData.int PyData.int) (a4, a6)) rfl rfl ?_
      refine c_name rfl ?_
      refine b_pure (u := (eP PyData.int PyData.int) (a4, a6)) (v := (eT (eP PyData.int PyData.int)) bars_) rfl rfl (notin_t (EqT.P EqT.I EqT.I) (by decide) (.inl rfl)) ?_
      refine tr_pure rfl rfl ?_
      refine ite_s (fun _ => ?_) (fun _ => ?_)
      · refine c_take ?_
        refine c_tup ?_
        refine c_cons ?_
        refine c_take ?_
        refine c_name rfl ?_
        refine t_pure rfl ?_
        refine c_cons ?_
        refine c_take ?_
        refine c_name rfl ?_
        refine t_pure rfl ?_
        refine c_nil ?_
        refine tu_pure (v := (eP PyData.int PyData.int) (a4, a6)) rfl rfl ?_
        refine t_pure rfl ?_
        exact sim_ret ⟨rfl, rfl⟩
      · exact sim_ret ⟨rfl, rfl⟩
    intro xs7
    refine me_ext (e := (eP PyData.int PyData.int)) (zs := xs7) (e2 := fun ys8 => [some (.d (PyData.int rows_)), some (.d (PyData.int columns_)), some (.d ((eT (eP PyData.int PyData.int)) bars_)), some (.cell .own (.lst (List.map (eP PyData.int PyData.int) ys8))), some (.d (PyData.int a4)), none]) rfl rfl (fun _ => rfl) ?_
    intro ys8
    refine c_end1 ?_
    exact sim_ret ⟨.inl rfl, ⟨_, datO_d, rfl⟩⟩
  intro s2 e hK e' hu
  obtain ⟨o3, ho3, he⟩ := hK
  obtain rfl : e' = [some (.d (PyData.int rows_)), some (.d (PyData.int columns_)), some (.d ((eT (eP PyData.int PyData.int)) bars_)), some (.cell .own (.lst (List.map (eP PyData.int PyData.int) s2))), o3, none] := by rw [← hu, he]; rfl
  clear hu he
  refine c_blk1 ?_
  refine c_ret ?_
  refine c_call ?_
  refine c_pcons ?_
  refine c_cell rfl ?_
  refine c_pnil ?_
  refine cb_pure (r := .d (eT (eP PyData.int PyData.int) s2)) rfl rfl ?_
  refine rt_d ?_
  exact sim_ret ⟨.inl rfl, rfl⟩
def S_is_integer (value_ : PyData) (low_ : Int) (high_ : Int) : M (Bool) :=
  (if (PyData.isInt value_) = true then ((if (!(PyData.isBool value_)) = true then (castM decI value_ >>= fun h1 =>
  .ok (decide (low_ ≤ h1) && decide (h1 ≤ high_))) else .ok false) >>= fun b2 =>
  .ok b2) else .ok false) >>= fun b3 =>
  .ok b3
theorem L_is_integer (value_ : PyData) (low_ : Int) (high_ : Int) : FSim (F_is_integer [.d (id value_), .d (PyData.int low_), .d (PyData.int high_)]) (S_is_integer value_ low_ high_) (fun (r : Bool) => Ret.d (PyData.bool r)) (fun (r : Bool) => [.d (id value_), .d (PyData.int low_), .d (PyData.int high_)]) := by
  refine fs_mk ?_
  unfold S_is_integer
  refine sim_bnd0 ?_
  have e0 : envOf 3 [.d (id value_), .d (PyData.int low_), .d (PyData.int high_)] = [some (.d (id value_)), some (.d (PyData.int low_)), some (.d (PyData.int high_))] := rfl
  rw [e0]
  unfold f_is_integer
  refine c_blk ?_
  refine c_ret ?_
  refine c_andV ?_
  refine c_isa ?_
  refine c_name rfl ?_
  refine isa_pure rfl ?_
  refine andV_m rfl ?_ ?_
  · refine sim_bnd0 ?_
    refine c_andV ?_
    refine c_notV ?_
    refine c_tru ?_
    refine c_isa ?_
    refine c_name rfl ?_
    refine isa_pure rfl ?_
    refine tr_pure rfl rfl ?_
    refine andV_m rfl ?_ ?_
    · refine sim_bnd0 ?_
      refine c_chain ?_
      refine c_name rfl ?_
      refine c_name rfl ?_
      refine cast_s (dec := decI) (enc := PyData.int) (y := id value_) dec_I ?_
      intro h1 hh1
      first | rw [show RV.d (id value_) = RV.d (PyData.int h1) from congrArg RV.d hh1] | rw [show RV.d value_ = RV.d (PyData.int h1) from congrArg RV.d hh1]
      refine ch_p (l := high_) rfl rfl ?_ ?_
      · refine sim_bnd0 ?_
        refine c_name rfl ?_
        exact sim_ret ⟨rfl, rfl⟩
      exact sim_ret ⟨rfl, rfl⟩
    intro b2
    exact sim_ret ⟨rfl, rfl⟩
  intro b3
  refine rt_d ?_
  exact sim_ret ⟨.inl rfl, rfl⟩
def S_is_cell (rows_ : Int) (columns_ : Int) (value_ : PyData) : M (Bool) :=
  (if (!(PyData.isTuple value_)) = true then .ok true else (castM (decT decA) value_ >>= fun h1 =>
  .ok (!eqD ((h1).length : Int) (2 : Int)))) >>= fun b2 =>
  if b2 = true then (.ok false)
  else
  castM (decT decA) value_ >>= fun h3 =>
  ixM h3 (0 : Int) >>= fun it4 =>
  S_is_integer it4 (0 : Int) (rows_ - (1 : Int)) >>= fun r5 =>
  (if r5 = true then (castM (decT decA) value_ >>= fun h6 =>
  ixM h6 (1 : Int) >>= fun it7 =>
  S_is_integer it7 (0 : Int) (columns_ - (1 : Int)) >>= fun r8 =>
  .ok r8) else .ok false) >>= fun b9 =>
  .ok b9
theorem L_is_cell (rows_ : Int) (columns_ : Int) (value_ : PyData) : FSim (F_is_cell [.d (PyData.int rows_), .d (PyData.int columns_), .d (id value_)]) (S_is_cell rows_ columns_ value_) (fun (r : Bool) => Ret.d (PyData.bool r)) (fun (r : Bool) => [.d (PyData.int rows_), .d (PyData.int columns_), .d (id value_)]) := by
  refine fs_mk ?_
  unfold S_is_cell
  refine sim_bnd0 ?_
  have e0 : envOf 3 [.d (PyData.int rows_), .d (PyData.int columns_), .d (id value_)] = [some (.d (PyData.int rows_)), some (.d (PyData.int columns_)), some (.d (id value_))] := rfl
  rw [e0]
  unfold f_is_cell
  refine c_blk ?_
  refine c_ifS ?_
  refine c_or ?_
  refine c_not ?_
  refine c_tru ?_
  refine c_isa ?_
  refine c_name rfl ?_
  refine isa_pure rfl ?_
  refine tr_pure rfl rfl ?_
  refine or_m ?_ ?_
  · refine sim_bnd0 ?_
    refine c_tru ?_
    refine c_bin ?_
    refine c_call ?_
    refine c_pcons ?_
    refine c_name rfl ?_
    refine c_pnil ?_
    refine cast_s (dec := (decT decA)) (enc := (eT id)) (y := id value_) (dec_T dec_A) ?_
    intro h1 hh1
    first | rw [show RV.d (id value_) = RV.d ((eT id) h1) from congrArg RV.d hh1] | rw [show RV.d value_ = RV.d ((eT id) h1) from congrArg RV.d hh1]
    refine cb_pure (xs := [(eT id) h1]) rfl lenT ?_
    refine c_const ?_
    refine b_pure (u := PyData.int ((h1).length : Int)) (v := PyData.int (2 : Int)) rfl rfl (ne_t EqT.I (by decide)) ?_
    refine tr_pure rfl rfl ?_
    exact sim_ret ⟨rfl, rfl⟩
  intro b2
  refine ite_b (fun _ => ?_) (fun _ => ?_)
  · refine c_blk ?_
    refine c_ret ?_
    refine c_const ?_
    refine rt_d ?_
    exact sim_ret ⟨.inl rfl, rfl⟩
  refine c_end ?_
  refine c_blk1 ?_
  refine c_ret ?_
  refine c_andV ?_
  refine c_callF ?_
  refine c_adat ?_
  refine c_take ?_
  refine c_bin ?_
  refine c_name rfl ?_
  refine c_const ?_
  refine cast_s (dec := (decT decA)) (enc := (eT id)) (y := id value_) (dec_T dec_A) ?_
  intro h3 hh3
  first | rw [show RV.d (id value_) = RV.d ((eT id) h3) from congrArg RV.d hh3] | rw [show RV.d value_ = RV.d ((eT id) h3) from congrArg RV.d hh3]
  refine b_part (u := (eT id) h3) rfl rfl (ixS (e := id) (xs := h3) rfl) ?_
  intro it4
  refine t_pure rfl ?_
  refine c_adat ?_
  refine c_take ?_
  refine c_const ?_
  refine t_pure rfl ?_
  refine c_adat ?_
  refine c_take ?_
  refine c_bin ?_
  refine c_name rfl ?_
  refine c_const ?_
  refine b_pure rfl rfl rfl ?_
  refine t_pure rfl ?_
  refine c_anil ?_
  refine cf_s (e2 := fun r5 => [some (.d (PyData.int rows_)), some (.d (PyData.int columns_)), some (.d (id value_))]) (L_is_integer it4 (0 : Int) (rows_ - (1 : Int))) (show List.Nodup ([] : List Nat) by decide) rfl rfl (fun _ => rfl) (fun _ => trivial) ?_
  intro r5
  refine andV_m rfl ?_ ?_
  · refine sim_bnd0 ?_
    refine c_callF ?_
    refine c_adat ?_
    refine c_take ?_
    refine c_bin ?_
    refine c_name rfl ?_
    refine c_const ?_
    refine cast_s (dec := (decT decA)) (enc := (eT id)) (y := id value_) (dec_T dec_A) ?_
    intro h6 hh6
    first | rw [show RV.d (id value_) = RV.d ((eT id) h6) from congrArg RV.d hh6] | rw [show RV.d value_ = RV.d ((eT id) h6) from congrArg RV.d hh6]
    refine b_part (u := (eT id) h6) rfl rfl (ixS (e := id) (xs := h6) rfl) ?_
    intro it7
    refine t_pure rfl ?_
    refine c_adat ?_
    refine c_take ?_
    refine c_const ?_
    refine t_pure rfl ?_
    refine c_adat ?_
    refine c_take ?_
    refine c_bin ?_
    refine c_name rfl ?_
    refine c_const ?_
    refine b_pure rfl rfl rfl ?_
    refine t_pure rfl ?_
    refine c_anil ?_
    refine cf_s (e2 := fun r8 => [some (.d (PyData.int rows_)), some (.d (PyData.int columns_)), some (.d (id value_))]) (L_is_integer it7 (0 : Int) (columns_ - (1 : Int))) (show List.Nodup ([] : List Nat) by decide) rfl rfl (fun _ => rfl) (fun _ => trivial) ?_
    intro r8
    exact sim_ret ⟨rfl, rfl⟩
  intro b9
  refine rt_d ?_
  exact sim_ret ⟨.inl rfl, rfl⟩
def S_cells (rows_ : Int) (columns_ : Int) (value_ : PyData) : M ((List (Int × Int))) :=
  (if (!(PyData.isTuple value_)) = true then .ok true else (castM (decT decA) value_ >>= fun h1 =>
  compP (fun (a2 : PyData) => S_is_cell rows_ columns_ a2 >>= fun r3 =>
  .ok (some r3)) h1 >>= fun xs4 =>
  .ok (!(xs4.all id)))) >>= fun b5 =>
  if b5 = true then (.exc "BadBars" [])
  else
  range1M rows_ >>= fun rng6 =>
  comp2P (fun (a7 : Int) => range1M columns_ >>= fun rng9 =>
  .ok rng9) (fun (a7 : Int) (a8 : Int) => castM (decT decA) value_ >>= fun h10 =>
  inAM ((eP PyData.int PyData.int) (a7, a8)) h10 >>= fun isin11 =>
  if (!isin11) = true then (.ok (some (a7, a8))) else (.ok none)) rng6 >>= fun xs12 =>
  mulM rows_ columns_ >>= fun mul13 =>
  castM (decT decA) value_ >>= fun h14 =>
  if ((decide ((mul13 - ((xs12).length : Int)) < ((h14).length : Int))) || (!(decide ((1 : Int) ≤ ((xs12).length : Int)) && decide (((xs12).length : Int) ≤ (6 : Int))))) = true then (.exc "BadBars" [])
  else
  .ok xs12
theorem L_cells (rows_ : Int) (columns_ : Int) (value_ : PyData) : FSim (F_cells [.d (PyData.int rows_), .d (PyData.int columns_), .d (id value_)]) (S_cells rows_ columns_ value_) (fun (r : (List (Int × Int))) => Ret.d ((eT (eP PyData.int PyData.int)) r)) (fun (r : (List (Int × Int))) => [.d (PyData.int rows_), .d (PyData.int columns_), .d (id value_)]) := by
  refine fs_mk ?_
  unfold S_cells
  refine sim_bnd0 ?_
  have e0 : envOf 7 [.d (PyData.int rows_), .d (PyData.int columns_), .d (id value_)] = [some (.d (PyData.int rows_)), some (.d (PyData.int columns_)), some (.d (id value_)), none, none, none, none] := rfl
  rw [e0]
  unfold f_cells
  refine c_blk ?_
  refine c_ifS ?_
  refine c_or ?_
  refine c_not ?_
  refine c_tru ?_
  refine c_isa ?_
  refine c_name rfl ?_
  refine isa_pure rfl ?_
  refine tr_pure rfl rfl ?_
  refine or_m ?_ ?_
  · refine sim_bnd0 ?_
    refine c_not ?_
    refine c_tru ?_
    refine c_call ?_
    refine c_pcons ?_
    refine c_comp ?_
    refine c_seq ?_
    refine c_name rfl ?_
    refine cast_s (dec := (decT decA)) (enc := (eT id)) (y := id value_) (dec_T dec_A) ?_
    intro h1 hh1
    first | rw [show RV.d (id value_) = RV.d ((eT id) h1) from congrArg RV.d hh1] | rw [show RV.d value_ = RV.d ((eT id) h1) from congrArg RV.d hh1]
    refine sq_T (ds := List.map id h1) rfl ?_
    refine co_p (enc' := PyData.bool) (el := [some (.d (PyData.int rows_)), some (.d (PyData.int columns_)), some (.d (id value_)), none, none, none, none]) rfl (nc_cons rfl datO_none nc_nil) rfl ?_ ?_
    · intro a2
      refine ⟨[some (.d (PyData.int rows_)), some (.d (PyData.int columns_)), some (.d (id value_)), none, some (.d (id a2)), none, none], (bn (e' := [some (.d (PyData.int rows_)), some (.d (PyData.int columns_)), some (.d (id value_)), none, some (.d (id a2)), none, none]) rfl okO_none rfl), ?_⟩
      refine c_turnY ?_
      refine c_take ?_
      refine c_callF ?_
      refine c_adat ?_
      refine c_take ?_
      refine c_name rfl ?_
      refine t_pure rfl ?_
      refine c_adat ?_
      refine c_take ?_
      refine c_name rfl ?_
      refine t_pure rfl ?_
      refine c_adat ?_
      refine c_take ?_
      refine c_name rfl ?_
      refine t_pure rfl ?_
      refine c_anil ?_
      refine cf_s (e2 := fun r3 => [some (.d (PyData.int rows_)), some (.d (PyData.int columns_)), some (.d (id value_)), none, some (.d (id a2)), none, none]) (L_is_cell rows_ columns_ a2) (show List.Nodup ([] : List Nat) by decide) rfl rfl (fun _ => rfl) (fun _ => trivial) ?_
      intro r3
      refine t_pure rfl ?_
      exact sim_ret ⟨rfl, rfl⟩
    intro xs4
    refine c_pnil ?_
    refine cb_pure (xs := [eL PyData.bool xs4]) rfl allL ?_
    refine tr_pure rfl rfl ?_
    exact sim_ret ⟨rfl, rfl⟩
  intro b5
  refine ite_b (fun _ => ?_) (fun _ => ?_)
  · refine c_blk ?_
    exact ra_0 trivial
  refine c_end ?_
  refine c_blk1 ?_
  refine c_frz ?_
  refine c_set ?_
  refine c_comp2 ?_
  refine c_rng1 ?_
  refine c_pcons ?_
  refine c_name rfl ?_
  refine c_pnil ?_
  refine r1_part rfl ?_
  intro rng6
  refine co_2 (enc1 := PyData.int) (enc' := (eP PyData.int PyData.int)) (el := [some (.d (PyData.int rows_)), some (.d (PyData.int columns_)), some (.d (id value_)), none, none, none, none]) rfl (nc_cons rfl datO_none (nc_cons rfl datO_none nc_nil)) rfl ?_ ?_
  · intro a7
    refine ⟨[some (.d (PyData.int rows_)), some (.d (PyData.int columns_)), some (.d (id value_)), none, none, some (.d (PyData.int a7)), none], (bn (e' := [some (.d (PyData.int rows_)), some (.d (PyData.int columns_)), some (.d (id value_)), none, none, some (.d (PyData.int a7)), none]) rfl okO_none rfl), rfl, (nc_cons rfl datO_none nc_nil), ?_, ?_⟩
    · refine sim_bnd0 ?_
      refine c_rng1 ?_
      refine c_pcons ?_
      refine c_name rfl ?_
      refine c_pnil ?_
      refine r1_part rfl ?_
      intro rng9
      exact sim_ret ⟨rfl, rfl⟩
    · intro a8
      refine ⟨[some (.d (PyData.int rows_)), some (.d (PyData.int columns_)), some (.d (id value_)), none, none, some (.d (PyData.int a7)), some (.d (PyData.int a8))], (bn (e' := [some (.d (PyData.int rows_)), some (.d (PyData.int columns_)), some (.d (id value_)), none, none, some (.d (PyData.int a7)), some (.d (PyData.int a8))]) rfl okO_none rfl), ?_⟩
      refine c_turn ?_
      refine c_tru ?_
      refine c_bin ?_
      refine c_tup ?_
      refine c_cons ?_
      refine c_take ?_
      refine c_name rfl ?_
      refine t_pure rfl ?_
      refine c_cons ?_
      refine c_take ?_
      refine c_name rfl ?_
      refine t_pure rfl ?_
      refine c_nil ?_
      refine tu_pure (v := (eP PyData.int PyData.int) (a7, a8)) rfl rfl ?_
      refine c_name rfl ?_
      refine cast_s (dec := (decT decA)) (enc := (eT id)) (y := id value_) (dec_T dec_A) ?_
      intro h10 hh10
      first | rw [show RV.d (id value_) = RV.d ((eT id) h10) from congrArg RV.d hh10] | rw [show RV.d value_ = RV.d ((eT id) h10) from congrArg RV.d hh10]
      refine b_part (u := id ((eP PyData.int PyData.int) (a7, a8))) (v := (eT id) h10) rfl rfl (notinAT (xs := h10) (List.map_id _)) ?_
      intro isin11
      refine tr_pure rfl rfl ?_
      refine ite_s (fun _ => ?_) (fun _ => ?_)
      · refine c_take ?_
        refine c_tup ?_
        refine c_cons ?_
        refine c_take ?_
        refine c_name rfl ?_
        refine t_pure rfl ?_
        refine c_cons ?_
        refine c_take ?_
        refine c_name rfl ?_
        refine t_pure rfl ?_
        refine c_nil ?_
        refine tu_pure (v := (eP PyData.int PyData.int) (a7, a8)) rfl rfl ?_
        refine t_pure rfl ?_
        exact sim_ret ⟨rfl, rfl⟩
      · exact sim_ret ⟨rfl, rfl⟩
  intro xs12
  refine as_t (e' := [some (.d (PyData.int rows_)), some (.d (PyData.int columns_)), some (.d (id value_)), some (.cell .own (.lst (List.map (eP PyData.int PyData.int) xs12))), none, none, none]) rfl okO_none rfl ?_
  refine fz_t (v := (eL (eP PyData.int PyData.int)) xs12) (e' := [some (.d (PyData.int rows_)), some (.d (PyData.int columns_)), some (.d (id value_)), some (.d ((eL (eP PyData.int PyData.int)) xs12)), none, none, none]) rfl ?_
  refine c_blk1 ?_
  refine c_ifS ?_
  refine c_or ?_
  refine c_tru ?_
  refine c_bin ?_
  refine c_bin ?_
  refine c_bin ?_
  refine c_name rfl ?_
  refine c_name rfl ?_
  refine b_part rfl rfl mulS ?_
  intro mul13
  refine c_call ?_
  refine c_pcons ?_
  refine c_name rfl ?_
  refine c_pnil ?_
  refine cb_pure (xs := [(eL (eP PyData.int PyData.int)) xs12]) rfl lenL ?_
  refine b_pure rfl rfl rfl ?_
  refine c_call ?_
  refine c_pcons ?_
  refine c_name rfl ?_
  refine c_pnil ?_
  refine cast_s (dec := (decT decA)) (enc := (eT id)) (y := id value_) (dec_T dec_A) ?_
  intro h14 hh14
  first | rw [show RV.d (id value_) = RV.d ((eT id) h14) from congrArg RV.d hh14] | rw [show RV.d value_ = RV.d ((eT id) h14) from congrArg RV.d hh14]
  refine cb_pure (xs := [(eT id) h14]) rfl lenT ?_
  refine b_pure rfl rfl rfl ?_
  refine tr_pure rfl rfl ?_
  refine or_p (t := (!(decide ((1 : Int) ≤ ((xs12).length : Int)) && decide (((xs12).length : Int) ≤ (6 : Int))))) ?_ ?_
  · refine sim_bnd0 ?_
    refine c_not ?_
    refine c_tru ?_
    refine c_chain ?_
    refine c_const ?_
    refine c_call ?_
    refine c_pcons ?_
    refine c_name rfl ?_
    refine c_pnil ?_
    refine cb_pure (xs := [(eL (eP PyData.int PyData.int)) xs12]) rfl lenL ?_
    refine ch_p (l := (6 : Int)) rfl rfl ?_ ?_
    · refine sim_bnd0 ?_
      refine c_const ?_
      exact sim_ret ⟨rfl, rfl⟩
    refine tr_pure rfl rfl ?_
    exact sim_ret ⟨rfl, rfl⟩
  refine ite_b (fun _ => ?_) (fun _ => ?_)
  · refine c_blk ?_
    exact ra_0 trivial
  refine c_end ?_
  refine c_blk1 ?_
  refine c_ret ?_
  refine c_call ?_
  refine c_pcons ?_
  refine c_name rfl ?_
  refine c_pnil ?_
  refine cb_pure (r := .d (eT (eP PyData.int PyData.int) xs12)) rfl rfl ?_
  refine rt_d ?_
  exact sim_ret ⟨.inl rfl, rfl⟩
def S_table_scale (rows_ : Int) (columns_ : Int) (value_ : PyData) : M ((List (List Int))) :=
  S_cells rows_ columns_ value_ >>= fun r1 =>
  range1M rows_ >>= fun rng2 =>
  compP (fun (a3 : Int) => lenG (List.map (fun (a4 : Int × Int) => (b2i (eqD a4.1 a3))) r1) >>= fun xs5 =>
  .ok (some xs5)) rng2 >>= fun xs6 =>
  range1M columns_ >>= fun rng7 =>
  compP (fun (a8 : Int) => lenG (List.map (fun (a9 : Int × Int) => (b2i (eqD a9.2 a8))) r1) >>= fun xs10 =>
  .ok (some xs10)) rng7 >>= fun xs11 =>
  lenG (xs6 ++ xs11) >>= fun cat12 =>
  .ok cat12
theorem L_table_scale (rows_ : Int) (columns_ : Int) (value_ : PyData) : FSim (F_table_scale [.d (PyData.int rows_), .d (PyData.int columns_), .d (id value_)]) (S_table_scale rows_ columns_ value_) (fun (r : (List (List Int))) => Ret.d ((eT (eT PyData.int)) r)) (fun (r : (List (List Int))) => [.d (PyData.int rows_), .d (PyData.int columns_), .d (id value_)]) := by
  refine fs_mk ?_
  unfold S_table_scale
  refine sim_bnd0 ?_
  have e0 : envOf 8 [.d (PyData.int rows_), .d (PyData.int columns_), .d (id value_)] = [some (.d (PyData.int rows_)), some (.d (PyData.int columns_)), some (.d (id value_)), none, none, none, none, none] := rfl
  rw [e0]
  unfold f_table_scale
  refine c_blk ?_
  refine c_frz ?_
  refine c_set ?_
  refine c_callF ?_
  refine c_adat ?_
  refine c_take ?_
  refine c_name rfl ?_
  refine t_pure rfl ?_
  refine c_adat ?_
  refine c_take ?_
  refine c_name rfl ?_
  refine t_pure rfl ?_
  refine c_adat ?_
  refine c_take ?_
  refine c_name rfl ?_
  refine t_pure rfl ?_
  refine c_anil ?_
  refine cf_s (e2 := fun r1 => [some (.d (PyData.int rows_)), some (.d (PyData.int columns_)), some (.d (id value_)), none, none, none, none, none]) (L_cells rows_ columns_ value_) (show List.Nodup ([] : List Nat) by decide) rfl rfl (fun _ => rfl) (fun _ => trivial) ?_
  intro r1
  refine as_d (e' := [some (.d (PyData.int rows_)), some (.d (PyData.int columns_)), some (.d (id value_)), some (.d ((eT (eP PyData.int PyData.int)) r1)), none, none, none, none]) rfl okO_none rfl ?_
  refine fz_t (v := (eT (eP PyData.int PyData.int)) r1) (e' := [some (.d (PyData.int rows_)), some (.d (PyData.int columns_)), some (.d (id value_)), some (.d ((eT (eP PyData.int PyData.int)) r1)), none, none, none, none]) rfl ?_
  refine c_blk1 ?_
  refine c_frz ?_
  refine c_set ?_
  refine c_comp ?_
  refine c_rng1 ?_
  refine c_pcons ?_
  refine c_name rfl ?_
  refine c_pnil ?_
  refine r1_part rfl ?_
  intro rng2
  refine co_p (enc' := (eT PyData.int)) (el := [some (.d (PyData.int rows_)), some (.d (PyData.int columns_)), some (.d (id value_)), some (.d ((eT (eP PyData.int PyData.int)) r1)), none, none, none, none]) rfl (nc_cons rfl datO_none nc_nil) rfl ?_ ?_
  · intro a3
    refine ⟨[some (.d (PyData.int rows_)), some (.d (PyData.int columns_)), some (.d (id value_)), some (.d ((eT (eP PyData.int PyData.int)) r1)), none, some (.d (PyData.int a3)), none, none], (bn (e' := [some (.d (PyData.int rows_)), some (.d (PyData.int columns_)), some (.d (id value_)), some (.d ((eT (eP PyData.int PyData.int)) r1)), none, some (.d (PyData.int a3)), none, none]) rfl okO_none rfl), ?_⟩
    refine c_turnY ?_
    refine c_take ?_
    refine c_call ?_
    refine c_pcons ?_
    refine c_comp ?_
    refine c_seq ?_
    refine c_name rfl ?_
    refine sq_T (ds := List.map (eP PyData.int PyData.int) r1) rfl ?_
    refine co_m (enc' := PyData.int) (el := [some (.d (PyData.int rows_)), some (.d (PyData.int columns_)), some (.d (id value_)), some (.d ((eT (eP PyData.int PyData.int)) r1)), none, some (.d (PyData.int a3)), none, none]) rfl (nc_cons rfl datO_none nc_nil) rfl ?_ ?_
    · intro a4
      refine ⟨[some (.d (PyData.int rows_)), some (.d (PyData.int columns_)), some (.d (id value_)), some (.d ((eT (eP PyData.int PyData.int)) r1)), none, some (.d (PyData.int a3)), some (.d ((eP PyData.int PyData.int) a4)), none], (bn (e' := [some (.d (PyData.int rows_)), some (.d (PyData.int columns_)), some (.d (id value_)), some (.d ((eT (eP PyData.int PyData.int)) r1)), none, some (.d (PyData.int a3)), some (.d ((eP PyData.int PyData.int) a4)), none]) rfl okO_none rfl), ?_⟩
      refine c_turnY ?_
      refine c_take ?_
      refine c_call ?_
      refine c_pcons ?_
      refine c_bin ?_
      refine c_bin ?_
      refine c_name rfl ?_
      refine c_const ?_
      refine b_pure (u := (eP PyData.int PyData.int) a4) (r := .d (PyData.int a4.1)) rfl rfl rfl ?_
      refine c_name rfl ?_
      refine b_pure (u := PyData.int a4.1) (v := PyData.int a3) rfl rfl (eq_t EqT.I (by decide)) ?_
      refine c_pnil ?_
      refine cb_pure (r := .d (.int (b2i (eqD a4.1 a3)))) rfl rfl ?_
      refine t_pure rfl ?_
      exact sim_ret ⟨rfl, rfl⟩
    intro xs5
    refine c_pnil ?_
    refine cb_pure (r := .d (eT PyData.int xs5)) rfl rfl ?_
    refine t_pure rfl ?_
    exact sim_ret ⟨rfl, rfl⟩
  intro xs6
  refine as_t (e' := [some (.d (PyData.int rows_)), some (.d (PyData.int columns_)), some (.d (id value_)), some (.d ((eT (eP PyData.int PyData.int)) r1)), some (.cell .own (.lst (List.map (eT PyData.int) xs6))), none, none, none]) rfl okO_none rfl ?_
  refine fz_t (v := (eL (eT PyData.int)) xs6) (e' := [some (.d (PyData.int rows_)), some (.d (PyData.int columns_)), some (.d (id value_)), some (.d ((eT (eP PyData.int PyData.int)) r1)), some (.d ((eL (eT PyData.int)) xs6)), none, none, none]) rfl ?_
  refine c_blk1 ?_
  refine c_ret ?_
  refine c_call ?_
  refine c_pcons ?_
  refine c_bin ?_
  refine c_name rfl ?_
  refine c_comp ?_
  refine c_rng1 ?_
  refine c_pcons ?_
  refine c_name rfl ?_
  refine c_pnil ?_
  refine r1_part rfl ?_
  intro rng7
  refine co_p (enc' := (eT PyData.int)) (el := [some (.d (PyData.int rows_)), some (.d (PyData.int columns_)), some (.d (id value_)), some (.d ((eT (eP PyData.int PyData.int)) r1)), some (.d ((eL (eT PyData.int)) xs6)), none, none, none]) rfl (nc_cons rfl datO_none nc_nil) rfl ?_ ?_
  · intro a8
    refine ⟨[some (.d (PyData.int rows_)), some (.d (PyData.int columns_)), some (.d (id value_)), some (.d ((eT (eP PyData.int PyData.int)) r1)), some (.d ((eL (eT PyData.int)) xs6)), none, none, some (.d (PyData.int a8))], (bn (e' := [some (.d (PyData.int rows_)), some (.d (PyData.int columns_)), some (.d (id value_)), some (.d ((eT (eP PyData.int PyData.int)) r1)), some (.d ((eL (eT PyData.int)) xs6)), none, none, some (.d (PyData.int a8))]) rfl okO_none rfl), ?_⟩
    refine c_turnY ?_
    refine c_take ?_
    refine c_call ?_
    refine c_pcons ?_
    refine c_comp ?_
    refine c_seq ?_
    refine c_name rfl ?_
    refine sq_T (ds := List.map (eP PyData.int PyData.int) r1) rfl ?_
    refine co_m (enc' := PyData.int) (el := [some (.d (PyData.int rows_)), some (.d (PyData.int columns_)), some (.d (id value_)), some (.d ((eT (eP PyData.int PyData.int)) r1)), some (.d ((eL (eT PyData.int)) xs6)), none, none, some (.d (PyData.int a8))]) rfl (nc_cons rfl datO_none nc_nil) rfl ?_ ?_
    · intro a9
      refine ⟨[some (.d (PyData.int rows_)), some (.d (PyData.int columns_)), some (.d (id value_)), some (.d ((eT (eP PyData.int PyData.int)) r1)), some (.d ((eL (eT PyData.int)) xs6)), none, some (.d ((eP PyData.int PyData.int) a9)), some (.d (PyData.int a8))], (bn (e' := [some (.d (PyData.int rows_)), some (.d (PyData.int columns_)), some (.d (id value_)), some (.d ((eT (eP PyData.int PyData.int)) r1)), some (.d ((eL (eT PyData.int)) xs6)), none, some (.d ((eP PyData.int PyData.int) a9)), some (.d (PyData.int a8))]) rfl okO_none rfl), ?_⟩
      refine c_turnY ?_
      refine c_take ?_
      refine c_call ?_
      refine c_pcons ?_
      refine c_bin ?_
      refine c_bin ?_
      refine c_name rfl ?_
      refine c_const ?_
      refine b_pure (u := (eP PyData.int PyData.int) a9) (r := .d (PyData.int a9.2)) rfl rfl rfl ?_
      refine c_name rfl ?_
      refine b_pure (u := PyData.int a9.2) (v := PyData.int a8) rfl rfl (eq_t EqT.I (by decide)) ?_
      refine c_pnil ?_
      refine cb_pure (r := .d (.int (b2i (eqD a9.2 a8)))) rfl rfl ?_
      refine t_pure rfl ?_
      exact sim_ret ⟨rfl, rfl⟩
    intro xs10
    refine c_pnil ?_
    refine cb_pure (r := .d (eT PyData.int xs10)) rfl rfl ?_
    refine t_pure rfl ?_
    exact sim_ret ⟨rfl, rfl⟩
  intro xs11
  refine b_part (u := (eL (eT PyData.int)) xs6) (v := (eL (eT PyData.int)) xs11) rfl rfl (catL (e := (eT PyData.int))) ?_
  intro cat12
  refine c_pnil ?_
  refine cb_pure (r := .d (eT (eT PyData.int) cat12)) rfl rfl ?_
  refine rt_d ?_
  exact sim_ret ⟨.inl rfl, rfl⟩
end BH
set_option maxRecDepth 100000
set_option maxHeartbeats 1000000
namespace BH
open PySem PySem.Spec PyProof.Rows L2
/-! ### it goes, and what comes of it -/
section
variable {α β γ δ σ ρ : Type}
def Ok (m : M α) (Q : α → Prop) : Prop := ∃ a, m = .ok a ∧ Q a
theorem ok_ret {a : α} {Q : α → Prop} (h : Q a) : Ok (.ok a) Q := ⟨a, rfl, h⟩
theorem ok_bind {m : M α} {f : α → M β} {P : α → Prop} {Q : β → Prop} (h : Ok m P) (hf : ∀ a, P a → Ok (f a) Q) : Ok (m >>= f) Q := by
  obtain ⟨a, rfl, p⟩ := h; exact hf a p
theorem ok_imp {m : M α} {P Q : α → Prop} (h : Ok m P) (hq : ∀ a, P a → Q a) : Ok m Q := by
  obtain ⟨a, e, p⟩ := h; exact ⟨a, e, hq a p⟩
theorem ok_eq' {m : M α} {a : α} (h : Ok m fun b => b = a) : m = .ok a := by obtain ⟨b, e, rfl⟩ := h; exact e
theorem ok_ite {c : Bool} {m1 m2 : M α} {Q : α → Prop} (h1 : c = true → Ok m1 Q) (h2 : c = false → Ok m2 Q) : Ok (if c = true then m1 else m2) Q := by
  cases c with
  | true => exact h1 rfl
  | false => exact h2 rfl
theorem ok_for {f : α → σ → M σ} (P : Nat → σ → Prop) : ∀ (xs : List α) (k : Nat), (∀ (i : Nat) a s, xs[i]? = some a → P (k + i) s → Ok (f a s) (P (k + i + 1))) → ∀ s, P k s → Ok (forM' f xs s) (P (k + xs.length))
  | [], k, _, s, p => ok_ret p
  | a :: as, k, h, s, p => by
    unfold forM'
    refine ok_bind (h 0 a s rfl p) fun s' p' => ?_
    have := ok_for P as (k + 1) (fun i b t hi q => by
      have := h (i + 1) b t (by simpa using hi) (by rw [← Nat.add_assoc, Nat.add_right_comm]; exact q)
      rw [show k + (i + 1) = k + 1 + i by omega] at this
      exact this) s' p'
    rw [List.length_cons, show k + (as.length + 1) = k + 1 + as.length by omega]
    exact this
theorem ok_forI {f : α → σ → M σ} {xs : List α} {s : σ} (P : σ → Prop) (h : ∀ a s, a ∈ xs → P s → Ok (f a s) P) (h0 : P s) : Ok (forM' f xs s) P :=
  ok_for (fun _ => P) xs 0 (fun i a s hi p => h a s (List.mem_of_getElem? hi) p) s h0
/-- a loop that is never left -/
theorem ok_forT {f : α → σ → M (Lp σ ρ)} {xs : List α} {s : σ} (P : σ → Prop) (h : ∀ a s, a ∈ xs → P s → Ok (f a s) fun l => ∃ s', l = .nx s' ∧ P s') (h0 : P s) : Ok (forL f xs s) fun l => ∃ s', l = .nx s' ∧ P s' := by
  induction xs generalizing s with
  | nil => exact ok_ret ⟨s, rfl, h0⟩
  | cons a as ih =>
    unfold forL
    refine ok_bind (h a s (by simp) h0) fun l hl => ?_
    obtain ⟨s', rfl, p⟩ := hl
    exact ih (fun b t hb => h b t (by simp [hb])) p
end
/-! ### the operations -/
section
variable {α β : Type}
theorem ixM_nat {xs : List α} {n : Nat} {a : α} (h : xs[n]? = some a) : ixM xs (n : Int) = .ok a := by
  have hn := (List.getElem?_eq_some_iff.mp h).1
  unfold ixM atI ixN
  rw [if_pos (by omega), if_pos (by omega)]
  simp [h]
theorem ixM_int {xs : List α} {i : Int} {a : α} (h0 : 0 ≤ i) (h : xs[i.toNat]? = some a) : ixM xs i = .ok a := by
  obtain ⟨n, rfl⟩ := Int.eq_ofNat_of_zero_le h0
  exact ixM_nat (by simpa using h)
theorem ixM_zero {a : α} {xs : List α} : ixM (a :: xs) 0 = .ok a := ixM_nat (n := 0) rfl
theorem ok_ix {xs : List α} {i : Int} (h0 : 0 ≤ i) (h1 : i < xs.length) : Ok (ixM xs i) fun a => a ∈ xs ∧ xs[i.toNat]? = some a := by
  have h : i.toNat < xs.length := by omega
  exact ⟨xs[i.toNat], ixM_int h0 (List.getElem?_eq_getElem h), List.getElem_mem h, List.getElem?_eq_getElem h⟩
theorem setM_nat {xs : List α} {n : Nat} {a : α} (h : n < xs.length) : setM xs (n : Int) a = .ok (xs.set n a) := by
  unfold setM ixN
  rw [if_pos (by omega), if_pos (by omega)]
  simp
theorem lenG_ok {xs : List α} (h : xs.length ≤ lim) : lenG xs = .ok xs := by unfold lenG; rw [if_pos h]
theorem mulM_ok {i j : Int} (h : mulG i j) : mulM i j = .ok (i * j) := by unfold mulM; rw [if_pos h]
theorem mulM_l {i j : Int} (h : -(2 ^ 64) < i) (h' : i < 2 ^ 64) : mulM i j = .ok (i * j) := mulM_ok (.inl (.inl ⟨h, h'⟩))
theorem mulM_r {i j : Int} (h : -(2 ^ 64) < j) (h' : j < 2 ^ 64) : mulM i j = .ok (i * j) := mulM_ok (.inl (.inr ⟨h, h'⟩))
theorem log_small {j : Int} (h0 : 0 < j) (h : j < 2 ^ 64) : j.natAbs.log2 < 9000 := by
  have h2 : j.natAbs < 2 ^ 64 := by omega
  have : j.natAbs.log2 < 64 := (Nat.log2_lt (by omega)).mpr h2
  omega
theorem divM_ok {i j : Int} (h0 : 0 < j) (h : j < 2 ^ 64) : divM i j = .ok (i / j) := by
  unfold divM
  rw [if_pos ⟨h0, log_small h0 h⟩]
theorem modM_ok {i j : Int} (h0 : 0 < j) : modM i j = .ok (i % j) := by unfold modM; rw [if_pos h0]
theorem range1M_ok {n : Nat} (h : n < 2 ^ 62) : range1M (n : Int) = .ok (rangeZ 0 n) := by
  unfold range1M
  rw [if_pos ⟨by omega, by omega⟩]; simp
theorem range2M_ok {i j : Int} (h1 : -(2 ^ 62) ≤ i) (h2 : i < 2 ^ 62) (h3 : -(2 ^ 62) ≤ j) (h4 : j < 2 ^ 62) : range2M i j = .ok (rangeZ i (j - i).toNat) := by
  unfold range2M
  rw [if_pos ⟨⟨h1, h2⟩, ⟨h3, h4⟩⟩]
theorem appM_ok {xs : List α} {a : α} (h : xs.length < lim) : appM xs a = .ok (xs ++ [a]) := by unfold appM; rw [if_pos h]
@[simp] theorem rangeZ_length (lo : Int) (n : Nat) : (rangeZ lo n).length = n := by simp [rangeZ]
theorem rangeZ_mem {lo : Int} {n : Nat} {x : Int} : x ∈ rangeZ lo n ↔ lo ≤ x ∧ x < lo + n := by
  simp only [rangeZ, List.mem_map, List.mem_range]
  constructor
  · rintro ⟨a, h, rfl⟩; omega
  · intro h; exact ⟨(x - lo).toNat, by omega, by omega⟩
theorem rangeZ_get {lo : Int} {n i : Nat} (h : i < n) : (rangeZ lo n)[i]? = some (lo + i) := by simp [rangeZ, h]
theorem cutD_take {xs : List α} {n : Nat} : cutD xs none (some (n : Int)) = xs.take n := by
  unfold cutD
  rw [HT.sIx_none, HT.sIx_nat, Nat.sub_zero, List.drop_zero]
  by_cases h : n ≤ xs.length
  · rw [Nat.min_eq_left h]
  · rw [Nat.min_eq_right (by omega), List.take_of_length_le (Nat.le_refl _), List.take_of_length_le (by omega)]
theorem cutD_drop {xs : List α} {n : Nat} : cutD xs (some (n : Int)) none = xs.drop n := by
  unfold cutD
  rw [HT.sIx_none, HT.sIx_nat]
  by_cases h : n ≤ xs.length
  · rw [Nat.min_eq_left h, List.take_of_length_le (by simp)]
  · rw [Nat.min_eq_right (by omega), List.drop_of_length_le (Nat.le_refl _), List.drop_of_length_le (by omega)]
    simp
end
end BH
set_option maxRecDepth 100000
set_option maxHeartbeats 1000000
namespace BH
open PySem PySem.Spec PyProof.Rows L2
/-! ### draws -/
def Dk (d : List Int) : Prop := d.length = 3
theorem Dk.get {d : List Int} (h : Dk d) : ∃ g m t, d = [g, m, t] := by
  match d, h with
  | [g, m, t], _ => exact ⟨g, m, t, rfl⟩
theorem draw_ok {d : List Int} {n : Int} (h : Dk d) (h0 : 0 < n) (hn : n < 2 ^ 64) : Ok (S_law_draw d n) fun r => 0 ≤ r.1 ∧ r.1 < n ∧ Dk r.2 := by
  obtain ⟨g, m, t, rfl⟩ := h.get
  have e0 : ∀ g m t : Int, ixM [g, m, t] 0 = .ok g := fun _ _ _ => ixM_int (by decide) rfl
  have e1 : ∀ g m t : Int, ixM [g, m, t] 1 = .ok m := fun _ _ _ => ixM_int (by decide) rfl
  have e2 : ∀ g m t : Int, ixM [g, m, t] 2 = .ok t := fun _ _ _ => ixM_int (by decide) rfl
  have s0 : ∀ g m t q : Int, setM [g, m, t] 0 q = .ok [q, m, t] := fun _ _ _ _ => setM_nat (n := 0) (by simp)
  have s2 : ∀ g m t q : Int, setM [g, m, t] 2 q = .ok [g, m, q] := fun _ _ _ _ => setM_nat (n := 2) (by simp)
  unfold S_law_draw
  simp only [e0, e1, e2, s0, s2, M.ok_bind, modM_ok h0, divM_ok h0 hn]
  refine ok_ite (fun _ => ok_ret ⟨Int.emod_nonneg _ (by omega), Int.emod_lt_of_pos _ h0, rfl⟩) fun _ => ?_
  rw [mulM_r (by omega) (by omega)]
  simp only [M.ok_bind]
  rw [mulM_r (by omega) (by omega)]
  exact ok_ret ⟨Int.emod_nonneg _ (by omega), Int.emod_lt_of_pos _ h0, rfl⟩
theorem pick_ok {α : Type} {d : List Int} {xs : List α} (h : Dk d) (h0 : xs ≠ []) (hl : xs.length ≤ lim) : Ok (S_law_pick d xs) fun r => r.1 ∈ xs ∧ Dk r.2 := by
  unfold S_law_pick
  have : 0 < xs.length := List.length_pos_iff.mpr h0
  refine ok_bind (draw_ok h (by omega) (by unfold lim at hl; omega)) fun r hr => ?_
  refine ok_bind (ok_ix hr.1 hr.2.1) fun a ha => ok_ret ⟨ha.1, hr.2.2⟩
theorem deck_ok (ns : List Int) : Ok (S_law_deck ns) Dk := by
  unfold S_law_deck
  refine ok_bind (P := fun _ => True) (ok_forI (fun _ => True) (fun a s _ _ => ?_) trivial) fun s _ => ok_ret rfl
  refine ok_bind (P := fun _ => True) (ok_ite (fun _ => ok_ret trivial) fun _ => ok_ret trivial) fun _ _ => ok_ret trivial
/-! ### elimination -/
def ex (E n : Nat) : Nat := (E + 1) * 2 ^ n - 1
/-- rows of one length, their numbers below a power of two -/
def Lim (kd e : Nat) (W : List (List Int)) : Prop := ∀ r ∈ W, r.length = kd ∧ ∀ x ∈ r, x.natAbs < 2 ^ e
theorem Lim.mono {kd e e' : Nat} {W : List (List Int)} (h : Lim kd e W) (he : e ≤ e') : Lim kd e' W := fun r hr => ⟨(h r hr).1, fun x hx => Nat.lt_of_lt_of_le ((h r hr).2 x hx) (Nat.pow_le_pow_right (by decide) he)⟩
end BH
set_option maxRecDepth 100000
set_option maxHeartbeats 1000000
namespace BH
open PySem PySem.Spec PyProof.Rows L2
/-- scales as drawn -/
structure Sc (W : List (List Int)) (kd : Nat) : Prop where
  ne : W ≠ []
  len : W.length ≤ 6
  k1 : 1 ≤ kd
  k6 : kd ≤ 6
  mat : ∀ r ∈ W, r.length = kd ∧ ∀ x ∈ r, 0 ≤ x ∧ x ≤ 6
  col : ∀ j, j < kd → ∃ r ∈ W, ∃ x, r[j]? = some x ∧ 0 < x
  one : W.length = 1 → kd ≤ 4
  bin : W.length ≠ 1 → ∀ r ∈ W, ∀ x ∈ r, x ≤ 1
  free : W.length ≠ 1 → Ok (S_law_rank W) fun r => (kd : Int) - r ≤ 3
end BH
set_option maxRecDepth 100000
set_option maxHeartbeats 1000000
set_option maxRecDepth 100000
set_option maxHeartbeats 1000000
namespace BH
open PySem PySem.Spec PyProof.Rows L2
/-! ### sums -/
def dotZ (r h : List Int) : Int := ((List.zip r h).map fun p => p.1 * p.2).sum
def sumsZ (W : List (List Int)) (h : List Int) : List Int := W.map fun r => dotZ r h
@[simp] theorem sumsZ_length (W : List (List Int)) (h : List Int) : (sumsZ W h).length = W.length := by simp [sumsZ]
/-! ### heaps -/
end BH
set_option maxRecDepth 100000
set_option maxHeartbeats 1000000
namespace BH
open PySem PySem.Spec PyProof.Rows L2
structure Wt (W : List (List Int)) (kd : Nat) : Prop where
  ne : W ≠ []
  len : W.length ≤ 1000
  k1 : 1 ≤ kd
  k6 : kd ≤ 1000
  mat : ∀ r ∈ W, r.length = kd ∧ ∀ x ∈ r, 0 ≤ x ∧ x < 2 ^ 64
  col : ∀ j, j < kd → ∃ r ∈ W, ∃ x, r[j]? = some x ∧ 0 < x
theorem Sc.wt {W : List (List Int)} {kd : Nat} (h : Sc W kd) : Wt W kd :=
  ⟨h.ne, by have := h.len; omega, h.k1, by have := h.k6; omega, fun r hr => ⟨(h.mat r hr).1, fun x hx => by have := (h.mat r hr).2 x hx; omega⟩, h.col⟩
end BH
set_option maxRecDepth 100000
set_option maxHeartbeats 1000000
set_option maxRecDepth 100000
set_option maxHeartbeats 1000000
set_option maxRecDepth 100000
set_option maxHeartbeats 1000000
set_option maxRecDepth 100000
set_option maxHeartbeats 1000000
namespace BH
open PySem PySem.Spec PyProof.Rows L2
section
variable {W : List (List Int)} {kd B : Nat} {sums : List Int}
theorem Sc.hd (hW : Sc W kd) : ∃ r0, ixM W 0 = .ok r0 ∧ r0.length = kd := by
  obtain ⟨r0, W0, e0⟩ : ∃ r l, W = r :: l := by cases q : W with
    | nil => exact absurd q hW.ne
    | cons r l => exact ⟨r, l, rfl⟩
  exact ⟨r0, by rw [e0]; exact ixM_zero, (hW.mat r0 (by rw [e0]; simp)).1⟩
end
end BH
set_option maxRecDepth 100000
set_option maxHeartbeats 1000000
namespace BH
open PySem PySem.Spec PyProof.Rows L2
/-! ### repr -/
theorem strOk_of (s : String) : PyData.strOk (Str.ofString s) = true := by
  rw [Str.ofString_eq_toList]
  unfold PyData.strOk
  simp only [List.all_toArray, List.all_map, List.all_eq_true, Function.comp_apply, decide_eq_true_eq]
  intro c _
  have := c.valid
  have h : c.toNat.isValidChar := this
  rcases h with h | h <;> omega
theorem strOk_app (x y : Str) (hx : PyData.strOk x = true) (hy : PyData.strOk y = true) : PyData.strOk (x ++ y) = true := by
  show (x.cps ++ y.cps).all _ = true
  rw [Array.all_append]
  simp only [Bool.and_eq_true]
  exact ⟨hx, hy⟩
theorem strOk_join : ∀ ts : List Str, (∀ t ∈ ts, PyData.strOk t = true) → PyData.strOk (Str.join ", " ts) = true
  | [], _ => by simp [Str.join, Str.empty, PyData.strOk]
  | [x], h => h x (by simp)
  | x :: y :: r, h => by
    show PyData.strOk (x ++ ", " ++ Str.join ", " (y :: r)) = true
    exact strOk_app _ _ (strOk_app _ _ (h x (by simp)) (strOk_of ", ")) (strOk_join (y :: r) fun t ht => h t (by simp [ht]))
structure Sm (w d : Nat) (x : PyData) : Prop where
  le : x.leavesShort 20 = true
  sh : x.showable = true
  nd : x.hasDict = false
  ok : PyData.strOk x.shown = true
  wt : x.weight ≤ w
  dp : x.depth ≤ d
theorem sm_int {i : Int} (h : i.natAbs < 10000) : Sm 15 0 (.int i) := by
  have hl : i.natAbs ≠ 0 → i.natAbs.log2 < 14 := fun z => (Nat.log2_lt z).mpr (by omega)
  have hl2 : i.natAbs.log2 < 14 := by
    by_cases z : i.natAbs = 0
    · rw [z]; decide
    · exact hl z
  refine ⟨?_, ?_, by simp only [PyData.hasDict], ?_, ?_, by simp only [PyData.depth]; omega⟩
  · simp only [PyData.leavesShort]
    refine decide_eq_true ?_
    have := int_text_length_le10 (a := i) (k := 4) (by decide) (by omega)
    have e : (PyData.int i).shown.length = (toString i).length := by rw [PyData.shown_int, PySem.ofString_length]
    omega
  · simp only [PyData.showable, decide_eq_true_eq]; omega
  · simp only [PyData.shown]; exact strOk_of _
  · simp only [PyData.weight]
    split <;> omega
theorem sm_all {w d : Nat} : ∀ {xs : List PyData}, (∀ x ∈ xs, Sm w d x) → PyData.leavesShortAll 20 xs = true ∧ PyData.showableAll xs = true ∧ PyData.hasDictAll xs = false ∧ (∀ t ∈ PyData.shownAll xs, PyData.strOk t = true) ∧ PyData.weightAll xs ≤ (w + 1) * xs.length ∧ PyData.depthAll xs ≤ d
  | [], _ => by simp [PyData.leavesShortAll, PyData.showableAll, PyData.hasDictAll, PyData.shownAll, PyData.weightAll, PyData.depthAll]
  | x :: xs, h => by
    obtain ⟨h1, h2, h3, h4, h5, h6⟩ := sm_all fun y hy => h y (List.mem_cons_of_mem _ hy)
    have hx := h x List.mem_cons_self
    refine ⟨?_, ?_, ?_, ?_, ?_, ?_⟩
    · simp only [PyData.leavesShortAll, hx.le, h1, Bool.and_self]
    · simp only [PyData.showableAll, hx.sh, h2, Bool.and_self]
    · simp only [PyData.hasDictAll, hx.nd, h3, Bool.or_self]
    · simp only [PyData.shownAll, List.mem_cons]
      rintro t (rfl | ht)
      · exact hx.ok
      · exact h4 t ht
    · simp only [PyData.weightAll, List.length_cons, Nat.mul_add, Nat.mul_one]
      have := hx.wt
      omega
    · simp only [PyData.depthAll]
      have := hx.dp
      omega
theorem sm_tuple {w d n : Nat} {xs : List PyData} (h : ∀ x ∈ xs, Sm w d x) (hn : xs.length ≤ n) : Sm ((w + 1) * n) (d + 1) (.tuple xs) := by
  obtain ⟨h1, h2, h3, h4, h5, h6⟩ := sm_all h
  have h7 : (w + 1) * xs.length ≤ (w + 1) * n := Nat.mul_le_mul_left _ hn
  refine ⟨by simp only [PyData.leavesShort, h1], by simp only [PyData.showable, h2], by simp only [PyData.hasDict, h3], ?_, by simp only [PyData.weight]; omega, by simp only [PyData.depth]; omega⟩
  rw [PyData.shown_tuple]
  exact strOk_app _ _ (strOk_app _ _ (strOk_of "(") (strOk_join _ h4)) (strOk_of _)
theorem Sm.mono {w d w' d' : Nat} {x : PyData} (h : Sm w d x) (hw : w ≤ w') (hd : d ≤ d') : Sm w' d' x := ⟨h.le, h.sh, h.nd, h.ok, Nat.le_trans h.wt hw, Nat.le_trans h.dp hd⟩
theorem Sm.len {w d : Nat} {x : PyData} (h : Sm w d x) (hw : w ≤ 100000) : x.shown.length ≤ lim := by
  have h1 := PyData.shown_le 20 (by decide) x h.le
  have h2 : 22 * x.weight ≤ 22 * 100000 := Nat.mul_le_mul_left _ (Nat.le_trans h.wt hw)
  unfold lim
  omega
theorem Sm.repr {w d : Nat} {x : PyData} (h : Sm w d x) (hw : w ≤ 100000) (hd : d ≤ 60) : reprM x = .ok x.shown := by
  unfold reprM
  exact if_pos ⟨h.sh, Nat.le_trans h.dp hd, h.len hw⟩
theorem sm_pair {w d : Nat} {x y : PyData} (hx : Sm w d x) (hy : Sm w d y) : Sm ((w + 1) * 2) (d + 1) (.tuple [x, y]) :=
  sm_tuple (fun z hz => by
    rcases List.mem_cons.mp hz with rfl | hz
    · exact hx
    · rw [List.mem_singleton] at hz; subst hz; exact hy) (by simp)
theorem eqS_same {s : Str} (h : PyData.strOk s = true) : eqSM s s = .ok true := by
  unfold eqSM
  have : SeqAt.shaped (.str s) = true := by simp [SeqAt.shaped, PyData.canLay0, PyData.depth, h]
  rw [if_pos ⟨this, this⟩]; simp
theorem Sm.same {w d : Nat} {x : PyData} (h : Sm w d x) : eqSM x.shown x.shown = .ok true := eqS_same h.ok
end BH
set_option maxRecDepth 100000
set_option maxHeartbeats 1000000
namespace BH
open PySem PySem.Spec PyProof.Rows L2
/-! ### repr of greater numbers -/
structure Sg (w d : Nat) (x : PyData) : Prop where
  le : x.leavesShort 60 = true
  sh : x.showable = true
  nd : True
  ok : PyData.strOk x.shown = true
  wt : x.weight ≤ w
  dp : x.depth ≤ d
theorem sg_int {i : Int} (h : i.natAbs < 10 ^ 50) : Sg 170 0 (.int i) := by
  have hl2 : i.natAbs.log2 < 169 := by
    by_cases z : i.natAbs = 0
    · rw [z]; decide
    · exact (Nat.log2_lt z).mpr (Nat.lt_of_lt_of_le h (by decide))
  refine ⟨?_, ?_, trivial, ?_, ?_, by simp only [PyData.depth]; omega⟩
  · simp only [PyData.leavesShort]
    refine decide_eq_true ?_
    have := int_text_length_le10 (a := i) (k := 50) (by decide) h
    have e : (PyData.int i).shown.length = (toString i).length := by rw [PyData.shown_int, PySem.ofString_length]
    omega
  · simp only [PyData.showable, decide_eq_true_eq]; omega
  · simp only [PyData.shown]; exact strOk_of _
  · simp only [PyData.weight]
    split <;> omega
theorem sg_all {w d : Nat} : ∀ {xs : List PyData}, (∀ x ∈ xs, Sg w d x) → PyData.leavesShortAll 60 xs = true ∧ PyData.showableAll xs = true ∧ True ∧ (∀ t ∈ PyData.shownAll xs, PyData.strOk t = true) ∧ PyData.weightAll xs ≤ (w + 1) * xs.length ∧ PyData.depthAll xs ≤ d
  | [], _ => by simp [PyData.leavesShortAll, PyData.showableAll, PyData.shownAll, PyData.weightAll, PyData.depthAll]
  | x :: xs, h => by
    obtain ⟨h1, h2, h3, h4, h5, h6⟩ := sg_all fun y hy => h y (List.mem_cons_of_mem _ hy)
    have hx := h x List.mem_cons_self
    refine ⟨?_, ?_, ?_, ?_, ?_, ?_⟩
    · simp only [PyData.leavesShortAll, hx.le, h1, Bool.and_self]
    · simp only [PyData.showableAll, hx.sh, h2, Bool.and_self]
    · trivial
    · simp only [PyData.shownAll, List.mem_cons]
      rintro t (rfl | ht)
      · exact hx.ok
      · exact h4 t ht
    · simp only [PyData.weightAll, List.length_cons, Nat.mul_add, Nat.mul_one]
      have := hx.wt
      omega
    · simp only [PyData.depthAll]
      have := hx.dp
      omega
theorem sg_tuple {w d n : Nat} {xs : List PyData} (h : ∀ x ∈ xs, Sg w d x) (hn : xs.length ≤ n) : Sg ((w + 1) * n) (d + 1) (.tuple xs) := by
  obtain ⟨h1, h2, h3, h4, h5, h6⟩ := sg_all h
  have h7 : (w + 1) * xs.length ≤ (w + 1) * n := Nat.mul_le_mul_left _ hn
  refine ⟨by simp only [PyData.leavesShort, h1], by simp only [PyData.showable, h2], trivial, ?_, by simp only [PyData.weight]; omega, by simp only [PyData.depth]; omega⟩
  rw [PyData.shown_tuple]
  exact strOk_app _ _ (strOk_app _ _ (strOk_of "(") (strOk_join _ h4)) (strOk_of _)
theorem sg_list {w d n : Nat} {xs : List PyData} (h : ∀ x ∈ xs, Sg w d x) (hn : xs.length ≤ n) : Sg ((w + 1) * n) (d + 1) (.list xs) := by
  obtain ⟨h1, h2, h3, h4, h5, h6⟩ := sg_all h
  have h7 : (w + 1) * xs.length ≤ (w + 1) * n := Nat.mul_le_mul_left _ hn
  refine ⟨by simp only [PyData.leavesShort, h1], by simp only [PyData.showable, h2], trivial, ?_, by simp only [PyData.weight]; omega, by simp only [PyData.depth]; omega⟩
  rw [PyData.shown_list]
  exact strOk_app _ _ (strOk_app _ _ (strOk_of "[") (strOk_join _ h4)) (strOk_of "]")
theorem Sg.mono {w d w' d' : Nat} {x : PyData} (h : Sg w d x) (hw : w ≤ w') (hd : d ≤ d') : Sg w' d' x := ⟨h.le, h.sh, h.nd, h.ok, Nat.le_trans h.wt hw, Nat.le_trans h.dp hd⟩
theorem Sg.len {w d : Nat} {x : PyData} (h : Sg w d x) (hw : w ≤ 100000) : x.shown.length ≤ lim := by
  have h1 := PyData.shown_le 60 (by decide) x h.le
  have h2 : 62 * x.weight ≤ 62 * 100000 := Nat.mul_le_mul_left _ (Nat.le_trans h.wt hw)
  unfold lim
  omega
theorem sg_bool {w d : Nat} (b : Bool) : Sg w d (.bool b) := by
  refine ⟨?_, by simp only [PyData.showable], trivial, ?_, by simp only [PyData.weight]; omega, by simp only [PyData.depth]; omega⟩
  · cases b <;> simp [PyData.leavesShort]
  · simp only [PyData.shown]; cases b <;> exact strOk_of _
theorem sg_none {w d : Nat} : Sg w d .none := by
  refine ⟨by simp [PyData.leavesShort], by simp only [PyData.showable], trivial, ?_, by simp only [PyData.weight]; omega, by simp only [PyData.depth]; omega⟩
  simp only [PyData.shown]; exact strOk_of _
theorem Sg.repr {w d : Nat} {x : PyData} (h : Sg w d x) (hw : w ≤ 100000) (hd : d ≤ 60) : reprM x = .ok x.shown := by
  unfold reprM
  exact if_pos ⟨h.sh, Nat.le_trans h.dp hd, h.len hw⟩
theorem sg_pair {w d : Nat} {x y : PyData} (hx : Sg w d x) (hy : Sg w d y) : Sg ((w + 1) * 2) (d + 1) (.tuple [x, y]) :=
  sg_tuple (fun z hz => by
    rcases List.mem_cons.mp hz with rfl | hz
    · exact hx
    · rw [List.mem_singleton] at hz; subst hz; exact hy) (by simp)
theorem sg_dict : Sg 170 1 (.dict []) := ⟨by decide +kernel, by decide +kernel, trivial, by decide +kernel, by decide +kernel, by decide +kernel⟩
theorem Sg.same {w d : Nat} {x : PyData} (h : Sg w d x) : eqSM x.shown x.shown = .ok true := eqS_same h.ok
end BH
set_option maxRecDepth 100000
set_option maxHeartbeats 1000000
namespace BH
open PySem PySem.Spec PyProof.Rows L2
/-! ### rows that span -/
def fn (r : List Int) : Nat → Int := fun x => r.getD x 0
inductive Sp (F : List (List Int)) : (Nat → Int) → Prop
  | zero : Sp F fun _ => 0
  | row {r : List Int} : r ∈ F → Sp F (fn r)
  | comb {u v : Nat → Int} (a b : Int) : Sp F u → Sp F v → Sp F fun x => a * u x + b * v x
  | div {u : Nat → Int} (a : Int) : a ≠ 0 → Sp F (fun x => a * u x) → Sp F u
theorem Sp.trans {A B : List (List Int)} (h : ∀ r ∈ A, Sp B (fn r)) {v : Nat → Int} (p : Sp A v) : Sp B v := by
  induction p with
  | zero => exact .zero
  | row hr => exact h _ hr
  | comb a b _ _ i1 i2 => exact .comb a b i1 i2
  | div a ha _ i => exact .div a ha i
theorem Sp.kill {A : List (List Int)} {c : Nat} (h : ∀ r ∈ A, fn r c = 0) {v : Nat → Int} (p : Sp A v) : v c = 0 := by
  induction p with
  | zero => rfl
  | row hr => exact h _ hr
  | comb a b _ _ i1 i2 => simp only [i1, i2]; simp
  | div a ha _ i => exact (Int.mul_eq_zero.mp i).resolve_left ha
theorem Sp.nil {v : Nat → Int} (p : Sp [] v) (x : Nat) : v x = 0 := p.kill fun r hr => absurd hr (by simp)
theorem Sp.mono {A B : List (List Int)} (h : ∀ r ∈ A, r ∈ B) {v : Nat → Int} (p : Sp A v) : Sp B v := p.trans fun r hr => .row (h r hr)
/-! ### reduced rows -/
def gcdZ (r : List Int) : Nat := r.foldl (fun g x => Nat.gcd g x.natAbs) 0
end BH
set_option maxRecDepth 100000
set_option maxHeartbeats 1000000
namespace BH
open PySem PySem.Spec PyProof.Rows L2
/-! ### the primitive row -/
def leadZ (r : List Int) : Int := (r.filter fun x => !eqD x 0).headD 0
def primZ (r : List Int) : List Int := if gcdZ r = 0 then r else r.map fun x => if 0 < leadZ r then x / (gcdZ r : Int) else -(x / (gcdZ r : Int))
@[simp] theorem prim_len (r : List Int) : (primZ r).length = r.length := by unfold primZ; split <;> simp
/-! ### the turns -/
def posZ (W : List (List Int)) (j : Nat) : Option Nat := W.findIdx? fun r => !eqD (fn r j) 0
/-! ### the same number of rows -/
def Mu (kd : Nat) (a b : List Int) : Prop := a.length = kd ∧ b.length = kd ∧ ∃ m n : Int, m ≠ 0 ∧ n ≠ 0 ∧ ∀ x, m * fn a x = n * fn b x
theorem Mu.zero {kd : Nat} {a b : List Int} (h : Mu kd a b) (x : Nat) : fn a x = 0 ↔ fn b x = 0 := by
  obtain ⟨_, _, m, n, hm, hn, e⟩ := h
  have := e x
  constructor
  · intro q; rw [q, Int.mul_zero] at this; exact (Int.mul_eq_zero.mp this.symm).resolve_left hn
  · intro q; rw [q, Int.mul_zero] at this; exact (Int.mul_eq_zero.mp this).resolve_left hm
def Rl (R : List Int → List Int → Prop) : List (List Int) → List (List Int) → Prop
  | [], [] => True
  | a :: as, b :: bs => R a b ∧ Rl R as bs
  | _, _ => False
section
variable {R S : List Int → List Int → Prop}
theorem Rl.take : ∀ {a b : List (List Int)} (n : Nat), Rl R a b → Rl R (a.take n) (b.take n)
  | [], [], n, _ => by simp [Rl]
  | _ :: _, _ :: _, 0, h => trivial
  | _ :: _, _ :: _, n + 1, h => ⟨h.1, Rl.take n h.2⟩
  | [], _ :: _, _, h => h.elim
  | _ :: _, [], _, h => h.elim
theorem Rl.drop : ∀ {a b : List (List Int)} (n : Nat), Rl R a b → Rl R (a.drop n) (b.drop n)
  | [], [], n, _ => by simp [Rl]
  | _ :: _, _ :: _, 0, h => h
  | _ :: _, _ :: _, n + 1, h => Rl.drop n h.2
  | [], _ :: _, _, h => h.elim
  | _ :: _, [], _, h => h.elim
theorem Rl.map {f g : List Int → List Int} (q : ∀ x y, R x y → S (f x) (g y)) : ∀ {a b : List (List Int)}, Rl R a b → Rl S (a.map f) (b.map g)
  | [], [], _ => trivial
  | _ :: _, _ :: _, h => ⟨q _ _ h.1, Rl.map q h.2⟩
  | [], _ :: _, h => h.elim
  | _ :: _, [], h => h.elim
theorem Rl.get : ∀ {a b : List (List Int)} {n : Nat} {x y : List Int}, Rl R a b → a[n]? = some x → b[n]? = some y → R x y
  | _ :: _, _ :: _, 0, _, _, h, hx, hy => by simp at hx hy; subst hx hy; exact h.1
  | _ :: _, _ :: _, n + 1, _, _, h, hx, hy => Rl.get (n := n) h.2 (by simpa using hx) (by simpa using hy)
  | [], [], _, _, _, _, hx, _ => by simp at hx
  | [], _ :: _, _, _, _, h, _, _ => h.elim
  | _ :: _, [], _, _, _, h, _, _ => h.elim
end
theorem Rl.pos {kd j : Nat} : ∀ {a b : List (List Int)}, Rl (Mu kd) a b → posZ a j = posZ b j
  | [], [], _ => rfl
  | x :: a, y :: b, h => by
    have e : (!eqD (fn x j) 0) = (!eqD (fn y j) 0) := by
      have := h.1.zero j
      by_cases q : fn x j = 0
      · rw [q, this.mp q]
      · have q' : fn y j ≠ 0 := fun w => q (this.mpr w)
        simp [eqD, q, q']
    have i := Rl.pos (j := j) h.2
    unfold posZ at i ⊢
    rw [List.findIdx?_cons, List.findIdx?_cons, e, i]
  | [], _ :: _, h => h.elim
  | _ :: _, [], h => h.elim
end BH
set_option maxRecDepth 100000
set_option maxHeartbeats 1000000
set_option maxRecDepth 100000
set_option maxHeartbeats 1000000
set_option maxRecDepth 100000
set_option maxHeartbeats 1000000
namespace BH
open PySem PySem.Spec PyProof.Rows L2
theorem popM_nat {α : Type} {xs : List α} {k : Nat} (h : k < xs.length) (h' : k < 2 ^ 63) : popM xs (k : Int) = .ok (xs[k], xs.eraseIdx k) := by
  have e : ixN xs.length (k : Int) = some k := by
    unfold ixN
    split
    · simp; omega
    · omega
  unfold popM
  rw [if_pos (by omega), e]
  simp only [List.getElem?_eq_getElem h]
end BH
set_option maxRecDepth 100000
set_option maxHeartbeats 1000000
namespace BH
open PySem PySem.Spec PyProof.Rows L2
/-! ### tables: cells and bars -/
abbrev Cel := Int × Int
def spotsZ (rows cols : Nat) : List Cel := (rangeZ 0 rows).flatMap fun r => (rangeZ 0 cols).map fun c => (r, c)
def freeC (rows cols : Nat) (bars : List Cel) : List Cel := (spotsZ rows cols).filter fun p => !memD p bars
theorem nodup_range (lo : Int) (n : Nat) : (rangeZ lo n).Nodup := by
  unfold rangeZ
  rw [List.nodup_iff_pairwise_ne, List.pairwise_map]
  exact (List.nodup_iff_pairwise_ne.mp List.nodup_range).imp fun h e => h (by omega)
theorem spots_mem {rows cols : Nat} {p : Cel} : p ∈ spotsZ rows cols ↔ 0 ≤ p.1 ∧ p.1 < rows ∧ 0 ≤ p.2 ∧ p.2 < cols := by
  unfold spotsZ
  simp only [List.mem_flatMap, List.mem_map, rangeZ_mem]
  constructor
  · rintro ⟨r, h1, c, h2, rfl⟩
    dsimp only
    omega
  · rintro ⟨h1, h2, h3, h4⟩
    exact ⟨p.1, ⟨h1, by omega⟩, p.2, ⟨h3, by omega⟩, rfl⟩
theorem spots_nodup (rows cols : Nat) : (spotsZ rows cols).Nodup := by
  unfold spotsZ
  rw [List.nodup_iff_pairwise_ne, List.pairwise_flatMap]
  refine ⟨fun r _ => ?_, ?_⟩
  · rw [List.pairwise_map]
    exact (List.nodup_iff_pairwise_ne.mp (nodup_range 0 cols)).imp fun h e => h (congrArg Prod.snd e)
  · refine (List.nodup_iff_pairwise_ne.mp (nodup_range 0 rows)).imp fun {a b} h => ?_
    intro x hx y hy e
    obtain ⟨c, _, rfl⟩ := List.mem_map.mp hx
    obtain ⟨d, _, rfl⟩ := List.mem_map.mp hy
    exact h (congrArg Prod.fst e)
theorem spots_length (rows cols : Nat) : (spotsZ rows cols).length = rows * cols := by
  unfold spotsZ
  rw [List.length_flatMap]
  have : (rangeZ 0 rows).map (fun r => ((rangeZ 0 cols).map fun c => (r, c)).length) = List.replicate rows cols := by
    apply List.ext_getElem?
    intro i
    by_cases h : i < rows
    · simp [List.getElem?_map, rangeZ_get h, h]
    · simp [List.getElem?_map, rangeZ, h]
  rw [this]
  simp
theorem left_mem {rows cols : Nat} {bars : List Cel} {p : Cel} : p ∈ freeC rows cols bars ↔ p ∈ spotsZ rows cols ∧ p ∉ bars := by
  unfold freeC
  simp [List.mem_filter]
/-- what is left and the bars make all spots -/
theorem left_count {rows cols : Nat} {bars : List Cel} (hn : bars.Nodup) (hs : ∀ p ∈ bars, p ∈ spotsZ rows cols) : (freeC rows cols bars).length + bars.length = rows * cols := by
  rw [← spots_length]
  have h1 := nd_len (l := (spotsZ rows cols).filter fun p => memD p bars) (xs := bars) ((spots_nodup rows cols).filter _) fun a => by
    simp only [List.mem_filter, memD_true]
    exact ⟨fun h => h.2, fun h => ⟨hs a h, h⟩⟩
  have h2 := nd_len (l := bars) (xs := bars) hn fun a => Iff.rfl
  have h3 : ∀ (l : List Cel), (l.filter fun p => !memD p bars).length + (l.filter fun p => memD p bars).length = l.length := by
    intro l
    induction l with
    | nil => rfl
    | cons a l ih =>
      by_cases c : memD a bars = true
      · simp only [List.filter_cons, c, Bool.not_true, Bool.false_eq_true, if_false, if_true, List.length_cons]; omega
      · have c : memD a bars = false := by simpa using c
        simp only [List.filter_cons, c, Bool.not_false, if_true, Bool.false_eq_true, if_false, List.length_cons]; omega
  have := h3 (spotsZ rows cols)
  unfold freeC
  omega
theorem lawleft_ok {rows cols : Nat} {bars : List Cel} (hr : rows ≤ 6) (hc : cols ≤ 6) : S_law_left rows cols bars = .ok (freeC rows cols bars) := by
  unfold S_law_left
  refine ok_eq' ?_
  rw [range1M_ok (by omega), M.ok_bind]
  refine ok_bind (ok_for (fun i (s : List Cel) => s = ((rangeZ 0 i).flatMap fun r => (rangeZ 0 cols).map fun c => ((r, c) : Cel)).filter fun p => !memD p bars) _ 0 (fun i a s hi hs => ?_) _ (by simp [rangeZ])) fun s hs => ok_ret ?_
  · have hir : i < rows := by have := (List.getElem?_eq_some_iff.mp hi).1; simpa using this
    rw [rangeZ_get hir] at hi
    have ea : a = (i : Int) := by have := Option.some.inj hi; omega
    rw [Nat.zero_add] at hs ⊢
    rw [range1M_ok (by omega), M.ok_bind]
    have e1 : List.map (fun (a6 : Int) => ((a, a6) : Cel)) (List.filter (fun (a6 : Int) => (!memD ((a, a6) : Cel) bars)) (rangeZ 0 cols)) = ((rangeZ 0 cols).map fun c => ((a, c) : Cel)).filter fun p => !memD p bars := by
      rw [List.filter_map]; rfl
    have e2 : rangeZ 0 (i + 1) = rangeZ 0 i ++ [(i : Int)] := by
      unfold rangeZ
      rw [List.range_succ, List.map_append]; simp
    have l1 : s.length ≤ 6 * 6 := by
      rw [hs]
      refine Nat.le_trans (List.length_filter_le _ _) ?_
      have := spots_length i cols
      unfold spotsZ at this
      rw [this]
      exact Nat.mul_le_mul (by omega) hc
    have l2 : (((rangeZ 0 cols).map fun c => ((a, c) : Cel)).filter fun p => !memD p bars).length ≤ 6 := Nat.le_trans (List.length_filter_le _ _) (by simp; omega)
    rw [e1, lenG_ok (by unfold lim; omega), M.ok_bind, lenG_ok (by rw [List.length_append]; unfold lim; omega), M.ok_bind]
    refine ok_ret ?_
    rw [hs, e2, List.flatMap_append, List.filter_append, ea]
    simp
  · rw [hs, rangeZ_length, Nat.zero_add]; rfl
/-! ### checks of data -/
theorem inAM_ok {α : Type} [DecidableEq α] {e : α → PyData} {d : Nat} (h : EqT e d) (hd : d + 1 ≤ 64) (a : α) (ys : List α) : inAM (e a) (ys.map e) = .ok (memD a ys) := by
  unfold inAM
  have q1 : SeqAt.shaped (.tuple (ys.map e)) = true := h.T.shaped hd ys
  have q2 : SeqAt.shaped (.list (ys.map e)) = true := h.L.shaped hd ys
  rw [if_pos (by rw [h.shaped (Nat.le_of_succ_le hd), q1, q2]; rfl), mem_any h]
theorem decA_all (xs : List PyData) : decAll decA xs = some xs := by
  induction xs with
  | nil => rfl
  | cons x xs ih =>
    simp only [decAll]
    rw [ih]
    rfl
theorem cast_tup {α : Type} (e : α → PyData) (xs : List α) : castM (decT decA) (eT e xs) = .ok (xs.map e) := by
  unfold castM
  have : decT decA (eT e xs) = some (xs.map e) := decA_all _
  rw [this]
theorem castInt (v : Int) : castM decI (.int v) = .ok v := by unfold castM; rfl
theorem isint_int (v lo hi : Int) : S_is_integer (.int v) lo hi = .ok (decide (lo ≤ v) && decide (v ≤ hi)) := by
  unfold S_is_integer
  have e1 : PyData.isInt (.int v) = true := rfl
  have e2 : PyData.isBool (.int v) = false := rfl
  rw [e1, e2, if_pos rfl, if_pos (by decide), castInt, M.ok_bind, M.ok_bind, M.ok_bind]
theorem comp2G_ok {α β γ : Type} {ys : α → M (List β)} {f : α → β → M (Option γ)} (l : α → List β) (g : α → β → Option γ) : ∀ (xs : List α) (acc : List γ), (∀ a ∈ xs, ys a = .ok (l a)) → (∀ a ∈ xs, ∀ b ∈ l a, f a b = .ok (g a b)) →
    acc.length + (xs.flatMap fun a => (l a).filterMap (g a)).length ≤ lim → comp2G ys f xs acc = .ok (acc ++ xs.flatMap fun a => (l a).filterMap (g a))
  | [], acc, _, _, _ => by simp [comp2G]
  | a :: as, acc, h1, h2, hl => by
    rw [List.flatMap_cons, List.length_append] at hl
    unfold comp2G
    rw [h1 a (by simp)]
    dsimp only
    rw [compPG_ok (g := g a) (l a) acc (h2 a (by simp)) (by omega)]
    dsimp only
    rw [comp2G_ok l g as _ (fun b hb => h1 b (List.mem_cons_of_mem _ hb)) (fun b hb => h2 b (List.mem_cons_of_mem _ hb)) (by rw [List.length_append]; omega), List.append_assoc, List.flatMap_cons]
theorem comp2P_ok {α β γ : Type} {ys : α → M (List β)} {f : α → β → M (Option γ)} {xs : List α} (l : α → List β) (g : α → β → Option γ) (h1 : ∀ a ∈ xs, ys a = .ok (l a)) (h2 : ∀ a ∈ xs, ∀ b ∈ l a, f a b = .ok (g a b))
    (hl : (xs.flatMap fun a => (l a).filterMap (g a)).length ≤ lim) : comp2P ys f xs = .ok (xs.flatMap fun a => (l a).filterMap (g a)) := by
  unfold comp2P
  rw [comp2G_ok l g xs [] h1 h2 (by simpa using hl)]
  rfl
end BH
set_option maxRecDepth 100000
set_option maxHeartbeats 1000000
namespace BH
open PySem PySem.Spec PyProof.Rows L2
/-! ### what is left of a table, its scale -/
theorem cell_pair (p : Cel) (rows cols : Int) : S_is_cell rows cols (eP PyData.int PyData.int p) = .ok (if (decide (0 ≤ p.1) && decide (p.1 ≤ rows - 1)) = true then (decide (0 ≤ p.2) && decide (p.2 ≤ cols - 1)) else false) := by
  unfold S_is_cell
  have e1 : PyData.isTuple (eP PyData.int PyData.int p) = true := rfl
  have e2 : castM (decT decA) (eP PyData.int PyData.int p) = .ok [.int p.1, .int p.2] := by unfold castM; rfl
  have i0 : ixM [PyData.int p.1, PyData.int p.2] 0 = .ok (.int p.1) := ixM_int (by decide) rfl
  have i1 : ixM [PyData.int p.1, PyData.int p.2] 1 = .ok (.int p.2) := ixM_int (by decide) rfl
  have e3 : eqD (([PyData.int p.1, PyData.int p.2].length : Nat) : Int) (2 : Int) = true := by simp
  rw [e1, if_neg (by decide), e2, M.ok_bind, M.ok_bind, e3, if_neg (by decide), M.ok_bind, i0, M.ok_bind, isint_int, M.ok_bind]
  split
  · rw [M.ok_bind, i1, M.ok_bind, isint_int, M.ok_bind, M.ok_bind]
  · rw [M.ok_bind]
theorem eqP : EqT (eP PyData.int PyData.int) 1 := EqT.P EqT.I EqT.I
structure Tabl (rows cols : Nat) (bars : List Cel) : Prop where
  r1 : 1 ≤ rows
  c1 : 1 ≤ cols
  rc : rows + cols ≤ 6
  nd : bars.Nodup
  sub : ∀ p ∈ bars, p ∈ spotsZ rows cols
  f1 : 1 ≤ (freeC rows cols bars).length
  f6 : (freeC rows cols bars).length ≤ 6
section
variable {rows cols : Nat} {bars : List Cel}
theorem Tabl.area (h : Tabl rows cols bars) : rows * cols ≤ 36 := Nat.mul_le_mul (by have := h.r1; have := h.c1; have := h.rc; omega : rows ≤ 6) (by have := h.r1; have := h.c1; have := h.rc; omega : cols ≤ 6)
theorem cells_ok (h : Tabl rows cols bars) : S_cells rows cols (eT (eP PyData.int PyData.int) bars) = .ok (freeC rows cols bars) := by
  have ar := h.area
  have cnt := left_count h.nd h.sub
  have f1 := h.f1
  have f6 := h.f6
  have r1 := h.r1
  have c1 := h.c1
  have rc := h.rc
  unfold S_cells
  have e1 : PyData.isTuple (eT (eP PyData.int PyData.int) bars) = true := rfl
  have k1 : compP (fun (a2 : PyData) => S_is_cell (rows : Int) (cols : Int) a2 >>= fun r3 => .ok (some r3)) (bars.map (eP PyData.int PyData.int)) = .ok (bars.map fun _ => true) := by
    have e : (bars.map (eP PyData.int PyData.int)).map (fun _ => true) = bars.map fun _ => true := by simp
    rw [← e]
    refine compP_map (fun _ => true) (fun a ha => ?_) (by rw [List.length_map]; unfold lim; omega)
    obtain ⟨p, hp, rfl⟩ := List.mem_map.mp ha
    have q := spots_mem.mp (h.sub p hp)
    rw [cell_pair, decide_eq_true (by omega), decide_eq_true (by omega), decide_eq_true (by omega), decide_eq_true (by omega)]
    rfl
  have all1 : (bars.map fun _ => true).all id = true := by simp
  rw [e1, if_neg (by decide), cast_tup, M.ok_bind, k1, M.ok_bind, all1, M.ok_bind, if_neg (by decide), range1M_ok (by omega), M.ok_bind]
  have k2 : comp2P (fun (a7 : Int) => range1M (cols : Int) >>= fun rng9 => .ok rng9) (fun (a7 : Int) (a8 : Int) => M.ok (bars.map (eP PyData.int PyData.int)) >>= fun h10 =>
      inAM ((eP PyData.int PyData.int) (a7, a8)) h10 >>= fun isin11 => if (!isin11) = true then (.ok (some (a7, a8))) else (.ok none)) (rangeZ 0 rows) = .ok (freeC rows cols bars) := by
    have e : ((rangeZ 0 rows).flatMap fun a => (rangeZ 0 cols).filterMap fun b => if (!memD (a, b) bars) = true then some (a, b) else none) = freeC rows cols bars := by
      unfold freeC spotsZ
      rw [List.filter_flatMap]
      congr 1
      funext a
      rw [List.filter_map, ← List.filterMap_eq_map, ← List.filterMap_eq_filter, List.filterMap_filterMap]
      congr 1
      funext b
      by_cases c : memD (a, b) bars = true
      · simp [c, Option.guard]
      · have c : memD (a, b) bars = false := by simpa using c
        simp [c, Option.guard]
    rw [← e]
    refine comp2P_ok (fun _ => rangeZ 0 cols) (fun a b => if (!memD (a, b) bars) = true then some (a, b) else none) (fun a _ => ?_) (fun a _ b _ => ?_) ?_
    · rw [range1M_ok (by omega), M.ok_bind]
    · rw [M.ok_bind, inAM_ok eqP (by decide), M.ok_bind]
      split <;> rfl
    · rw [e]; unfold lim; omega
  rw [k2, M.ok_bind, mulM_l (by omega) (by omega), M.ok_bind, M.ok_bind]
  have nn : ((rows : Int) * (cols : Int)) = ((rows * cols : Nat) : Int) := by simp
  rw [nn, List.length_map, decide_eq_false (by omega), decide_eq_true (by omega), decide_eq_true (by omega), if_neg (by decide)]
def lineR (left : List Cel) (r : Int) : List Int := left.map fun p => b2i (eqD p.1 r)
def lineC (left : List Cel) (c : Int) : List Int := left.map fun p => b2i (eqD p.2 c)
def tabZ (rows cols : Nat) (left : List Cel) : List (List Int) := (rangeZ 0 rows).map (lineR left) ++ (rangeZ 0 cols).map (lineC left)
theorem lines_ok {left : List Cel} (hl : left.length ≤ 1000) (hr : rows ≤ 1000) : compP (fun (a3 : Int) => lenG (List.map (fun (a4 : Int × Int) => (b2i (eqD a4.1 a3))) left) >>= fun xs5 => .ok (some xs5)) (rangeZ 0 rows) = .ok ((rangeZ 0 rows).map (lineR left)) := by
  refine compP_map (lineR left) (fun a _ => ?_) (by rw [rangeZ_length]; unfold lim; omega)
  rw [lenG_ok (by rw [List.length_map]; unfold lim; omega), M.ok_bind]; rfl
theorem linesC_ok {left : List Cel} (hl : left.length ≤ 1000) (hr : cols ≤ 1000) : compP (fun (a3 : Int) => lenG (List.map (fun (a4 : Int × Int) => (b2i (eqD a4.2 a3))) left) >>= fun xs5 => .ok (some xs5)) (rangeZ 0 cols) = .ok ((rangeZ 0 cols).map (lineC left)) := by
  refine compP_map (lineC left) (fun a _ => ?_) (by rw [rangeZ_length]; unfold lim; omega)
  rw [lenG_ok (by rw [List.length_map]; unfold lim; omega), M.ok_bind]; rfl
theorem tabscale_ok (h : Tabl rows cols bars) : S_table_scale rows cols (eT (eP PyData.int PyData.int) bars) = .ok (tabZ rows cols (freeC rows cols bars)) := by
  have r1 := h.r1
  have c1 := h.c1
  have rc := h.rc
  have f6 := h.f6
  unfold S_table_scale
  rw [cells_ok h, M.ok_bind, range1M_ok (by omega), M.ok_bind, lines_ok (by omega) (by omega), M.ok_bind, range1M_ok (by omega), M.ok_bind, linesC_ok (by omega) (by omega), M.ok_bind, lenG_ok (by simp [lim]; omega), M.ok_bind]
  rfl
end
/-! ### a right scale -/
end BH
set_option maxRecDepth 100000
set_option maxHeartbeats 4000000
namespace BH
open PySem PySem.Spec PyProof.Rows L2
/-! ### all small tables -/
def subsL {α : Type} : List α → List (List α)
  | [] => [[]]
  | a :: l => let r := subsL l; r ++ r.map (a :: ·)
theorem subs_filter {α : Type} (p : α → Bool) : ∀ l : List α, l.filter p ∈ subsL l
  | [] => by simp [subsL]
  | a :: l => by
    have ih := subs_filter p l
    simp only [subsL, List.mem_append, List.mem_map]
    by_cases c : p a = true
    · rw [List.filter_cons_of_pos c]; exact .inr ⟨_, ih, rfl⟩
    · rw [List.filter_cons_of_neg c]; exact .inl ih
def shapes : List (Nat × Nat) := [(1, 1), (1, 2), (1, 3), (1, 4), (1, 5), (2, 1), (2, 2), (2, 3), (2, 4), (3, 1), (3, 2), (3, 3), (4, 1), (4, 2), (5, 1)]
theorem shape_in {r c : Nat} (h1 : 1 ≤ r) (h2 : 1 ≤ c) (h3 : r + c ≤ 6) : (r, c) ∈ shapes := by
  have : r = 1 ∨ r = 2 ∨ r = 3 ∨ r = 4 ∨ r = 5 := by omega
  rcases this with rfl | rfl | rfl | rfl | rfl
  · have : c = 1 ∨ c = 2 ∨ c = 3 ∨ c = 4 ∨ c = 5 := by omega
    rcases this with rfl | rfl | rfl | rfl | rfl <;> simp [shapes]
  · have : c = 1 ∨ c = 2 ∨ c = 3 ∨ c = 4 := by omega
    rcases this with rfl | rfl | rfl | rfl <;> simp [shapes]
  · have : c = 1 ∨ c = 2 ∨ c = 3 := by omega
    rcases this with rfl | rfl | rfl <;> simp [shapes]
  · have : c = 1 ∨ c = 2 := by omega
    rcases this with rfl | rfl <;> simp [shapes]
  · have : c = 1 := by omega
    subst this; simp [shapes]
def smallOk (l : List Cel) : Bool := decide (1 ≤ l.length) && decide (l.length ≤ 6)
end BH
set_option maxRecDepth 100000
set_option maxHeartbeats 1000000
namespace BH
open PySem PySem.Spec PyProof.Rows L2
/-! ### drawn tables -/
theorem mixedP_ok {d : List Int} {W : List Cel} (h : Dk d) (hW : W.length ≤ 1000) : Ok (S_law_mixed_2 d W) fun r => r.1.Perm W ∧ Dk r.2 := by
  unfold S_law_mixed_2
  rw [range1M_ok (by omega), M.ok_bind]
  refine ok_bind (ok_for (fun i (s : List Int × List Cel × List Cel) => Dk s.1 ∧ (s.2.2 ++ s.2.1).Perm W ∧ s.2.2.length = i ∧ s.2.1.length + s.2.2.length = W.length) _ 0 (fun i a s hi hs => ?_) _ ⟨h, by simp, rfl, by simp⟩) fun s hs => ok_ret ?_
  · obtain ⟨h1, h2, h3, h4⟩ := hs
    have hiW : i < W.length := by have := (List.getElem?_eq_some_iff.mp hi).1; simpa using this
    refine ok_bind (draw_ok h1 (by omega) (by omega)) fun r hr => ?_
    obtain ⟨k, ek⟩ := Int.eq_ofNat_of_zero_le hr.1
    rw [ek]
    have hk : k < s.2.1.length := by omega
    rw [popM_nat hk (by omega), M.ok_bind, appM_ok (by unfold lim; omega), M.ok_bind]
    refine ok_ret ⟨hr.2.2, ?_, by simp; omega, by simp [List.length_eraseIdx, hk]; omega⟩
    refine List.Perm.trans ?_ h2
    simp only [List.append_assoc, List.singleton_append]
    refine List.Perm.append_left _ ?_
    have e : s.2.1 = s.2.1.take k ++ s.2.1[k] :: s.2.1.drop (k + 1) := by simp
    rw [List.eraseIdx_eq_take_drop_succ]
    conv => rhs; rw [e]
    exact List.perm_middle.symm
  · obtain ⟨h1, h2, h3, h4⟩ := hs
    simp only [rangeZ_length, Nat.zero_add] at h3
    have : s.2.1 = [] := List.length_eq_zero_iff.mp (by omega)
    rw [this, List.append_nil] at h2
    exact ⟨h2, h1⟩
theorem shape_ok {d : List Int} (h : Dk d) : Ok (S_law_shape d) fun r => (∃ rows cols : Nat, r.1 = ((rows : Int), (cols : Int)) ∧ 1 ≤ rows ∧ 1 ≤ cols ∧ rows + cols ≤ 6) ∧ Dk r.2 := by
  unfold S_law_shape
  refine ok_bind (draw_ok h (by omega) (by omega)) fun r1 h1 => ?_
  refine ok_bind (draw_ok h1.2.2 (by omega) (by omega)) fun r2 h2 => ok_ret ⟨⟨(1 + r1.1).toNat, (1 + r2.1).toNat, ?_, by omega, by omega, by omega⟩, h2.2.2⟩
  rw [Int.toNat_of_nonneg (by omega), Int.toNat_of_nonneg (by omega)]
theorem tabl_of {rows cols : Nat} (r1 : 1 ≤ rows) (c1 : 1 ≤ cols) (rc : rows + cols ≤ 6) {bars : List Cel} (nd : bars.Nodup) (sub : ∀ p ∈ bars, p ∈ spotsZ rows cols) (h1 : bars.length + 1 ≤ rows * cols) (h2 : rows * cols ≤ bars.length + 6) : Tabl rows cols bars := by
  have c := left_count nd sub
  exact ⟨r1, c1, rc, nd, sub, by omega, by omega⟩
theorem bars_ok {d : List Int} (h : Dk d) {rows cols : Nat} (r1 : 1 ≤ rows) (c1 : 1 ≤ cols) (rc : rows + cols ≤ 6) : Ok (S_law_bars d rows cols) fun r => Tabl rows cols r.1 ∧ Dk r.2 := by
  have ar : rows * cols ≤ 36 := Nat.mul_le_mul (by omega : rows ≤ 6) (by omega : cols ≤ 6)
  have a1 : 1 ≤ rows * cols := Nat.mul_le_mul r1 c1
  unfold S_law_bars
  rw [range1M_ok (by omega), M.ok_bind]
  refine ok_bind (P := fun s => s = spotsZ rows cols) ?_ fun s hs => ?_
  · refine ok_imp (ok_for (fun i (s : List Cel) => s = spotsZ i cols) _ 0 (fun i a s hi hs => ?_) _ (by simp [rangeZ, spotsZ])) fun s hs => by simpa using hs
    have hir : i < rows := by have := (List.getElem?_eq_some_iff.mp hi).1; simpa using this
    rw [rangeZ_get hir] at hi
    have ea : a = (i : Int) := by have := Option.some.inj hi; omega
    rw [Nat.zero_add] at hs ⊢
    have ls := spots_length i cols
    have : i * cols ≤ 36 := Nat.mul_le_mul (by omega : i ≤ 6) (by omega : cols ≤ 6)
    rw [range1M_ok (by omega), M.ok_bind, lenG_ok (by simp [lim]; omega), M.ok_bind, lenG_ok (by rw [List.length_append, hs, ls]; simp [lim]; omega), M.ok_bind]
    refine ok_ret ?_
    have e2 : rangeZ 0 (i + 1) = rangeZ 0 i ++ [(i : Int)] := by
      unfold rangeZ
      rw [List.range_succ, List.map_append]; simp
    rw [hs, ea]
    unfold spotsZ
    rw [e2, List.flatMap_append]
    simp
  · subst hs
    have ls := spots_length rows cols
    refine ok_bind (draw_ok h (by omega) (by omega)) fun r9 h9 => ?_
    refine ok_bind (mixedP_ok h9.2.2 (by omega)) fun r10 h10 => ok_ret ⟨?_, h10.2⟩
    obtain ⟨pm, _⟩ := h10
    obtain ⟨k, ek⟩ : ∃ k : Nat, (min2 (((spotsZ rows cols).length : Int) - (1 : Int)) ((max2 (0 : Int) (((spotsZ rows cols).length : Int) - (6 : Int))) + r9.1)) = (k : Int) :=
      ⟨(min2 (((spotsZ rows cols).length : Int) - (1 : Int)) ((max2 (0 : Int) (((spotsZ rows cols).length : Int) - (6 : Int))) + r9.1)).toNat, by simp only [min2_eq, max2_eq]; omega⟩
    have kb : k + 1 ≤ rows * cols ∧ rows * cols ≤ k + 6 := by
      simp only [min2_eq, max2_eq, ls] at ek
      omega
    show Tabl rows cols (cutD r10.1 none (some _))
    rw [ek, cutD_take]
    have lp : r10.1.length = rows * cols := by rw [pm.length_eq, ls]
    have lk : (r10.1.take k).length = k := by rw [List.length_take]; omega
    refine tabl_of r1 c1 rc ?_ (fun p hp => pm.mem_iff.mp (List.mem_of_mem_take hp)) (by omega) (by omega)
    exact (pm.nodup_iff.mpr (spots_nodup rows cols)).sublist (List.take_sublist _ _)
end BH
set_option maxRecDepth 100000
set_option maxHeartbeats 1000000
set_option maxRecDepth 100000
set_option maxHeartbeats 4000000
namespace BH
open PySem PySem.Spec PyProof.Rows L2
/-- heap_of(kinds, some): slots kinds, some, cell -/
def f_heap_of : SF :=
  (fSeqS (fRet (fCall opTuple (fPCons (fComp (fSeq (fName 0)) (bName 2) [2] fYes (fTake (fCall opToInt (fPCons (fBin (opIn false) (fName 2) (fName 1)) fPNil)))) fPNil))) fNextS)
def F_heap_of : List Arg → FRes := fnF 3 f_heap_of
/-- table_book(rows, columns, value): slots rows, columns, value, kinds, found, i, k, j, l, take, put, cell -/
def f_table_book : SF :=
  (fSeqS (fFrzS 3 (fSet 3 (fCallF 3 F_cells (aDat (fTake (fName 0)) (aDat (fTake (fName 1)) (aDat (fTake (fName 2)) aNil)))))) (fSeqS (fSet 4 (fLst fNil)) (fSeqS (fFor (fRng1 (fPCons (fName 0) fPNil)) (bName 5) (fSeqS (fFor (fRng2 (fPCons (fBin opAdd (fName 5) (fC (.int 1))) (fPCons (fName 0) fPNil))) (bName 6) (fSeqS (fFor (fRng1 (fPCons (fName 1) fPNil)) (bName 7) (fSeqS (fFor (fRng2 (fPCons (fBin opAdd (fName 7) (fC (.int 1))) (fPCons (fName 1) fPNil))) (bName 8) (fSeqS (fFrzS 10 (fFrzS 9 (fPar 9 10 (fPCons (fLst (fCons (fTake (fTup (fCons (fTake (fName 5)) (fCons (fTake (fName 7)) fNil)))) (fCons (fTake (fTup (fCons (fTake (fName 6)) (fCons (fTake (fName 8)) fNil)))) fNil))) (fPCons (fLst (fCons (fTake (fTup (fCons (fTake (fName 5)) (fCons (fTake (fName 8)) fNil)))) (fCons (fTake (fTup (fCons (fTake (fName 6)) (fCons (fTake (fName 7)) fNil)))) fNil))) fPNil))))) (fSeqS (fIfS (fTru (fCall opAll (fPCons (fComp (fSeq (fBin opAdd (fName 9) (fName 10))) (bName 11) [11] fYes (fTake (fBin (opIn false) (fName 11) (fName 3)))) fPNil))) (fSeqS (fExpr (fMeth1 4 opAppend (fTake (fTup (fCons (fTake (fCallF 2 F_heap_of (aDat (fTake (fName 3)) (aDat (fTake (fName 9)) aNil)))) (fCons (fTake (fCallF 2 F_heap_of (aDat (fTake (fName 3)) (aDat (fTake (fName 10)) aNil)))) fNil)))))) fNextS) fNextS) fNextS))) fNextS)) fNextS)) fNextS)) (fSeqS (fRet (fCall opTuple (fPCons (fName 4) fPNil))) fNextS))))
def F_table_book : List Arg → FRes := fnF 12 f_table_book
def S_heap_of (kinds_ : List (Int × Int)) (some_ : List (Int × Int)) : M ((List Int)) :=
  lenG (List.map (fun (a1 : Int × Int) => (b2i (memD a1 some_))) kinds_) >>= fun xs2 =>
  .ok xs2
theorem L_heap_of (kinds_ : List (Int × Int)) (some_ : List (Int × Int)) : FSim (F_heap_of [.d ((eT (eP PyData.int PyData.int)) kinds_), .d ((eL (eP PyData.int PyData.int)) some_)]) (S_heap_of kinds_ some_) (fun (r : (List Int)) => Ret.d ((eT PyData.int) r)) (fun (r : (List Int)) => [.d ((eT (eP PyData.int PyData.int)) kinds_), .d ((eL (eP PyData.int PyData.int)) some_)]) := by
  refine fs_mk ?_
  unfold S_heap_of
  refine sim_bnd0 ?_
  have e0 : envOf 3 [.d ((eT (eP PyData.int PyData.int)) kinds_), .d ((eL (eP PyData.int PyData.int)) some_)] = [some (.d ((eT (eP PyData.int PyData.int)) kinds_)), some (.d ((eL (eP PyData.int PyData.int)) some_)), none] := rfl
  rw [e0]
  unfold f_heap_of
  refine c_blk ?_
  refine c_ret ?_
  refine c_call ?_
  refine c_pcons ?_
  refine c_comp ?_
  refine c_seq ?_
  refine c_name rfl ?_
  refine sq_T (ds := List.map (eP PyData.int PyData.int) kinds_) rfl ?_
  refine co_m (enc' := PyData.int) (el := [some (.d ((eT (eP PyData.int PyData.int)) kinds_)), some (.d ((eL (eP PyData.int PyData.int)) some_)), none]) rfl (nc_cons rfl datO_none nc_nil) rfl ?_ ?_
  · intro a1
    refine ⟨[some (.d ((eT (eP PyData.int PyData.int)) kinds_)), some (.d ((eL (eP PyData.int PyData.int)) some_)), some (.d ((eP PyData.int PyData.int) a1))], (bn (e' := [some (.d ((eT (eP PyData.int PyData.int)) kinds_)), some (.d ((eL (eP PyData.int PyData.int)) some_)), some (.d ((eP PyData.int PyData.int) a1))]) rfl okO_none rfl), ?_⟩
    refine c_turnY ?_
    refine c_take ?_
    refine c_call ?_
    refine c_pcons ?_
    refine c_bin ?_
    refine c_name rfl ?_
    refine c_name rfl ?_
    refine b_pure (u := (eP PyData.int PyData.int) a1) (v := (eL (eP PyData.int PyData.int)) some_) rfl rfl (in_t (EqT.P EqT.I EqT.I) (by decide) (.inr rfl)) ?_
    refine c_pnil ?_
    refine cb_pure (r := .d (.int (b2i (memD a1 some_)))) rfl rfl ?_
    refine t_pure rfl ?_
    exact sim_ret ⟨rfl, rfl⟩
  intro xs2
  refine c_pnil ?_
  refine cb_pure (r := .d (eT PyData.int xs2)) rfl rfl ?_
  refine rt_d ?_
  exact sim_ret ⟨.inl rfl, rfl⟩
def S_table_book (rows_ : Int) (columns_ : Int) (value_ : PyData) : M ((List ((List Int) × (List Int)))) :=
  S_cells rows_ columns_ value_ >>= fun r1 =>
  range1M rows_ >>= fun rng2 =>
  forM' (fun (a10 : Int) (s3 : (List ((List Int) × (List Int)))) =>
  range2M (a10 + (1 : Int)) rows_ >>= fun rng11 =>
  forM' (fun (a18 : Int) (s12 : (List ((List Int) × (List Int)))) =>
  range1M columns_ >>= fun rng19 =>
  forM' (fun (a25 : Int) (s20 : (List ((List Int) × (List Int)))) =>
  range2M (a25 + (1 : Int)) columns_ >>= fun rng26 =>
  forM' (fun (a31 : Int) (s27 : (List ((List Int) × (List Int)))) =>
  lenG ([(a10, a25), (a18, a31)] ++ [(a10, a31), (a18, a25)]) >>= fun cat32 =>
  lenG (List.map (fun (a33 : Int × Int) => (memD a33 r1)) cat32) >>= fun xs34 =>
  (if (xs34.all id) = true then (S_heap_of r1 [(a10, a25), (a18, a31)] >>= fun r36 =>
  S_heap_of r1 [(a10, a31), (a18, a25)] >>= fun r37 =>
  appM s27 (r36, r37) >>= fun ys38 =>
  .ok ys38) else (.ok s27)) >>= fun s35 =>
  .ok s35) rng26 s20 >>= fun s27 =>
  .ok s27) rng19 s12 >>= fun s20 =>
  .ok s20) rng11 s3 >>= fun s12 =>
  .ok s12) rng2 ([] : List ((List Int) × (List Int))) >>= fun s3 =>
  .ok s3
theorem L_table_book (rows_ : Int) (columns_ : Int) (value_ : PyData) : FSim (F_table_book [.d (PyData.int rows_), .d (PyData.int columns_), .d (id value_)]) (S_table_book rows_ columns_ value_) (fun (r : (List ((List Int) × (List Int)))) => Ret.d ((eT (eP (eT PyData.int) (eT PyData.int))) r)) (fun (r : (List ((List Int) × (List Int)))) => [.d (PyData.int rows_), .d (PyData.int columns_), .d (id value_)]) := by
  refine fs_mk ?_
  unfold S_table_book
  refine sim_bnd0 ?_
  have e0 : envOf 12 [.d (PyData.int rows_), .d (PyData.int columns_), .d (id value_)] = [some (.d (PyData.int rows_)), some (.d (PyData.int columns_)), some (.d (id value_)), none, none, none, none, none, none, none, none, none] := rfl
  rw [e0]
  unfold f_table_book
  refine c_blk ?_
  refine c_frz ?_
  refine c_set ?_
  refine c_callF ?_
  refine c_adat ?_
  refine c_take ?_
  refine c_name rfl ?_
  refine t_pure rfl ?_
  refine c_adat ?_
  refine c_take ?_
  refine c_name rfl ?_
  refine t_pure rfl ?_
  refine c_adat ?_
  refine c_take ?_
  refine c_name rfl ?_
  refine t_pure rfl ?_
  refine c_anil ?_
  refine cf_s (e2 := fun r1 => [some (.d (PyData.int rows_)), some (.d (PyData.int columns_)), some (.d (id value_)), none, none, none, none, none, none, none, none, none]) (L_cells rows_ columns_ value_) (show List.Nodup ([] : List Nat) by decide) rfl rfl (fun _ => rfl) (fun _ => trivial) ?_
  intro r1
  refine as_d (e' := [some (.d (PyData.int rows_)), some (.d (PyData.int columns_)), some (.d (id value_)), some (.d ((eT (eP PyData.int PyData.int)) r1)), none, none, none, none, none, none, none, none]) rfl okO_none rfl ?_
  refine fz_t (v := (eT (eP PyData.int PyData.int)) r1) (e' := [some (.d (PyData.int rows_)), some (.d (PyData.int columns_)), some (.d (id value_)), some (.d ((eT (eP PyData.int PyData.int)) r1)), none, none, none, none, none, none, none, none]) rfl ?_
  refine c_blk1 ?_
  refine c_set ?_
  refine c_lst ?_
  refine c_nil ?_
  refine ls_pure (ys := List.map (eP (eT PyData.int) (eT PyData.int)) ([] : List ((List Int) × (List Int)))) rfl rfl ?_
  refine as_t (e' := [some (.d (PyData.int rows_)), some (.d (PyData.int columns_)), some (.d (id value_)), some (.d ((eT (eP PyData.int PyData.int)) r1)), some (.cell .own (.lst (List.map (eP (eT PyData.int) (eT PyData.int)) ([] : List ((List Int) × (List Int)))))), none, none, none, none, none, none, none]) rfl okO_none rfl ?_
  refine c_blk1 ?_
  refine c_for ?_
  refine c_rng1 ?_
  refine c_pcons ?_
  refine c_name rfl ?_
  refine c_pnil ?_
  refine r1_part rfl ?_
  intro rng2
  refine fo_n (fun (s3 : (List ((List Int) × (List Int)))) (e : SE) => ∃ (o4 : Option MV), ∃ (o5 : Option MV), ∃ (o6 : Option MV), ∃ (o7 : Option MV), ∃ (o8 : Option MV), ∃ (o9 : Option MV), datO o4 ∧ datO o5 ∧ datO o6 ∧ datO o7 ∧ datO o8 ∧ datO o9 ∧ e = [some (.d (PyData.int rows_)), some (.d (PyData.int columns_)), some (.d (id value_)), some (.d ((eT (eP PyData.int PyData.int)) r1)), some (.cell .own (.lst (List.map (eP (eT PyData.int) (eT PyData.int)) s3))), o4, o5, o6, o7, o8, o9, none]) ⟨_, _, _, _, _, _, datO_none, datO_none, datO_none, datO_none, datO_none, datO_none, rfl⟩ (fun _ _ => trivial) ?_ ?_
  · intro a10 s3 e hK
    obtain ⟨o4, o5, o6, o7, o8, o9, ho4, ho5, ho6, ho7, ho8, ho9, he⟩ := hK
    subst he
    refine ⟨[some (.d (PyData.int rows_)), some (.d (PyData.int columns_)), some (.d (id value_)), some (.d ((eT (eP PyData.int PyData.int)) r1)), some (.cell .own (.lst (List.map (eP (eT PyData.int) (eT PyData.int)) s3))), some (.d (PyData.int a10)), o5, o6, o7, o8, o9, none], (bn (e' := [some (.d (PyData.int rows_)), some (.d (PyData.int columns_)), some (.d (id value_)), some (.d ((eT (eP PyData.int PyData.int)) r1)), some (.cell .own (.lst (List.map (eP (eT PyData.int) (eT PyData.int)) s3))), some (.d (PyData.int a10)), o5, o6, o7, o8, o9, none]) rfl (datO.ok ho4) rfl), ?_⟩
    refine sim_bnd0 ?_
    refine c_blk ?_
    refine c_for ?_
    refine c_rng2 ?_
    refine c_pcons ?_
    refine c_bin ?_
    refine c_name rfl ?_
    refine c_const ?_
    refine b_pure rfl rfl rfl ?_
    refine c_pcons ?_
    refine c_name rfl ?_
    refine c_pnil ?_
    refine r2_part rfl ?_
    intro rng11
    refine fo_n (fun (s12 : (List ((List Int) × (List Int)))) (e : SE) => ∃ (o13 : Option MV), ∃ (o14 : Option MV), ∃ (o15 : Option MV), ∃ (o16 : Option MV), ∃ (o17 : Option MV), datO o13 ∧ datO o14 ∧ datO o15 ∧ datO o16 ∧ datO o17 ∧ e = [some (.d (PyData.int rows_)), some (.d (PyData.int columns_)), some (.d (id value_)), some (.d ((eT (eP PyData.int PyData.int)) r1)), some (.cell .own (.lst (List.map (eP (eT PyData.int) (eT PyData.int)) s12))), some (.d (PyData.int a10)), o13, o14, o15, o16, o17, none]) ⟨_, _, _, _, _, ho5, ho6, ho7, ho8, ho9, rfl⟩ (fun _ _ => trivial) ?_ ?_
    · intro a18 s12 e hK
      obtain ⟨o13, o14, o15, o16, o17, ho13, ho14, ho15, ho16, ho17, he⟩ := hK
      subst he
      refine ⟨[some (.d (PyData.int rows_)), some (.d (PyData.int columns_)), some (.d (id value_)), some (.d ((eT (eP PyData.int PyData.int)) r1)), some (.cell .own (.lst (List.map (eP (eT PyData.int) (eT PyData.int)) s12))), some (.d (PyData.int a10)), some (.d (PyData.int a18)), o14, o15, o16, o17, none], (bn (e' := [some (.d (PyData.int rows_)), some (.d (PyData.int columns_)), some (.d (id value_)), some (.d ((eT (eP PyData.int PyData.int)) r1)), some (.cell .own (.lst (List.map (eP (eT PyData.int) (eT PyData.int)) s12))), some (.d (PyData.int a10)), some (.d (PyData.int a18)), o14, o15, o16, o17, none]) rfl (datO.ok ho13) rfl), ?_⟩
      refine sim_bnd0 ?_
      refine c_blk ?_
      refine c_for ?_
      refine c_rng1 ?_
      refine c_pcons ?_
      refine c_name rfl ?_
      refine c_pnil ?_
      refine r1_part rfl ?_
      intro rng19
      refine fo_n (fun (s20 : (List ((List Int) × (List Int)))) (e : SE) => ∃ (o21 : Option MV), ∃ (o22 : Option MV), ∃ (o23 : Option MV), ∃ (o24 : Option MV), datO o21 ∧ datO o22 ∧ datO o23 ∧ datO o24 ∧ e = [some (.d (PyData.int rows_)), some (.d (PyData.int columns_)), some (.d (id value_)), some (.d ((eT (eP PyData.int PyData.int)) r1)), some (.cell .own (.lst (List.map (eP (eT PyData.int) (eT PyData.int)) s20))), some (.d (PyData.int a10)), some (.d (PyData.int a18)), o21, o22, o23, o24, none]) ⟨_, _, _, _, ho14, ho15, ho16, ho17, rfl⟩ (fun _ _ => trivial) ?_ ?_
      · intro a25 s20 e hK
        obtain ⟨o21, o22, o23, o24, ho21, ho22, ho23, ho24, he⟩ := hK
        subst he
        refine ⟨[some (.d (PyData.int rows_)), some (.d (PyData.int columns_)), some (.d (id value_)), some (.d ((eT (eP PyData.int PyData.int)) r1)), some (.cell .own (.lst (List.map (eP (eT PyData.int) (eT PyData.int)) s20))), some (.d (PyData.int a10)), some (.d (PyData.int a18)), some (.d (PyData.int a25)), o22, o23, o24, none], (bn (e' := [some (.d (PyData.int rows_)), some (.d (PyData.int columns_)), some (.d (id value_)), some (.d ((eT (eP PyData.int PyData.int)) r1)), some (.cell .own (.lst (List.map (eP (eT PyData.int) (eT PyData.int)) s20))), some (.d (PyData.int a10)), some (.d (PyData.int a18)), some (.d (PyData.int a25)), o22, o23, o24, none]) rfl (datO.ok ho21) rfl), ?_⟩
        refine sim_bnd0 ?_
        refine c_blk ?_
        refine c_for ?_
        refine c_rng2 ?_
        refine c_pcons ?_
        refine c_bin ?_
        refine c_name rfl ?_
        refine c_const ?_
        refine b_pure rfl rfl rfl ?_
        refine c_pcons ?_
        refine c_name rfl ?_
        refine c_pnil ?_
        refine r2_part rfl ?_
        intro rng26
        refine fo_n (fun (s27 : (List ((List Int) × (List Int)))) (e : SE) => ∃ (o28 : Option MV), ∃ (o29 : Option MV), ∃ (o30 : Option MV), datO o28 ∧ datO o29 ∧ datO o30 ∧ e = [some (.d (PyData.int rows_)), some (.d (PyData.int columns_)), some (.d (id value_)), some (.d ((eT (eP PyData.int PyData.int)) r1)), some (.cell .own (.lst (List.map (eP (eT PyData.int) (eT PyData.int)) s27))), some (.d (PyData.int a10)), some (.d (PyData.int a18)), some (.d (PyData.int a25)), o28, o29, o30, none]) ⟨_, _, _, ho22, ho23, ho24, rfl⟩ (fun _ _ => trivial) ?_ ?_
        · intro a31 s27 e hK
          obtain ⟨o28, o29, o30, ho28, ho29, ho30, he⟩ := hK
          subst he
          refine ⟨[some (.d (PyData.int rows_)), some (.d (PyData.int columns_)), some (.d (id value_)), some (.d ((eT (eP PyData.int PyData.int)) r1)), some (.cell .own (.lst (List.map (eP (eT PyData.int) (eT PyData.int)) s27))), some (.d (PyData.int a10)), some (.d (PyData.int a18)), some (.d (PyData.int a25)), some (.d (PyData.int a31)), o29, o30, none], (bn (e' := [some (.d (PyData.int rows_)), some (.d (PyData.int columns_)), some (.d (id value_)), some (.d ((eT (eP PyData.int PyData.int)) r1)), some (.cell .own (.lst (List.map (eP (eT PyData.int) (eT PyData.int)) s27))), some (.d (PyData.int a10)), some (.d (PyData.int a18)), some (.d (PyData.int a25)), some (.d (PyData.int a31)), o29, o30, none]) rfl (datO.ok ho28) rfl), ?_⟩
          refine sim_bnd0 ?_
          refine c_blk ?_
          refine c_frz ?_
          refine c_frz ?_
          refine c_par ?_
          refine c_pcons ?_
          refine c_lst ?_
          refine c_cons ?_
          refine c_take ?_
          refine c_tup ?_
          refine c_cons ?_
          refine c_take ?_
          refine c_name rfl ?_
          refine t_pure rfl ?_
          refine c_cons ?_
          refine c_take ?_
          refine c_name rfl ?_
          refine t_pure rfl ?_
          refine c_nil ?_
          refine tu_pure (v := (eP PyData.int PyData.int) (a10, a25)) rfl rfl ?_
          refine t_pure rfl ?_
          refine c_cons ?_
          refine c_take ?_
          refine c_tup ?_
          refine c_cons ?_
          refine c_take ?_
          refine c_name rfl ?_
          refine t_pure rfl ?_
          refine c_cons ?_
          refine c_take ?_
          refine c_name rfl ?_
          refine t_pure rfl ?_
          refine c_nil ?_
          refine tu_pure (v := (eP PyData.int PyData.int) (a18, a31)) rfl rfl ?_
          refine t_pure rfl ?_
          refine c_nil ?_
          refine ls_pure (ys := List.map (eP PyData.int PyData.int) [(a10, a25), (a18, a31)]) rfl rfl ?_
          refine c_pcons ?_
          refine c_lst ?_
          refine c_cons ?_
          refine c_take ?_
          refine c_tup ?_
          refine c_cons ?_
          refine c_take ?_
          refine c_name rfl ?_
          refine t_pure rfl ?_
          refine c_cons ?_
          refine c_take ?_
          refine c_name rfl ?_
          refine t_pure rfl ?_
          refine c_nil ?_
          refine tu_pure (v := (eP PyData.int PyData.int) (a10, a31)) rfl rfl ?_
          refine t_pure rfl ?_
          refine c_cons ?_
          refine c_take ?_
          refine c_tup ?_
          refine c_cons ?_
          refine c_take ?_
          refine c_name rfl ?_
          refine t_pure rfl ?_
          refine c_cons ?_
          refine c_take ?_
          refine c_name rfl ?_
          refine t_pure rfl ?_
          refine c_nil ?_
          refine tu_pure (v := (eP PyData.int PyData.int) (a18, a25)) rfl rfl ?_
          refine t_pure rfl ?_
          refine c_nil ?_
          refine ls_pure (ys := List.map (eP PyData.int PyData.int) [(a10, a31), (a18, a25)]) rfl rfl ?_
          refine c_pnil ?_
          refine pa_t (e1 := [some (.d (PyData.int rows_)), some (.d (PyData.int columns_)), some (.d (id value_)), some (.d ((eT (eP PyData.int PyData.int)) r1)), some (.cell .own (.lst (List.map (eP (eT PyData.int) (eT PyData.int)) s27))), some (.d (PyData.int a10)), some (.d (PyData.int a18)), some (.d (PyData.int a25)), some (.d (PyData.int a31)), some (.cell .own (.lst (List.map (eP PyData.int PyData.int) [(a10, a25), (a18, a31)]))), o30, none]) (e2 := [some (.d (PyData.int rows_)), some (.d (PyData.int columns_)), some (.d (id value_)), some (.d ((eT (eP PyData.int PyData.int)) r1)), some (.cell .own (.lst (List.map (eP (eT PyData.int) (eT PyData.int)) s27))), some (.d (PyData.int a10)), some (.d (PyData.int a18)), some (.d (PyData.int a25)), some (.d (PyData.int a31)), some (.cell .own (.lst (List.map (eP PyData.int PyData.int) [(a10, a25), (a18, a31)]))), some (.cell .own (.lst (List.map (eP PyData.int PyData.int) [(a10, a31), (a18, a25)]))), none]) rfl rfl rfl rfl (setS_ok rfl (datO.ok ho29) rfl) (setS_ok rfl (datO.ok ho30) rfl) ?_
          refine fz_t (v := (eL (eP PyData.int PyData.int)) [(a10, a25), (a18, a31)]) (e' := [some (.d (PyData.int rows_)), some (.d (PyData.int columns_)), some (.d (id value_)), some (.d ((eT (eP PyData.int PyData.int)) r1)), some (.cell .own (.lst (List.map (eP (eT PyData.int) (eT PyData.int)) s27))), some (.d (PyData.int a10)), some (.d (PyData.int a18)), some (.d (PyData.int a25)), some (.d (PyData.int a31)), some (.d ((eL (eP PyData.int PyData.int)) [(a10, a25), (a18, a31)])), some (.cell .own (.lst (List.map (eP PyData.int PyData.int) [(a10, a31), (a18, a25)]))), none]) rfl ?_
          refine fz_t (v := (eL (eP PyData.int PyData.int)) [(a10, a31), (a18, a25)]) (e' := [some (.d (PyData.int rows_)), some (.d (PyData.int columns_)), some (.d (id value_)), some (.d ((eT (eP PyData.int PyData.int)) r1)), some (.cell .own (.lst (List.map (eP (eT PyData.int) (eT PyData.int)) s27))), some (.d (PyData.int a10)), some (.d (PyData.int a18)), some (.d (PyData.int a25)), some (.d (PyData.int a31)), some (.d ((eL (eP PyData.int PyData.int)) [(a10, a25), (a18, a31)])), some (.d ((eL (eP PyData.int PyData.int)) [(a10, a31), (a18, a25)])), none]) rfl ?_
          refine c_blk1 ?_
          refine c_ifS ?_
          refine c_tru ?_
          refine c_call ?_
          refine c_pcons ?_
          refine c_comp ?_
          refine c_seq ?_
          refine c_bin ?_
          refine c_name rfl ?_
          refine c_name rfl ?_
          refine b_part (u := (eL (eP PyData.int PyData.int)) [(a10, a25), (a18, a31)]) (v := (eL (eP PyData.int PyData.int)) [(a10, a31), (a18, a25)]) rfl rfl (catL (e := (eP PyData.int PyData.int))) ?_
          intro cat32
          refine sq_L (ds := List.map (eP PyData.int PyData.int) cat32) (lk := []) rfl rfl ?_
          refine co_m (enc' := PyData.bool) (el := [some (.d (PyData.int rows_)), some (.d (PyData.int columns_)), some (.d (id value_)), some (.d ((eT (eP PyData.int PyData.int)) r1)), some (.cell .own (.lst (List.map (eP (eT PyData.int) (eT PyData.int)) s27))), some (.d (PyData.int a10)), some (.d (PyData.int a18)), some (.d (PyData.int a25)), some (.d (PyData.int a31)), some (.d ((eL (eP PyData.int PyData.int)) [(a10, a25), (a18, a31)])), some (.d ((eL (eP PyData.int PyData.int)) [(a10, a31), (a18, a25)])), none]) rfl (nc_cons rfl datO_none nc_nil) rfl ?_ ?_
          · intro a33
            refine ⟨[some (.d (PyData.int rows_)), some (.d (PyData.int columns_)), some (.d (id value_)), some (.d ((eT (eP PyData.int PyData.int)) r1)), some (.cell .own (.lst (List.map (eP (eT PyData.int) (eT PyData.int)) s27))), some (.d (PyData.int a10)), some (.d (PyData.int a18)), some (.d (PyData.int a25)), some (.d (PyData.int a31)), some (.d ((eL (eP PyData.int PyData.int)) [(a10, a25), (a18, a31)])), some (.d ((eL (eP PyData.int PyData.int)) [(a10, a31), (a18, a25)])), some (.d ((eP PyData.int PyData.int) a33))], (bn (e' := [some (.d (PyData.int rows_)), some (.d (PyData.int columns_)), some (.d (id value_)), some (.d ((eT (eP PyData.int PyData.int)) r1)), some (.cell .own (.lst (List.map (eP (eT PyData.int) (eT PyData.int)) s27))), some (.d (PyData.int a10)), some (.d (PyData.int a18)), some (.d (PyData.int a25)), some (.d (PyData.int a31)), some (.d ((eL (eP PyData.int PyData.int)) [(a10, a25), (a18, a31)])), some (.d ((eL (eP PyData.int PyData.int)) [(a10, a31), (a18, a25)])), some (.d ((eP PyData.int PyData.int) a33))]) rfl okO_none rfl), ?_⟩
            refine c_turnY ?_
            refine c_take ?_
            refine c_bin ?_
            refine c_name rfl ?_
            refine c_name rfl ?_
            refine b_pure (u := (eP PyData.int PyData.int) a33) (v := (eT (eP PyData.int PyData.int)) r1) rfl rfl (in_t (EqT.P EqT.I EqT.I) (by decide) (.inl rfl)) ?_
            refine t_pure rfl ?_
            exact sim_ret ⟨rfl, rfl⟩
          intro xs34
          refine c_pnil ?_
          refine cb_pure (xs := [eL PyData.bool xs34]) rfl allL ?_
          refine tr_pure rfl rfl ?_
          refine sim_bind (k1 := fun (s35 : (List ((List Int) × (List Int)))) (fl : Fl) (e : SE) => fl = .nx ∧ e = [some (.d (PyData.int rows_)), some (.d (PyData.int columns_)), some (.d (id value_)), some (.d ((eT (eP PyData.int PyData.int)) r1)), some (.cell .own (.lst (List.map (eP (eT PyData.int) (eT PyData.int)) s35))), some (.d (PyData.int a10)), some (.d (PyData.int a18)), some (.d (PyData.int a25)), some (.d (PyData.int a31)), some (.d ((eL (eP PyData.int PyData.int)) [(a10, a25), (a18, a31)])), some (.d ((eL (eP PyData.int PyData.int)) [(a10, a31), (a18, a25)])), none]) (ite_s (fun _ => ?_) (fun _ => ?_)) ?_
          · refine sim_bnd0 ?_
            refine c_blk ?_
            refine c_expr ?_
            refine c_meth rfl ?_
            refine c_take ?_
            refine c_tup ?_
            refine c_cons ?_
            refine c_take ?_
            refine c_callF ?_
            refine c_adat ?_
            refine c_take ?_
            refine c_name rfl ?_
            refine t_pure rfl ?_
            refine c_adat ?_
            refine c_take ?_
            refine c_name rfl ?_
            refine t_pure rfl ?_
            refine c_anil ?_
            refine cf_s (e2 := fun r36 => [some (.d (PyData.int rows_)), some (.d (PyData.int columns_)), some (.d (id value_)), some (.d ((eT (eP PyData.int PyData.int)) r1)), some (.cell .own (.lst (List.map (eP (eT PyData.int) (eT PyData.int)) s27))), some (.d (PyData.int a10)), some (.d (PyData.int a18)), some (.d (PyData.int a25)), some (.d (PyData.int a31)), some (.d ((eL (eP PyData.int PyData.int)) [(a10, a25), (a18, a31)])), some (.d ((eL (eP PyData.int PyData.int)) [(a10, a31), (a18, a25)])), none]) (L_heap_of r1 [(a10, a25), (a18, a31)]) (show List.Nodup ([] : List Nat) by decide) rfl rfl (fun _ => rfl) (fun _ => trivial) ?_
            intro r36
            refine t_pure rfl ?_
            refine c_cons ?_
            refine c_take ?_
            refine c_callF ?_
            refine c_adat ?_
            refine c_take ?_
            refine c_name rfl ?_
            refine t_pure rfl ?_
            refine c_adat ?_
            refine c_take ?_
            refine c_name rfl ?_
            refine t_pure rfl ?_
            refine c_anil ?_
            refine cf_s (e2 := fun r37 => [some (.d (PyData.int rows_)), some (.d (PyData.int columns_)), some (.d (id value_)), some (.d ((eT (eP PyData.int PyData.int)) r1)), some (.cell .own (.lst (List.map (eP (eT PyData.int) (eT PyData.int)) s27))), some (.d (PyData.int a10)), some (.d (PyData.int a18)), some (.d (PyData.int a25)), some (.d (PyData.int a31)), some (.d ((eL (eP PyData.int PyData.int)) [(a10, a25), (a18, a31)])), some (.d ((eL (eP PyData.int PyData.int)) [(a10, a31), (a18, a25)])), none]) (L_heap_of r1 [(a10, a31), (a18, a25)]) (show List.Nodup ([] : List Nat) by decide) rfl rfl (fun _ => rfl) (fun _ => trivial) ?_
            intro r37
            refine t_pure rfl ?_
            refine c_nil ?_
            refine tu_pure (v := (eP (eT PyData.int) (eT PyData.int)) (r36, r37)) rfl rfl ?_
            refine t_pure rfl ?_
            refine me_app (e := (eP (eT PyData.int) (eT PyData.int))) (a := (r36, r37)) (e2 := fun ys38 => [some (.d (PyData.int rows_)), some (.d (PyData.int columns_)), some (.d (id value_)), some (.d ((eT (eP PyData.int PyData.int)) r1)), some (.cell .own (.lst (List.map (eP (eT PyData.int) (eT PyData.int)) ys38))), some (.d (PyData.int a10)), some (.d (PyData.int a18)), some (.d (PyData.int a25)), some (.d (PyData.int a31)), some (.d ((eL (eP PyData.int PyData.int)) [(a10, a25), (a18, a31)])), some (.d ((eL (eP PyData.int PyData.int)) [(a10, a31), (a18, a25)])), none]) rfl rfl (fun _ => rfl) ?_
            intro ys38
            refine c_end1 ?_
            exact sim_ret ⟨rfl, rfl⟩
          · refine sim_bnd0 ?_
            refine c_end ?_
            exact sim_ret ⟨rfl, rfl⟩
          rintro s35 fl e ⟨rfl, rfl⟩
          refine c_end1 ?_
          exact sim_ret ⟨.inl rfl, ⟨_, _, _, datO_d, datO_d, datO_d, rfl⟩⟩
        intro s27 e hK e' hu
        obtain ⟨o28, o29, o30, ho28, ho29, ho30, he⟩ := hK
        obtain rfl : e' = [some (.d (PyData.int rows_)), some (.d (PyData.int columns_)), some (.d (id value_)), some (.d ((eT (eP PyData.int PyData.int)) r1)), some (.cell .own (.lst (List.map (eP (eT PyData.int) (eT PyData.int)) s27))), some (.d (PyData.int a10)), some (.d (PyData.int a18)), some (.d (PyData.int a25)), o28, o29, o30, none] := by rw [← hu, he]; rfl
        clear hu he
        refine c_end1 ?_
        exact sim_ret ⟨.inl rfl, ⟨_, _, _, _, datO_d, ho28, ho29, ho30, rfl⟩⟩
      intro s20 e hK e' hu
      obtain ⟨o21, o22, o23, o24, ho21, ho22, ho23, ho24, he⟩ := hK
      obtain rfl : e' = [some (.d (PyData.int rows_)), some (.d (PyData.int columns_)), some (.d (id value_)), some (.d ((eT (eP PyData.int PyData.int)) r1)), some (.cell .own (.lst (List.map (eP (eT PyData.int) (eT PyData.int)) s20))), some (.d (PyData.int a10)), some (.d (PyData.int a18)), o21, o22, o23, o24, none] := by rw [← hu, he]; rfl
      clear hu he
      refine c_end1 ?_
      exact sim_ret ⟨.inl rfl, ⟨_, _, _, _, _, datO_d, ho21, ho22, ho23, ho24, rfl⟩⟩
    intro s12 e hK e' hu
    obtain ⟨o13, o14, o15, o16, o17, ho13, ho14, ho15, ho16, ho17, he⟩ := hK
    obtain rfl : e' = [some (.d (PyData.int rows_)), some (.d (PyData.int columns_)), some (.d (id value_)), some (.d ((eT (eP PyData.int PyData.int)) r1)), some (.cell .own (.lst (List.map (eP (eT PyData.int) (eT PyData.int)) s12))), some (.d (PyData.int a10)), o13, o14, o15, o16, o17, none] := by rw [← hu, he]; rfl
    clear hu he
    refine c_end1 ?_
    exact sim_ret ⟨.inl rfl, ⟨_, _, _, _, _, _, datO_d, ho13, ho14, ho15, ho16, ho17, rfl⟩⟩
  intro s3 e hK e' hu
  obtain ⟨o4, o5, o6, o7, o8, o9, ho4, ho5, ho6, ho7, ho8, ho9, he⟩ := hK
  obtain rfl : e' = [some (.d (PyData.int rows_)), some (.d (PyData.int columns_)), some (.d (id value_)), some (.d ((eT (eP PyData.int PyData.int)) r1)), some (.cell .own (.lst (List.map (eP (eT PyData.int) (eT PyData.int)) s3))), o4, o5, o6, o7, o8, o9, none] := by rw [← hu, he]; rfl
  clear hu he
  refine c_blk1 ?_
  refine c_ret ?_
  refine c_call ?_
  refine c_pcons ?_
  refine c_cell rfl ?_
  refine c_pnil ?_
  refine cb_pure (r := .d (eT (eP (eT PyData.int) (eT PyData.int)) s3)) rfl rfl ?_
  refine rt_d ?_
  exact sim_ret ⟨.inl rfl, rfl⟩
end BH
set_option maxRecDepth 100000
set_option maxHeartbeats 1000000
set_option maxRecDepth 100000
set_option maxHeartbeats 4000000
namespace BH
open PySem PySem.Spec PyProof.Rows L2
/-! ### the squares of a table -/
def heapB (left some_ : List Cel) : List Int := left.map fun p => b2i (memD p some_)
def sqZ (left : List Cel) (i k j l : Int) : Option (List Int × List Int) := if ([(i, j), (k, l), (i, l), (k, j)] : List Cel).all (fun p => memD p left) = true then some (heapB left [(i, j), (k, l)], heapB left [(i, l), (k, j)]) else none
def bookZ (rows cols : Nat) (left : List Cel) : List (List Int × List Int) := (rangeZ 0 rows).flatMap fun i => (rangeZ (i + 1) ((rows : Int) - (i + 1)).toNat).flatMap fun k => (rangeZ 0 cols).flatMap fun j => (rangeZ (j + 1) ((cols : Int) - (j + 1)).toNat).flatMap fun l => (sqZ left i k j l).toList
def pwB : List (List Int × List Int) → Bool
  | [] => true
  | a :: l => l.all (fun b => decide (a ≠ b) && decide (a ≠ (b.2, b.1))) && pwB l
def bareB (e : List Int × List Int) : Bool := decide (((List.zip e.1 e.2).map fun p => max2 0 (p.1 - p.2)) = e.1) && decide (((List.zip e.1 e.2).map fun p => max2 0 (p.2 - p.1)) = e.2)
def exB (W : List (List Int)) (e : List Int × List Int) : Bool := decide (e.1 ≠ e.2) && decide (sumsZ W e.1 = sumsZ W e.2) && bareB e
def bookOk (r c : Nat) (l : List Cel) : Bool := !smallOk l || (decide ((bookZ r c l).length ≤ 30) && (bookZ r c l).all (exB (tabZ r c l)) && pwB (bookZ r c l))
theorem all_books : (shapes.all fun s => (subsL (spotsZ s.1 s.2)).all fun l => bookOk s.1 s.2 l) = true := by decide +kernel
end BH
set_option maxRecDepth 100000
set_option maxHeartbeats 1000000
namespace BH
open PySem PySem.Spec PyProof.Rows L2
theorem for_cat {α β : Type} {f : α → List β → M (List β)} {g : α → List β} {B : Nat} : ∀ (xs : List α) (s : List β), (∀ a ∈ xs, ∀ s, s.length + (g a).length ≤ B → f a s = .ok (s ++ g a)) → s.length + (xs.flatMap g).length ≤ B → forM' f xs s = .ok (s ++ xs.flatMap g)
  | [], s, _, _ => by simp [forM']
  | a :: as, s, h, hl => by
    rw [List.flatMap_cons, List.length_append] at hl
    unfold forM'
    rw [h a (by simp) s (by omega), M.ok_bind, for_cat as _ (fun b hb => h b (List.mem_cons_of_mem _ hb)) (by rw [List.length_append]; omega), List.append_assoc, List.flatMap_cons]
theorem heapof_ok {left some_ : List Cel} (h : left.length ≤ 1000) : S_heap_of left some_ = .ok (heapB left some_) := by
  unfold S_heap_of
  rw [lenG_ok (by rw [List.length_map]; unfold lim; omega), M.ok_bind]
  rfl
section
variable {rows cols : Nat} {bars : List Cel}
theorem tab_book (h : Tabl rows cols bars) : (bookZ rows cols (freeC rows cols bars)).length ≤ 30 ∧ (∀ e ∈ bookZ rows cols (freeC rows cols bars), exB (tabZ rows cols (freeC rows cols bars)) e = true) ∧ pwB (bookZ rows cols (freeC rows cols bars)) = true := by
  have a := List.all_eq_true.mp all_books (rows, cols) (shape_in h.r1 h.c1 h.rc)
  have b := List.all_eq_true.mp a (freeC rows cols bars) (subs_filter _ _)
  unfold bookOk smallOk at b
  rw [decide_eq_true h.f1, decide_eq_true h.f6] at b
  simp only [Bool.and_self, Bool.not_true, Bool.false_or, Bool.and_eq_true, decide_eq_true_eq] at b
  exact ⟨b.1.1, List.all_eq_true.mp b.1.2, b.2⟩
theorem tbook_ok (h : Tabl rows cols bars) : S_table_book rows cols (eT (eP PyData.int PyData.int) bars) = .ok (bookZ rows cols (freeC rows cols bars)) := by
  have r1 := h.r1
  have c1 := h.c1
  have rc := h.rc
  have f6 := h.f6
  have bl := (tab_book h).1
  unfold S_table_book
  rw [cells_ok h, M.ok_bind]
  generalize freeC rows cols bars = L at f6 bl ⊢
  rw [range1M_ok (by omega), M.ok_bind]
  have key := for_cat (B := 1000) (f := fun (a10 : Int) (s3 : (List ((List Int) × (List Int)))) =>
    range2M (a10 + (1 : Int)) (rows : Int) >>= fun rng11 =>
    forM' (fun (a18 : Int) (s12 : (List ((List Int) × (List Int)))) =>
    range1M (cols : Int) >>= fun rng19 =>
    forM' (fun (a25 : Int) (s20 : (List ((List Int) × (List Int)))) =>
    range2M (a25 + (1 : Int)) (cols : Int) >>= fun rng26 =>
    forM' (fun (a31 : Int) (s27 : (List ((List Int) × (List Int)))) =>
    lenG ([(a10, a25), (a18, a31)] ++ [(a10, a31), (a18, a25)]) >>= fun cat32 =>
    lenG (List.map (fun (a33 : Int × Int) => (memD a33 L)) cat32) >>= fun xs34 =>
    (if (xs34.all id) = true then (S_heap_of L [(a10, a25), (a18, a31)] >>= fun r36 =>
    S_heap_of L [(a10, a31), (a18, a25)] >>= fun r37 =>
    appM s27 (r36, r37) >>= fun ys38 =>
    .ok ys38) else (.ok s27)) >>= fun s35 =>
    .ok s35) rng26 s20 >>= fun s27 =>
    .ok s27) rng19 s12 >>= fun s20 =>
    .ok s20) rng11 s3 >>= fun s12 =>
    .ok s12) (g := fun i => (rangeZ (i + 1) ((rows : Int) - (i + 1)).toNat).flatMap fun k => (rangeZ 0 cols).flatMap fun j => (rangeZ (j + 1) ((cols : Int) - (j + 1)).toNat).flatMap fun l => (sqZ L i k j l).toList) (rangeZ 0 rows) [] (fun i hi s hs => ?_) (by
      show 0 + (bookZ rows cols L).length ≤ 1000
      omega)
  · rw [key, M.ok_bind]; rfl
  have hi := rangeZ_mem.mp hi
  rw [range2M_ok (by omega) (by omega) (by omega) (by omega), M.ok_bind]
  refine (congrArg (· >>= _) (for_cat (B := 1000) (g := fun k => (rangeZ 0 cols).flatMap fun j => (rangeZ (j + 1) ((cols : Int) - (j + 1)).toNat).flatMap fun l => (sqZ L i k j l).toList) _ s (fun k hk s hs => ?_) hs)).trans (M.ok_bind _ _)
  rw [range1M_ok (by omega), M.ok_bind]
  refine (congrArg (· >>= _) (for_cat (B := 1000) (g := fun j => (rangeZ (j + 1) ((cols : Int) - (j + 1)).toNat).flatMap fun l => (sqZ L i k j l).toList) _ s (fun j hj s hs => ?_) hs)).trans (M.ok_bind _ _)
  have hj := rangeZ_mem.mp hj
  rw [range2M_ok (by omega) (by omega) (by omega) (by omega), M.ok_bind]
  refine (congrArg (· >>= _) (for_cat (B := 1000) (g := fun l => (sqZ L i k j l).toList) _ s (fun l hl s hs => ?_) hs)).trans (M.ok_bind _ _)
  rw [lenG_ok (by simp [lim]), M.ok_bind, lenG_ok (by simp [lim]), M.ok_bind]
  have e : (List.map (fun (a33 : Int × Int) => (memD a33 L)) ([(i, j), (k, l)] ++ [(i, l), (k, j)])).all id = ([(i, j), (k, l), (i, l), (k, j)] : List Cel).all (fun p => memD p L) := by
    simp [List.all_map]
  rw [e]
  unfold sqZ at hs ⊢
  by_cases c : ([(i, j), (k, l), (i, l), (k, j)] : List Cel).all (fun p => memD p L) = true
  · rw [if_pos c] at hs
    rw [if_pos c, if_pos c, heapof_ok (by omega), M.ok_bind, heapof_ok (by omega), M.ok_bind, appM_ok (by simp at hs; unfold lim; omega), M.ok_bind, M.ok_bind]
    rfl
  · rw [if_neg c, if_neg c, M.ok_bind]
    simp
end
end BH
set_option maxRecDepth 100000
set_option maxHeartbeats 4000000
set_option maxRecDepth 100000
set_option maxHeartbeats 4000000
set_option maxRecDepth 100000
set_option maxHeartbeats 4000000
set_option maxRecDepth 100000
set_option maxHeartbeats 1000000
namespace BH
open PySem PySem.Spec PyProof.Rows L2
/-! ### what an exchange of any kind is told to be -/
def isI (a : PyData) (lo hi : Int) : Bool := match a with
  | .int v => decide (lo ≤ v) && decide (v ≤ hi)
  | _ => false
theorem intA (a : PyData) (lo hi : Int) : S_is_integer a lo hi = .ok (isI a lo hi) := by
  cases a with
  | int v => exact isint_int v lo hi
  | _ => rfl
theorem castA (xs : List PyData) : castM (decT decA) (.tuple xs) = .ok xs := by
  unfold castM
  have : decT decA (.tuple xs) = some xs := decA_all _
  rw [this]
end BH
set_option maxRecDepth 100000
set_option maxHeartbeats 1000000
namespace BH
open PySem PySem.Spec PyProof.Rows L2
/-! ### values that tell no barred cells -/
def isCl (rows cols : Int) : PyData → Bool
  | .tuple [a, b] => isI a 0 (rows - 1) && isI b 0 (cols - 1)
  | _ => false
theorem isCl_ok (rows cols : Int) (v : PyData) : S_is_cell rows cols v = .ok (isCl rows cols v) := by
  unfold S_is_cell
  cases v with
  | tuple xs =>
    have e1 : PyData.isTuple (.tuple xs) = true := rfl
    rw [e1, if_neg (by decide), castA, M.ok_bind, M.ok_bind]
    by_cases hl : xs.length = 2
    · obtain ⟨a, b, rfl⟩ : ∃ a b, xs = [a, b] := by
        cases xs with
        | nil => simp at hl
        | cons a r => cases r with
          | nil => simp at hl
          | cons b r => cases r with
            | nil => exact ⟨a, b, rfl⟩
            | cons c r => simp at hl
      have e3 : eqD (([a, b].length : Nat) : Int) (2 : Int) = true := by simp
      have i0 : ixM [a, b] 0 = .ok a := ixM_int (by decide) rfl
      have i1 : ixM [a, b] 1 = .ok b := ixM_int (by decide) rfl
      rw [e3, if_neg (by decide), M.ok_bind, i0, M.ok_bind, intA, M.ok_bind]
      show _ = M.ok (isI a 0 (rows - 1) && isI b 0 (cols - 1))
      cases isI a 0 (rows - 1) with
      | false => rw [if_neg (by decide), M.ok_bind]; rfl
      | true => rw [if_pos rfl, M.ok_bind, i1, M.ok_bind, intA, M.ok_bind, M.ok_bind]; rfl
    · have e3 : eqD ((xs.length : Nat) : Int) (2 : Int) = false := by simp only [eqD, decide_eq_false_iff_not]; omega
      rw [e3, if_pos (by decide)]
      show M.ok false = M.ok _
      congr 1
      unfold isCl
      split
      · rename_i e
        simp only [PyData.tuple.injEq] at e
        rw [e] at hl
        simp at hl
      · rfl
  | _ => rfl
abbrev badM : M (List Cel) := .exc "BadBars" []
theorem bad_other {rows cols : Int} {v : PyData} (h : PyData.isTuple v = false) : S_cells rows cols v = badM := by
  unfold S_cells
  rw [h]
  simp only [Bool.not_false, if_true]
  rfl
theorem bad_item {rows cols : Int} {xs : List PyData} (h : ∃ x ∈ xs, isCl rows cols x = false) (hl : xs.length ≤ lim) : S_cells rows cols (.tuple xs) = badM := by
  unfold S_cells
  have e1 : PyData.isTuple (.tuple xs) = true := rfl
  rw [e1, if_neg (by decide), castA, M.ok_bind, compP_map (fun x => isCl rows cols x) (fun x _ => by rw [isCl_ok]; rfl) hl, M.ok_bind]
  have : (xs.map fun x => isCl rows cols x).all id = false := by
    obtain ⟨x, hx, hf⟩ := h
    rw [Bool.eq_false_iff]
    intro z
    rw [List.all_eq_true] at z
    have := z _ (List.mem_map.mpr ⟨x, hx, rfl⟩)
    rw [hf] at this; simp at this
  rw [this, M.ok_bind, if_pos (by decide)]
theorem cells_gen {rows cols : Nat} {bars : List Cel} (r6 : rows ≤ 6) (c6 : cols ≤ 6) (sub : ∀ p ∈ bars, p ∈ spotsZ rows cols) (hl : bars.length ≤ 1000) :
    S_cells rows cols (eT (eP PyData.int PyData.int) bars) = if (rows * cols - (freeC rows cols bars).length < bars.length ∨ (freeC rows cols bars).length < 1 ∨ 6 < (freeC rows cols bars).length) ∧ (freeC rows cols bars).length ≤ rows * cols then badM else .ok (freeC rows cols bars) := by
  have ar : rows * cols ≤ 36 := Nat.mul_le_mul r6 c6
  have fl : (freeC rows cols bars).length ≤ rows * cols := by
    rw [← spots_length rows cols]; exact List.length_filter_le _ _
  unfold S_cells
  have e1 : PyData.isTuple (eT (eP PyData.int PyData.int) bars) = true := rfl
  have k1 : compP (fun (a2 : PyData) => S_is_cell (rows : Int) (cols : Int) a2 >>= fun r3 => .ok (some r3)) (bars.map (eP PyData.int PyData.int)) = .ok (bars.map fun _ => true) := by
    have e : (bars.map (eP PyData.int PyData.int)).map (fun _ => true) = bars.map fun _ => true := by simp
    rw [← e]
    refine compP_map (fun _ => true) (fun a ha => ?_) (by rw [List.length_map]; unfold lim; omega)
    obtain ⟨p, hp, rfl⟩ := List.mem_map.mp ha
    have q := spots_mem.mp (sub p hp)
    rw [cell_pair, decide_eq_true (by omega), decide_eq_true (by omega), decide_eq_true (by omega), decide_eq_true (by omega)]
    rfl
  have all1 : (bars.map fun _ => true).all id = true := by simp
  rw [e1, if_neg (by decide), cast_tup, M.ok_bind, k1, M.ok_bind, all1, M.ok_bind, if_neg (by decide), range1M_ok (by omega), M.ok_bind]
  have k2 : comp2P (fun (a7 : Int) => range1M (cols : Int) >>= fun rng9 => .ok rng9) (fun (a7 : Int) (a8 : Int) => M.ok (bars.map (eP PyData.int PyData.int)) >>= fun h10 =>
      inAM ((eP PyData.int PyData.int) (a7, a8)) h10 >>= fun isin11 => if (!isin11) = true then (.ok (some (a7, a8))) else (.ok none)) (rangeZ 0 rows) = .ok (freeC rows cols bars) := by
    have e : ((rangeZ 0 rows).flatMap fun a => (rangeZ 0 cols).filterMap fun b => if (!memD (a, b) bars) = true then some (a, b) else none) = freeC rows cols bars := by
      unfold freeC spotsZ
      rw [List.filter_flatMap]
      congr 1
      funext a
      rw [List.filter_map, ← List.filterMap_eq_map, ← List.filterMap_eq_filter, List.filterMap_filterMap]
      congr 1
      funext b
      by_cases c : memD (a, b) bars = true
      · simp [c, Option.guard]
      · have c : memD (a, b) bars = false := by simpa using c
        simp [c, Option.guard]
    rw [← e]
    refine comp2P_ok (fun _ => rangeZ 0 cols) (fun a b => if (!memD (a, b) bars) = true then some (a, b) else none) (fun a _ => ?_) (fun a _ b _ => ?_) ?_
    · rw [range1M_ok (by omega), M.ok_bind]
    · rw [M.ok_bind, inAM_ok eqP (by decide), M.ok_bind]
      split <;> rfl
    · rw [e]; unfold lim; omega
  rw [k2, M.ok_bind, mulM_l (by omega) (by omega), M.ok_bind, M.ok_bind]
  have nn : ((rows : Int) * (cols : Int)) = ((rows * cols : Nat) : Int) := by simp
  rw [nn, List.length_map]
  by_cases c : (rows * cols - (freeC rows cols bars).length < bars.length ∨ (freeC rows cols bars).length < 1 ∨ 6 < (freeC rows cols bars).length) ∧ (freeC rows cols bars).length ≤ rows * cols
  · rw [if_pos c, if_pos]
    simp only [Bool.or_eq_true, decide_eq_true_eq, Bool.not_eq_true', Bool.and_eq_false_iff, decide_eq_false_iff_not]
    omega
  · rw [if_neg c, if_neg]
    simp only [Bool.or_eq_true, decide_eq_true_eq, Bool.not_eq_true', Bool.and_eq_false_iff, decide_eq_false_iff_not]
    omega
/-! repr of dicts -/
theorem sg_kv {w d : Nat} : ∀ {kvs : List (PyData × PyData)}, (∀ p ∈ kvs, Sg w d p.1 ∧ Sg w d p.2) → PyData.leavesShortKv 60 kvs = true ∧ PyData.showableKv kvs = true ∧ (∀ t ∈ PyData.shownKv kvs, PyData.strOk t = true) ∧ PyData.weightKv kvs ≤ (2 * w + 2) * kvs.length ∧ PyData.depthKv kvs ≤ d
  | [], _ => by simp [PyData.leavesShortKv, PyData.showableKv, PyData.shownKv, PyData.weightKv, PyData.depthKv]
  | (k, v) :: r, h => by
    obtain ⟨h1, h2, h4, h5, h6⟩ := sg_kv fun y hy => h y (List.mem_cons_of_mem _ hy)
    obtain ⟨hk, hv⟩ := h (k, v) List.mem_cons_self
    simp only at hk hv
    refine ⟨?_, ?_, ?_, ?_, ?_⟩
    · simp only [PyData.leavesShortKv, hk.le, hv.le, h1, Bool.and_self]
    · simp only [PyData.showableKv, hk.sh, hv.sh, h2, Bool.and_self]
    · simp only [PyData.shownKv, List.mem_cons]
      rintro t (rfl | ht)
      · exact strOk_app _ _ (strOk_app _ _ hk.ok (strOk_of ": ")) hv.ok
      · exact h4 t ht
    · simp only [PyData.weightKv, List.length_cons, Nat.mul_add, Nat.mul_one]
      have := hk.wt
      have := hv.wt
      omega
    · simp only [PyData.depthKv]
      have := hk.dp
      have := hv.dp
      omega
theorem sg_dictKv {w d n : Nat} {kvs : List (PyData × PyData)} (h : ∀ p ∈ kvs, Sg w d p.1 ∧ Sg w d p.2) (hn : kvs.length ≤ n) : Sg ((2 * w + 2) * n) (d + 1) (.dict kvs) := by
  obtain ⟨h1, h2, h4, h5, h6⟩ := sg_kv h
  have h7 : (2 * w + 2) * kvs.length ≤ (2 * w + 2) * n := Nat.mul_le_mul_left _ hn
  refine ⟨by simp only [PyData.leavesShort, h1], by simp only [PyData.showable, h2], trivial, ?_, by simp only [PyData.weight]; omega, by simp only [PyData.depth]; omega⟩
  rw [PyData.shown_dict]
  exact strOk_app _ _ (strOk_app _ _ (strOk_of "{") (strOk_join _ h4)) (strOk_of "}")
end BH
set_option maxRecDepth 100000
set_option maxHeartbeats 4000000
set_option maxRecDepth 100000
set_option maxHeartbeats 4000000
set_option maxRecDepth 100000
set_option maxHeartbeats 4000000
set_option maxRecDepth 100000
set_option maxHeartbeats 4000000
set_option maxRecDepth 100000
set_option maxHeartbeats 4000000
namespace BH
open PySem PySem.Spec PyProof.Rows L2
theorem L_law_pick_2 {α : Type} (eα : α → PyData) (deck_ : List Int) (items_ : List α) : FSim (F_law_pick [.bor (.lst (List.map PyData.int deck_)), .d ((eT eα) items_)]) (S_law_pick deck_ items_) (fun (r : α × (List Int)) => Ret.d (eα r.1)) (fun (r : α × (List Int)) => [.bor (.lst (List.map PyData.int r.2)), .d ((eT eα) items_)]) := by
  refine fs_mk ?_
  unfold S_law_pick
  refine sim_bnd0 ?_
  have e0 : envOf 2 [.bor (.lst (List.map PyData.int deck_)), .d ((eT eα) items_)] = [some (.cell .bor (.lst (List.map PyData.int deck_))), some (.d ((eT eα) items_))] := rfl
  rw [e0]
  unfold f_law_pick
  refine c_blk ?_
  refine c_ret ?_
  refine c_bin ?_
  refine c_name rfl ?_
  refine c_callF ?_
  refine c_aref rfl ?_
  refine c_adat ?_
  refine c_take ?_
  refine c_call ?_
  refine c_pcons ?_
  refine c_name rfl ?_
  refine c_pnil ?_
  refine cb_pure (xs := [(eT eα) items_]) rfl lenT ?_
  refine t_pure rfl ?_
  refine c_anil ?_
  refine cf_s (e2 := fun r1 => [some (.cell .bor (.lst (List.map PyData.int r1.2))), some (.d ((eT eα) items_))]) (L_law_draw deck_ ((items_).length : Int)) (show List.Nodup ([0] : List Nat) by decide) rfl rfl (fun _ => rfl) (fun _ => trivial) ?_
  intro r1
  refine b_part (u := (eT eα) items_) rfl rfl (ixS (e := eα) (xs := items_) rfl) ?_
  intro it2
  refine rt_d ?_
  exact sim_ret ⟨.inl rfl, rfl⟩
end BH
set_option maxRecDepth 100000
set_option maxHeartbeats 4000000
set_option maxRecDepth 100000
set_option maxHeartbeats 4000000
namespace BH.K25
open PySem PySem.Spec PyProof.Rows L2
/-- _law_cells_told(way, rows, columns, value): slots way, rows, columns, value, found -/
def f_law_cells_told : SF :=
  (fSeqS (fSet 4 (fC .none)) (fSeqS (fTry (fSeqS (fIfS (fTru (fBin (opEq false) (fName 0) (fC (.int 0)))) (fSeqS (fFrzS 4 (fSet 4 (fCallF 3 F_cells (aDat (fTake (fName 1)) (aDat (fTake (fName 2)) (aDat (fTake (fName 3)) aNil)))))) fNextS) (fSeqS (fIfS (fTru (fBin (opEq false) (fName 0) (fC (.int 1)))) (fSeqS (fFrzS 4 (fSet 4 (fCallF 3 F_table_scale (aDat (fTake (fName 1)) (aDat (fTake (fName 2)) (aDat (fTake (fName 3)) aNil)))))) fNextS) (fSeqS (fFrzS 4 (fSet 4 (fCallF 3 F_table_book (aDat (fTake (fName 1)) (aDat (fTake (fName 2)) (aDat (fTake (fName 3)) aNil)))))) fNextS)) fNextS)) fNextS) [⟨["BadBars"], [], none, (fun _ _ => (fSeqS (fSet 4 (fC (.str (Str.ofString "bars")))) fNextS))⟩]) (fSeqS (fRet (fName 4)) fNextS)))
def F_law_cells_told : List Arg → FRes := fnF 5 f_law_cells_told
/-- _law_bad_bars(deck, rows, columns, bars): slots deck, rows, columns, bars, way, spots, at, odd, more, cell -/
def f_law_bad_bars : SF :=
  (fSeqS (fFrzS 5 (fFrzS 4 (fPar 4 5 (fPCons (fCallF 2 F_law_draw (aRef 0 (aDat (fTake (fC (.int 9))) aNil))) (fPCons (fCallF 3 F_law_left (aDat (fTake (fName 1)) (aDat (fTake (fName 2)) (aDat (fTake (fTup fNil)) aNil)))) fPNil))))) (fSeqS (fFrzS 6 (fSet 6 (fCallF 2 F_law_draw (aRef 0 (aDat (fTake (fBin opAdd (fCall opLen (fPCons (fName 3) fPNil)) (fC (.int 1)))) aNil))))) (fSeqS (fFrzS 7 (fSet 7 (fLst (fCons (fTake (fTup (fCons (fTake (fName 1)) (fCons (fTake (fC (.int 0))) fNil)))) (fCons (fTake (fTup (fCons (fTake (fC (.int 0))) (fCons (fTake (fName 2)) fNil)))) (fCons (fTake (fTup (fCons (fTake (fNeg (fC (.int 1)))) (fCons (fTake (fC (.int 0))) fNil)))) (fCons (fTake (fTup (fCons (fTake (fC (.int 0))) (fCons (fTake (fNeg (fC (.int 1)))) fNil)))) (fCons (fTake (fTup (fCons (fTake (fC (.int 0))) fNil))) (fCons (fTake (fTup (fCons (fTake (fC (.int 0))) (fCons (fTake (fC (.int 0))) (fCons (fTake (fC (.int 0))) fNil))))) (fCons (fTake (fLst (fCons (fTake (fC (.int 0))) (fCons (fTake (fC (.int 0))) fNil)))) (fCons (fTake (fC (.str (Str.ofString "00")))) (fCons (fTake (fC .none)) (fCons (fTake (fC (.int 0))) (fCons (fTake (fTup (fCons (fTake (fC (.bool true))) (fCons (fTake (fC (.int 0))) fNil)))) (fCons (fTake (fTup (fCons (fTake (fC (.int 0))) (fCons (fTake (fC (.bool false))) fNil)))) fNil))))))))))))))) (fSeqS (fFrzS 8 (fSet 8 (fLst (fCons (fTake (fTup (fCons (fTake (fC (.str (Str.ofString "0")))) (fCons (fTake (fC (.int 0))) fNil)))) (fCons (fTake (fTup (fCons (fTake (fC (.int 0))) (fCons (fTake (fLst fNil)) fNil)))) (fCons (fTake (fTup (fCons (fTake fDic0) (fCons (fTake (fC (.int 0))) fNil)))) (fCons (fTake (fTup (fCons (fTake (fC .none)) (fCons (fTake (fC (.int 0))) fNil)))) (fCons (fTake (fTup (fCons (fTake (fTup (fCons (fTake (fC (.int 0))) fNil))) (fCons (fTake (fC (.int 0))) fNil)))) (fCons (fTake (fTup (fCons (fTake (fC (.int 0))) (fCons (fTake (fC (.int 0))) (fCons (fTake (fC (.int 0))) fNil))))) fNil))))))))) (fSeqS (fIfS (fTru (fBin opLt (fName 4) (fC (.int 4)))) (fSeqS (fRet (fDat (fBin opAdd (fBin opAdd (fSl (fName 3) fNoPart (fPart (fName 6))) (fTup (fCons (fTake (fCallF 2 F_law_pick (aRef 0 (aDat (fTake (fBin opAdd (fName 7) (fName 8))) aNil)))) fNil))) (fSl (fName 3) (fPart (fName 6)) fNoPart)))) fNextS) fNextS) (fSeqS (fIfS (fTru (fBin (opEq false) (fName 4) (fC (.int 4)))) (fSeqS (fRet (fDat (fCall opList (fPCons (fName 3) fPNil)))) fNextS) fNextS) (fSeqS (fIfS (fTru (fBin (opEq false) (fName 4) (fC (.int 5)))) (fSeqS (fRet (fDat (fCallF 2 F_law_pick (aRef 0 (aDat (fTake (fLst (fCons (fTake (fC .none)) (fCons (fTake (fC (.str (Str.ofString "")))) (fCons (fTake fDic0) (fCons (fTake (fC (.int 0))) (fCons (fTake (fC (.bool false))) (fCons (fTake (fBin opAdd (fName 3) (fTup (fCons (fTake (fTup fNil)) fNil)))) (fCons (fTake (fCall opDictP (fPCons (fComp (fSeq (fName 3)) (bName 9) [9] fYes (fTake (fTup (fCons (fTake (fName 9)) (fCons (fTake (fC (.int 1))) fNil))))) fPNil))) fNil))))))))) aNil))))) fNextS) fNextS) (fSeqS (fIfS (fTru (fBin (opEq false) (fName 4) (fC (.int 6)))) (fSeqS (fRet (fDat (fCall opTuple (fPCons (fCallF 2 F_law_mixed (aRef 0 (aDat (fTake (fCall opList (fPCons (fName 5) fPNil))) aNil))) fPNil)))) fNextS) fNextS) (fSeqS (fIfS (fAnd (fTru (fBin (opEq false) (fName 4) (fC (.int 7)))) (fTru (fBin opGt (fCall opLen (fPCons (fName 5) fPNil)) (fC (.int 6))))) (fSeqS (fRet (fDat (fSl (fName 3) fNoPart (fPart (fCallF 2 F_law_draw (aRef 0 (aDat (fTake (fBin opSub (fCall opLen (fPCons (fName 5) fPNil)) (fC (.int 6)))) aNil))))))) fNextS) fNextS) (fSeqS (fFrzS 9 (fSet 9 (fCallF 2 F_law_pick (aRef 0 (aDat (fTake (fName 5)) aNil))))) (fSeqS (fRet (fDat (fCall opTuple (fPCons (fCallF 2 F_law_mixed (aRef 0 (aDat (fTake (fBin opAdd (fCall opList (fPCons (fName 3) fPNil)) (fLst (fCons (fTake (fName 9)) (fCons (fTake (fName 9)) fNil))))) aNil))) fPNil)))) fNextS)))))))))))
def F_law_bad_bars : List Arg → FRes := fnF 10 f_law_bad_bars
/-- law(script): slots script, deck, turn, rows, columns, bars, due, way, found, again, value, shown -/
def f_law : SF :=
  (fSeqS (fSet 1 (fCallF 1 F_law_deck (aDat (fTake (fName 0)) aNil))) (fSeqS (fFor (fRng1 (fPCons (fC (.int 10)) fPNil)) (bName 2) (fSeqS (fBind (bTup (bCons (bName 3) (bCons (bName 4) bNil))) (fTake (fCallF 1 F_law_shape (aRef 1 aNil)))) (fSeqS (fFrzS 5 (fSet 5 (fCallF 3 F_law_bars (aRef 1 (aDat (fTake (fName 3)) (aDat (fTake (fName 4)) aNil)))))) (fSeqS (fFrzS 6 (fSet 6 (fCallF 3 F_law_left (aDat (fTake (fName 3)) (aDat (fTake (fName 4)) (aDat (fTake (fName 5)) aNil)))))) (fSeqS (fFor (fRng1 (fPCons (fC (.int 3)) fPNil)) (bName 7) (fSeqS (fFrzS 8 (fSet 8 (fCallF 4 F_law_cells_told (aDat (fTake (fName 7)) (aDat (fTake (fName 3)) (aDat (fTake (fName 4)) (aDat (fTake (fName 5)) aNil))))))) (fSeqS (fIfS (fOr (fNot (fTru (fIsa PyData.isTuple (fName 8)))) (fAnd (fTru (fBin (opEq false) (fName 7) (fC (.int 0)))) (fTru (fBin (opEq true) (fCall opReprA (fPCons (fName 8) fPNil)) (fCall opReprA (fPCons (fName 6) fPNil)))))) (fSeqS (fRet (fC (.bool false))) fNextS) fNextS) fNextS))) (fSeqS (fFor (fRng1 (fPCons (fC (.int 4)) fPNil)) (bName 9) (fSeqS (fFrzS 10 (fSet 10 (fCallF 4 F_law_bad_bars (aRef 1 (aDat (fTake (fName 3)) (aDat (fTake (fName 4)) (aDat (fTake (fName 5)) aNil))))))) (fSeqS (fSet 11 (fCall opReprA (fPCons (fName 10) fPNil))) (fSeqS (fFor (fRng1 (fPCons (fC (.int 3)) fPNil)) (bName 7) (fSeqS (fIfS (fOr (fTru (fBin (opEq true) (fCallF 4 F_law_cells_told (aDat (fTake (fName 7)) (aDat (fTake (fName 3)) (aDat (fTake (fName 4)) (aDat (fTake (fName 10)) aNil))))) (fC (.str (Str.ofString "bars"))))) (fTru (fBin (opEq true) (fCall opReprA (fPCons (fName 10) fPNil)) (fName 11)))) (fSeqS (fRet (fC (.bool false))) fNextS) fNextS) fNextS)) fNextS)))) (fSeqS (fIfS (fTru (fBin (opEq true) (fCall opReprA (fPCons (fCallF 3 F_cells (aDat (fTake (fName 3)) (aDat (fTake (fName 4)) (aDat (fTake (fName 5)) aNil)))) fPNil)) (fCall opReprA (fPCons (fName 6) fPNil)))) (fSeqS (fRet (fC (.bool false))) fNextS) fNextS) fNextS))))))) (fSeqS (fRet (fC (.bool true))) fNextS)))
def F_law : List Arg → FRes := fnF 12 f_law
def S_law_cells_told (way_ : Int) (rows_ : Int) (columns_ : Int) (value_ : PyData) : M (PyData) :=
  tryM (if (eqD way_ (0 : Int)) = true then (S_cells rows_ columns_ value_ >>= fun r2 =>
  .ok ((eT (eP PyData.int PyData.int)) r2))
  else
  if (eqD way_ (1 : Int)) = true then (S_table_scale rows_ columns_ value_ >>= fun r3 =>
  .ok ((eT (eT PyData.int)) r3))
  else
  S_table_book rows_ columns_ value_ >>= fun r4 =>
  .ok ((eT (eP (eT PyData.int) (eT PyData.int))) r4)) (handM [(["BadBars"], [], fun c fs => lendM (.ok (PyData.str (Str.ofString "bars"))))]) >>= fun s1 =>
  .ok s1
theorem L_law_cells_told (way_ : Int) (rows_ : Int) (columns_ : Int) (value_ : PyData) : FSim (F_law_cells_told [.d (PyData.int way_), .d (PyData.int rows_), .d (PyData.int columns_), .d (id value_)]) (S_law_cells_told way_ rows_ columns_ value_) (fun (r : PyData) => Ret.d (id r)) (fun (r : PyData) => [.d (PyData.int way_), .d (PyData.int rows_), .d (PyData.int columns_), .d (id value_)]) := by
  refine fs_mk ?_
  unfold S_law_cells_told
  refine sim_bnd0 ?_
  have e0 : envOf 5 [.d (PyData.int way_), .d (PyData.int rows_), .d (PyData.int columns_), .d (id value_)] = [some (.d (PyData.int way_)), some (.d (PyData.int rows_)), some (.d (PyData.int columns_)), some (.d (id value_)), none] := rfl
  rw [e0]
  unfold f_law_cells_told
  refine c_blk ?_
  refine c_set ?_
  refine c_const ?_
  refine as_d (e' := [some (.d (PyData.int way_)), some (.d (PyData.int rows_)), some (.d (PyData.int columns_)), some (.d (id value_)), some (.d (id PyData.none))]) rfl okO_none rfl ?_
  refine c_blk1 ?_
  refine try_n (fun (s1 : PyData) (fl : Fl) (e : SE) => fl = .nx ∧ e = [some (.d (PyData.int way_)), some (.d (PyData.int rows_)), some (.d (PyData.int columns_)), some (.d (id value_)), some (.d (id s1))]) ?_ ?_ ?_
  · refine sim_bnd0 ?_
    refine c_blk ?_
    refine c_ifS ?_
    refine c_tru ?_
    refine c_bin ?_
    refine c_name rfl ?_
    refine c_const ?_
    refine b_pure (u := PyData.int way_) (v := PyData.int (0 : Int)) rfl rfl (eq_t EqT.I (by decide)) ?_
    refine tr_pure rfl rfl ?_
    refine ite_b (fun _ => ?_) (fun _ => ?_)
    · refine c_blk ?_
      refine c_frz ?_
      refine c_set ?_
      refine c_callF ?_
      refine c_adat ?_
      refine c_take ?_
      refine c_name rfl ?_
      refine t_pure rfl ?_
      refine c_adat ?_
      refine c_take ?_
      refine c_name rfl ?_
      refine t_pure rfl ?_
      refine c_adat ?_
      refine c_take ?_
      refine c_name rfl ?_
      refine t_pure rfl ?_
      refine c_anil ?_
      refine cf_s (e2 := fun r2 => [some (.d (PyData.int way_)), some (.d (PyData.int rows_)), some (.d (PyData.int columns_)), some (.d (id value_)), some (.d (id PyData.none))]) (L_cells rows_ columns_ value_) (show List.Nodup ([] : List Nat) by decide) rfl rfl (fun _ => rfl) (fun _ => putOuts_d rfl) ?_
      intro r2
      refine as_d (e' := [some (.d (PyData.int way_)), some (.d (PyData.int rows_)), some (.d (PyData.int columns_)), some (.d (id value_)), some (.d (id ((eT (eP PyData.int PyData.int)) r2)))]) rfl okO_d rfl ?_
      refine fz_t (v := id ((eT (eP PyData.int PyData.int)) r2)) (e' := [some (.d (PyData.int way_)), some (.d (PyData.int rows_)), some (.d (PyData.int columns_)), some (.d (id value_)), some (.d (id ((eT (eP PyData.int PyData.int)) r2)))]) rfl ?_
      refine c_end1 ?_
      refine c_end1 ?_
      exact sim_ret ⟨rfl, rfl⟩
    refine c_blk ?_
    refine c_ifS ?_
    refine c_tru ?_
    refine c_bin ?_
    refine c_name rfl ?_
    refine c_const ?_
    refine b_pure (u := PyData.int way_) (v := PyData.int (1 : Int)) rfl rfl (eq_t EqT.I (by decide)) ?_
    refine tr_pure rfl rfl ?_
    refine ite_b (fun _ => ?_) (fun _ => ?_)
    · refine c_blk ?_
      refine c_frz ?_
      refine c_set ?_
      refine c_callF ?_
      refine c_adat ?_
      refine c_take ?_
      refine c_name rfl ?_
      refine t_pure rfl ?_
      refine c_adat ?_
      refine c_take ?_
      refine c_name rfl ?_
      refine t_pure rfl ?_
      refine c_adat ?_
      refine c_take ?_
      refine c_name rfl ?_
      refine t_pure rfl ?_
      refine c_anil ?_
      refine cf_s (e2 := fun r3 => [some (.d (PyData.int way_)), some (.d (PyData.int rows_)), some (.d (PyData.int columns_)), some (.d (id value_)), some (.d (id PyData.none))]) (L_table_scale rows_ columns_ value_) (show List.Nodup ([] : List Nat) by decide) rfl rfl (fun _ => rfl) (fun _ => putOuts_d rfl) ?_
      intro r3
      refine as_d (e' := [some (.d (PyData.int way_)), some (.d (PyData.int rows_)), some (.d (PyData.int columns_)), some (.d (id value_)), some (.d (id ((eT (eT PyData.int)) r3)))]) rfl okO_d rfl ?_
      refine fz_t (v := id ((eT (eT PyData.int)) r3)) (e' := [some (.d (PyData.int way_)), some (.d (PyData.int rows_)), some (.d (PyData.int columns_)), some (.d (id value_)), some (.d (id ((eT (eT PyData.int)) r3)))]) rfl ?_
      refine c_end1 ?_
      refine c_end1 ?_
      refine c_end1 ?_
      exact sim_ret ⟨rfl, rfl⟩
    refine c_blk ?_
    refine c_frz ?_
    refine c_set ?_
    refine c_callF ?_
    refine c_adat ?_
    refine c_take ?_
    refine c_name rfl ?_
    refine t_pure rfl ?_
    refine c_adat ?_
    refine c_take ?_
    refine c_name rfl ?_
    refine t_pure rfl ?_
    refine c_adat ?_
    refine c_take ?_
    refine c_name rfl ?_
    refine t_pure rfl ?_
    refine c_anil ?_
    refine cf_s (e2 := fun r4 => [some (.d (PyData.int way_)), some (.d (PyData.int rows_)), some (.d (PyData.int columns_)), some (.d (id value_)), some (.d (id PyData.none))]) (L_table_book rows_ columns_ value_) (show List.Nodup ([] : List Nat) by decide) rfl rfl (fun _ => rfl) (fun _ => putOuts_d rfl) ?_
    intro r4
    refine as_d (e' := [some (.d (PyData.int way_)), some (.d (PyData.int rows_)), some (.d (PyData.int columns_)), some (.d (id value_)), some (.d (id ((eT (eP (eT PyData.int) (eT PyData.int))) r4)))]) rfl okO_d rfl ?_
    refine fz_t (v := id ((eT (eP (eT PyData.int) (eT PyData.int))) r4)) (e' := [some (.d (PyData.int way_)), some (.d (PyData.int rows_)), some (.d (PyData.int columns_)), some (.d (id value_)), some (.d (id ((eT (eP (eT PyData.int) (eT PyData.int))) r4)))]) rfl ?_
    refine c_end1 ?_
    refine c_end1 ?_
    refine c_end1 ?_
    exact sim_ret ⟨rfl, rfl⟩
  · intro c fs
    refine hd_cons ?_ ?_
    · refine su_0 ?_
      refine sim_bnd0 ?_
      refine c_blk ?_
      refine c_set ?_
      refine c_const ?_
      refine as_d (e' := [some (.d (PyData.int way_)), some (.d (PyData.int rows_)), some (.d (PyData.int columns_)), some (.d (id value_)), some (.d (id (PyData.str (Str.ofString "bars"))))]) rfl okO_d rfl ?_
      refine c_end1 ?_
      exact sim_ret ⟨rfl, rfl⟩
    exact hd_nil trivial
  rintro s1 fl e ⟨rfl, rfl⟩
  refine c_blk1 ?_
  refine c_ret ?_
  refine c_name rfl ?_
  refine rt_d ?_
  exact sim_ret ⟨.inl rfl, rfl⟩
def S_law_bad_bars (deck_ : List Int) (rows_ : Int) (columns_ : Int) (bars_ : List (Int × Int)) : M (PyData × (List Int)) :=
  S_law_draw deck_ (9 : Int) >>= fun r1 =>
  S_law_left rows_ columns_ ([] : List (Int × Int)) >>= fun r2 =>
  S_law_draw r1.2 (((bars_).length : Int) + (1 : Int)) >>= fun r3 =>
  if (decide (r1.1 < (4 : Int))) = true then (lenG ([((eP PyData.int PyData.int) (rows_, (0 : Int))), ((eP PyData.int PyData.int) ((0 : Int), columns_)), ((eP PyData.int PyData.int) ((-1 : Int), (0 : Int))), ((eP PyData.int PyData.int) ((0 : Int), (-1 : Int))), ((eT PyData.int) [(0 : Int)]), ((eP3 PyData.int PyData.int PyData.int) ((0 : Int), (0 : Int), (0 : Int))), ((eL PyData.int) [(0 : Int), (0 : Int)]), (PyData.str (Str.ofString "00")), PyData.none, (PyData.int (0 : Int)), ((eP PyData.bool PyData.int) (true, (0 : Int))), ((eP PyData.int PyData.bool) ((0 : Int), false))] ++ [((eP PyData.str PyData.int) ((Str.ofString "0"), (0 : Int))), ((eP PyData.int (eL eU)) ((0 : Int), ([] : List Unit))), ((eP id PyData.int) ((PyData.dict []), (0 : Int))), ((eP (eO eU) PyData.int) (none, (0 : Int))), ((eP (eT PyData.int) PyData.int) ([(0 : Int)], (0 : Int))), ((eP3 PyData.int PyData.int PyData.int) ((0 : Int), (0 : Int), (0 : Int)))]) >>= fun cat4 =>
  S_law_pick r3.2 cat4 >>= fun r5 =>
  lenG ((List.map (eP PyData.int PyData.int) (cutD bars_ none (some r3.1))) ++ [r5.1]) >>= fun cat6 =>
  lenG (cat6 ++ (List.map (eP PyData.int PyData.int) (cutD bars_ (some r3.1) none))) >>= fun cat7 =>
  .ok (((eT id) cat7), r5.2))
  else
  if (eqD r1.1 (4 : Int)) = true then (.ok (((eL (eP PyData.int PyData.int)) bars_), r3.2))
  else
  if (eqD r1.1 (5 : Int)) = true then (lenG ((List.map (eP PyData.int PyData.int) bars_) ++ [((eT eU) ([] : List Unit))]) >>= fun cat8 =>
  lenG (List.map (fun (a9 : Int × Int) => (a9, (1 : Int))) bars_) >>= fun xs10 =>
  dictAM (List.map (eP (eP PyData.int PyData.int) PyData.int) xs10) >>= fun dc11 =>
  S_law_pick r3.2 [PyData.none, (PyData.str (Str.ofString "")), (PyData.dict []), (PyData.int (0 : Int)), (PyData.bool false), ((eT id) cat8), dc11] >>= fun r12 =>
  .ok (r12.1, r12.2))
  else
  if (eqD r1.1 (6 : Int)) = true then (S_law_mixed_2 r3.2 r2 >>= fun r13 =>
  .ok (((eT (eP PyData.int PyData.int)) r13.1), r13.2))
  else
  if ((eqD r1.1 (7 : Int)) && (decide ((6 : Int) < ((r2).length : Int)))) = true then (S_law_draw r3.2 (((r2).length : Int) - (6 : Int)) >>= fun r14 =>
  .ok (((eT (eP PyData.int PyData.int)) (cutD bars_ none (some r14.1))), r14.2))
  else
  S_law_pick r3.2 r2 >>= fun r15 =>
  lenG (bars_ ++ [r15.1, r15.1]) >>= fun cat16 =>
  S_law_mixed_2 r15.2 cat16 >>= fun r17 =>
  .ok (((eT (eP PyData.int PyData.int)) r17.1), r17.2)
theorem L_law_bad_bars (deck_ : List Int) (rows_ : Int) (columns_ : Int) (bars_ : List (Int × Int)) : FSim (F_law_bad_bars [.bor (.lst (List.map PyData.int deck_)), .d (PyData.int rows_), .d (PyData.int columns_), .d ((eT (eP PyData.int PyData.int)) bars_)]) (S_law_bad_bars deck_ rows_ columns_ bars_) (fun (r : PyData × (List Int)) => Ret.d (id r.1)) (fun (r : PyData × (List Int)) => [.bor (.lst (List.map PyData.int r.2)), .d (PyData.int rows_), .d (PyData.int columns_), .d ((eT (eP PyData.int PyData.int)) bars_)]) := by
  refine fs_mk ?_
  unfold S_law_bad_bars
  refine sim_bnd0 ?_
  have e0 : envOf 10 [.bor (.lst (List.map PyData.int deck_)), .d (PyData.int rows_), .d (PyData.int columns_), .d ((eT (eP PyData.int PyData.int)) bars_)] = [some (.cell .bor (.lst (List.map PyData.int deck_))), some (.d (PyData.int rows_)), some (.d (PyData.int columns_)), some (.d ((eT (eP PyData.int PyData.int)) bars_)), none, none, none, none, none, none] := rfl
  rw [e0]
  unfold f_law_bad_bars
  refine c_blk ?_
  refine c_frz ?_
  refine c_frz ?_
  refine c_par ?_
  refine c_pcons ?_
  refine c_callF ?_
  refine c_aref rfl ?_
  refine c_adat ?_
  refine c_take ?_
  refine c_const ?_
  refine t_pure rfl ?_
  refine c_anil ?_
  refine cf_s (e2 := fun r1 => [some (.cell .bor (.lst (List.map PyData.int r1.2))), some (.d (PyData.int rows_)), some (.d (PyData.int columns_)), some (.d ((eT (eP PyData.int PyData.int)) bars_)), none, none, none, none, none, none]) (L_law_draw deck_ (9 : Int)) (show List.Nodup ([0] : List Nat) by decide) rfl rfl (fun _ => rfl) (fun _ => trivial) ?_
  intro r1
  refine c_pcons ?_
  refine c_callF ?_
  refine c_adat ?_
  refine c_take ?_
  refine c_name rfl ?_
  refine t_pure rfl ?_
  refine c_adat ?_
  refine c_take ?_
  refine c_name rfl ?_
  refine t_pure rfl ?_
  refine c_adat ?_
  refine c_take ?_
  refine c_tup ?_
  refine c_nil ?_
  refine tu_pure (v := (eT (eP PyData.int PyData.int)) ([] : List (Int × Int))) rfl rfl ?_
  refine t_pure rfl ?_
  refine c_anil ?_
  refine cf_s (e2 := fun r2 => [some (.cell .bor (.lst (List.map PyData.int r1.2))), some (.d (PyData.int rows_)), some (.d (PyData.int columns_)), some (.d ((eT (eP PyData.int PyData.int)) bars_)), none, none, none, none, none, none]) (L_law_left rows_ columns_ ([] : List (Int × Int))) (show List.Nodup ([] : List Nat) by decide) rfl rfl (fun _ => rfl) (fun _ => trivial) ?_
  intro r2
  refine c_pnil ?_
  refine pa_t (e1 := [some (.cell .bor (.lst (List.map PyData.int r1.2))), some (.d (PyData.int rows_)), some (.d (PyData.int columns_)), some (.d ((eT (eP PyData.int PyData.int)) bars_)), some (.d (PyData.int r1.1)), none, none, none, none, none]) (e2 := [some (.cell .bor (.lst (List.map PyData.int r1.2))), some (.d (PyData.int rows_)), some (.d (PyData.int columns_)), some (.d ((eT (eP PyData.int PyData.int)) bars_)), some (.d (PyData.int r1.1)), some (.d ((eT (eP PyData.int PyData.int)) r2)), none, none, none, none]) rfl rfl rfl rfl (setS_ok rfl okO_none rfl) (setS_ok rfl okO_none rfl) ?_
  refine fz_t (v := PyData.int r1.1) (e' := [some (.cell .bor (.lst (List.map PyData.int r1.2))), some (.d (PyData.int rows_)), some (.d (PyData.int columns_)), some (.d ((eT (eP PyData.int PyData.int)) bars_)), some (.d (PyData.int r1.1)), some (.d ((eT (eP PyData.int PyData.int)) r2)), none, none, none, none]) rfl ?_
  refine fz_t (v := (eT (eP PyData.int PyData.int)) r2) (e' := [some (.cell .bor (.lst (List.map PyData.int r1.2))), some (.d (PyData.int rows_)), some (.d (PyData.int columns_)), some (.d ((eT (eP PyData.int PyData.int)) bars_)), some (.d (PyData.int r1.1)), some (.d ((eT (eP PyData.int PyData.int)) r2)), none, none, none, none]) rfl ?_
  refine c_blk1 ?_
  refine c_frz ?_
  refine c_set ?_
  refine c_callF ?_
  refine c_aref rfl ?_
  refine c_adat ?_
  refine c_take ?_
  refine c_bin ?_
  refine c_call ?_
  refine c_pcons ?_
  refine c_name rfl ?_
  refine c_pnil ?_
  refine cb_pure (xs := [(eT (eP PyData.int PyData.int)) bars_]) rfl lenT ?_
  refine c_const ?_
  refine b_pure rfl rfl rfl ?_
  refine t_pure rfl ?_
  refine c_anil ?_
  refine cf_s (e2 := fun r3 => [some (.cell .bor (.lst (List.map PyData.int r3.2))), some (.d (PyData.int rows_)), some (.d (PyData.int columns_)), some (.d ((eT (eP PyData.int PyData.int)) bars_)), some (.d (PyData.int r1.1)), some (.d ((eT (eP PyData.int PyData.int)) r2)), none, none, none, none]) (L_law_draw r1.2 (((bars_).length : Int) + (1 : Int))) (show List.Nodup ([0] : List Nat) by decide) rfl rfl (fun _ => rfl) (fun _ => trivial) ?_
  intro r3
  refine as_d (e' := [some (.cell .bor (.lst (List.map PyData.int r3.2))), some (.d (PyData.int rows_)), some (.d (PyData.int columns_)), some (.d ((eT (eP PyData.int PyData.int)) bars_)), some (.d (PyData.int r1.1)), some (.d ((eT (eP PyData.int PyData.int)) r2)), some (.d (PyData.int r3.1)), none, none, none]) rfl okO_none rfl ?_
  refine fz_t (v := PyData.int r3.1) (e' := [some (.cell .bor (.lst (List.map PyData.int r3.2))), some (.d (PyData.int rows_)), some (.d (PyData.int columns_)), some (.d ((eT (eP PyData.int PyData.int)) bars_)), some (.d (PyData.int r1.1)), some (.d ((eT (eP PyData.int PyData.int)) r2)), some (.d (PyData.int r3.1)), none, none, none]) rfl ?_
  refine c_blk1 ?_
  refine c_frz ?_
  refine c_set ?_
  refine c_lst ?_
  refine c_cons ?_
  refine c_take ?_
  refine c_tup ?_
  refine c_cons ?_
  refine c_take ?_
  refine c_name rfl ?_
  refine t_pure rfl ?_
  refine c_cons ?_
  refine c_take ?_
  refine c_const ?_
  refine t_pure rfl ?_
  refine c_nil ?_
  refine tu_pure (v := (eP PyData.int PyData.int) (rows_, (0 : Int))) rfl rfl ?_
  refine t_pure rfl ?_
  refine c_cons ?_
  refine c_take ?_
  refine c_tup ?_
  refine c_cons ?_
  refine c_take ?_
  refine c_const ?_
  refine t_pure rfl ?_
  refine c_cons ?_
  refine c_take ?_
  refine c_name rfl ?_
  refine t_pure rfl ?_
  refine c_nil ?_
  refine tu_pure (v := (eP PyData.int PyData.int) ((0 : Int), columns_)) rfl rfl ?_
  refine t_pure rfl ?_
  refine c_cons ?_
  refine c_take ?_
  refine c_tup ?_
  refine c_cons ?_
  refine c_take ?_
  refine c_neg ?_
  refine c_const ?_
  refine n_pure rfl ?_
  refine t_pure rfl ?_
  refine c_cons ?_
  refine c_take ?_
  refine c_const ?_
  refine t_pure rfl ?_
  refine c_nil ?_
  refine tu_pure (v := (eP PyData.int PyData.int) ((-1 : Int), (0 : Int))) rfl rfl ?_
  refine t_pure rfl ?_
  refine c_cons ?_
  refine c_take ?_
  refine c_tup ?_
  refine c_cons ?_
  refine c_take ?_
  refine c_const ?_
  refine t_pure rfl ?_
  refine c_cons ?_
  refine c_take ?_
  refine c_neg ?_
  refine c_const ?_
  refine n_pure rfl ?_
  refine t_pure rfl ?_
  refine c_nil ?_
  refine tu_pure (v := (eP PyData.int PyData.int) ((0 : Int), (-1 : Int))) rfl rfl ?_
  refine t_pure rfl ?_
  refine c_cons ?_
  refine c_take ?_
  refine c_tup ?_
  refine c_cons ?_
  refine c_take ?_
  refine c_const ?_
  refine t_pure rfl ?_
  refine c_nil ?_
  refine tu_pure (v := (eT PyData.int) [(0 : Int)]) rfl rfl ?_
  refine t_pure rfl ?_
  refine c_cons ?_
  refine c_take ?_
  refine c_tup ?_
  refine c_cons ?_
  refine c_take ?_
  refine c_const ?_
  refine t_pure rfl ?_
  refine c_cons ?_
  refine c_take ?_
  refine c_const ?_
  refine t_pure rfl ?_
  refine c_cons ?_
  refine c_take ?_
  refine c_const ?_
  refine t_pure rfl ?_
  refine c_nil ?_
  refine tu_pure (v := (eP3 PyData.int PyData.int PyData.int) ((0 : Int), (0 : Int), (0 : Int))) rfl rfl ?_
  refine t_pure rfl ?_
  refine c_cons ?_
  refine c_take ?_
  refine c_lst ?_
  refine c_cons ?_
  refine c_take ?_
  refine c_const ?_
  refine t_pure rfl ?_
  refine c_cons ?_
  refine c_take ?_
  refine c_const ?_
  refine t_pure rfl ?_
  refine c_nil ?_
  refine ls_pure (ys := List.map PyData.int [(0 : Int), (0 : Int)]) rfl rfl ?_
  refine t_pure (v := (eL PyData.int) [(0 : Int), (0 : Int)]) rfl ?_
  refine c_cons ?_
  refine c_take ?_
  refine c_const ?_
  refine t_pure rfl ?_
  refine c_cons ?_
  refine c_take ?_
  refine c_const ?_
  refine t_pure rfl ?_
  refine c_cons ?_
  refine c_take ?_
  refine c_const ?_
  refine t_pure rfl ?_
  refine c_cons ?_
  refine c_take ?_
  refine c_tup ?_
  refine c_cons ?_
  refine c_take ?_
  refine c_const ?_
  refine t_pure rfl ?_
  refine c_cons ?_
  refine c_take ?_
  refine c_const ?_
  refine t_pure rfl ?_
  refine c_nil ?_
  refine tu_pure (v := (eP PyData.bool PyData.int) (true, (0 : Int))) rfl rfl ?_
  refine t_pure rfl ?_
  refine c_cons ?_
  refine c_take ?_
  refine c_tup ?_
  refine c_cons ?_
  refine c_take ?_
  refine c_const ?_
  refine t_pure rfl ?_
  refine c_cons ?_
  refine c_take ?_
  refine c_const ?_
  refine t_pure rfl ?_
  refine c_nil ?_
  refine tu_pure (v := (eP PyData.int PyData.bool) ((0 : Int), false)) rfl rfl ?_
  refine t_pure rfl ?_
  refine c_nil ?_
  refine ls_pure (ys := List.map id [((eP PyData.int PyData.int) (rows_, (0 : Int))), ((eP PyData.int PyData.int) ((0 : Int), columns_)), ((eP PyData.int PyData.int) ((-1 : Int), (0 : Int))), ((eP PyData.int PyData.int) ((0 : Int), (-1 : Int))), ((eT PyData.int) [(0 : Int)]), ((eP3 PyData.int PyData.int PyData.int) ((0 : Int), (0 : Int), (0 : Int))), ((eL PyData.int) [(0 : Int), (0 : Int)]), (PyData.str (Str.ofString "00")), PyData.none, (PyData.int (0 : Int)), ((eP PyData.bool PyData.int) (true, (0 : Int))), ((eP PyData.int PyData.bool) ((0 : Int), false))]) rfl rfl ?_
  refine as_t (e' := [some (.cell .bor (.lst (List.map PyData.int r3.2))), some (.d (PyData.int rows_)), some (.d (PyData.int columns_)), some (.d ((eT (eP PyData.int PyData.int)) bars_)), some (.d (PyData.int r1.1)), some (.d ((eT (eP PyData.int PyData.int)) r2)), some (.d (PyData.int r3.1)), some (.cell .own (.lst (List.map id [((eP PyData.int PyData.int) (rows_, (0 : Int))), ((eP PyData.int PyData.int) ((0 : Int), columns_)), ((eP PyData.int PyData.int) ((-1 : Int), (0 : Int))), ((eP PyData.int PyData.int) ((0 : Int), (-1 : Int))), ((eT PyData.int) [(0 : Int)]), ((eP3 PyData.int PyData.int PyData.int) ((0 : Int), (0 : Int), (0 : Int))), ((eL PyData.int) [(0 : Int), (0 : Int)]), (PyData.str (Str.ofString "00")), PyData.none, (PyData.int (0 : Int)), ((eP PyData.bool PyData.int) (true, (0 : Int))), ((eP PyData.int PyData.bool) ((0 : Int), false))]))), none, none]) rfl okO_none rfl ?_
  refine fz_t (v := (eL id) [((eP PyData.int PyData.int) (rows_, (0 : Int))), ((eP PyData.int PyData.int) ((0 : Int), columns_)), ((eP PyData.int PyData.int) ((-1 : Int), (0 : Int))), ((eP PyData.int PyData.int) ((0 : Int), (-1 : Int))), ((eT PyData.int) [(0 : Int)]), ((eP3 PyData.int PyData.int PyData.int) ((0 : Int), (0 : Int), (0 : Int))), ((eL PyData.int) [(0 : Int), (0 : Int)]), (PyData.str (Str.ofString "00")), PyData.none, (PyData.int (0 : Int)), ((eP PyData.bool PyData.int) (true, (0 : Int))), ((eP PyData.int PyData.bool) ((0 : Int), false))]) (e' := [some (.cell .bor (.lst (List.map PyData.int r3.2))), some (.d (PyData.int rows_)), some (.d (PyData.int columns_)), some (.d ((eT (eP PyData.int PyData.int)) bars_)), some (.d (PyData.int r1.1)), some (.d ((eT (eP PyData.int PyData.int)) r2)), some (.d (PyData.int r3.1)), some (.d ((eL id) [((eP PyData.int PyData.int) (rows_, (0 : Int))), ((eP PyData.int PyData.int) ((0 : Int), columns_)), ((eP PyData.int PyData.int) ((-1 : Int), (0 : Int))), ((eP PyData.int PyData.int) ((0 : Int), (-1 : Int))), ((eT PyData.int) [(0 : Int)]), ((eP3 PyData.int PyData.int PyData.int) ((0 : Int), (0 : Int), (0 : Int))), ((eL PyData.int) [(0 : Int), (0 : Int)]), (PyData.str (Str.ofString "00")), PyData.none, (PyData.int (0 : Int)), ((eP PyData.bool PyData.int) (true, (0 : Int))), ((eP PyData.int PyData.bool) ((0 : Int), false))])), none, none]) rfl ?_
  refine c_blk1 ?_
  refine c_frz ?_
  refine c_set ?_
  refine c_lst ?_
  refine c_cons ?_
  refine c_take ?_
  refine c_tup ?_
  refine c_cons ?_
  refine c_take ?_
  refine c_const ?_
  refine t_pure rfl ?_
  refine c_cons ?_
  refine c_take ?_
  refine c_const ?_
  refine t_pure rfl ?_
  refine c_nil ?_
  refine tu_pure (v := (eP PyData.str PyData.int) ((Str.ofString "0"), (0 : Int))) rfl rfl ?_
  refine t_pure rfl ?_
  refine c_cons ?_
  refine c_take ?_
  refine c_tup ?_
  refine c_cons ?_
  refine c_take ?_
  refine c_const ?_
  refine t_pure rfl ?_
  refine c_cons ?_
  refine c_take ?_
  refine c_lst ?_
  refine c_nil ?_
  refine ls_pure (ys := List.map eU ([] : List Unit)) rfl rfl ?_
  refine t_pure (v := (eL eU) ([] : List Unit)) rfl ?_
  refine c_nil ?_
  refine tu_pure (v := (eP PyData.int (eL eU)) ((0 : Int), ([] : List Unit))) rfl rfl ?_
  refine t_pure rfl ?_
  refine c_cons ?_
  refine c_take ?_
  refine c_tup ?_
  refine c_cons ?_
  refine c_take ?_
  refine c_dict0 ?_
  refine t_pure rfl ?_
  refine c_cons ?_
  refine c_take ?_
  refine c_const ?_
  refine t_pure rfl ?_
  refine c_nil ?_
  refine tu_pure (v := (eP id PyData.int) ((PyData.dict []), (0 : Int))) rfl rfl ?_
  refine t_pure rfl ?_
  refine c_cons ?_
  refine c_take ?_
  refine c_tup ?_
  refine c_cons ?_
  refine c_take ?_
  refine c_const ?_
  refine t_pure rfl ?_
  refine c_cons ?_
  refine c_take ?_
  refine c_const ?_
  refine t_pure rfl ?_
  refine c_nil ?_
  refine tu_pure (v := (eP (eO eU) PyData.int) (none, (0 : Int))) rfl rfl ?_
  refine t_pure rfl ?_
  refine c_cons ?_
  refine c_take ?_
  refine c_tup ?_
  refine c_cons ?_
  refine c_take ?_
  refine c_tup ?_
  refine c_cons ?_
  refine c_take ?_
  refine c_const ?_
  refine t_pure rfl ?_
  refine c_nil ?_
  refine tu_pure (v := (eT PyData.int) [(0 : Int)]) rfl rfl ?_
  refine t_pure rfl ?_
  refine c_cons ?_
  refine c_take ?_
  refine c_const ?_
  refine t_pure rfl ?_
  refine c_nil ?_
  refine tu_pure (v := (eP (eT PyData.int) PyData.int) ([(0 : Int)], (0 : Int))) rfl rfl ?_
  refine t_pure rfl ?_
  refine c_cons ?_
  refine c_take ?_
  refine c_tup ?_
  refine c_cons ?_
  refine c_take ?_
  refine c_const ?_
  refine t_pure rfl ?_
  refine c_cons ?_
  refine c_take ?_
  refine c_const ?_
  refine t_pure rfl ?_
  refine c_cons ?_
  refine c_take ?_
  refine c_const ?_
  refine t_pure rfl ?_
  refine c_nil ?_
  refine tu_pure (v := (eP3 PyData.int PyData.int PyData.int) ((0 : Int), (0 : Int), (0 : Int))) rfl rfl ?_
  refine t_pure rfl ?_
  refine c_nil ?_
  refine ls_pure (ys := List.map id [((eP PyData.str PyData.int) ((Str.ofString "0"), (0 : Int))), ((eP PyData.int (eL eU)) ((0 : Int), ([] : List Unit))), ((eP id PyData.int) ((PyData.dict []), (0 : Int))), ((eP (eO eU) PyData.int) (none, (0 : Int))), ((eP (eT PyData.int) PyData.int) ([(0 : Int)], (0 : Int))), ((eP3 PyData.int PyData.int PyData.int) ((0 : Int), (0 : Int), (0 : Int)))]) rfl rfl ?_
  refine as_t (e' := [some (.cell .bor (.lst (List.map PyData.int r3.2))), some (.d (PyData.int rows_)), some (.d (PyData.int columns_)), some (.d ((eT (eP PyData.int PyData.int)) bars_)), some (.d (PyData.int r1.1)), some (.d ((eT (eP PyData.int PyData.int)) r2)), some (.d (PyData.int r3.1)), some (.d ((eL id) [((eP PyData.int PyData.int) (rows_, (0 : Int))), ((eP PyData.int PyData.int) ((0 : Int), columns_)), ((eP PyData.int PyData.int) ((-1 : Int), (0 : Int))), ((eP PyData.int PyData.int) ((0 : Int), (-1 : Int))), ((eT PyData.int) [(0 : Int)]), ((eP3 PyData.int PyData.int PyData.int) ((0 : Int), (0 : Int), (0 : Int))), ((eL PyData.int) [(0 : Int), (0 : Int)]), (PyData.str (Str.ofString "00")), PyData.none, (PyData.int (0 : Int)), ((eP PyData.bool PyData.int) (true, (0 : Int))), ((eP PyData.int PyData.bool) ((0 : Int), false))])), some (.cell .own (.lst (List.map id [((eP PyData.str PyData.int) ((Str.ofString "0"), (0 : Int))), ((eP PyData.int (eL eU)) ((0 : Int), ([] : List Unit))), ((eP id PyData.int) ((PyData.dict []), (0 : Int))), ((eP (eO eU) PyData.int) (none, (0 : Int))), ((eP (eT PyData.int) PyData.int) ([(0 : Int)], (0 : Int))), ((eP3 PyData.int PyData.int PyData.int) ((0 : Int), (0 : Int), (0 : Int)))]))), none]) rfl okO_none rfl ?_
  refine fz_t (v := (eL id) [((eP PyData.str PyData.int) ((Str.ofString "0"), (0 : Int))), ((eP PyData.int (eL eU)) ((0 : Int), ([] : List Unit))), ((eP id PyData.int) ((PyData.dict []), (0 : Int))), ((eP (eO eU) PyData.int) (none, (0 : Int))), ((eP (eT PyData.int) PyData.int) ([(0 : Int)], (0 : Int))), ((eP3 PyData.int PyData.int PyData.int) ((0 : Int), (0 : Int), (0 : Int)))]) (e' := [some (.cell .bor (.lst (List.map PyData.int r3.2))), some (.d (PyData.int rows_)), some (.d (PyData.int columns_)), some (.d ((eT (eP PyData.int PyData.int)) bars_)), some (.d (PyData.int r1.1)), some (.d ((eT (eP PyData.int PyData.int)) r2)), some (.d (PyData.int r3.1)), some (.d ((eL id) [((eP PyData.int PyData.int) (rows_, (0 : Int))), ((eP PyData.int PyData.int) ((0 : Int), columns_)), ((eP PyData.int PyData.int) ((-1 : Int), (0 : Int))), ((eP PyData.int PyData.int) ((0 : Int), (-1 : Int))), ((eT PyData.int) [(0 : Int)]), ((eP3 PyData.int PyData.int PyData.int) ((0 : Int), (0 : Int), (0 : Int))), ((eL PyData.int) [(0 : Int), (0 : Int)]), (PyData.str (Str.ofString "00")), PyData.none, (PyData.int (0 : Int)), ((eP PyData.bool PyData.int) (true, (0 : Int))), ((eP PyData.int PyData.bool) ((0 : Int), false))])), some (.d ((eL id) [((eP PyData.str PyData.int) ((Str.ofString "0"), (0 : Int))), ((eP PyData.int (eL eU)) ((0 : Int), ([] : List Unit))), ((eP id PyData.int) ((PyData.dict []), (0 : Int))), ((eP (eO eU) PyData.int) (none, (0 : Int))), ((eP (eT PyData.int) PyData.int) ([(0 : Int)], (0 : Int))), ((eP3 PyData.int PyData.int PyData.int) ((0 : Int), (0 : Int), (0 : Int)))])), none]) rfl ?_
  refine c_blk1 ?_
  refine c_ifS ?_
  refine c_tru ?_
  refine c_bin ?_
  refine c_name rfl ?_
  refine c_const ?_
  refine b_pure rfl rfl rfl ?_
  refine tr_pure rfl rfl ?_
  refine ite_b (fun _ => ?_) (fun _ => ?_)
  · refine c_blk ?_
    refine c_ret ?_
    refine c_dat ?_
    refine c_take ?_
    refine c_bin ?_
    refine c_bin ?_
    refine c_sl ?_
    refine c_name rfl ?_
    refine c_nopart ?_
    refine c_part ?_
    refine c_name rfl ?_
    refine pt_pure rfl ?_
    refine sl_pure (v := (eT (eP PyData.int PyData.int)) bars_) rfl slT ?_
    refine c_tup ?_
    refine c_cons ?_
    refine c_take ?_
    refine c_callF ?_
    refine c_aref rfl ?_
    refine c_adat ?_
    refine c_take ?_
    refine c_bin ?_
    refine c_name rfl ?_
    refine c_name rfl ?_
    refine b_part (u := (eL id) [((eP PyData.int PyData.int) (rows_, (0 : Int))), ((eP PyData.int PyData.int) ((0 : Int), columns_)), ((eP PyData.int PyData.int) ((-1 : Int), (0 : Int))), ((eP PyData.int PyData.int) ((0 : Int), (-1 : Int))), ((eT PyData.int) [(0 : Int)]), ((eP3 PyData.int PyData.int PyData.int) ((0 : Int), (0 : Int), (0 : Int))), ((eL PyData.int) [(0 : Int), (0 : Int)]), (PyData.str (Str.ofString "00")), PyData.none, (PyData.int (0 : Int)), ((eP PyData.bool PyData.int) (true, (0 : Int))), ((eP PyData.int PyData.bool) ((0 : Int), false))]) (v := (eL id) [((eP PyData.str PyData.int) ((Str.ofString "0"), (0 : Int))), ((eP PyData.int (eL eU)) ((0 : Int), ([] : List Unit))), ((eP id PyData.int) ((PyData.dict []), (0 : Int))), ((eP (eO eU) PyData.int) (none, (0 : Int))), ((eP (eT PyData.int) PyData.int) ([(0 : Int)], (0 : Int))), ((eP3 PyData.int PyData.int PyData.int) ((0 : Int), (0 : Int), (0 : Int)))]) rfl rfl (catL (e := id)) ?_
    intro cat4
    refine t_pure (v := (eL id) cat4) rfl ?_
    refine c_anil ?_
    refine cf_s (e2 := fun r5 => [some (.cell .bor (.lst (List.map PyData.int r5.2))), some (.d (PyData.int rows_)), some (.d (PyData.int columns_)), some (.d ((eT (eP PyData.int PyData.int)) bars_)), some (.d (PyData.int r1.1)), some (.d ((eT (eP PyData.int PyData.int)) r2)), some (.d (PyData.int r3.1)), some (.d ((eL id) [((eP PyData.int PyData.int) (rows_, (0 : Int))), ((eP PyData.int PyData.int) ((0 : Int), columns_)), ((eP PyData.int PyData.int) ((-1 : Int), (0 : Int))), ((eP PyData.int PyData.int) ((0 : Int), (-1 : Int))), ((eT PyData.int) [(0 : Int)]), ((eP3 PyData.int PyData.int PyData.int) ((0 : Int), (0 : Int), (0 : Int))), ((eL PyData.int) [(0 : Int), (0 : Int)]), (PyData.str (Str.ofString "00")), PyData.none, (PyData.int (0 : Int)), ((eP PyData.bool PyData.int) (true, (0 : Int))), ((eP PyData.int PyData.bool) ((0 : Int), false))])), some (.d ((eL id) [((eP PyData.str PyData.int) ((Str.ofString "0"), (0 : Int))), ((eP PyData.int (eL eU)) ((0 : Int), ([] : List Unit))), ((eP id PyData.int) ((PyData.dict []), (0 : Int))), ((eP (eO eU) PyData.int) (none, (0 : Int))), ((eP (eT PyData.int) PyData.int) ([(0 : Int)], (0 : Int))), ((eP3 PyData.int PyData.int PyData.int) ((0 : Int), (0 : Int), (0 : Int)))])), none]) (L_law_pick id r3.2 cat4) (show List.Nodup ([0] : List Nat) by decide) rfl rfl (fun _ => rfl) (fun _ => trivial) ?_
    intro r5
    refine t_pure rfl ?_
    refine c_nil ?_
    refine tu_pure (v := (eT id) [r5.1]) rfl rfl ?_
    refine b_part (u := (eT id) (List.map (eP PyData.int PyData.int) (cutD bars_ none (some r3.1)))) (v := (eT id) [r5.1]) (by rw [eT_id]; rfl) rfl (catT (e := id)) ?_
    intro cat6
    refine c_sl ?_
    refine c_name rfl ?_
    refine c_part ?_
    refine c_name rfl ?_
    refine pt_pure rfl ?_
    refine c_nopart ?_
    refine sl_pure (v := (eT (eP PyData.int PyData.int)) bars_) rfl slT ?_
    refine b_part (u := (eT id) cat6) (v := (eT id) (List.map (eP PyData.int PyData.int) (cutD bars_ (some r3.1) none))) rfl (by rw [eT_id]; rfl) (catT (e := id)) ?_
    intro cat7
    refine t_pure rfl ?_
    refine rt_d ?_
    exact sim_ret ⟨.inl rfl, rfl⟩
  refine c_end ?_
  refine c_blk1 ?_
  refine c_ifS ?_
  refine c_tru ?_
  refine c_bin ?_
  refine c_name rfl ?_
  refine c_const ?_
  refine b_pure (u := PyData.int r1.1) (v := PyData.int (4 : Int)) rfl rfl (eq_t EqT.I (by decide)) ?_
  refine tr_pure rfl rfl ?_
  refine ite_b (fun _ => ?_) (fun _ => ?_)
  · refine c_blk ?_
    refine c_ret ?_
    refine c_dat ?_
    refine c_take ?_
    refine c_call ?_
    refine c_pcons ?_
    refine c_name rfl ?_
    refine c_pnil ?_
    refine cb_pure (r := .tmp (.lst (List.map (eP PyData.int PyData.int) bars_))) rfl rfl ?_
    refine t_pure (v := (eL (eP PyData.int PyData.int)) bars_) rfl ?_
    refine rt_d ?_
    exact sim_ret ⟨.inl rfl, rfl⟩
  refine c_end ?_
  refine c_blk1 ?_
  refine c_ifS ?_
  refine c_tru ?_
  refine c_bin ?_
  refine c_name rfl ?_
  refine c_const ?_
  refine b_pure (u := PyData.int r1.1) (v := PyData.int (5 : Int)) rfl rfl (eq_t EqT.I (by decide)) ?_
  refine tr_pure rfl rfl ?_
  refine ite_b (fun _ => ?_) (fun _ => ?_)
  · refine c_blk ?_
    refine c_ret ?_
    refine c_dat ?_
    refine c_take ?_
    refine c_callF ?_
    refine c_aref rfl ?_
    refine c_adat ?_
    refine c_take ?_
    refine c_lst ?_
    refine c_cons ?_
    refine c_take ?_
    refine c_const ?_
    refine t_pure rfl ?_
    refine c_cons ?_
    refine c_take ?_
    refine c_const ?_
    refine t_pure rfl ?_
    refine c_cons ?_
    refine c_take ?_
    refine c_dict0 ?_
    refine t_pure rfl ?_
    refine c_cons ?_
    refine c_take ?_
    refine c_const ?_
    refine t_pure rfl ?_
    refine c_cons ?_
    refine c_take ?_
    refine c_const ?_
    refine t_pure rfl ?_
    refine c_cons ?_
    refine c_take ?_
    refine c_bin ?_
    refine c_name rfl ?_
    refine c_tup ?_
    refine c_cons ?_
    refine c_take ?_
    refine c_tup ?_
    refine c_nil ?_
    refine tu_pure (v := (eT eU) ([] : List Unit)) rfl rfl ?_
    refine t_pure rfl ?_
    refine c_nil ?_
    refine tu_pure (v := (eT (eT eU)) [([] : List Unit)]) rfl rfl ?_
    refine b_part (u := (eT id) (List.map (eP PyData.int PyData.int) bars_)) (v := (eT id) [((eT eU) ([] : List Unit))]) (by rw [eT_id]; rfl) rfl (catT (e := id)) ?_
    intro cat8
    refine t_pure rfl ?_
    refine c_cons ?_
    refine c_take ?_
    refine c_call ?_
    refine c_pcons ?_
    refine c_comp ?_
    refine c_seq ?_
    refine c_name rfl ?_
    refine sq_T (ds := List.map (eP PyData.int PyData.int) bars_) rfl ?_
    refine co_m (enc' := (eP (eP PyData.int PyData.int) PyData.int)) (el := [some (.cell .bor (.lst (List.map PyData.int r3.2))), some (.d (PyData.int rows_)), some (.d (PyData.int columns_)), some (.d ((eT (eP PyData.int PyData.int)) bars_)), some (.d (PyData.int r1.1)), some (.d ((eT (eP PyData.int PyData.int)) r2)), some (.d (PyData.int r3.1)), some (.d ((eL id) [((eP PyData.int PyData.int) (rows_, (0 : Int))), ((eP PyData.int PyData.int) ((0 : Int), columns_)), ((eP PyData.int PyData.int) ((-1 : Int), (0 : Int))), ((eP PyData.int PyData.int) ((0 : Int), (-1 : Int))), ((eT PyData.int) [(0 : Int)]), ((eP3 PyData.int PyData.int PyData.int) ((0 : Int), (0 : Int), (0 : Int))), ((eL PyData.int) [(0 : Int), (0 : Int)]), (PyData.str (Str.ofString "00")), PyData.none, (PyData.int (0 : Int)), ((eP PyData.bool PyData.int) (true, (0 : Int))), ((eP PyData.int PyData.bool) ((0 : Int), false))])), some (.d ((eL id) [((eP PyData.str PyData.int) ((Str.ofString "0"), (0 : Int))), ((eP PyData.int (eL eU)) ((0 : Int), ([] : List Unit))), ((eP id PyData.int) ((PyData.dict []), (0 : Int))), ((eP (eO eU) PyData.int) (none, (0 : Int))), ((eP (eT PyData.int) PyData.int) ([(0 : Int)], (0 : Int))), ((eP3 PyData.int PyData.int PyData.int) ((0 : Int), (0 : Int), (0 : Int)))])), none]) rfl (nc_cons rfl datO_none nc_nil) rfl ?_ ?_
    · intro a9
      refine ⟨[some (.cell .bor (.lst (List.map PyData.int r3.2))), some (.d (PyData.int rows_)), some (.d (PyData.int columns_)), some (.d ((eT (eP PyData.int PyData.int)) bars_)), some (.d (PyData.int r1.1)), some (.d ((eT (eP PyData.int PyData.int)) r2)), some (.d (PyData.int r3.1)), some (.d ((eL id) [((eP PyData.int PyData.int) (rows_, (0 : Int))), ((eP PyData.int PyData.int) ((0 : Int), columns_)), ((eP PyData.int PyData.int) ((-1 : Int), (0 : Int))), ((eP PyData.int PyData.int) ((0 : Int), (-1 : Int))), ((eT PyData.int) [(0 : Int)]), ((eP3 PyData.int PyData.int PyData.int) ((0 : Int), (0 : Int), (0 : Int))), ((eL PyData.int) [(0 : Int), (0 : Int)]), (PyData.str (Str.ofString "00")), PyData.none, (PyData.int (0 : Int)), ((eP PyData.bool PyData.int) (true, (0 : Int))), ((eP PyData.int PyData.bool) ((0 : Int), false))])), some (.d ((eL id) [((eP PyData.str PyData.int) ((Str.ofString "0"), (0 : Int))), ((eP PyData.int (eL eU)) ((0 : Int), ([] : List Unit))), ((eP id PyData.int) ((PyData.dict []), (0 : Int))), ((eP (eO eU) PyData.int) (none, (0 : Int))), ((eP (eT PyData.int) PyData.int) ([(0 : Int)], (0 : Int))), ((eP3 PyData.int PyData.int PyData.int) ((0 : Int), (0 : Int), (0 : Int)))])), some (.d ((eP PyData.int PyData.int) a9))], (bn (e' := [some (.cell .bor (.lst (List.map PyData.int r3.2))), some (.d (PyData.int rows_)), some (.d (PyData.int columns_)), some (.d ((eT (eP PyData.int PyData.int)) bars_)), some (.d (PyData.int r1.1)), some (.d ((eT (eP PyData.int PyData.int)) r2)), some (.d (PyData.int r3.1)), some (.d ((eL id) [((eP PyData.int PyData.int) (rows_, (0 : Int))), ((eP PyData.int PyData.int) ((0 : Int), columns_)), ((eP PyData.int PyData.int) ((-1 : Int), (0 : Int))), ((eP PyData.int PyData.int) ((0 : Int), (-1 : Int))), ((eT PyData.int) [(0 : Int)]), ((eP3 PyData.int PyData.int PyData.int) ((0 : Int), (0 : Int), (0 : Int))), ((eL PyData.int) [(0 : Int), (0 : Int)]), (PyData.str (Str.ofString "00")), PyData.none, (PyData.int (0 : Int)), ((eP PyData.bool PyData.int) (true, (0 : Int))), ((eP PyData.int PyData.bool) ((0 : Int), false))])), some (.d ((eL id) [((eP PyData.str PyData.int) ((Str.ofString "0"), (0 : Int))), ((eP PyData.int (eL eU)) ((0 : Int), ([] : List Unit))), ((eP id PyData.int) ((PyData.dict []), (0 : Int))), ((eP (eO eU) PyData.int) (none, (0 : Int))), ((eP (eT PyData.int) PyData.int) ([(0 : Int)], (0 : Int))), ((eP3 PyData.int PyData.int PyData.int) ((0 : Int), (0 : Int), (0 : Int)))])), some (.d ((eP PyData.int PyData.int) a9))]) rfl okO_none rfl), ?_⟩
      refine c_turnY ?_
      refine c_take ?_
      refine c_tup ?_
      refine c_cons ?_
      refine c_take ?_
      refine c_name rfl ?_
      refine t_pure rfl ?_
      refine c_cons ?_
      refine c_take ?_
      refine c_const ?_
      refine t_pure rfl ?_
      refine c_nil ?_
      refine tu_pure (v := (eP (eP PyData.int PyData.int) PyData.int) (a9, (1 : Int))) rfl rfl ?_
      refine t_pure rfl ?_
      exact sim_ret ⟨rfl, rfl⟩
    intro xs10
    refine c_pnil ?_
    refine cb_part (xs := [.list (List.map (eP (eP PyData.int PyData.int) PyData.int) xs10)]) rfl dictAS ?_
    intro dc11
    refine t_pure rfl ?_
    refine c_nil ?_
    refine ls_pure (ys := List.map id [PyData.none, (PyData.str (Str.ofString "")), (PyData.dict []), (PyData.int (0 : Int)), (PyData.bool false), ((eT id) cat8), dc11]) rfl rfl ?_
    refine t_pure (v := (eL id) [PyData.none, (PyData.str (Str.ofString "")), (PyData.dict []), (PyData.int (0 : Int)), (PyData.bool false), ((eT id) cat8), dc11]) rfl ?_
    refine c_anil ?_
    refine cf_s (e2 := fun r12 => [some (.cell .bor (.lst (List.map PyData.int r12.2))), some (.d (PyData.int rows_)), some (.d (PyData.int columns_)), some (.d ((eT (eP PyData.int PyData.int)) bars_)), some (.d (PyData.int r1.1)), some (.d ((eT (eP PyData.int PyData.int)) r2)), some (.d (PyData.int r3.1)), some (.d ((eL id) [((eP PyData.int PyData.int) (rows_, (0 : Int))), ((eP PyData.int PyData.int) ((0 : Int), columns_)), ((eP PyData.int PyData.int) ((-1 : Int), (0 : Int))), ((eP PyData.int PyData.int) ((0 : Int), (-1 : Int))), ((eT PyData.int) [(0 : Int)]), ((eP3 PyData.int PyData.int PyData.int) ((0 : Int), (0 : Int), (0 : Int))), ((eL PyData.int) [(0 : Int), (0 : Int)]), (PyData.str (Str.ofString "00")), PyData.none, (PyData.int (0 : Int)), ((eP PyData.bool PyData.int) (true, (0 : Int))), ((eP PyData.int PyData.bool) ((0 : Int), false))])), some (.d ((eL id) [((eP PyData.str PyData.int) ((Str.ofString "0"), (0 : Int))), ((eP PyData.int (eL eU)) ((0 : Int), ([] : List Unit))), ((eP id PyData.int) ((PyData.dict []), (0 : Int))), ((eP (eO eU) PyData.int) (none, (0 : Int))), ((eP (eT PyData.int) PyData.int) ([(0 : Int)], (0 : Int))), ((eP3 PyData.int PyData.int PyData.int) ((0 : Int), (0 : Int), (0 : Int)))])), none]) (L_law_pick id r3.2 [PyData.none, (PyData.str (Str.ofString "")), (PyData.dict []), (PyData.int (0 : Int)), (PyData.bool false), ((eT id) cat8), dc11]) (show List.Nodup ([0] : List Nat) by decide) rfl rfl (fun _ => rfl) (fun _ => trivial) ?_
    intro r12
    refine t_pure rfl ?_
    refine rt_d ?_
    exact sim_ret ⟨.inl rfl, rfl⟩
  refine c_end ?_
  refine c_blk1 ?_
  refine c_ifS ?_
  refine c_tru ?_
  refine c_bin ?_
  refine c_name rfl ?_
  refine c_const ?_
  refine b_pure (u := PyData.int r1.1) (v := PyData.int (6 : Int)) rfl rfl (eq_t EqT.I (by decide)) ?_
  refine tr_pure rfl rfl ?_
  refine ite_b (fun _ => ?_) (fun _ => ?_)
  · refine c_blk ?_
    refine c_ret ?_
    refine c_dat ?_
    refine c_take ?_
    refine c_call ?_
    refine c_pcons ?_
    refine c_callF ?_
    refine c_aref rfl ?_
    refine c_adat ?_
    refine c_take ?_
    refine c_call ?_
    refine c_pcons ?_
    refine c_name rfl ?_
    refine c_pnil ?_
    refine cb_pure (r := .tmp (.lst (List.map (eP PyData.int PyData.int) r2))) rfl rfl ?_
    refine t_pure (v := (eL (eP PyData.int PyData.int)) r2) rfl ?_
    refine c_anil ?_
    refine cf_s (e2 := fun r13 => [some (.cell .bor (.lst (List.map PyData.int r13.2))), some (.d (PyData.int rows_)), some (.d (PyData.int columns_)), some (.d ((eT (eP PyData.int PyData.int)) bars_)), some (.d (PyData.int r1.1)), some (.d ((eT (eP PyData.int PyData.int)) r2)), some (.d (PyData.int r3.1)), some (.d ((eL id) [((eP PyData.int PyData.int) (rows_, (0 : Int))), ((eP PyData.int PyData.int) ((0 : Int), columns_)), ((eP PyData.int PyData.int) ((-1 : Int), (0 : Int))), ((eP PyData.int PyData.int) ((0 : Int), (-1 : Int))), ((eT PyData.int) [(0 : Int)]), ((eP3 PyData.int PyData.int PyData.int) ((0 : Int), (0 : Int), (0 : Int))), ((eL PyData.int) [(0 : Int), (0 : Int)]), (PyData.str (Str.ofString "00")), PyData.none, (PyData.int (0 : Int)), ((eP PyData.bool PyData.int) (true, (0 : Int))), ((eP PyData.int PyData.bool) ((0 : Int), false))])), some (.d ((eL id) [((eP PyData.str PyData.int) ((Str.ofString "0"), (0 : Int))), ((eP PyData.int (eL eU)) ((0 : Int), ([] : List Unit))), ((eP id PyData.int) ((PyData.dict []), (0 : Int))), ((eP (eO eU) PyData.int) (none, (0 : Int))), ((eP (eT PyData.int) PyData.int) ([(0 : Int)], (0 : Int))), ((eP3 PyData.int PyData.int PyData.int) ((0 : Int), (0 : Int), (0 : Int)))])), none]) (L_law_mixed_2 r3.2 r2) (show List.Nodup ([0] : List Nat) by decide) rfl rfl (fun _ => rfl) (fun _ => trivial) ?_
    intro r13
    refine c_pnil ?_
    refine cb_pure (r := .d (eT (eP PyData.int PyData.int) r13.1)) rfl rfl ?_
    refine t_pure rfl ?_
    refine rt_d ?_
    exact sim_ret ⟨.inl rfl, rfl⟩
  refine c_end ?_
  refine c_blk1 ?_
  refine c_ifS ?_
  refine c_and ?_
  refine c_tru ?_
  refine c_bin ?_
  refine c_name rfl ?_
  refine c_const ?_
  refine b_pure (u := PyData.int r1.1) (v := PyData.int (7 : Int)) rfl rfl (eq_t EqT.I (by decide)) ?_
  refine tr_pure rfl rfl ?_
  refine and_p (t := (decide ((6 : Int) < ((r2).length : Int)))) ?_ ?_
  · refine sim_bnd0 ?_
    refine c_tru ?_
    refine c_bin ?_
    refine c_call ?_
    refine c_pcons ?_
    refine c_name rfl ?_
    refine c_pnil ?_
    refine cb_pure (xs := [(eT (eP PyData.int PyData.int)) r2]) rfl lenT ?_
    refine c_const ?_
    refine b_pure rfl rfl rfl ?_
    refine tr_pure rfl rfl ?_
    exact sim_ret ⟨rfl, rfl⟩
  refine ite_b (fun _ => ?_) (fun _ => ?_)
  · refine c_blk ?_
    refine c_ret ?_
    refine c_dat ?_
    refine c_take ?_
    refine c_sl ?_
    refine c_name rfl ?_
    refine c_nopart ?_
    refine c_part ?_
    refine c_callF ?_
    refine c_aref rfl ?_
    refine c_adat ?_
    refine c_take ?_
    refine c_bin ?_
    refine c_call ?_
    refine c_pcons ?_
    refine c_name rfl ?_
    refine c_pnil ?_
    refine cb_pure (xs := [(eT (eP PyData.int PyData.int)) r2]) rfl lenT ?_
    refine c_const ?_
    refine b_pure rfl rfl rfl ?_
    refine t_pure rfl ?_
    refine c_anil ?_
    refine cf_s (e2 := fun r14 => [some (.cell .bor (.lst (List.map PyData.int r14.2))), some (.d (PyData.int rows_)), some (.d (PyData.int columns_)), some (.d ((eT (eP PyData.int PyData.int)) bars_)), some (.d (PyData.int r1.1)), some (.d ((eT (eP PyData.int PyData.int)) r2)), some (.d (PyData.int r3.1)), some (.d ((eL id) [((eP PyData.int PyData.int) (rows_, (0 : Int))), ((eP PyData.int PyData.int) ((0 : Int), columns_)), ((eP PyData.int PyData.int) ((-1 : Int), (0 : Int))), ((eP PyData.int PyData.int) ((0 : Int), (-1 : Int))), ((eT PyData.int) [(0 : Int)]), ((eP3 PyData.int PyData.int PyData.int) ((0 : Int), (0 : Int), (0 : Int))), ((eL PyData.int) [(0 : Int), (0 : Int)]), (PyData.str (Str.ofString "00")), PyData.none, (PyData.int (0 : Int)), ((eP PyData.bool PyData.int) (true, (0 : Int))), ((eP PyData.int PyData.bool) ((0 : Int), false))])), some (.d ((eL id) [((eP PyData.str PyData.int) ((Str.ofString "0"), (0 : Int))), ((eP PyData.int (eL eU)) ((0 : Int), ([] : List Unit))), ((eP id PyData.int) ((PyData.dict []), (0 : Int))), ((eP (eO eU) PyData.int) (none, (0 : Int))), ((eP (eT PyData.int) PyData.int) ([(0 : Int)], (0 : Int))), ((eP3 PyData.int PyData.int PyData.int) ((0 : Int), (0 : Int), (0 : Int)))])), none]) (L_law_draw r3.2 (((r2).length : Int) - (6 : Int))) (show List.Nodup ([0] : List Nat) by decide) rfl rfl (fun _ => rfl) (fun _ => trivial) ?_
    intro r14
    refine pt_pure rfl ?_
    refine sl_pure (v := (eT (eP PyData.int PyData.int)) bars_) rfl slT ?_
    refine t_pure rfl ?_
    refine rt_d ?_
    exact sim_ret ⟨.inl rfl, rfl⟩
  refine c_end ?_
  refine c_blk1 ?_
  refine c_frz ?_
  refine c_set ?_
  refine c_callF ?_
  refine c_aref rfl ?_
  refine c_adat ?_
  refine c_take ?_
  refine c_name rfl ?_
  refine t_pure rfl ?_
  refine c_anil ?_
  refine cf_s (e2 := fun r15 => [some (.cell .bor (.lst (List.map PyData.int r15.2))), some (.d (PyData.int rows_)), some (.d (PyData.int columns_)), some (.d ((eT (eP PyData.int PyData.int)) bars_)), some (.d (PyData.int r1.1)), some (.d ((eT (eP PyData.int PyData.int)) r2)), some (.d (PyData.int r3.1)), some (.d ((eL id) [((eP PyData.int PyData.int) (rows_, (0 : Int))), ((eP PyData.int PyData.int) ((0 : Int), columns_)), ((eP PyData.int PyData.int) ((-1 : Int), (0 : Int))), ((eP PyData.int PyData.int) ((0 : Int), (-1 : Int))), ((eT PyData.int) [(0 : Int)]), ((eP3 PyData.int PyData.int PyData.int) ((0 : Int), (0 : Int), (0 : Int))), ((eL PyData.int) [(0 : Int), (0 : Int)]), (PyData.str (Str.ofString "00")), PyData.none, (PyData.int (0 : Int)), ((eP PyData.bool PyData.int) (true, (0 : Int))), ((eP PyData.int PyData.bool) ((0 : Int), false))])), some (.d ((eL id) [((eP PyData.str PyData.int) ((Str.ofString "0"), (0 : Int))), ((eP PyData.int (eL eU)) ((0 : Int), ([] : List Unit))), ((eP id PyData.int) ((PyData.dict []), (0 : Int))), ((eP (eO eU) PyData.int) (none, (0 : Int))), ((eP (eT PyData.int) PyData.int) ([(0 : Int)], (0 : Int))), ((eP3 PyData.int PyData.int PyData.int) ((0 : Int), (0 : Int), (0 : Int)))])), none]) (L_law_pick_2 (eP PyData.int PyData.int) r3.2 r2) (show List.Nodup ([0] : List Nat) by decide) rfl rfl (fun _ => rfl) (fun _ => trivial) ?_
  intro r15
  refine as_d (e' := [some (.cell .bor (.lst (List.map PyData.int r15.2))), some (.d (PyData.int rows_)), some (.d (PyData.int columns_)), some (.d ((eT (eP PyData.int PyData.int)) bars_)), some (.d (PyData.int r1.1)), some (.d ((eT (eP PyData.int PyData.int)) r2)), some (.d (PyData.int r3.1)), some (.d ((eL id) [((eP PyData.int PyData.int) (rows_, (0 : Int))), ((eP PyData.int PyData.int) ((0 : Int), columns_)), ((eP PyData.int PyData.int) ((-1 : Int), (0 : Int))), ((eP PyData.int PyData.int) ((0 : Int), (-1 : Int))), ((eT PyData.int) [(0 : Int)]), ((eP3 PyData.int PyData.int PyData.int) ((0 : Int), (0 : Int), (0 : Int))), ((eL PyData.int) [(0 : Int), (0 : Int)]), (PyData.str (Str.ofString "00")), PyData.none, (PyData.int (0 : Int)), ((eP PyData.bool PyData.int) (true, (0 : Int))), ((eP PyData.int PyData.bool) ((0 : Int), false))])), some (.d ((eL id) [((eP PyData.str PyData.int) ((Str.ofString "0"), (0 : Int))), ((eP PyData.int (eL eU)) ((0 : Int), ([] : List Unit))), ((eP id PyData.int) ((PyData.dict []), (0 : Int))), ((eP (eO eU) PyData.int) (none, (0 : Int))), ((eP (eT PyData.int) PyData.int) ([(0 : Int)], (0 : Int))), ((eP3 PyData.int PyData.int PyData.int) ((0 : Int), (0 : Int), (0 : Int)))])), some (.d ((eP PyData.int PyData.int) r15.1))]) rfl okO_none rfl ?_
  refine fz_t (v := (eP PyData.int PyData.int) r15.1) (e' := [some (.cell .bor (.lst (List.map PyData.int r15.2))), some (.d (PyData.int rows_)), some (.d (PyData.int columns_)), some (.d ((eT (eP PyData.int PyData.int)) bars_)), some (.d (PyData.int r1.1)), some (.d ((eT (eP PyData.int PyData.int)) r2)), some (.d (PyData.int r3.1)), some (.d ((eL id) [((eP PyData.int PyData.int) (rows_, (0 : Int))), ((eP PyData.int PyData.int) ((0 : Int), columns_)), ((eP PyData.int PyData.int) ((-1 : Int), (0 : Int))), ((eP PyData.int PyData.int) ((0 : Int), (-1 : Int))), ((eT PyData.int) [(0 : Int)]), ((eP3 PyData.int PyData.int PyData.int) ((0 : Int), (0 : Int), (0 : Int))), ((eL PyData.int) [(0 : Int), (0 : Int)]), (PyData.str (Str.ofString "00")), PyData.none, (PyData.int (0 : Int)), ((eP PyData.bool PyData.int) (true, (0 : Int))), ((eP PyData.int PyData.bool) ((0 : Int), false))])), some (.d ((eL id) [((eP PyData.str PyData.int) ((Str.ofString "0"), (0 : Int))), ((eP PyData.int (eL eU)) ((0 : Int), ([] : List Unit))), ((eP id PyData.int) ((PyData.dict []), (0 : Int))), ((eP (eO eU) PyData.int) (none, (0 : Int))), ((eP (eT PyData.int) PyData.int) ([(0 : Int)], (0 : Int))), ((eP3 PyData.int PyData.int PyData.int) ((0 : Int), (0 : Int), (0 : Int)))])), some (.d ((eP PyData.int PyData.int) r15.1))]) rfl ?_
  refine c_blk1 ?_
  refine c_ret ?_
  refine c_dat ?_
  refine c_take ?_
  refine c_call ?_
  refine c_pcons ?_
  refine c_callF ?_
  refine c_aref rfl ?_
  refine c_adat ?_
  refine c_take ?_
  refine c_bin ?_
  refine c_call ?_
  refine c_pcons ?_
  refine c_name rfl ?_
  refine c_pnil ?_
  refine cb_pure (r := .tmp (.lst (List.map (eP PyData.int PyData.int) bars_))) rfl rfl ?_
  refine c_lst ?_
  refine c_cons ?_
  refine c_take ?_
  refine c_name rfl ?_
  refine t_pure rfl ?_
  refine c_cons ?_
  refine c_take ?_
  refine c_name rfl ?_
  refine t_pure rfl ?_
  refine c_nil ?_
  refine ls_pure (ys := List.map (eP PyData.int PyData.int) [r15.1, r15.1]) rfl rfl ?_
  refine b_part (u := (eL (eP PyData.int PyData.int)) bars_) (v := (eL (eP PyData.int PyData.int)) [r15.1, r15.1]) rfl rfl (catL (e := (eP PyData.int PyData.int))) ?_
  intro cat16
  refine t_pure (v := (eL (eP PyData.int PyData.int)) cat16) rfl ?_
  refine c_anil ?_
  refine cf_s (e2 := fun r17 => [some (.cell .bor (.lst (List.map PyData.int r17.2))), some (.d (PyData.int rows_)), some (.d (PyData.int columns_)), some (.d ((eT (eP PyData.int PyData.int)) bars_)), some (.d (PyData.int r1.1)), some (.d ((eT (eP PyData.int PyData.int)) r2)), some (.d (PyData.int r3.1)), some (.d ((eL id) [((eP PyData.int PyData.int) (rows_, (0 : Int))), ((eP PyData.int PyData.int) ((0 : Int), columns_)), ((eP PyData.int PyData.int) ((-1 : Int), (0 : Int))), ((eP PyData.int PyData.int) ((0 : Int), (-1 : Int))), ((eT PyData.int) [(0 : Int)]), ((eP3 PyData.int PyData.int PyData.int) ((0 : Int), (0 : Int), (0 : Int))), ((eL PyData.int) [(0 : Int), (0 : Int)]), (PyData.str (Str.ofString "00")), PyData.none, (PyData.int (0 : Int)), ((eP PyData.bool PyData.int) (true, (0 : Int))), ((eP PyData.int PyData.bool) ((0 : Int), false))])), some (.d ((eL id) [((eP PyData.str PyData.int) ((Str.ofString "0"), (0 : Int))), ((eP PyData.int (eL eU)) ((0 : Int), ([] : List Unit))), ((eP id PyData.int) ((PyData.dict []), (0 : Int))), ((eP (eO eU) PyData.int) (none, (0 : Int))), ((eP (eT PyData.int) PyData.int) ([(0 : Int)], (0 : Int))), ((eP3 PyData.int PyData.int PyData.int) ((0 : Int), (0 : Int), (0 : Int)))])), some (.d ((eP PyData.int PyData.int) r15.1))]) (L_law_mixed_2 r15.2 cat16) (show List.Nodup ([0] : List Nat) by decide) rfl rfl (fun _ => rfl) (fun _ => trivial) ?_
  intro r17
  refine c_pnil ?_
  refine cb_pure (r := .d (eT (eP PyData.int PyData.int) r17.1)) rfl rfl ?_
  refine t_pure rfl ?_
  refine rt_d ?_
  exact sim_ret ⟨.inl rfl, rfl⟩
def S_law (script_ : List Int) : M (Bool) :=
  S_law_deck script_ >>= fun r1 =>
  forL (ρ := Bool) (fun (a13 : Int) (s2 : (List Int)) =>
  S_law_shape s2 >>= fun r14 =>
  S_law_bars r14.2 r14.1.1 r14.1.2 >>= fun r15 =>
  S_law_left r14.1.1 r14.1.2 r15.1 >>= fun r16 =>
  forL (ρ := Bool) (fun (a20 : Int) (s17 : Unit) =>
  S_law_cells_told a20 r14.1.1 r14.1.2 ((eT (eP PyData.int PyData.int)) r15.1) >>= fun r21 =>
  (if (!(PyData.isTuple r21)) = true then .ok true else ((if (eqD a20 (0 : Int)) = true then (reprM (id r21) >>= fun txt22 =>
  reprM ((eT (eP PyData.int PyData.int)) r16) >>= fun txt23 =>
  eqSM txt22 txt23 >>= fun same24 =>
  .ok (!same24)) else .ok false) >>= fun b25 =>
  .ok b25)) >>= fun b26 =>
  if b26 = true then (.ok (.rt false))
  else
  .ok (.nx ())) (rangeZ 0 ((3 : Int)).toNat) () >>= fun l49 => match l49 with
  | .rt r => .ok (.rt r)
  | .bk _ => .fail
  | .nx s17 =>
  forL (ρ := Bool) (fun (a32 : Int) (s27 : (List Int)) =>
  S_law_bad_bars s27 r14.1.1 r14.1.2 r15.1 >>= fun r33 =>
  reprM (id r33.1) >>= fun txt34 =>
  forL (ρ := Bool) (fun (a37 : Int) (s35 : Unit) =>
  S_law_cells_told a37 r14.1.1 r14.1.2 r33.1 >>= fun r38 =>
  eqAM r38 (PyData.str (Str.ofString "bars")) >>= fun same39 =>
  (if (!same39) = true then .ok true else (reprM (id r33.1) >>= fun txt40 =>
  eqSM txt40 txt34 >>= fun same41 =>
  .ok (!same41))) >>= fun b42 =>
  if b42 = true then (.ok (.rt false))
  else
  .ok (.nx ())) (rangeZ 0 ((3 : Int)).toNat) () >>= fun l43 => match l43 with
  | .rt r => .ok (.rt r)
  | .bk _ => .fail
  | .nx s35 =>
  .ok (.nx r33.2)) (rangeZ 0 ((4 : Int)).toNat) r15.2 >>= fun l48 => match l48 with
  | .rt r => .ok (.rt r)
  | .bk _ => .fail
  | .nx s27 =>
  S_cells r14.1.1 r14.1.2 ((eT (eP PyData.int PyData.int)) r15.1) >>= fun r44 =>
  reprM ((eT (eP PyData.int PyData.int)) r44) >>= fun txt45 =>
  reprM ((eT (eP PyData.int PyData.int)) r16) >>= fun txt46 =>
  eqSM txt45 txt46 >>= fun same47 =>
  if (!same47) = true then (.ok (.rt false))
  else
  .ok (.nx s27)) (rangeZ 0 ((10 : Int)).toNat) r1 >>= fun l50 => match l50 with
  | .rt r => .ok r
  | .bk _ => .fail
  | .nx s2 =>
  .ok true
theorem L_law (script_ : List Int) : FSim (F_law [.d ((eL PyData.int) script_)]) (S_law script_) (fun (r : Bool) => Ret.d (PyData.bool r)) (fun (r : Bool) => [.d ((eL PyData.int) script_)]) := by
  refine fs_mk ?_
  unfold S_law
  refine sim_bnd0 ?_
  have e0 : envOf 12 [.d ((eL PyData.int) script_)] = [some (.d ((eL PyData.int) script_)), none, none, none, none, none, none, none, none, none, none, none] := rfl
  rw [e0]
  unfold f_law
  refine c_blk ?_
  refine c_set ?_
  refine c_callF ?_
  refine c_adat ?_
  refine c_take ?_
  refine c_name rfl ?_
  refine t_pure rfl ?_
  refine c_anil ?_
  refine cf_s (e2 := fun r1 => [some (.d ((eL PyData.int) script_)), none, none, none, none, none, none, none, none, none, none, none]) (L_law_deck script_) (show List.Nodup ([] : List Nat) by decide) rfl rfl (fun _ => rfl) (fun _ => trivial) ?_
  intro r1
  refine as_t (e' := [some (.d ((eL PyData.int) script_)), some (.cell .own (.lst (List.map PyData.int r1))), none, none, none, none, none, none, none, none, none, none]) rfl okO_none rfl ?_
  refine c_blk1 ?_
  refine c_for ?_
  refine c_rng1 ?_
  refine c_pcons ?_
  refine c_const ?_
  refine c_pnil ?_
  refine r1_lit rfl (by decide) ?_
  refine fo_l (fun (s2 : (List Int)) (e : SE) => ∃ (o3 : Option MV), ∃ (o4 : Option MV), ∃ (o5 : Option MV), ∃ (o6 : Option MV), ∃ (o7 : Option MV), ∃ (o8 : Option MV), ∃ (o9 : Option MV), ∃ (o10 : Option MV), ∃ (o11 : Option MV), ∃ (o12 : Option MV), datO o3 ∧ datO o4 ∧ datO o5 ∧ datO o6 ∧ datO o7 ∧ datO o8 ∧ datO o9 ∧ datO o10 ∧ datO o11 ∧ datO o12 ∧ e = [some (.d ((eL PyData.int) script_)), some (.cell .own (.lst (List.map PyData.int s2))), o3, o4, o5, o6, o7, o8, o9, o10, o11, o12]) (fun (r : Bool) (v : Ret) (e : SE) => v = Ret.d (PyData.bool r) ∧ outsOf [.d ((eL PyData.int) script_)] e = [.d ((eL PyData.int) script_)]) ⟨_, _, _, _, _, _, _, _, _, _, datO_none, datO_none, datO_none, datO_none, datO_none, datO_none, datO_none, datO_none, datO_none, datO_none, rfl⟩ (fun _ _ => trivial) ?_ ?_ ?_
  · intro a13 s2 e hK
    obtain ⟨o3, o4, o5, o6, o7, o8, o9, o10, o11, o12, ho3, ho4, ho5, ho6, ho7, ho8, ho9, ho10, ho11, ho12, he⟩ := hK
    subst he
    refine ⟨[some (.d ((eL PyData.int) script_)), some (.cell .own (.lst (List.map PyData.int s2))), some (.d (PyData.int a13)), o4, o5, o6, o7, o8, o9, o10, o11, o12], (bn (e' := [some (.d ((eL PyData.int) script_)), some (.cell .own (.lst (List.map PyData.int s2))), some (.d (PyData.int a13)), o4, o5, o6, o7, o8, o9, o10, o11, o12]) rfl (datO.ok ho3) rfl), ?_⟩
    refine sim_bnd0 ?_
    refine c_blk ?_
    refine c_bindS ?_
    refine c_take ?_
    refine c_callF ?_
    refine c_aref rfl ?_
    refine c_anil ?_
    refine cf_s (e2 := fun r14 => [some (.d ((eL PyData.int) script_)), some (.cell .own (.lst (List.map PyData.int r14.2))), some (.d (PyData.int a13)), o4, o5, o6, o7, o8, o9, o10, o11, o12]) (L_law_shape s2) (show List.Nodup ([1] : List Nat) by decide) rfl rfl (fun _ => rfl) (fun _ => trivial) ?_
    intro r14
    refine t_pure rfl ?_
    refine bi_t (bt_tup rfl (bt_cons (bn (e' := [some (.d ((eL PyData.int) script_)), some (.cell .own (.lst (List.map PyData.int r14.2))), some (.d (PyData.int a13)), some (.d (PyData.int r14.1.1)), o5, o6, o7, o8, o9, o10, o11, o12]) rfl (datO.ok ho4) rfl) (bt_cons (bn (e' := [some (.d ((eL PyData.int) script_)), some (.cell .own (.lst (List.map PyData.int r14.2))), some (.d (PyData.int a13)), some (.d (PyData.int r14.1.1)), some (.d (PyData.int r14.1.2)), o6, o7, o8, o9, o10, o11, o12]) rfl (datO.ok ho5) rfl) bt_nil))) ?_
    refine c_blk1 ?_
    refine c_frz ?_
    refine c_set ?_
    refine c_callF ?_
    refine c_aref rfl ?_
    refine c_adat ?_
    refine c_take ?_
    refine c_name rfl ?_
    refine t_pure rfl ?_
    refine c_adat ?_
    refine c_take ?_
    refine c_name rfl ?_
    refine t_pure rfl ?_
    refine c_anil ?_
    refine cf_s (e2 := fun r15 => [some (.d ((eL PyData.int) script_)), some (.cell .own (.lst (List.map PyData.int r15.2))), some (.d (PyData.int a13)), some (.d (PyData.int r14.1.1)), some (.d (PyData.int r14.1.2)), o6, o7, o8, o9, o10, o11, o12]) (L_law_bars r14.2 r14.1.1 r14.1.2) (show List.Nodup ([1] : List Nat) by decide) rfl rfl (fun _ => rfl) (fun _ => trivial) ?_
    intro r15
    refine as_d (e' := [some (.d ((eL PyData.int) script_)), some (.cell .own (.lst (List.map PyData.int r15.2))), some (.d (PyData.int a13)), some (.d (PyData.int r14.1.1)), some (.d (PyData.int r14.1.2)), some (.d ((eT (eP PyData.int PyData.int)) r15.1)), o7, o8, o9, o10, o11, o12]) rfl (datO.ok ho6) rfl ?_
    refine fz_t (v := (eT (eP PyData.int PyData.int)) r15.1) (e' := [some (.d ((eL PyData.int) script_)), some (.cell .own (.lst (List.map PyData.int r15.2))), some (.d (PyData.int a13)), some (.d (PyData.int r14.1.1)), some (.d (PyData.int r14.1.2)), some (.d ((eT (eP PyData.int PyData.int)) r15.1)), o7, o8, o9, o10, o11, o12]) rfl ?_
    refine c_blk1 ?_
    refine c_frz ?_
    refine c_set ?_
    refine c_callF ?_
    refine c_adat ?_
    refine c_take ?_
    refine c_name rfl ?_
    refine t_pure rfl ?_
    refine c_adat ?_
    refine c_take ?_
    refine c_name rfl ?_
    refine t_pure rfl ?_
    refine c_adat ?_
    refine c_take ?_
    refine c_name rfl ?_
    refine t_pure rfl ?_
    refine c_anil ?_
    refine cf_s (e2 := fun r16 => [some (.d ((eL PyData.int) script_)), some (.cell .own (.lst (List.map PyData.int r15.2))), some (.d (PyData.int a13)), some (.d (PyData.int r14.1.1)), some (.d (PyData.int r14.1.2)), some (.d ((eT (eP PyData.int PyData.int)) r15.1)), o7, o8, o9, o10, o11, o12]) (L_law_left r14.1.1 r14.1.2 r15.1) (show List.Nodup ([] : List Nat) by decide) rfl rfl (fun _ => rfl) (fun _ => trivial) ?_
    intro r16
    refine as_d (e' := [some (.d ((eL PyData.int) script_)), some (.cell .own (.lst (List.map PyData.int r15.2))), some (.d (PyData.int a13)), some (.d (PyData.int r14.1.1)), some (.d (PyData.int r14.1.2)), some (.d ((eT (eP PyData.int PyData.int)) r15.1)), some (.d ((eT (eP PyData.int PyData.int)) r16)), o8, o9, o10, o11, o12]) rfl (datO.ok ho7) rfl ?_
    refine fz_t (v := (eT (eP PyData.int PyData.int)) r16) (e' := [some (.d ((eL PyData.int) script_)), some (.cell .own (.lst (List.map PyData.int r15.2))), some (.d (PyData.int a13)), some (.d (PyData.int r14.1.1)), some (.d (PyData.int r14.1.2)), some (.d ((eT (eP PyData.int PyData.int)) r15.1)), some (.d ((eT (eP PyData.int PyData.int)) r16)), o8, o9, o10, o11, o12]) rfl ?_
    refine c_blk1 ?_
    refine c_for ?_
    refine c_rng1 ?_
    refine c_pcons ?_
    refine c_const ?_
    refine c_pnil ?_
    refine r1_lit rfl (by decide) ?_
    refine fo_l (fun (s17 : Unit) (e : SE) => ∃ (o18 : Option MV), ∃ (o19 : Option MV), datO o18 ∧ datO o19 ∧ e = [some (.d ((eL PyData.int) script_)), some (.cell .own (.lst (List.map PyData.int r15.2))), some (.d (PyData.int a13)), some (.d (PyData.int r14.1.1)), some (.d (PyData.int r14.1.2)), some (.d ((eT (eP PyData.int PyData.int)) r15.1)), some (.d ((eT (eP PyData.int PyData.int)) r16)), o18, o19, o10, o11, o12]) (fun (r : Bool) (v : Ret) (e : SE) => v = Ret.d (PyData.bool r) ∧ outsOf [.d ((eL PyData.int) script_)] e = [.d ((eL PyData.int) script_)]) ⟨_, _, ho8, ho9, rfl⟩ (fun _ _ => trivial) ?_ ?_ ?_
    · intro a20 s17 e hK
      obtain ⟨o18, o19, ho18, ho19, he⟩ := hK
      subst he
      refine ⟨[some (.d ((eL PyData.int) script_)), some (.cell .own (.lst (List.map PyData.int r15.2))), some (.d (PyData.int a13)), some (.d (PyData.int r14.1.1)), some (.d (PyData.int r14.1.2)), some (.d ((eT (eP PyData.int PyData.int)) r15.1)), some (.d ((eT (eP PyData.int PyData.int)) r16)), some (.d (PyData.int a20)), o19, o10, o11, o12], (bn (e' := [some (.d ((eL PyData.int) script_)), some (.cell .own (.lst (List.map PyData.int r15.2))), some (.d (PyData.int a13)), some (.d (PyData.int r14.1.1)), some (.d (PyData.int r14.1.2)), some (.d ((eT (eP PyData.int PyData.int)) r15.1)), some (.d ((eT (eP PyData.int PyData.int)) r16)), some (.d (PyData.int a20)), o19, o10, o11, o12]) rfl (datO.ok ho18) rfl), ?_⟩
      refine sim_bnd0 ?_
      refine c_blk ?_
      refine c_frz ?_
      refine c_set ?_
      refine c_callF ?_
      refine c_adat ?_
      refine c_take ?_
      refine c_name rfl ?_
      refine t_pure rfl ?_
      refine c_adat ?_
      refine c_take ?_
      refine c_name rfl ?_
      refine t_pure rfl ?_
      refine c_adat ?_
      refine c_take ?_
      refine c_name rfl ?_
      refine t_pure rfl ?_
      refine c_adat ?_
      refine c_take ?_
      refine c_name rfl ?_
      refine t_pure rfl ?_
      refine c_anil ?_
      refine cf_s (e2 := fun r21 => [some (.d ((eL PyData.int) script_)), some (.cell .own (.lst (List.map PyData.int r15.2))), some (.d (PyData.int a13)), some (.d (PyData.int r14.1.1)), some (.d (PyData.int r14.1.2)), some (.d ((eT (eP PyData.int PyData.int)) r15.1)), some (.d ((eT (eP PyData.int PyData.int)) r16)), some (.d (PyData.int a20)), o19, o10, o11, o12]) (L_law_cells_told a20 r14.1.1 r14.1.2 ((eT (eP PyData.int PyData.int)) r15.1)) (show List.Nodup ([] : List Nat) by decide) rfl rfl (fun _ => rfl) (fun _ => trivial) ?_
      intro r21
      refine as_d (e' := [some (.d ((eL PyData.int) script_)), some (.cell .own (.lst (List.map PyData.int r15.2))), some (.d (PyData.int a13)), some (.d (PyData.int r14.1.1)), some (.d (PyData.int r14.1.2)), some (.d ((eT (eP PyData.int PyData.int)) r15.1)), some (.d ((eT (eP PyData.int PyData.int)) r16)), some (.d (PyData.int a20)), some (.d (id r21)), o10, o11, o12]) rfl (datO.ok ho19) rfl ?_
      refine fz_t (v := id r21) (e' := [some (.d ((eL PyData.int) script_)), some (.cell .own (.lst (List.map PyData.int r15.2))), some (.d (PyData.int a13)), some (.d (PyData.int r14.1.1)), some (.d (PyData.int r14.1.2)), some (.d ((eT (eP PyData.int PyData.int)) r15.1)), some (.d ((eT (eP PyData.int PyData.int)) r16)), some (.d (PyData.int a20)), some (.d (id r21)), o10, o11, o12]) rfl ?_
      refine c_blk1 ?_
      refine c_ifS ?_
      refine c_or ?_
      refine c_not ?_
      refine c_tru ?_
      refine c_isa ?_
      refine c_name rfl ?_
      refine isa_pure rfl ?_
      refine tr_pure rfl rfl ?_
      refine or_m ?_ ?_
      · refine sim_bnd0 ?_
        refine c_and ?_
        refine c_tru ?_
        refine c_bin ?_
        refine c_name rfl ?_
        refine c_const ?_
        refine b_pure (u := PyData.int a20) (v := PyData.int (0 : Int)) rfl rfl (eq_t EqT.I (by decide)) ?_
        refine tr_pure rfl rfl ?_
        refine and_m ?_ ?_
        · refine sim_bnd0 ?_
          refine c_tru ?_
          refine c_bin ?_
          refine c_call ?_
          refine c_pcons ?_
          refine c_name rfl ?_
          refine c_pnil ?_
          refine cb_part (xs := [id r21]) rfl reprS ?_
          intro txt22
          refine c_call ?_
          refine c_pcons ?_
          refine c_name rfl ?_
          refine c_pnil ?_
          refine cb_part (xs := [(eT (eP PyData.int PyData.int)) r16]) rfl reprS ?_
          intro txt23
          refine b_part rfl rfl neSS ?_
          intro same24
          refine tr_pure rfl rfl ?_
          exact sim_ret ⟨rfl, rfl⟩
        intro b25
        exact sim_ret ⟨rfl, rfl⟩
      intro b26
      refine ite_b (fun _ => ?_) (fun _ => ?_)
      · refine c_blk ?_
        refine c_ret ?_
        refine c_const ?_
        refine rt_d ?_
        exact sim_ret (lpk_rt ⟨rfl, rfl⟩)
      refine c_end ?_
      refine c_end1 ?_
      exact sim_ret (lpk_nx ⟨_, _, datO_d, datO_d, rfl⟩)
    · intro s17 e hK e' hu
      obtain ⟨o18, o19, ho18, ho19, he⟩ := hK
      obtain rfl : e' = [some (.d ((eL PyData.int) script_)), some (.cell .own (.lst (List.map PyData.int r15.2))), some (.d (PyData.int a13)), some (.d (PyData.int r14.1.1)), some (.d (PyData.int r14.1.2)), some (.d ((eT (eP PyData.int PyData.int)) r15.1)), some (.d ((eT (eP PyData.int PyData.int)) r16)), o18, o19, o10, o11, o12] := by rw [← hu, he]; rfl
      clear hu he
      refine c_blk1 ?_
      refine c_for ?_
      refine c_rng1 ?_
      refine c_pcons ?_
      refine c_const ?_
      refine c_pnil ?_
      refine r1_lit rfl (by decide) ?_
      refine fo_l (fun (s27 : (List Int)) (e : SE) => ∃ (o28 : Option MV), ∃ (o29 : Option MV), ∃ (o30 : Option MV), ∃ (o31 : Option MV), datO o28 ∧ datO o29 ∧ datO o30 ∧ datO o31 ∧ e = [some (.d ((eL PyData.int) script_)), some (.cell .own (.lst (List.map PyData.int s27))), some (.d (PyData.int a13)), some (.d (PyData.int r14.1.1)), some (.d (PyData.int r14.1.2)), some (.d ((eT (eP PyData.int PyData.int)) r15.1)), some (.d ((eT (eP PyData.int PyData.int)) r16)), o28, o19, o29, o30, o31]) (fun (r : Bool) (v : Ret) (e : SE) => v = Ret.d (PyData.bool r) ∧ outsOf [.d ((eL PyData.int) script_)] e = [.d ((eL PyData.int) script_)]) ⟨_, _, _, _, ho18, ho10, ho11, ho12, rfl⟩ (fun _ _ => trivial) ?_ ?_ ?_
      · intro a32 s27 e hK
        obtain ⟨o28, o29, o30, o31, ho28, ho29, ho30, ho31, he⟩ := hK
        subst he
        refine ⟨[some (.d ((eL PyData.int) script_)), some (.cell .own (.lst (List.map PyData.int s27))), some (.d (PyData.int a13)), some (.d (PyData.int r14.1.1)), some (.d (PyData.int r14.1.2)), some (.d ((eT (eP PyData.int PyData.int)) r15.1)), some (.d ((eT (eP PyData.int PyData.int)) r16)), o28, o19, some (.d (PyData.int a32)), o30, o31], (bn (e' := [some (.d ((eL PyData.int) script_)), some (.cell .own (.lst (List.map PyData.int s27))), some (.d (PyData.int a13)), some (.d (PyData.int r14.1.1)), some (.d (PyData.int r14.1.2)), some (.d ((eT (eP PyData.int PyData.int)) r15.1)), some (.d ((eT (eP PyData.int PyData.int)) r16)), o28, o19, some (.d (PyData.int a32)), o30, o31]) rfl (datO.ok ho29) rfl), ?_⟩
        refine sim_bnd0 ?_
        refine c_blk ?_
        refine c_frz ?_
        refine c_set ?_
        refine c_callF ?_
        refine c_aref rfl ?_
        refine c_adat ?_
        refine c_take ?_
        refine c_name rfl ?_
        refine t_pure rfl ?_
        refine c_adat ?_
        refine c_take ?_
        refine c_name rfl ?_
        refine t_pure rfl ?_
        refine c_adat ?_
        refine c_take ?_
        refine c_name rfl ?_
        refine t_pure rfl ?_
        refine c_anil ?_
        refine cf_s (e2 := fun r33 => [some (.d ((eL PyData.int) script_)), some (.cell .own (.lst (List.map PyData.int r33.2))), some (.d (PyData.int a13)), some (.d (PyData.int r14.1.1)), some (.d (PyData.int r14.1.2)), some (.d ((eT (eP PyData.int PyData.int)) r15.1)), some (.d ((eT (eP PyData.int PyData.int)) r16)), o28, o19, some (.d (PyData.int a32)), o30, o31]) (L_law_bad_bars s27 r14.1.1 r14.1.2 r15.1) (show List.Nodup ([1] : List Nat) by decide) rfl rfl (fun _ => rfl) (fun _ => trivial) ?_
        intro r33
        refine as_d (e' := [some (.d ((eL PyData.int) script_)), some (.cell .own (.lst (List.map PyData.int r33.2))), some (.d (PyData.int a13)), some (.d (PyData.int r14.1.1)), some (.d (PyData.int r14.1.2)), some (.d ((eT (eP PyData.int PyData.int)) r15.1)), some (.d ((eT (eP PyData.int PyData.int)) r16)), o28, o19, some (.d (PyData.int a32)), some (.d (id r33.1)), o31]) rfl (datO.ok ho30) rfl ?_
        refine fz_t (v := id r33.1) (e' := [some (.d ((eL PyData.int) script_)), some (.cell .own (.lst (List.map PyData.int r33.2))), some (.d (PyData.int a13)), some (.d (PyData.int r14.1.1)), some (.d (PyData.int r14.1.2)), some (.d ((eT (eP PyData.int PyData.int)) r15.1)), some (.d ((eT (eP PyData.int PyData.int)) r16)), o28, o19, some (.d (PyData.int a32)), some (.d (id r33.1)), o31]) rfl ?_
        refine c_blk1 ?_
        refine c_set ?_
        refine c_call ?_
        refine c_pcons ?_
        refine c_name rfl ?_
        refine c_pnil ?_
        refine cb_part (xs := [id r33.1]) rfl reprS ?_
        intro txt34
        refine as_d (e' := [some (.d ((eL PyData.int) script_)), some (.cell .own (.lst (List.map PyData.int r33.2))), some (.d (PyData.int a13)), some (.d (PyData.int r14.1.1)), some (.d (PyData.int r14.1.2)), some (.d ((eT (eP PyData.int PyData.int)) r15.1)), some (.d ((eT (eP PyData.int PyData.int)) r16)), o28, o19, some (.d (PyData.int a32)), some (.d (id r33.1)), some (.d (PyData.str txt34))]) rfl (datO.ok ho31) rfl ?_
        refine c_blk1 ?_
        refine c_for ?_
        refine c_rng1 ?_
        refine c_pcons ?_
        refine c_const ?_
        refine c_pnil ?_
        refine r1_lit rfl (by decide) ?_
        refine fo_l (fun (s35 : Unit) (e : SE) => ∃ (o36 : Option MV), datO o36 ∧ e = [some (.d ((eL PyData.int) script_)), some (.cell .own (.lst (List.map PyData.int r33.2))), some (.d (PyData.int a13)), some (.d (PyData.int r14.1.1)), some (.d (PyData.int r14.1.2)), some (.d ((eT (eP PyData.int PyData.int)) r15.1)), some (.d ((eT (eP PyData.int PyData.int)) r16)), o36, o19, some (.d (PyData.int a32)), some (.d (id r33.1)), some (.d (PyData.str txt34))]) (fun (r : Bool) (v : Ret) (e : SE) => v = Ret.d (PyData.bool r) ∧ outsOf [.d ((eL PyData.int) script_)] e = [.d ((eL PyData.int) script_)]) ⟨_, ho28, rfl⟩ (fun _ _ => trivial) ?_ ?_ ?_
        · intro a37 s35 e hK
          obtain ⟨o36, ho36, he⟩ := hK
          subst he
          refine ⟨[some (.d ((eL PyData.int) script_)), some (.cell .own (.lst (List.map PyData.int r33.2))), some (.d (PyData.int a13)), some (.d (PyData.int r14.1.1)), some (.d (PyData.int r14.1.2)), some (.d ((eT (eP PyData.int PyData.int)) r15.1)), some (.d ((eT (eP PyData.int PyData.int)) r16)), some (.d (PyData.int a37)), o19, some (.d (PyData.int a32)), some (.d (id r33.1)), some (.d (PyData.str txt34))], (bn (e' := [some (.d ((eL PyData.int) script_)), some (.cell .own (.lst (List.map PyData.int r33.2))), some (.d (PyData.int a13)), some (.d (PyData.int r14.1.1)), some (.d (PyData.int r14.1.2)), some (.d ((eT (eP PyData.int PyData.int)) r15.1)), some (.d ((eT (eP PyData.int PyData.int)) r16)), some (.d (PyData.int a37)), o19, some (.d (PyData.int a32)), some (.d (id r33.1)), some (.d (PyData.str txt34))]) rfl (datO.ok ho36) rfl), ?_⟩
          refine sim_bnd0 ?_
          refine c_blk ?_
          refine c_ifS ?_
          refine c_or ?_
          refine c_tru ?_
          refine c_bin ?_
          refine c_callF ?_
          refine c_adat ?_
          refine c_take ?_
          refine c_name rfl ?_
          refine t_pure rfl ?_
          refine c_adat ?_
          refine c_take ?_
          refine c_name rfl ?_
          refine t_pure rfl ?_
          refine c_adat ?_
          refine c_take ?_
          refine c_name rfl ?_
          refine t_pure rfl ?_
          refine c_adat ?_
          refine c_take ?_
          refine c_name rfl ?_
          refine t_pure rfl ?_
          refine c_anil ?_
          refine cf_s (e2 := fun r38 => [some (.d ((eL PyData.int) script_)), some (.cell .own (.lst (List.map PyData.int r33.2))), some (.d (PyData.int a13)), some (.d (PyData.int r14.1.1)), some (.d (PyData.int r14.1.2)), some (.d ((eT (eP PyData.int PyData.int)) r15.1)), some (.d ((eT (eP PyData.int PyData.int)) r16)), some (.d (PyData.int a37)), o19, some (.d (PyData.int a32)), some (.d (id r33.1)), some (.d (PyData.str txt34))]) (L_law_cells_told a37 r14.1.1 r14.1.2 r33.1) (show List.Nodup ([] : List Nat) by decide) rfl rfl (fun _ => rfl) (fun _ => trivial) ?_
          intro r38
          refine c_const ?_
          refine b_part (u := id r38) (v := id (PyData.str (Str.ofString "bars"))) rfl rfl neAS ?_
          intro same39
          refine tr_pure rfl rfl ?_
          refine or_m ?_ ?_
          · refine sim_bnd0 ?_
            refine c_tru ?_
            refine c_bin ?_
            refine c_call ?_
            refine c_pcons ?_
            refine c_name rfl ?_
            refine c_pnil ?_
            refine cb_part (xs := [id r33.1]) rfl reprS ?_
            intro txt40
            refine c_name rfl ?_
            refine b_part rfl rfl neSS ?_
            intro same41
            refine tr_pure rfl rfl ?_
            exact sim_ret ⟨rfl, rfl⟩
          intro b42
          refine ite_b (fun _ => ?_) (fun _ => ?_)
          · refine c_blk ?_
            refine c_ret ?_
            refine c_const ?_
            refine rt_d ?_
            exact sim_ret (lpk_rt ⟨rfl, rfl⟩)
          refine c_end ?_
          refine c_end1 ?_
          exact sim_ret (lpk_nx ⟨_, datO_d, rfl⟩)
        · intro s35 e hK e' hu
          obtain ⟨o36, ho36, he⟩ := hK
          obtain rfl : e' = [some (.d ((eL PyData.int) script_)), some (.cell .own (.lst (List.map PyData.int r33.2))), some (.d (PyData.int a13)), some (.d (PyData.int r14.1.1)), some (.d (PyData.int r14.1.2)), some (.d ((eT (eP PyData.int PyData.int)) r15.1)), some (.d ((eT (eP PyData.int PyData.int)) r16)), o36, o19, some (.d (PyData.int a32)), some (.d (id r33.1)), some (.d (PyData.str txt34))] := by rw [← hu, he]; rfl
          clear hu he
          refine c_end1 ?_
          exact sim_ret (lpk_nx ⟨_, _, _, _, ho36, datO_d, datO_d, datO_d, rfl⟩)
        intro r v e hr e' hu
        obtain ⟨rfl, hr⟩ := hr
        subst hu
        exact sim_ret (lpk_rt ⟨rfl, hr⟩)
      · intro s27 e hK e' hu
        obtain ⟨o28, o29, o30, o31, ho28, ho29, ho30, ho31, he⟩ := hK
        obtain rfl : e' = [some (.d ((eL PyData.int) script_)), some (.cell .own (.lst (List.map PyData.int s27))), some (.d (PyData.int a13)), some (.d (PyData.int r14.1.1)), some (.d (PyData.int r14.1.2)), some (.d ((eT (eP PyData.int PyData.int)) r15.1)), some (.d ((eT (eP PyData.int PyData.int)) r16)), o28, o19, o29, o30, o31] := by rw [← hu, he]; rfl
        clear hu he
        refine c_blk1 ?_
        refine c_ifS ?_
        refine c_tru ?_
        refine c_bin ?_
        refine c_call ?_
        refine c_pcons ?_
        refine c_callF ?_
        refine c_adat ?_
        refine c_take ?_
        refine c_name rfl ?_
        refine t_pure rfl ?_
        refine c_adat ?_
        refine c_take ?_
        refine c_name rfl ?_
        refine t_pure rfl ?_
        refine c_adat ?_
        refine c_take ?_
        refine c_name rfl ?_
        refine t_pure rfl ?_
        refine c_anil ?_
        refine cf_s (e2 := fun r44 => [some (.d ((eL PyData.int) script_)), some (.cell .own (.lst (List.map PyData.int s27))), some (.d (PyData.int a13)), some (.d (PyData.int r14.1.1)), some (.d (PyData.int r14.1.2)), some (.d ((eT (eP PyData.int PyData.int)) r15.1)), some (.d ((eT (eP PyData.int PyData.int)) r16)), o28, o19, o29, o30, o31]) (L_cells r14.1.1 r14.1.2 ((eT (eP PyData.int PyData.int)) r15.1)) (show List.Nodup ([] : List Nat) by decide) rfl rfl (fun _ => rfl) (fun _ => trivial) ?_
        intro r44
        refine c_pnil ?_
        refine cb_part (xs := [(eT (eP PyData.int PyData.int)) r44]) rfl reprS ?_
        intro txt45
        refine c_call ?_
        refine c_pcons ?_
        refine c_name rfl ?_
        refine c_pnil ?_
        refine cb_part (xs := [(eT (eP PyData.int PyData.int)) r16]) rfl reprS ?_
        intro txt46
        refine b_part rfl rfl neSS ?_
        intro same47
        refine tr_pure rfl rfl ?_
        refine ite_b (fun _ => ?_) (fun _ => ?_)
        · refine c_blk ?_
          refine c_ret ?_
          refine c_const ?_
          refine rt_d ?_
          exact sim_ret (lpk_rt ⟨rfl, rfl⟩)
        refine c_end ?_
        refine c_end1 ?_
        exact sim_ret (lpk_nx ⟨_, _, _, _, _, _, _, _, _, _, datO_d, datO_d, datO_d, datO_d, datO_d, ho28, ho19, ho29, ho30, ho31, rfl⟩)
      intro r v e hr e' hu
      obtain ⟨rfl, hr⟩ := hr
      subst hu
      exact sim_ret (lpk_rt ⟨rfl, hr⟩)
    intro r v e hr e' hu
    obtain ⟨rfl, hr⟩ := hr
    subst hu
    exact sim_ret (lpk_rt ⟨rfl, hr⟩)
  · intro s2 e hK e' hu
    obtain ⟨o3, o4, o5, o6, o7, o8, o9, o10, o11, o12, ho3, ho4, ho5, ho6, ho7, ho8, ho9, ho10, ho11, ho12, he⟩ := hK
    obtain rfl : e' = [some (.d ((eL PyData.int) script_)), some (.cell .own (.lst (List.map PyData.int s2))), o3, o4, o5, o6, o7, o8, o9, o10, o11, o12] := by rw [← hu, he]; rfl
    clear hu he
    refine c_blk1 ?_
    refine c_ret ?_
    refine c_const ?_
    refine rt_d ?_
    exact sim_ret ⟨.inl rfl, rfl⟩
  intro r v e hr e' hu
  obtain ⟨rfl, hr⟩ := hr
  subst hu
  exact sim_ret ⟨.inl rfl, hr⟩
end BH.K25
set_option maxRecDepth 100000
set_option maxHeartbeats 4000000
namespace BH.K25
open PySem PySem.Spec PyProof.Rows L2
def top (i : Nat) : Stmt := PySem.Challenge.pw_barterheaps_k25_cells_and_bars.main.body.getD i (.Pass ⟨0, 0, 0, 0⟩)
abbrev s_law_deck : Stmt := top 13
abbrev s_law_draw : Stmt := top 14
abbrev s_law_shape : Stmt := top 19
abbrev s_law_mixed : Stmt := top 16
abbrev s_law_bars : Stmt := top 17
abbrev s_law_left : Stmt := top 18
abbrev s_is_integer : Stmt := top 5
abbrev s_is_cell : Stmt := top 7
abbrev s_cells : Stmt := top 8
abbrev s_table_scale : Stmt := top 9
abbrev s_heap_of : Stmt := top 10
abbrev s_table_book : Stmt := top 11
abbrev s_law_cells_told : Stmt := top 21
abbrev s_law_pick : Stmt := top 15
abbrev s_law_bad_bars : Stmt := top 20
abbrev s_law : Stmt := top 22
structure Txt (K : PySem.W.Frag) (mg : Str → Option Value) where
  c_MAX_KINDS : ∃ t, mg "MAX_KINDS" = some (.int 6 t)
  z_len : mg "len" = none
  z_abs : mg "abs" = none
  z_int : mg "int" = none
  z_list : mg "list" = none
  z_range : mg "range" = none
  z_max : mg "max" = none
  z_min : mg "min" = none
  z_tuple : mg "tuple" = none
  z_isinstance : mg "isinstance" = none
  z_bool : mg "bool" = none
  z_all : mg "all" = none
  z_dict : mg "dict" = none
  z_repr : mg "repr" = none
  a_law_deck : Addr
  d_law_deck : FuncData
  g_law_deck : mg "_law_deck" = some (.ref a_law_deck)
  F_law_deck : Fun K "_law_deck" "_law_deck" s_law_deck a_law_deck d_law_deck
  b_law_deck : Binds K d_law_deck ["script"] []
  a_law_draw : Addr
  d_law_draw : FuncData
  g_law_draw : mg "_law_draw" = some (.ref a_law_draw)
  F_law_draw : Fun K "_law_draw" "_law_draw" s_law_draw a_law_draw d_law_draw
  b_law_draw : Binds K d_law_draw ["deck", "many"] []
  a_law_shape : Addr
  d_law_shape : FuncData
  g_law_shape : mg "_law_shape" = some (.ref a_law_shape)
  F_law_shape : Fun K "_law_shape" "_law_shape" s_law_shape a_law_shape d_law_shape
  b_law_shape : Binds K d_law_shape ["deck"] []
  a_law_mixed : Addr
  d_law_mixed : FuncData
  g_law_mixed : mg "_law_mixed" = some (.ref a_law_mixed)
  F_law_mixed : Fun K "_law_mixed" "_law_mixed" s_law_mixed a_law_mixed d_law_mixed
  b_law_mixed : Binds K d_law_mixed ["deck", "items"] []
  a_law_bars : Addr
  d_law_bars : FuncData
  g_law_bars : mg "_law_bars" = some (.ref a_law_bars)
  F_law_bars : Fun K "_law_bars" "_law_bars" s_law_bars a_law_bars d_law_bars
  b_law_bars : Binds K d_law_bars ["deck", "rows", "columns"] []
  a_law_left : Addr
  d_law_left : FuncData
  g_law_left : mg "_law_left" = some (.ref a_law_left)
  F_law_left : Fun K "_law_left" "_law_left" s_law_left a_law_left d_law_left
  b_law_left : Binds K d_law_left ["rows", "columns", "bars"] []
  a_is_integer : Addr
  d_is_integer : FuncData
  g_is_integer : mg "is_integer" = some (.ref a_is_integer)
  F_is_integer : Fun K "is_integer" "is_integer" s_is_integer a_is_integer d_is_integer
  b_is_integer : Binds K d_is_integer ["value", "low", "high"] []
  a_is_cell : Addr
  d_is_cell : FuncData
  g_is_cell : mg "is_cell" = some (.ref a_is_cell)
  F_is_cell : Fun K "is_cell" "is_cell" s_is_cell a_is_cell d_is_cell
  b_is_cell : Binds K d_is_cell ["rows", "columns", "value"] []
  a_cells : Addr
  d_cells : FuncData
  g_cells : mg "cells" = some (.ref a_cells)
  F_cells : Fun K "cells" "cells" s_cells a_cells d_cells
  b_cells : Binds K d_cells ["rows", "columns", "value"] []
  a_table_scale : Addr
  d_table_scale : FuncData
  g_table_scale : mg "table_scale" = some (.ref a_table_scale)
  F_table_scale : Fun K "table_scale" "table_scale" s_table_scale a_table_scale d_table_scale
  b_table_scale : Binds K d_table_scale ["rows", "columns", "value"] []
  a_heap_of : Addr
  d_heap_of : FuncData
  g_heap_of : mg "heap_of" = some (.ref a_heap_of)
  F_heap_of : Fun K "heap_of" "heap_of" s_heap_of a_heap_of d_heap_of
  b_heap_of : Binds K d_heap_of ["kinds", "some"] []
  a_table_book : Addr
  d_table_book : FuncData
  g_table_book : mg "table_book" = some (.ref a_table_book)
  F_table_book : Fun K "table_book" "table_book" s_table_book a_table_book d_table_book
  b_table_book : Binds K d_table_book ["rows", "columns", "value"] []
  a_law_cells_told : Addr
  d_law_cells_told : FuncData
  g_law_cells_told : mg "_law_cells_told" = some (.ref a_law_cells_told)
  F_law_cells_told : Fun K "_law_cells_told" "_law_cells_told" s_law_cells_told a_law_cells_told d_law_cells_told
  b_law_cells_told : Binds K d_law_cells_told ["way", "rows", "columns", "value"] []
  a_law_pick : Addr
  d_law_pick : FuncData
  g_law_pick : mg "_law_pick" = some (.ref a_law_pick)
  F_law_pick : Fun K "_law_pick" "_law_pick" s_law_pick a_law_pick d_law_pick
  b_law_pick : Binds K d_law_pick ["deck", "items"] []
  a_law_bad_bars : Addr
  d_law_bad_bars : FuncData
  g_law_bad_bars : mg "_law_bad_bars" = some (.ref a_law_bad_bars)
  F_law_bad_bars : Fun K "_law_bad_bars" "_law_bad_bars" s_law_bad_bars a_law_bad_bars d_law_bad_bars
  b_law_bad_bars : Binds K d_law_bad_bars ["deck", "rows", "columns", "bars"] []
  a_law : Addr
  d_law : FuncData
  g_law : mg "law" = some (.ref a_law)
  F_law : Fun K "law" "law" s_law a_law d_law
  b_law : Binds K d_law ["script"] []
  e_BadBars : Addr
  E_BadBars : ExF K mg "BadBars" e_BadBars
  q_BadBars : PySem.W.excIn K e_BadBars bmVE "ValueError.__new__" = true
  s_BadBars_BadBars : PySem.W.subIn K (.ref e_BadBars) (.ref e_BadBars) = some true
section
variable {P : Program} {w : World} {K : PySem.W.Frag} {mg : Str → Option Value} {base : Heap} [hB : SysIn base]
theorem sc_law_deck : FnScope ["script", "great", "mixed", "cell", "more"] ["script"] (defScope s_law_deck) := ⟨rfl, rfl, rfl, by decide +kernel, rfl, by decide +kernel, by decide +kernel⟩
theorem G_law_deck (T : Txt K mg) : FnG P w K mg base 1 T.a_law_deck T.d_law_deck ["script"] (spF mg K 1 F_law_deck) := by
  refine fn_data T.F_law_deck sc_law_deck fun cdv A outer s H E hr hg => ?_
  exact (fss_cons (fs_par (i := 1) (j := 2) rfl sc_law_deck.nd rfl rfl (by decide) rfl rfl (fps_cons fe_int (fps_cons (fe_bin od_add fe_int (fe_bin od_mul fe_int (fe_callB cd_len (by rfl) T.z_len rfl (fps_cons (fe_name (pv 0)) fps_nil)))) fps_nil)) rfl)
    (fss_cons (fs_for rfl (fi_seq (fe_slice (fe_name (pv 0)) fo_none (fo_some fe_int))) (fg_name (i := 3) sc_law_deck.nd rfl (by first | exact Or.inl rfl | exact Or.inr rfl)) (fss_cons (fs_set (i := 4) sc_law_deck.nd rfl (by first | exact Or.inl rfl | exact Or.inr rfl) (fe_bin od_add (fe_bin od_add (fe_bin od_mul fe_int (fe_callB cd_abs (by rfl) T.z_abs rfl (fps_cons (fe_name (pv 3)) fps_nil))) (fe_callTy cd_int (by rfl) T.z_int rfl (fps_cons (fe_cmp od_lt (fe_name (pv 3)) fe_int) fps_nil))) fe_int))
    (fss_cons (fs_set (i := 2) sc_law_deck.nd rfl (by first | exact Or.inl rfl | exact Or.inr rfl) (fe_bin od_mod (fe_callTy cd_int (by rfl) T.z_int rfl (fps_cons (fe_bin od_add (fe_bin od_mul (fe_name (pv 2)) fe_int) (fe_name (pv 4))) fps_nil)) fe_int))
    (fss_cons (fs_if (ft_cmp od_ge (fe_callB cd_abs (by rfl) T.z_abs rfl (fps_cons (fe_name (pv 3)) fps_nil)) (fe_bin od_pow fe_int fe_int)) (fss_cons (fs_set (i := 1) sc_law_deck.nd rfl (by first | exact Or.inl rfl | exact Or.inr rfl) (fe_bin od_add (fe_bin od_mul (fe_name (pv 1)) fe_int) (fe_callB cd_abs (by rfl) T.z_abs rfl (fps_cons (fe_name (pv 3)) fps_nil))))
    fss_nil) fss_nil)
    fss_nil))))
    (fss_cons (fs_ret (fe_lst (fcs_cons (FE.take (fe_name (pv 1))) (fcs_cons (FE.take (fe_name (pv 2))) (fcs_cons (FE.take fe_int) fcs_nil)))))
    fss_nil)))
theorem sc_law_draw : FnScope ["deck", "many", "digit", "mixed"] ["deck", "many"] (defScope s_law_draw) := ⟨rfl, rfl, rfl, by decide +kernel, rfl, by decide +kernel, by decide +kernel⟩
theorem G_law_draw (T : Txt K mg) : FnG P w K mg base 1 T.a_law_draw T.d_law_draw ["deck", "many"] (spF mg K 2 F_law_draw) := by
  refine fn_data T.F_law_draw sc_law_draw fun cdv A outer s H E hr hg => ?_
  exact (fss_cons (fs_if (ft_cmp od_gt (fe_ix (fe_name (pv 0)) fe_int) fe_int) (fss_cons (fs_set (i := 2) sc_law_draw.nd rfl (by first | exact Or.inl rfl | exact Or.inr rfl) (fe_bin od_mod (fe_callTy cd_int (by rfl) T.z_int rfl (fps_cons (fe_ix (fe_name (pv 0)) fe_int) fps_nil)) (fe_name (pv 1))))
    (fss_cons (fs_setIx (FE.take (fe_bin od_div (fe_ix (fe_name (pv 0)) fe_int) (fe_name (pv 1)))) (fe_name (pv 0)) (FE.take fe_int))
    (fss_cons (fs_ret (fe_name (pv 2)))
    fss_nil))) fss_nil)
    (fss_cons (fs_setIx (FE.take (fe_bin od_add (fe_ix (fe_name (pv 0)) fe_int) fe_int)) (fe_name (pv 0)) (FE.take fe_int))
    (fss_cons (fs_set (i := 3) sc_law_draw.nd rfl (by first | exact Or.inl rfl | exact Or.inr rfl) (fe_bin od_mod (fe_callTy cd_int (by rfl) T.z_int rfl (fps_cons (fe_bin od_add (fe_ix (fe_name (pv 0)) fe_int) (fe_bin od_mul fe_int (fe_ix (fe_name (pv 0)) fe_int))) fps_nil)) fe_int))
    (fss_cons (fs_set (i := 3) sc_law_draw.nd rfl (by first | exact Or.inl rfl | exact Or.inr rfl) (fe_bin od_mod (fe_callTy cd_int (by rfl) T.z_int rfl (fps_cons (fe_bin od_mul (fe_name (pv 3)) (fe_bin od_add (fe_bin od_mod (fe_name (pv 3)) fe_int) fe_int)) fps_nil)) fe_int))
    (fss_cons (fs_ret (fe_bin od_mod (fe_bin od_div (fe_bin od_mod (fe_callTy cd_int (by rfl) T.z_int rfl (fps_cons (fe_bin od_mul (fe_name (pv 3)) (fe_name (pv 3))) fps_nil)) fe_int) fe_int) (fe_name (pv 1))))
    fss_nil)))))
theorem sc_law_shape : FnScope ["deck", "rows"] ["deck"] (defScope s_law_shape) := ⟨rfl, rfl, rfl, by decide +kernel, rfl, by decide +kernel, by decide +kernel⟩
theorem G_law_shape (T : Txt K mg) : FnG P w K mg base 2 T.a_law_shape T.d_law_shape ["deck"] (spF mg K 1 F_law_shape) := by
  refine fn_data T.F_law_shape sc_law_shape fun cdv A outer s H E hr hg => ?_
  exact (fss_cons (fs_set (i := 1) sc_law_shape.nd rfl (by first | exact Or.inl rfl | exact Or.inr rfl) (fe_bin od_add fe_int (fe_call (G_law_draw (P := P) (w := w) (base := base) T) (hr.mono (by decide)) hg (by rfl) T.g_law_draw T.F_law_draw.kp T.b_law_draw (fas_ref (pv 0) (fas_dat (FE.take fe_int) fas_nil)))))
    (fss_cons (fs_ret (fe_tup (fcs_cons (FE.take (fe_name (pv 1))) (fcs_cons (FE.take (fe_bin od_add fe_int (fe_call (G_law_draw (P := P) (w := w) (base := base) T) (hr.mono (by decide)) hg (by rfl) T.g_law_draw T.F_law_draw.kp T.b_law_draw (fas_ref (pv 0) (fas_dat (FE.take (fe_bin od_sub fe_int (fe_name (pv 1)))) fas_nil))))) fcs_nil))))
    fss_nil))
theorem sc_law_mixed : FnScope ["deck", "items", "rest", "found", "turn"] ["deck", "items"] (defScope s_law_mixed) := ⟨rfl, rfl, rfl, by decide +kernel, rfl, by decide +kernel, by decide +kernel⟩
theorem G_law_mixed (T : Txt K mg) : FnG P w K mg base 2 T.a_law_mixed T.d_law_mixed ["deck", "items"] (spF mg K 2 F_law_mixed) := by
  refine fn_data T.F_law_mixed sc_law_mixed fun cdv A outer s H E hr hg => ?_
  exact (fss_cons (fs_par (i := 2) (j := 3) rfl sc_law_mixed.nd rfl rfl (by decide) rfl rfl (fps_cons (fe_callTy cd_list (by rfl) T.z_list rfl (fps_cons (fe_name (pv 1)) fps_nil)) (fps_cons (fe_lst fcs_nil) fps_nil)) rfl)
    (fss_cons (fs_for rfl (fi_range1 (by rfl) T.z_range (fps_cons (fe_callB cd_len (by rfl) T.z_len rfl (fps_cons (fe_name (pv 1)) fps_nil)) fps_nil)) (fg_name (i := 4) sc_law_mixed.nd rfl (by first | exact Or.inl rfl | exact Or.inr rfl)) (fss_cons (fs_expr (fe_append (pv 3) (FE.take (fe_popAt (pv 2) (FE.take (fe_call (G_law_draw (P := P) (w := w) (base := base) T) (hr.mono (by decide)) hg (by rfl) T.g_law_draw T.F_law_draw.kp T.b_law_draw (fas_ref (pv 0) (fas_dat (FE.take (fe_callB cd_len (by rfl) T.z_len rfl (fps_cons (fe_name (pv 2)) fps_nil))) fas_nil))))))))
    fss_nil))
    (fss_cons (fs_ret (fe_name (pv 3)))
    fss_nil)))
theorem sc_law_bars : FnScope ["deck", "rows", "columns", "spots", "row", "least", "many", "column"] ["deck", "rows", "columns"] (defScope s_law_bars) := ⟨rfl, rfl, rfl, by decide +kernel, rfl, by decide +kernel, by decide +kernel⟩
theorem G_law_bars (T : Txt K mg) : FnG P w K mg base 3 T.a_law_bars T.d_law_bars ["deck", "rows", "columns"] (spF mg K 3 F_law_bars) := by
  refine fn_data T.F_law_bars sc_law_bars fun cdv A outer s H E hr hg => ?_
  exact (fss_cons (fs_set (i := 3) sc_law_bars.nd rfl (by first | exact Or.inl rfl | exact Or.inr rfl) (fe_lst fcs_nil))
    (fss_cons (fs_for rfl (fi_range1 (by rfl) T.z_range (fps_cons (fe_name (pv 1)) fps_nil)) (fg_name (i := 4) sc_law_bars.nd rfl (by first | exact Or.inl rfl | exact Or.inr rfl)) (fss_cons (fs_expr (fe_extend (pv 3) (fe_comp (own := [("column", 7)]) rfl sc_law_bars.nd (fi_range1 (by rfl) T.z_range (fps_cons (fe_name (pv 2)) fps_nil)) (blkOk_by (by kernel_rfl)) (fun _ _ _ _ _ => (fg_name (i := 7) sc_law_bars.nd rfl (by first | exact Or.inl rfl | exact Or.inr rfl))) (fun _ _ _ _ _ => fts_nil) (fun _ _ _ _ _ => (FE.take (fe_tup (fcs_cons (FE.take (fe_name (pv 4))) (fcs_cons (FE.take (fe_name (pv 7))) fcs_nil))))))))
    fss_nil))
    (fss_cons (fs_set (i := 5) sc_law_bars.nd rfl (by first | exact Or.inl rfl | exact Or.inr rfl) (fe_callB (cd_max2 rfl) (by rfl) T.z_max rfl (fps_cons fe_int (fps_cons (fe_bin od_sub (fe_callB cd_len (by rfl) T.z_len rfl (fps_cons (fe_name (pv 3)) fps_nil)) fe_int) fps_nil))))
    (fss_cons (fs_set (i := 6) sc_law_bars.nd rfl (by first | exact Or.inl rfl | exact Or.inr rfl) (fe_callB (cd_min2 rfl) (by rfl) T.z_min rfl (fps_cons (fe_bin od_sub (fe_callB cd_len (by rfl) T.z_len rfl (fps_cons (fe_name (pv 3)) fps_nil)) fe_int) (fps_cons (fe_bin od_add (fe_name (pv 5)) (fe_call (G_law_draw (P := P) (w := w) (base := base) T) (hr.mono (by decide)) hg (by rfl) T.g_law_draw T.F_law_draw.kp T.b_law_draw (fas_ref (pv 0) (fas_dat (FE.take fe_int) fas_nil)))) fps_nil))))
    (fss_cons (fs_ret (fe_callTy cd_tuple (by rfl) T.z_tuple rfl (fps_cons (fe_slice (fe_call (G_law_mixed (P := P) (w := w) (base := base) T) (hr.mono (by decide)) hg (by rfl) T.g_law_mixed T.F_law_mixed.kp T.b_law_mixed (fas_ref (pv 0) (fas_dat (FE.take (fe_name (pv 3))) fas_nil))) fo_none (fo_some (fe_name (pv 6)))) fps_nil)))
    fss_nil)))))
theorem sc_law_left : FnScope ["rows", "columns", "bars", "found", "row", "column"] ["rows", "columns", "bars"] (defScope s_law_left) := ⟨rfl, rfl, rfl, by decide +kernel, rfl, by decide +kernel, by decide +kernel⟩
theorem G_law_left (T : Txt K mg) : FnG P w K mg base 1 T.a_law_left T.d_law_left ["rows", "columns", "bars"] (spF mg K 3 F_law_left) := by
  refine fn_data T.F_law_left sc_law_left fun cdv A outer s H E hr hg => ?_
  exact (fss_cons (fs_set (i := 3) sc_law_left.nd rfl (by first | exact Or.inl rfl | exact Or.inr rfl) (fe_lst fcs_nil))
    (fss_cons (fs_for rfl (fi_range1 (by rfl) T.z_range (fps_cons (fe_name (pv 0)) fps_nil)) (fg_name (i := 4) sc_law_left.nd rfl (by first | exact Or.inl rfl | exact Or.inr rfl)) (fss_cons (fs_expr (fe_extend (pv 3) (fe_comp (own := [("column", 5)]) rfl sc_law_left.nd (fi_range1 (by rfl) T.z_range (fps_cons (fe_name (pv 1)) fps_nil)) (blkOk_by (by kernel_rfl)) (fun _ _ _ _ _ => (fg_name (i := 5) sc_law_left.nd rfl (by first | exact Or.inl rfl | exact Or.inr rfl))) (fun _ _ _ _ _ => (fts_one (ft_cmp (od_notIn (hu65 hr)) (fe_tup (fcs_cons (FE.take (fe_name (pv 4))) (fcs_cons (FE.take (fe_name (pv 5))) fcs_nil))) (fe_name (pv 2))))) (fun _ _ _ _ _ => (FE.take (fe_tup (fcs_cons (FE.take (fe_name (pv 4))) (fcs_cons (FE.take (fe_name (pv 5))) fcs_nil))))))))
    fss_nil))
    (fss_cons (fs_ret (fe_callTy cd_tuple (by rfl) T.z_tuple rfl (fps_cons (fe_name (pv 3)) fps_nil)))
    fss_nil)))
theorem sc_is_integer : FnScope ["value", "low", "high"] ["value", "low", "high"] (defScope s_is_integer) := ⟨rfl, rfl, rfl, by decide +kernel, rfl, by decide +kernel, by decide +kernel⟩
theorem G_is_integer (T : Txt K mg) : FnG P w K mg base 1 T.a_is_integer T.d_is_integer ["value", "low", "high"] (spF mg K 3 F_is_integer) := by
  refine fn_data T.F_is_integer sc_is_integer fun cdv A outer s H E hr hg => ?_
  exact (fss_cons (fs_ret (fe_and (fe_isa isa_int (by rfl) T.z_isinstance (by rfl) T.z_int rfl (fe_name (pv 0))) (fe_and (fe_not (fe_isa isa_bool (by rfl) T.z_isinstance (by rfl) T.z_bool rfl (fe_name (pv 0)))) (fe_one (fe_chain op_le op_le (fun a b c => pe_chain op_le op_le a b c) (fe_name (pv 1)) (fe_name (pv 0)) (fe_name (pv 2)))))))
    fss_nil)
theorem sc_is_cell : FnScope ["rows", "columns", "value"] ["rows", "columns", "value"] (defScope s_is_cell) := ⟨rfl, rfl, rfl, by decide +kernel, rfl, by decide +kernel, by decide +kernel⟩
theorem G_is_cell (T : Txt K mg) : FnG P w K mg base 2 T.a_is_cell T.d_is_cell ["rows", "columns", "value"] (spF mg K 3 F_is_cell) := by
  refine fn_data T.F_is_cell sc_is_cell fun cdv A outer s H E hr hg => ?_
  exact (fss_cons (fs_if (FW.pt (fw_or (ft_not (ft_val (fe_isa isa_tuple (by rfl) T.z_isinstance (by rfl) T.z_tuple rfl (fe_name (pv 2))))) (fw_or1 (ft_cmp (od_ne (hu65 hr)) (fe_callB cd_len (by rfl) T.z_len rfl (fps_cons (fe_name (pv 2)) fps_nil)) fe_int)))) (fss_cons (fs_ret fe_bl)
    fss_nil) fss_nil)
    (fss_cons (fs_ret (fe_and (fe_call (G_is_integer (P := P) (w := w) (base := base) T) (hr.mono (by decide)) hg (by rfl) T.g_is_integer T.F_is_integer.kp T.b_is_integer (fas_dat (FE.take (fe_ix (fe_name (pv 2)) fe_int)) (fas_dat (FE.take fe_int) (fas_dat (FE.take (fe_bin od_sub (fe_name (pv 0)) fe_int)) fas_nil)))) (fe_one (fe_call (G_is_integer (P := P) (w := w) (base := base) T) (hr.mono (by decide)) hg (by rfl) T.g_is_integer T.F_is_integer.kp T.b_is_integer (fas_dat (FE.take (fe_ix (fe_name (pv 2)) fe_int)) (fas_dat (FE.take fe_int) (fas_dat (FE.take (fe_bin od_sub (fe_name (pv 1)) fe_int)) fas_nil)))))))
    fss_nil))
theorem sc_cells : FnScope ["rows", "columns", "value", "left", "one", "row", "column"] ["rows", "columns", "value"] (defScope s_cells) := ⟨rfl, rfl, rfl, by decide +kernel, rfl, by decide +kernel, by decide +kernel⟩
theorem G_cells (T : Txt K mg) : FnG P w K mg base 3 T.a_cells T.d_cells ["rows", "columns", "value"] (spF mg K 3 F_cells) := by
  refine fn_data T.F_cells sc_cells fun cdv A outer s H E hr hg => ?_
  exact (fss_cons (fs_if (FW.pt (fw_or (ft_not (ft_val (fe_isa isa_tuple (by rfl) T.z_isinstance (by rfl) T.z_tuple rfl (fe_name (pv 2))))) (fw_or1 (ft_not (ft_val (fe_callB (cd_all rfl) (by rfl) T.z_all rfl (fps_cons (fe_comp (own := [("one", 4)]) rfl sc_cells.nd (fi_seq (fe_name (pv 2))) (blkOk_by (by kernel_rfl)) (fun _ _ _ _ _ => (fg_name (i := 4) sc_cells.nd rfl (by first | exact Or.inl rfl | exact Or.inr rfl))) (fun _ _ _ _ _ => fts_nil) (fun _ _ _ _ _ => (FE.take (fe_call (G_is_cell (P := P) (w := w) (base := base) T) (hr.mono (by decide)) hg (by rfl) T.g_is_cell T.F_is_cell.kp T.b_is_cell (fas_dat (FE.take (fe_name (pv 0))) (fas_dat (FE.take (fe_name (pv 1))) (fas_dat (FE.take (fe_name (pv 4))) fas_nil))))))) fps_nil))))))) (fss_cons (fs_raise0 rfl T.E_BadBars T.q_BadBars (by rfl))
    fss_nil) fss_nil)
    (fss_cons (fs_frz 3 (fs_setLc2 (i := 3) (hc := rfl) (hN := sc_cells.nd) (hi' := rfl) (hy := rfl) (hsw := sw_true rfl rfl rfl rfl) (own := [("row", 5), ("column", 6)]) (vs1 := [6]) (fi_range1 (by rfl) T.z_range (fps_cons (fe_name (pv 0)) fps_nil)) (blkOk_by (by kernel_rfl)) (fun _ _ _ _ _ => (fg_name (i := 5) sc_cells.nd rfl (by first | exact Or.inl rfl | exact Or.inr rfl))) (fun _ _ _ _ _ => fts_nil) (fun _ _ _ _ _ => (fi0_range1 (by rfl) T.z_range (fps_cons (fe_name (pv 1)) fps_nil))) (fun _ _ _ _ _ => (fg_name (i := 6) sc_cells.nd rfl (by first | exact Or.inl rfl | exact Or.inr rfl))) (fun _ _ _ _ _ => (fts_one (ft_cmp (od_notIn (hu65 hr)) (fe_tup (fcs_cons (FE.take (fe_name (pv 5))) (fcs_cons (FE.take (fe_name (pv 6))) fcs_nil))) (fe_name (pv 2))))) (fun _ _ _ _ _ => (FE.take (fe_tup (fcs_cons (FE.take (fe_name (pv 5))) (fcs_cons (FE.take (fe_name (pv 6))) fcs_nil)))))))
    (fss_cons (fs_if (FW.pt (fw_or (ft_cmp od_lt (fe_bin od_sub (fe_bin od_mul (fe_name (pv 0)) (fe_name (pv 1))) (fe_callB cd_len (by rfl) T.z_len rfl (fps_cons (fe_name (pv 3)) fps_nil))) (fe_callB cd_len (by rfl) T.z_len rfl (fps_cons (fe_name (pv 2)) fps_nil))) (fw_or1 (ft_not (ft_chain (fun a b c => pt_chain op_le op_le a b c) fe_int (fe_callB cd_len (by rfl) T.z_len rfl (fps_cons (fe_name (pv 3)) fps_nil)) (fe_gint (by rfl) T.c_MAX_KINDS.choose_spec)))))) (fss_cons (fs_raise0 rfl T.E_BadBars T.q_BadBars (by rfl))
    fss_nil) fss_nil)
    (fss_cons (fs_ret (fe_callTy cd_tuple (by rfl) T.z_tuple rfl (fps_cons (fe_name (pv 3)) fps_nil)))
    fss_nil))))
theorem sc_table_scale : FnScope ["rows", "columns", "value", "kinds", "found", "row", "cell", "column"] ["rows", "columns", "value"] (defScope s_table_scale) := ⟨rfl, rfl, rfl, by decide +kernel, rfl, by decide +kernel, by decide +kernel⟩
theorem G_table_scale (T : Txt K mg) : FnG P w K mg base 4 T.a_table_scale T.d_table_scale ["rows", "columns", "value"] (spF mg K 3 F_table_scale) := by
  refine fn_data T.F_table_scale sc_table_scale fun cdv A outer s H E hr hg => ?_
  exact (fss_cons (fs_frz 3 (fs_set (i := 3) sc_table_scale.nd rfl (by first | exact Or.inl rfl | exact Or.inr rfl) (fe_call (G_cells (P := P) (w := w) (base := base) T) (hr.mono (by decide)) hg (by rfl) T.g_cells T.F_cells.kp T.b_cells (fas_dat (FE.take (fe_name (pv 0))) (fas_dat (FE.take (fe_name (pv 1))) (fas_dat (FE.take (fe_name (pv 2))) fas_nil))))))
    (fss_cons (fs_frz 4 (fs_setLc (i := 4) (hc := rfl) (hN := sc_table_scale.nd) (hi' := rfl) (hy := rfl) (hsw := sw_true rfl rfl rfl rfl) (own := [("row", 5)]) (fi_range1 (by rfl) T.z_range (fps_cons (fe_name (pv 0)) fps_nil)) (blkOk_by (by kernel_rfl)) (fun _ _ _ _ _ => (fg_name (i := 5) sc_table_scale.nd rfl (by first | exact Or.inl rfl | exact Or.inr rfl))) (fun _ _ _ _ _ => fts_nil) (fun _ _ _ _ _ => (FE.take (fe_callTy cd_tuple (by rfl) T.z_tuple rfl (fps_cons (fe_comp (own := [("cell", 6)]) rfl sc_table_scale.nd (fi_seq (fe_name (pv 3))) (blkOk_by (by kernel_rfl)) (fun _ _ _ _ _ => (fg_name (i := 6) sc_table_scale.nd rfl (by first | exact Or.inl rfl | exact Or.inr rfl))) (fun _ _ _ _ _ => fts_nil) (fun _ _ _ _ _ => (FE.take (fe_callTy cd_int (by rfl) T.z_int rfl (fps_cons (fe_cmp (od_eq (hu65 hr)) (fe_ix (fe_name (pv 6)) fe_int) (fe_name (pv 5))) fps_nil))))) fps_nil))))))
    (fss_cons (fs_ret (fe_callTy cd_tuple (by rfl) T.z_tuple rfl (fps_cons (fe_bin od_add (fe_name (pv 4)) (fe_comp (own := [("column", 7)]) rfl sc_table_scale.nd (fi_range1 (by rfl) T.z_range (fps_cons (fe_name (pv 1)) fps_nil)) (blkOk_by (by kernel_rfl)) (fun _ _ _ _ _ => (fg_name (i := 7) sc_table_scale.nd rfl (by first | exact Or.inl rfl | exact Or.inr rfl))) (fun _ _ _ _ _ => fts_nil) (fun _ _ _ _ _ => (FE.take (fe_callTy cd_tuple (by rfl) T.z_tuple rfl (fps_cons (fe_comp (own := [("cell", 6)]) rfl sc_table_scale.nd (fi_seq (fe_name (pv 3))) (blkOk_by (by kernel_rfl)) (fun _ _ _ _ _ => (fg_name (i := 6) sc_table_scale.nd rfl (by first | exact Or.inl rfl | exact Or.inr rfl))) (fun _ _ _ _ _ => fts_nil) (fun _ _ _ _ _ => (FE.take (fe_callTy cd_int (by rfl) T.z_int rfl (fps_cons (fe_cmp (od_eq (hu65 hr)) (fe_ix (fe_name (pv 6)) fe_int) (fe_name (pv 7))) fps_nil))))) fps_nil)))))) fps_nil)))
    fss_nil)))
theorem sc_heap_of : FnScope ["kinds", "some", "cell"] ["kinds", "some"] (defScope s_heap_of) := ⟨rfl, rfl, rfl, by decide +kernel, rfl, by decide +kernel, by decide +kernel⟩
theorem G_heap_of (T : Txt K mg) : FnG P w K mg base 1 T.a_heap_of T.d_heap_of ["kinds", "some"] (spF mg K 2 F_heap_of) := by
  refine fn_data T.F_heap_of sc_heap_of fun cdv A outer s H E hr hg => ?_
  exact (fss_cons (fs_ret (fe_callTy cd_tuple (by rfl) T.z_tuple rfl (fps_cons (fe_comp (own := [("cell", 2)]) rfl sc_heap_of.nd (fi_seq (fe_name (pv 0))) (blkOk_by (by kernel_rfl)) (fun _ _ _ _ _ => (fg_name (i := 2) sc_heap_of.nd rfl (by first | exact Or.inl rfl | exact Or.inr rfl))) (fun _ _ _ _ _ => fts_nil) (fun _ _ _ _ _ => (FE.take (fe_callTy cd_int (by rfl) T.z_int rfl (fps_cons (fe_cmp (od_in (hu65 hr)) (fe_name (pv 2)) (fe_name (pv 1))) fps_nil))))) fps_nil)))
    fss_nil)
theorem sc_table_book : FnScope ["rows", "columns", "value", "kinds", "found", "i", "k", "j", "l", "take", "put", "cell"] ["rows", "columns", "value"] (defScope s_table_book) := ⟨rfl, rfl, rfl, by decide +kernel, rfl, by decide +kernel, by decide +kernel⟩
theorem G_table_book (T : Txt K mg) : FnG P w K mg base 4 T.a_table_book T.d_table_book ["rows", "columns", "value"] (spF mg K 3 F_table_book) := by
  refine fn_data T.F_table_book sc_table_book fun cdv A outer s H E hr hg => ?_
  exact (fss_cons (fs_frz 3 (fs_set (i := 3) sc_table_book.nd rfl (by first | exact Or.inl rfl | exact Or.inr rfl) (fe_call (G_cells (P := P) (w := w) (base := base) T) (hr.mono (by decide)) hg (by rfl) T.g_cells T.F_cells.kp T.b_cells (fas_dat (FE.take (fe_name (pv 0))) (fas_dat (FE.take (fe_name (pv 1))) (fas_dat (FE.take (fe_name (pv 2))) fas_nil))))))
    (fss_cons (fs_set (i := 4) sc_table_book.nd rfl (by first | exact Or.inl rfl | exact Or.inr rfl) (fe_lst fcs_nil))
    (fss_cons (fs_for rfl (fi_range1 (by rfl) T.z_range (fps_cons (fe_name (pv 0)) fps_nil)) (fg_name (i := 5) sc_table_book.nd rfl (by first | exact Or.inl rfl | exact Or.inr rfl)) (fss_cons (fs_for rfl (fi_range2 (by rfl) T.z_range (fps_cons (fe_bin od_add (fe_name (pv 5)) fe_int) (fps_cons (fe_name (pv 0)) fps_nil))) (fg_name (i := 6) sc_table_book.nd rfl (by first | exact Or.inl rfl | exact Or.inr rfl)) (fss_cons (fs_for rfl (fi_range1 (by rfl) T.z_range (fps_cons (fe_name (pv 1)) fps_nil)) (fg_name (i := 7) sc_table_book.nd rfl (by first | exact Or.inl rfl | exact Or.inr rfl)) (fss_cons (fs_for rfl (fi_range2 (by rfl) T.z_range (fps_cons (fe_bin od_add (fe_name (pv 7)) fe_int) (fps_cons (fe_name (pv 1)) fps_nil))) (fg_name (i := 8) sc_table_book.nd rfl (by first | exact Or.inl rfl | exact Or.inr rfl)) (fss_cons (fs_frz 10 (fs_frz 9 (fs_par (i := 9) (j := 10) rfl sc_table_book.nd rfl rfl (by decide) rfl rfl (fps_cons (fe_lst (fcs_cons (FE.take (fe_tup (fcs_cons (FE.take (fe_name (pv 5))) (fcs_cons (FE.take (fe_name (pv 7))) fcs_nil)))) (fcs_cons (FE.take (fe_tup (fcs_cons (FE.take (fe_name (pv 6))) (fcs_cons (FE.take (fe_name (pv 8))) fcs_nil)))) fcs_nil))) (fps_cons (fe_lst (fcs_cons (FE.take (fe_tup (fcs_cons (FE.take (fe_name (pv 5))) (fcs_cons (FE.take (fe_name (pv 8))) fcs_nil)))) (fcs_cons (FE.take (fe_tup (fcs_cons (FE.take (fe_name (pv 6))) (fcs_cons (FE.take (fe_name (pv 7))) fcs_nil)))) fcs_nil))) fps_nil)) rfl)))
    (fss_cons (fs_if (ft_val (fe_callB (cd_all rfl) (by rfl) T.z_all rfl (fps_cons (fe_comp (own := [("cell", 11)]) rfl sc_table_book.nd (fi_seq (fe_bin od_add (fe_name (pv 9)) (fe_name (pv 10)))) (blkOk_by (by kernel_rfl)) (fun _ _ _ _ _ => (fg_name (i := 11) sc_table_book.nd rfl (by first | exact Or.inl rfl | exact Or.inr rfl))) (fun _ _ _ _ _ => fts_nil) (fun _ _ _ _ _ => (FE.take (fe_cmp (od_in (hu65 hr)) (fe_name (pv 11)) (fe_name (pv 3)))))) fps_nil))) (fss_cons (fs_expr (fe_append (pv 4) (FE.take (fe_tup (fcs_cons (FE.take (fe_call (G_heap_of (P := P) (w := w) (base := base) T) (hr.mono (by decide)) hg (by rfl) T.g_heap_of T.F_heap_of.kp T.b_heap_of (fas_dat (FE.take (fe_name (pv 3))) (fas_dat (FE.take (fe_name (pv 9))) fas_nil)))) (fcs_cons (FE.take (fe_call (G_heap_of (P := P) (w := w) (base := base) T) (hr.mono (by decide)) hg (by rfl) T.g_heap_of T.F_heap_of.kp T.b_heap_of (fas_dat (FE.take (fe_name (pv 3))) (fas_dat (FE.take (fe_name (pv 10))) fas_nil)))) fcs_nil))))))
    fss_nil) fss_nil)
    fss_nil)))
    fss_nil))
    fss_nil))
    fss_nil))
    (fss_cons (fs_ret (fe_callTy cd_tuple (by rfl) T.z_tuple rfl (fps_cons (fe_name (pv 4)) fps_nil)))
    fss_nil))))
theorem sc_law_cells_told : FnScope ["way", "rows", "columns", "value", "found"] ["way", "rows", "columns", "value"] (defScope s_law_cells_told) := ⟨rfl, rfl, rfl, by decide +kernel, rfl, by decide +kernel, by decide +kernel⟩
theorem G_law_cells_told (T : Txt K mg) : FnG P w K mg base 5 T.a_law_cells_told T.d_law_cells_told ["way", "rows", "columns", "value"] (spF mg K 4 F_law_cells_told) := by
  refine fn_data T.F_law_cells_told sc_law_cells_told fun cdv A outer s H E hr hg => ?_
  exact (fss_cons (fs_set (i := 4) sc_law_cells_told.nd rfl (by first | exact Or.inl rfl | exact Or.inr rfl) fe_non)
    (fss_cons (fs_try rfl rfl (fun _ _ => (fss_cons (fs_if (ft_cmp (od_eq (hu65 hr)) (fe_name (pv 0)) fe_int) (fss_cons (fs_frz 4 (fs_set (i := 4) sc_law_cells_told.nd rfl (by first | exact Or.inl rfl | exact Or.inr rfl) (fe_call (G_cells (P := P) (w := w) (base := base) T) (hr.mono (by decide)) hg (by rfl) T.g_cells T.F_cells.kp T.b_cells (fas_dat (FE.take (fe_name (pv 1))) (fas_dat (FE.take (fe_name (pv 2))) (fas_dat (FE.take (fe_name (pv 3))) fas_nil))))))
    fss_nil) (fss_cons (fs_if (ft_cmp (od_eq (hu65 hr)) (fe_name (pv 0)) fe_int) (fss_cons (fs_frz 4 (fs_set (i := 4) sc_law_cells_told.nd rfl (by first | exact Or.inl rfl | exact Or.inr rfl) (fe_call (G_table_scale (P := P) (w := w) (base := base) T) (hr.mono (by decide)) hg (by rfl) T.g_table_scale T.F_table_scale.kp T.b_table_scale (fas_dat (FE.take (fe_name (pv 1))) (fas_dat (FE.take (fe_name (pv 2))) (fas_dat (FE.take (fe_name (pv 3))) fas_nil))))))
    fss_nil) (fss_cons (fs_frz 4 (fs_set (i := 4) sc_law_cells_told.nd rfl (by first | exact Or.inl rfl | exact Or.inr rfl) (fe_call (G_table_book (P := P) (w := w) (base := base) T) (hr.mono (by decide)) hg (by rfl) T.g_table_book T.F_table_book.kp T.b_table_book (fas_dat (FE.take (fe_name (pv 1))) (fas_dat (FE.take (fe_name (pv 2))) (fas_dat (FE.take (fe_name (pv 3))) fas_nil))))))
    fss_nil))
    fss_nil))
    fss_nil)) (.cons ⟨by rfl, by decide, .inl T.E_BadBars.gC⟩ (all_c (at_mg T.E_BadBars.gC (ExF.exm (c := "BadBars") T.E_BadBars T.s_BadBars_BadBars)) all_n) all_n (fsu_plain fun _ _ => (fss_cons (fs_set (i := 4) sc_law_cells_told.nd rfl (by first | exact Or.inl rfl | exact Or.inr rfl) fe_str)
    fss_nil)) .nil))
    (fss_cons (fs_ret (fe_name (pv 4)))
    fss_nil)))
theorem sc_law_pick : FnScope ["deck", "items"] ["deck", "items"] (defScope s_law_pick) := ⟨rfl, rfl, rfl, by decide +kernel, rfl, by decide +kernel, by decide +kernel⟩
theorem G_law_pick (T : Txt K mg) : FnG P w K mg base 2 T.a_law_pick T.d_law_pick ["deck", "items"] (spF mg K 2 F_law_pick) := by
  refine fn_data T.F_law_pick sc_law_pick fun cdv A outer s H E hr hg => ?_
  exact (fss_cons (fs_ret (fe_ix (fe_name (pv 1)) (fe_call (G_law_draw (P := P) (w := w) (base := base) T) (hr.mono (by decide)) hg (by rfl) T.g_law_draw T.F_law_draw.kp T.b_law_draw (fas_ref (pv 0) (fas_dat (FE.take (fe_callB cd_len (by rfl) T.z_len rfl (fps_cons (fe_name (pv 1)) fps_nil))) fas_nil)))))
    fss_nil)
theorem sc_law_bad_bars : FnScope ["deck", "rows", "columns", "bars", "way", "spots", "at", "odd", "more", "cell"] ["deck", "rows", "columns", "bars"] (defScope s_law_bad_bars) := ⟨rfl, rfl, rfl, by decide +kernel, rfl, by decide +kernel, by decide +kernel⟩
theorem G_law_bad_bars (T : Txt K mg) : FnG P w K mg base 3 T.a_law_bad_bars T.d_law_bad_bars ["deck", "rows", "columns", "bars"] (spF mg K 4 F_law_bad_bars) := by
  refine fn_data T.F_law_bad_bars sc_law_bad_bars fun cdv A outer s H E hr hg => ?_
  exact (fss_cons (fs_frz 5 (fs_frz 4 (fs_par (i := 4) (j := 5) rfl sc_law_bad_bars.nd rfl rfl (by decide) rfl rfl (fps_cons (fe_call (G_law_draw (P := P) (w := w) (base := base) T) (hr.mono (by decide)) hg (by rfl) T.g_law_draw T.F_law_draw.kp T.b_law_draw (fas_ref (pv 0) (fas_dat (FE.take fe_int) fas_nil))) (fps_cons (fe_call (G_law_left (P := P) (w := w) (base := base) T) (hr.mono (by decide)) hg (by rfl) T.g_law_left T.F_law_left.kp T.b_law_left (fas_dat (FE.take (fe_name (pv 1))) (fas_dat (FE.take (fe_name (pv 2))) (fas_dat (FE.take (fe_tup fcs_nil)) fas_nil)))) fps_nil)) rfl)))
    (fss_cons (fs_frz 6 (fs_set (i := 6) sc_law_bad_bars.nd rfl (by first | exact Or.inl rfl | exact Or.inr rfl) (fe_call (G_law_draw (P := P) (w := w) (base := base) T) (hr.mono (by decide)) hg (by rfl) T.g_law_draw T.F_law_draw.kp T.b_law_draw (fas_ref (pv 0) (fas_dat (FE.take (fe_bin od_add (fe_callB cd_len (by rfl) T.z_len rfl (fps_cons (fe_name (pv 3)) fps_nil)) fe_int)) fas_nil)))))
    (fss_cons (fs_frz 7 (fs_set (i := 7) sc_law_bad_bars.nd rfl (by first | exact Or.inl rfl | exact Or.inr rfl) (fe_lst (fcs_cons (FE.take (fe_tup (fcs_cons (FE.take (fe_name (pv 1))) (fcs_cons (FE.take fe_int) fcs_nil)))) (fcs_cons (FE.take (fe_tup (fcs_cons (FE.take fe_int) (fcs_cons (FE.take (fe_name (pv 2))) fcs_nil)))) (fcs_cons (FE.take (fe_tup (fcs_cons (FE.take (fe_neg fe_int)) (fcs_cons (FE.take fe_int) fcs_nil)))) (fcs_cons (FE.take (fe_tup (fcs_cons (FE.take fe_int) (fcs_cons (FE.take (fe_neg fe_int)) fcs_nil)))) (fcs_cons (FE.take (fe_tup (fcs_cons (FE.take fe_int) fcs_nil))) (fcs_cons (FE.take (fe_tup (fcs_cons (FE.take fe_int) (fcs_cons (FE.take fe_int) (fcs_cons (FE.take fe_int) fcs_nil))))) (fcs_cons (FE.take (fe_lst (fcs_cons (FE.take fe_int) (fcs_cons (FE.take fe_int) fcs_nil)))) (fcs_cons (FE.take fe_str) (fcs_cons (FE.take fe_non) (fcs_cons (FE.take fe_int) (fcs_cons (FE.take (fe_tup (fcs_cons (FE.take fe_bl) (fcs_cons (FE.take fe_int) fcs_nil)))) (fcs_cons (FE.take (fe_tup (fcs_cons (FE.take fe_int) (fcs_cons (FE.take fe_bl) fcs_nil)))) fcs_nil)))))))))))))))
    (fss_cons (fs_frz 8 (fs_set (i := 8) sc_law_bad_bars.nd rfl (by first | exact Or.inl rfl | exact Or.inr rfl) (fe_lst (fcs_cons (FE.take (fe_tup (fcs_cons (FE.take fe_str) (fcs_cons (FE.take fe_int) fcs_nil)))) (fcs_cons (FE.take (fe_tup (fcs_cons (FE.take fe_int) (fcs_cons (FE.take (fe_lst fcs_nil)) fcs_nil)))) (fcs_cons (FE.take (fe_tup (fcs_cons (FE.take fe_dict0) (fcs_cons (FE.take fe_int) fcs_nil)))) (fcs_cons (FE.take (fe_tup (fcs_cons (FE.take fe_non) (fcs_cons (FE.take fe_int) fcs_nil)))) (fcs_cons (FE.take (fe_tup (fcs_cons (FE.take (fe_tup (fcs_cons (FE.take fe_int) fcs_nil))) (fcs_cons (FE.take fe_int) fcs_nil)))) (fcs_cons (FE.take (fe_tup (fcs_cons (FE.take fe_int) (fcs_cons (FE.take fe_int) (fcs_cons (FE.take fe_int) fcs_nil))))) fcs_nil)))))))))
    (fss_cons (fs_if (ft_cmp od_lt (fe_name (pv 4)) fe_int) (fss_cons (fs_ret (fe_dat (fe_bin od_add (fe_bin od_add (fe_slice (fe_name (pv 3)) fo_none (fo_some (fe_name (pv 6)))) (fe_tup (fcs_cons (FE.take (fe_call (G_law_pick (P := P) (w := w) (base := base) T) (hr.mono (by decide)) hg (by rfl) T.g_law_pick T.F_law_pick.kp T.b_law_pick (fas_ref (pv 0) (fas_dat (FE.take (fe_bin od_add (fe_name (pv 7)) (fe_name (pv 8)))) fas_nil)))) fcs_nil))) (fe_slice (fe_name (pv 3)) (fo_some (fe_name (pv 6))) fo_none))))
    fss_nil) fss_nil)
    (fss_cons (fs_if (ft_cmp (od_eq (hu65 hr)) (fe_name (pv 4)) fe_int) (fss_cons (fs_ret (fe_dat (fe_callTy cd_list (by rfl) T.z_list rfl (fps_cons (fe_name (pv 3)) fps_nil))))
    fss_nil) fss_nil)
    (fss_cons (fs_if (ft_cmp (od_eq (hu65 hr)) (fe_name (pv 4)) fe_int) (fss_cons (fs_ret (fe_dat (fe_call (G_law_pick (P := P) (w := w) (base := base) T) (hr.mono (by decide)) hg (by rfl) T.g_law_pick T.F_law_pick.kp T.b_law_pick (fas_ref (pv 0) (fas_dat (FE.take (fe_lst (fcs_cons (FE.take fe_non) (fcs_cons (FE.take fe_str) (fcs_cons (FE.take fe_dict0) (fcs_cons (FE.take fe_int) (fcs_cons (FE.take fe_bl) (fcs_cons (FE.take (fe_bin od_add (fe_name (pv 3)) (fe_tup (fcs_cons (FE.take (fe_tup fcs_nil)) fcs_nil)))) (fcs_cons (FE.take (fe_callTy (cd_dictP rfl (hu65 hr)) (by rfl) T.z_dict rfl (fps_cons (fe_comp (own := [("cell", 9)]) rfl sc_law_bad_bars.nd (fi_seq (fe_name (pv 3))) (blkOk_by (by kernel_rfl)) (fun _ _ _ _ _ => (fg_name (i := 9) sc_law_bad_bars.nd rfl (by first | exact Or.inl rfl | exact Or.inr rfl))) (fun _ _ _ _ _ => fts_nil) (fun _ _ _ _ _ => (FE.take (fe_tup (fcs_cons (FE.take (fe_name (pv 9))) (fcs_cons (FE.take fe_int) fcs_nil)))))) fps_nil))) fcs_nil))))))))) fas_nil)))))
    fss_nil) fss_nil)
    (fss_cons (fs_if (ft_cmp (od_eq (hu65 hr)) (fe_name (pv 4)) fe_int) (fss_cons (fs_ret (fe_dat (fe_callTy cd_tuple (by rfl) T.z_tuple rfl (fps_cons (fe_call (G_law_mixed (P := P) (w := w) (base := base) T) (hr.mono (by decide)) hg (by rfl) T.g_law_mixed T.F_law_mixed.kp T.b_law_mixed (fas_ref (pv 0) (fas_dat (FE.take (fe_callTy cd_list (by rfl) T.z_list rfl (fps_cons (fe_name (pv 5)) fps_nil))) fas_nil))) fps_nil))))
    fss_nil) fss_nil)
    (fss_cons (fs_if (FW.pt (fw_and (ft_cmp (od_eq (hu65 hr)) (fe_name (pv 4)) fe_int) (fw_and1 (ft_cmp od_gt (fe_callB cd_len (by rfl) T.z_len rfl (fps_cons (fe_name (pv 5)) fps_nil)) fe_int)))) (fss_cons (fs_ret (fe_dat (fe_slice (fe_name (pv 3)) fo_none (fo_some (fe_call (G_law_draw (P := P) (w := w) (base := base) T) (hr.mono (by decide)) hg (by rfl) T.g_law_draw T.F_law_draw.kp T.b_law_draw (fas_ref (pv 0) (fas_dat (FE.take (fe_bin od_sub (fe_callB cd_len (by rfl) T.z_len rfl (fps_cons (fe_name (pv 5)) fps_nil)) fe_int)) fas_nil)))))))
    fss_nil) fss_nil)
    (fss_cons (fs_frz 9 (fs_set (i := 9) sc_law_bad_bars.nd rfl (by first | exact Or.inl rfl | exact Or.inr rfl) (fe_call (G_law_pick (P := P) (w := w) (base := base) T) (hr.mono (by decide)) hg (by rfl) T.g_law_pick T.F_law_pick.kp T.b_law_pick (fas_ref (pv 0) (fas_dat (FE.take (fe_name (pv 5))) fas_nil)))))
    (fss_cons (fs_ret (fe_dat (fe_callTy cd_tuple (by rfl) T.z_tuple rfl (fps_cons (fe_call (G_law_mixed (P := P) (w := w) (base := base) T) (hr.mono (by decide)) hg (by rfl) T.g_law_mixed T.F_law_mixed.kp T.b_law_mixed (fas_ref (pv 0) (fas_dat (FE.take (fe_bin od_add (fe_callTy cd_list (by rfl) T.z_list rfl (fps_cons (fe_name (pv 3)) fps_nil)) (fe_lst (fcs_cons (FE.take (fe_name (pv 9))) (fcs_cons (FE.take (fe_name (pv 9))) fcs_nil))))) fas_nil))) fps_nil))))
    fss_nil)))))))))))
theorem sc_law : FnScope ["script", "deck", "turn", "rows", "columns", "bars", "due", "way", "found", "again", "value", "shown"] ["script"] (defScope s_law) := ⟨rfl, rfl, rfl, by decide +kernel, rfl, by decide +kernel, by decide +kernel⟩
theorem G_law (T : Txt K mg) : FnG P w K mg base 6 T.a_law T.d_law ["script"] (spF mg K 1 F_law) := by
  refine fn_data T.F_law sc_law fun cdv A outer s H E hr hg => ?_
  exact (fss_cons (fs_set (i := 1) sc_law.nd rfl (by first | exact Or.inl rfl | exact Or.inr rfl) (fe_call (G_law_deck (P := P) (w := w) (base := base) T) (hr.mono (by decide)) hg (by rfl) T.g_law_deck T.F_law_deck.kp T.b_law_deck (fas_dat (FE.take (fe_name (pv 0))) fas_nil)))
    (fss_cons (fs_for rfl (fi_range1 (by rfl) T.z_range (fps_cons fe_int fps_nil)) (fg_name (i := 2) sc_law.nd rfl (by first | exact Or.inl rfl | exact Or.inr rfl)) (fss_cons (fs_bind (FE.take (fe_call (G_law_shape (P := P) (w := w) (base := base) T) (hr.mono (by decide)) hg (by rfl) T.g_law_shape T.F_law_shape.kp T.b_law_shape (fas_ref (pv 1) fas_nil))) (fg_tup rfl (fgs_cons (fg_name (i := 3) sc_law.nd rfl (by first | exact Or.inl rfl | exact Or.inr rfl)) (fgs_cons (fg_name (i := 4) sc_law.nd rfl (by first | exact Or.inl rfl | exact Or.inr rfl)) fgs_nil)) 2 (bCons_len (bCons_len bNil_len))))
    (fss_cons (fs_frz 5 (fs_set (i := 5) sc_law.nd rfl (by first | exact Or.inl rfl | exact Or.inr rfl) (fe_call (G_law_bars (P := P) (w := w) (base := base) T) (hr.mono (by decide)) hg (by rfl) T.g_law_bars T.F_law_bars.kp T.b_law_bars (fas_ref (pv 1) (fas_dat (FE.take (fe_name (pv 3))) (fas_dat (FE.take (fe_name (pv 4))) fas_nil))))))
    (fss_cons (fs_frz 6 (fs_set (i := 6) sc_law.nd rfl (by first | exact Or.inl rfl | exact Or.inr rfl) (fe_call (G_law_left (P := P) (w := w) (base := base) T) (hr.mono (by decide)) hg (by rfl) T.g_law_left T.F_law_left.kp T.b_law_left (fas_dat (FE.take (fe_name (pv 3))) (fas_dat (FE.take (fe_name (pv 4))) (fas_dat (FE.take (fe_name (pv 5))) fas_nil))))))
    (fss_cons (fs_for rfl (fi_range1 (by rfl) T.z_range (fps_cons fe_int fps_nil)) (fg_name (i := 7) sc_law.nd rfl (by first | exact Or.inl rfl | exact Or.inr rfl)) (fss_cons (fs_frz 8 (fs_set (i := 8) sc_law.nd rfl (by first | exact Or.inl rfl | exact Or.inr rfl) (fe_call (G_law_cells_told (P := P) (w := w) (base := base) T) (hr.mono (by decide)) hg (by rfl) T.g_law_cells_told T.F_law_cells_told.kp T.b_law_cells_told (fas_dat (FE.take (fe_name (pv 7))) (fas_dat (FE.take (fe_name (pv 3))) (fas_dat (FE.take (fe_name (pv 4))) (fas_dat (FE.take (fe_name (pv 5))) fas_nil)))))))
    (fss_cons (fs_if (FW.pt (fw_or (ft_not (ft_val (fe_isa isa_tuple (by rfl) T.z_isinstance (by rfl) T.z_tuple rfl (fe_name (pv 8))))) (fw_or1 (FW.pt (fw_and (ft_cmp (od_eq (hu65 hr)) (fe_name (pv 7)) fe_int) (fw_and1 (ft_cmp (od_ne (hu65 hr)) (fe_callB (cd_reprA hg (hu65 hr) hB) (by rfl) T.z_repr rfl (fps_cons (fe_name (pv 8)) fps_nil)) (fe_callB (cd_reprA hg (hu65 hr) hB) (by rfl) T.z_repr rfl (fps_cons (fe_name (pv 6)) fps_nil))))))))) (fss_cons (fs_ret fe_bl)
    fss_nil) fss_nil)
    fss_nil)))
    (fss_cons (fs_for rfl (fi_range1 (by rfl) T.z_range (fps_cons fe_int fps_nil)) (fg_name (i := 9) sc_law.nd rfl (by first | exact Or.inl rfl | exact Or.inr rfl)) (fss_cons (fs_frz 10 (fs_set (i := 10) sc_law.nd rfl (by first | exact Or.inl rfl | exact Or.inr rfl) (fe_call (G_law_bad_bars (P := P) (w := w) (base := base) T) (hr.mono (by decide)) hg (by rfl) T.g_law_bad_bars T.F_law_bad_bars.kp T.b_law_bad_bars (fas_ref (pv 1) (fas_dat (FE.take (fe_name (pv 3))) (fas_dat (FE.take (fe_name (pv 4))) (fas_dat (FE.take (fe_name (pv 5))) fas_nil)))))))
    (fss_cons (fs_set (i := 11) sc_law.nd rfl (by first | exact Or.inl rfl | exact Or.inr rfl) (fe_callB (cd_reprA hg (hu65 hr) hB) (by rfl) T.z_repr rfl (fps_cons (fe_name (pv 10)) fps_nil)))
    (fss_cons (fs_for rfl (fi_range1 (by rfl) T.z_range (fps_cons fe_int fps_nil)) (fg_name (i := 7) sc_law.nd rfl (by first | exact Or.inl rfl | exact Or.inr rfl)) (fss_cons (fs_if (FW.pt (fw_or (ft_cmp (od_ne (hu65 hr)) (fe_call (G_law_cells_told (P := P) (w := w) (base := base) T) (hr.mono (by decide)) hg (by rfl) T.g_law_cells_told T.F_law_cells_told.kp T.b_law_cells_told (fas_dat (FE.take (fe_name (pv 7))) (fas_dat (FE.take (fe_name (pv 3))) (fas_dat (FE.take (fe_name (pv 4))) (fas_dat (FE.take (fe_name (pv 10))) fas_nil))))) fe_str) (fw_or1 (ft_cmp (od_ne (hu65 hr)) (fe_callB (cd_reprA hg (hu65 hr) hB) (by rfl) T.z_repr rfl (fps_cons (fe_name (pv 10)) fps_nil)) (fe_name (pv 11)))))) (fss_cons (fs_ret fe_bl)
    fss_nil) fss_nil)
    fss_nil))
    fss_nil))))
    (fss_cons (fs_if (ft_cmp (od_ne (hu65 hr)) (fe_callB (cd_reprA hg (hu65 hr) hB) (by rfl) T.z_repr rfl (fps_cons (fe_call (G_cells (P := P) (w := w) (base := base) T) (hr.mono (by decide)) hg (by rfl) T.g_cells T.F_cells.kp T.b_cells (fas_dat (FE.take (fe_name (pv 3))) (fas_dat (FE.take (fe_name (pv 4))) (fas_dat (FE.take (fe_name (pv 5))) fas_nil)))) fps_nil)) (fe_callB (cd_reprA hg (hu65 hr) hB) (by rfl) T.z_repr rfl (fps_cons (fe_name (pv 6)) fps_nil))) (fss_cons (fs_ret fe_bl)
    fss_nil) fss_nil)
    fss_nil)))))))
    (fss_cons (fs_ret fe_bl)
    fss_nil)))
end
end BH.K25
set_option maxRecDepth 100000
set_option maxHeartbeats 1000000
namespace BH.K25
open PySem PySem.Spec PyProof.Rows L2
/-! ### dict([(cell, 1) ..]) -/
def KvP (S : List Cel) (p : PyData × PyData) : Prop := (∃ c ∈ S, p.1 = eP PyData.int PyData.int c) ∧ p.2 = .int 1
theorem repl_p {S : List Cel} {k : List Key} : ∀ {kvs : List (PyData × PyData)}, (∀ p ∈ kvs, KvP S p) → ∀ p ∈ drepl k (.int 1) kvs, KvP S p
  | [], _, p, hp => by simp [drepl] at hp
  | (kd, x) :: r, h, p, hp => by
    simp only [drepl, List.mem_cons] at hp
    rcases hp with hp | hp
    · subst hp
      split
      · exact ⟨(h (kd, x) (by simp)).1, rfl⟩
      · exact h _ (by simp)
    · exact repl_p (fun q hq => h q (by simp [hq])) p hp
theorem repl_len {k : List Key} {d : PyData} : ∀ kvs : List (PyData × PyData), (drepl k d kvs).length = kvs.length
  | [] => rfl
  | (kd, x) :: r => by simp [drepl, repl_len r]
theorem dict_cells {S : List Cel} : ∀ (bars : List Cel) (acc : List (PyData × PyData)), (∀ c ∈ bars, c ∈ S) → (∀ p ∈ acc, KvP S p) → ∃ kvs, dictOf ((bars.map fun a9 => (a9, (1 : Int))).map (eP (eP PyData.int PyData.int) PyData.int)) acc = some kvs ∧ (∀ p ∈ kvs, KvP S p) ∧ kvs.length ≤ acc.length + bars.length
  | [], acc, _, h => ⟨acc, rfl, h, by simp⟩
  | c :: bars, acc, hs, h => by
    have ek : keyOf (eP PyData.int PyData.int c) = some [Sum.inl c.1, Sum.inl c.2] := rfl
    obtain ⟨kvs, e, q, l⟩ := dict_cells bars (dput [Sum.inl c.1, Sum.inl c.2] (eP PyData.int PyData.int c) (.int 1) acc) (fun x hx => hs x (by simp [hx])) (fun p hp => by
      unfold dput at hp
      split at hp
      · exact repl_p h p hp
      · rcases List.mem_append.mp hp with hp | hp
        · exact h p hp
        · simp only [List.mem_singleton] at hp
          subst hp
          exact ⟨⟨c, hs c (by simp), rfl⟩, rfl⟩)
    refine ⟨kvs, ?_, q, ?_⟩
    · rw [← e]
      show dictOf (.tuple [eP PyData.int PyData.int c, .int 1] :: _) acc = _
      rw [dictOf, ek]
    · have : (dput [Sum.inl c.1, Sum.inl c.2] (eP PyData.int PyData.int c) (.int 1) acc).length ≤ acc.length + 1 := by
        unfold dput
        split
        · rw [repl_len]; omega
        · simp
      simp only [List.length_cons]; omega
section
variable {rows cols : Nat} {bars : List Cel}
theorem sg_cell {c : Cel} (h : c.1.natAbs < 10 ^ 50) (h' : c.2.natAbs < 10 ^ 50) : Sg 600 2 (eP PyData.int PyData.int c) := (sg_pair (sg_int h) (sg_int h')).mono (by decide) (by decide)
theorem sg_spot {c : Cel} (r6 : rows ≤ 6) (c6 : cols ≤ 6) (h : c ∈ spotsZ rows cols) : Sg 600 2 (eP PyData.int PyData.int c) := by
  have := spots_mem.mp h
  exact sg_cell (by omega) (by omega)
theorem sg_empty : Sg 60000 4 (PyData.str (Str.ofString "")) := ⟨by decide +kernel, by decide +kernel, trivial, by decide +kernel, by decide +kernel, by decide +kernel⟩
theorem mem_same {p : Cel} {U V : List Cel} (h : p ∈ U ↔ p ∈ V) : memD p U = memD p V := by
  rw [Bool.eq_iff_iff, memD_true, memD_true]; exact h
theorem tup_id (xs : List PyData) : eT id xs = .tuple xs := by unfold eT; rw [List.map_id]
/-- a value is no bars, and can be shown -/
structure BadV (rows cols : Nat) (v : PyData) : Prop where
  bad : S_cells rows cols v = badM
  sg : Sg 60000 4 v
theorem bad_list {xs : List PyData} (h : ∃ x ∈ xs, isCl rows cols x = false) (hs : ∀ x ∈ xs, Sg 600 2 x) (hl : xs.length ≤ 60) : BadV rows cols (.tuple xs) :=
  ⟨bad_item h (by unfold lim; omega), (sg_tuple hs hl).mono (by decide) (by decide)⟩
theorem odd_items {c : Int} {r : Int} (hr : r = rows) (hc : c = cols) (r6 : rows ≤ 6) (c6 : cols ≤ 6) : ∀ x ∈ [((eP PyData.int PyData.int) (r, (0 : Int))), ((eP PyData.int PyData.int) ((0 : Int), c)), ((eP PyData.int PyData.int) ((-1 : Int), (0 : Int))), ((eP PyData.int PyData.int) ((0 : Int), (-1 : Int))), ((eT PyData.int) [(0 : Int)]), ((eP3 PyData.int PyData.int PyData.int) ((0 : Int), (0 : Int), (0 : Int))), ((eL PyData.int) [(0 : Int), (0 : Int)]), (PyData.str (Str.ofString "00")), PyData.none, (PyData.int (0 : Int)), ((eP PyData.bool PyData.int) (true, (0 : Int))), ((eP PyData.int PyData.bool) ((0 : Int), false))] ++ [((eP PyData.str PyData.int) ((Str.ofString "0"), (0 : Int))), ((eP PyData.int (eL eU)) ((0 : Int), ([] : List Unit))), ((eP id PyData.int) ((PyData.dict []), (0 : Int))), ((eP (eO eU) PyData.int) (none, (0 : Int))), ((eP (eT PyData.int) PyData.int) ([(0 : Int)], (0 : Int))), ((eP3 PyData.int PyData.int PyData.int) ((0 : Int), (0 : Int), (0 : Int)))],
    isCl rows cols x = false ∧ Sg 600 2 x := by
  have i0 : Sg 170 0 (PyData.int 0) := sg_int (by decide)
  have s00 : Sg 600 2 (PyData.str (Str.ofString "00")) := ⟨by decide +kernel, by decide +kernel, trivial, by decide +kernel, by decide +kernel, by decide +kernel⟩
  have s0 : Sg 170 0 (PyData.str (Str.ofString "0")) := ⟨by decide +kernel, by decide +kernel, trivial, by decide +kernel, by decide +kernel, by decide +kernel⟩
  have l0 : Sg 170 1 (PyData.list []) := (sg_list (w := 0) (d := 0) (n := 0) (by simp) (by simp)).mono (by decide) (by decide)
  have t0 : Sg 171 1 (PyData.tuple [PyData.int 0]) := sg_tuple (w := 170) (d := 0) (n := 1) (fun x hx => by simp only [List.mem_singleton] at hx; subst hx; exact i0) (by simp)
  intro x hx
  simp only [List.cons_append, List.nil_append, List.mem_cons, List.not_mem_nil, or_false] at hx
  rcases hx with rfl | rfl | rfl | rfl | rfl | rfl | rfl | rfl | rfl | rfl | rfl | rfl | rfl | rfl | rfl | rfl | rfl | rfl
  · exact ⟨by show ((decide (0 ≤ r) && decide (r ≤ (rows : Int) - 1)) && (decide ((0 : Int) ≤ 0) && decide ((0 : Int) ≤ (cols : Int) - 1))) = false; rw [decide_eq_false (show ¬ r ≤ (rows : Int) - 1 by omega)]; simp, sg_cell (by show r.natAbs < 10 ^ 50; omega) (by show (0 : Int).natAbs < 10 ^ 50; decide)⟩
  · exact ⟨by show ((decide ((0 : Int) ≤ 0) && decide ((0 : Int) ≤ (rows : Int) - 1)) && (decide (0 ≤ c) && decide (c ≤ (cols : Int) - 1))) = false; rw [decide_eq_false (show ¬ c ≤ (cols : Int) - 1 by omega)]; simp, sg_cell (by show (0 : Int).natAbs < 10 ^ 50; decide) (by show c.natAbs < 10 ^ 50; omega)⟩
  · exact ⟨by simp [isCl, eP, isI], sg_cell (by decide) (by decide)⟩
  · exact ⟨by simp [isCl, eP, isI], sg_cell (by decide) (by decide)⟩
  · exact ⟨rfl, t0.mono (by decide) (by decide)⟩
  · exact ⟨rfl, (sg_tuple (n := 3) (w := 170) (d := 0) (fun x hx => by simp only [List.map_cons, List.map_nil, List.mem_cons, List.not_mem_nil, or_false, or_self] at hx; subst hx; exact i0) (by simp)).mono (by decide) (by decide)⟩
  · exact ⟨rfl, (sg_list (n := 2) (w := 170) (d := 0) (fun x hx => by simp only [List.map_cons, List.map_nil, List.mem_cons, List.not_mem_nil, or_false, or_self] at hx; subst hx; exact i0) (by simp)).mono (by decide) (by decide)⟩
  · exact ⟨rfl, s00⟩
  · exact ⟨rfl, sg_none⟩
  · exact ⟨rfl, i0.mono (by decide) (by decide)⟩
  · exact ⟨by simp [isCl, eP, isI], (sg_pair (w := 170) (d := 0) (sg_bool true) i0).mono (by decide) (by decide)⟩
  · exact ⟨by simp [isCl, eP, isI], (sg_pair (w := 170) (d := 0) i0 (sg_bool false)).mono (by decide) (by decide)⟩
  · exact ⟨by simp [isCl, eP, isI], (sg_pair (w := 170) (d := 0) s0 i0).mono (by decide) (by decide)⟩
  · exact ⟨by simp [isCl, eP, isI, eL], (sg_pair (w := 170) (d := 1) (i0.mono (by decide) (by decide)) l0).mono (by decide) (by decide)⟩
  · exact ⟨by simp [isCl, eP, isI], (sg_pair (w := 170) (d := 1) sg_dict (i0.mono (by decide) (by decide))).mono (by decide) (by decide)⟩
  · exact ⟨by simp [isCl, eP, isI, eO], (sg_pair (w := 170) (d := 0) sg_none i0).mono (by decide) (by decide)⟩
  · exact ⟨by simp [isCl, eP, isI, eT], (sg_pair (w := 171) (d := 1) t0 (i0.mono (by decide) (by decide))).mono (by decide) (by decide)⟩
  · exact ⟨rfl, (sg_tuple (n := 3) (w := 170) (d := 0) (fun x hx => by simp only [List.map_cons, List.map_nil, List.mem_cons, List.not_mem_nil, or_false, or_self] at hx; subst hx; exact i0) (by simp)).mono (by decide) (by decide)⟩
theorem told_bad {way : Int} {v : PyData} (h : S_cells rows cols v = badM) : S_law_cells_told way rows cols v = .ok (.str (Str.ofString "bars")) := by
  unfold S_law_cells_told S_table_scale S_table_book
  rw [h]
  simp only [badM, M.exc_bind]
  split
  · rfl
  · split <;> rfl
theorem badbars_ok {d : List Int} (hd : Dk d) (h : Tabl rows cols bars) : Ok (S_law_bad_bars d rows cols bars) fun p => BadV rows cols p.1 ∧ Dk p.2 := by
  have r1 := h.r1
  have c1 := h.c1
  have rc := h.rc
  have ar := h.area
  have cnt := left_count h.nd h.sub
  have f1 := h.f1
  have f6 := h.f6
  have sp : (freeC rows cols []).Perm (spotsZ rows cols) := by
    have : freeC rows cols [] = spotsZ rows cols := by
      unfold freeC
      rw [List.filter_eq_self]
      intro p _; simp
    rw [this]
  have e0 : freeC rows cols [] = spotsZ rows cols := by
    unfold freeC
    rw [List.filter_eq_self]
    intro p _; simp
  have sl := spots_length rows cols
  have p1 : 1 ≤ rows * cols := Nat.mul_le_mul r1 c1
  have sb : ∀ p ∈ bars, Sg 600 2 (eP PyData.int PyData.int p) := fun p hp => sg_spot (by omega) (by omega) (h.sub p hp)
  unfold S_law_bad_bars
  refine ok_bind (draw_ok hd (n := 9) (by decide) (by decide)) ?_
  rintro ⟨way, d1⟩ ⟨w0, w1, hd1⟩
  dsimp only at w0 w1 hd1 ⊢
  rw [lawleft_ok (by omega) (by omega), M.ok_bind, e0]
  refine ok_bind (draw_ok hd1 (n := (bars.length : Int) + 1) (by omega) (by omega)) ?_
  rintro ⟨at_, d2⟩ ⟨a0, a1, hd2⟩
  dsimp only at a0 a1 hd2 ⊢
  by_cases c1 : way < 4
  · rw [if_pos (by simpa using c1), lenG_ok (by simp [lim]), M.ok_bind]
    refine ok_bind (pick_ok hd2 (by simp) (by simp [lim])) ?_
    rintro ⟨x, d3⟩ ⟨hx, hd3⟩
    obtain ⟨x1, x2⟩ := odd_items (rows := rows) (cols := cols) rfl rfl (by omega) (by omega) x hx
    dsimp only at hd3 ⊢
    obtain ⟨n, rfl⟩ : ∃ n : Nat, at_ = (n : Int) := ⟨at_.toNat, by omega⟩
    rw [cutD_take, cutD_drop]
    have l1 : (bars.take n).length + (bars.drop n).length = bars.length := by rw [List.length_take, List.length_drop]; omega
    rw [lenG_ok (by simp only [List.length_append, List.length_map, List.length_singleton]; unfold lim; omega), M.ok_bind, lenG_ok (by simp only [List.length_append, List.length_map, List.length_singleton]; unfold lim; omega), M.ok_bind]
    refine ok_ret ⟨?_, hd3⟩
    show BadV rows cols (eT id _)
    rw [tup_id]
    refine bad_list ⟨x, by simp, x1⟩ (fun y hy => ?_) (by simp only [List.length_append, List.length_map, List.length_singleton]; omega)
    simp only [List.mem_append, List.mem_map, List.mem_singleton] at hy
    rcases hy with (⟨p, hp, rfl⟩ | rfl) | ⟨p, hp, rfl⟩
    · exact sb p (List.mem_of_mem_take hp)
    · exact x2
    · exact sb p (List.mem_of_mem_drop hp)
  rw [if_neg (by simpa using c1)]
  by_cases c2 : way = 4
  · rw [if_pos (by simp [eqD, c2])]
    exact ok_ret ⟨⟨bad_other rfl, (sg_list (n := 60) (fun y hy => by obtain ⟨p, hp, rfl⟩ := List.mem_map.mp hy; exact sb p hp) (by rw [List.length_map]; omega)).mono (by decide) (by decide)⟩, hd2⟩
  rw [if_neg (by simp [eqD, c2])]
  by_cases c3 : way = 5
  · rw [if_pos (by simp [eqD, c3]), lenG_ok (by simp only [List.length_append, List.length_map, List.length_singleton]; unfold lim; omega), M.ok_bind, lenG_ok (by rw [List.length_map]; unfold lim; omega), M.ok_bind]
    obtain ⟨kvs, ek, qk, lk⟩ := dict_cells (S := bars) bars [] (fun _ h => h) (by simp)
    have ed : dictAM (List.map (eP (eP PyData.int PyData.int) PyData.int) (List.map (fun (a9 : Int × Int) => (a9, (1 : Int))) bars)) = .ok (.dict kvs) := by
      have e2 : opDictP [.list (List.map (eP (eP PyData.int PyData.int) PyData.int) (List.map (fun (a9 : Int × Int) => (a9, (1 : Int))) bars))] = some (.d (.dict kvs)) := by
        show (if _ ≤ lim then _ else none) = _
        rw [if_pos (by simp only [List.length_map]; unfold lim; omega), ek]
        rfl
      unfold dictAM
      rw [e2]
    rw [ed, M.ok_bind]
    refine ok_bind (pick_ok hd2 (by simp) (by simp [lim])) ?_
    rintro ⟨x, d3⟩ ⟨hx, hd3⟩
    refine ok_ret ⟨?_, hd3⟩
    simp only [List.mem_cons, List.not_mem_nil, or_false] at hx
    rcases hx with rfl | rfl | rfl | rfl | rfl | rfl | rfl
    · exact ⟨bad_other rfl, sg_none⟩
    · exact ⟨bad_other rfl, sg_empty⟩
    · exact ⟨bad_other rfl, sg_dict.mono (by decide) (by decide)⟩
    · exact ⟨bad_other rfl, (sg_int (by decide)).mono (by decide) (by decide)⟩
    · exact ⟨bad_other rfl, (sg_bool false)⟩
    · show BadV rows cols (eT id _)
      rw [tup_id]
      refine bad_list ⟨(eT eU) ([] : List Unit), by simp, rfl⟩ (fun y hy => ?_) (by simp only [List.length_append, List.length_map, List.length_singleton]; omega)
      simp only [List.mem_append, List.mem_map, List.mem_singleton] at hy
      rcases hy with ⟨p, hp, rfl⟩ | rfl
      · exact sb p hp
      · exact (sg_tuple (w := 0) (d := 0) (n := 0) (by simp) (by simp)).mono (by decide) (by decide)
    · refine ⟨bad_other rfl, (sg_dictKv (w := 600) (d := 2) (n := 36) (fun p hp => ?_) (by simp at lk; omega)).mono (by decide) (by decide)⟩
      obtain ⟨⟨c, hc, e1⟩, e2⟩ := qk p hp
      rw [e1, e2]
      exact ⟨sb c hc, (sg_int (by decide)).mono (by decide) (by decide)⟩
  rw [if_neg (by simp [eqD, c3])]
  have gen : ∀ (W : List Cel), (∀ p ∈ W, p ∈ spotsZ rows cols) → W.length ≤ 60 → (rows * cols - (freeC rows cols W).length < W.length ∨ (freeC rows cols W).length < 1 ∨ 6 < (freeC rows cols W).length) → BadV rows cols (eT (eP PyData.int PyData.int) W) := fun W hW hl hc => by
    refine ⟨?_, (sg_tuple (n := 60) (fun y hy => by obtain ⟨p, hp, rfl⟩ := List.mem_map.mp hy; exact sg_spot (by omega) (by omega) (hW p hp)) (by rw [List.length_map]; exact hl)).mono (by decide) (by decide)⟩
    rw [cells_gen (by omega) (by omega) hW (by omega), if_pos ⟨hc, by rw [← sl]; exact List.length_filter_le _ _⟩]
  by_cases c4 : way = 6
  · rw [if_pos (by simp [eqD, c4])]
    refine ok_bind (mixedP_ok hd2 (by omega)) ?_
    rintro ⟨W, d3⟩ ⟨pW, hd3⟩
    refine ok_ret ⟨gen W (fun p hp => pW.mem_iff.mp hp) (by rw [pW.length_eq]; omega) (.inr (.inl ?_)), hd3⟩
    have : freeC rows cols W = [] := by
      unfold freeC
      rw [List.filter_eq_nil_iff]
      intro p hp
      simp only [Bool.not_eq_true', Bool.not_eq_false]
      simpa using pW.mem_iff.mpr hp
    rw [this]; simp
  rw [if_neg (by simp [eqD, c4])]
  by_cases c5 : way = 7 ∧ 6 < (spotsZ rows cols).length
  · rw [if_pos (by simp only [Bool.and_eq_true, eqD, decide_eq_true_eq]; exact ⟨c5.1, by omega⟩)]
    refine ok_bind (draw_ok hd2 (n := ((spotsZ rows cols).length : Int) - 6) (by omega) (by omega)) ?_
    rintro ⟨k, d3⟩ ⟨k0, k1, hd3⟩
    dsimp only at k0 k1 hd3 ⊢
    obtain ⟨n, rfl⟩ : ∃ n : Nat, k = (n : Int) := ⟨k.toNat, by omega⟩
    rw [cutD_take]
    refine ok_ret ⟨gen _ (fun p hp => h.sub p (List.mem_of_mem_take hp)) (by rw [List.length_take]; omega) (.inr (.inr ?_)), hd3⟩
    have hc := left_count (rows := rows) (cols := cols) (h.nd.sublist (List.take_sublist n bars)) (fun p hp => h.sub p (List.mem_of_mem_take hp))
    have : (bars.take n).length ≤ n := by rw [List.length_take]; omega
    omega
  rw [if_neg (by simp only [Bool.and_eq_true, eqD, decide_eq_true_eq]; omega)]
  refine ok_bind (pick_ok hd2 (fun z => by rw [z] at sl; simp at sl; omega) (by unfold lim; omega)) ?_
  rintro ⟨x, d3⟩ ⟨hx, hd3⟩
  dsimp only at hx hd3 ⊢
  rw [lenG_ok (by simp only [List.length_append, List.length_cons, List.length_nil]; unfold lim; omega), M.ok_bind]
  refine ok_bind (mixedP_ok hd3 (by simp only [List.length_append, List.length_cons, List.length_nil]; omega)) ?_
  rintro ⟨W, d4⟩ ⟨pW, hd4⟩
  have mW : ∀ p, p ∈ W ↔ p ∈ bars ∨ p = x := fun p => by rw [pW.mem_iff]; simp
  have lW : W.length = bars.length + 2 := by rw [pW.length_eq]; simp
  refine ok_ret ⟨gen W (fun p hp => ?_) (by omega) (.inl ?_), hd4⟩
  · rcases (mW p).mp hp with hp | rfl
    · exact h.sub p hp
    · exact hx
  · have e1 : freeC rows cols W = freeC rows cols (x :: bars) := by
      unfold freeC
      refine List.filter_congr fun p hp => ?_
      have : (p ∈ W) ↔ p ∈ x :: bars := by rw [mW]; simp [or_comm]
      rw [mem_same this]
    rw [e1, lW]
    by_cases hb : x ∈ bars
    · have : freeC rows cols (x :: bars) = freeC rows cols bars := by
        unfold freeC
        refine List.filter_congr fun p hp => ?_
        rw [mem_same (show p ∈ x :: bars ↔ p ∈ bars from ⟨fun z => by
          rcases List.mem_cons.mp z with rfl | z
          · exact hb
          · exact z, fun z => List.mem_cons_of_mem _ z⟩)]
      rw [this]; omega
    · have hc := left_count (rows := rows) (cols := cols) (bars := x :: bars) (List.nodup_cons.mpr ⟨hb, h.nd⟩) (fun p hp => by
        rcases List.mem_cons.mp hp with rfl | hp
        · exact hx
        · exact h.sub p hp)
      simp only [List.length_cons] at hc
      omega
end
theorem law_ok (ns : List Int) : S_law ns = .ok true := by
  refine ok_eq' ?_
  unfold S_law
  refine ok_bind (deck_ok ns) fun d hd => ?_
  refine ok_bind (ok_forT Dk (fun a s _ hs => ?_) hd) fun l hl => ?_
  · refine ok_bind (shape_ok hs) fun r14 h14 => ?_
    obtain ⟨⟨rows, cols, er, q1, q2, q3⟩, hd14⟩ := h14
    rw [er]
    refine ok_bind (bars_ok hd14 q1 q2 q3) fun r15 h15 => ?_
    obtain ⟨hT, hd15⟩ := h15
    obtain ⟨bars, d15⟩ := r15
    dsimp only at hT hd15 ⊢
    rw [lawleft_ok (by omega) (by omega), M.ok_bind]
    have f6 := hT.f6
    have sF : Sm (((16 + 0) * 2 + 1) * 6 * 10) 3 (eT (eP PyData.int PyData.int) (freeC rows cols bars)) := by
      refine (sm_tuple (w := (15 + 1) * 2) (d := 1) (n := 6) (fun y hy => ?_) (by rw [List.length_map]; exact f6)).mono (by decide) (by decide)
      obtain ⟨p, hp, rfl⟩ := List.mem_map.mp hy
      have := spots_mem.mp (left_mem.mp hp).1
      exact sm_pair (sm_int (by omega)) (sm_int (by omega))
    refine ok_bind (ok_forT (fun _ => True) (fun a s ha _ => ?_) trivial) fun l1 hl1 => ?_
    · unfold S_law_cells_told
      by_cases c0 : a = 0
      · rw [if_pos (by simp [eqD, c0]), cells_ok hT, M.ok_bind, tryM_ok, M.ok_bind, M.ok_bind]
        have tt : PyData.isTuple (eT (eP PyData.int PyData.int) (freeC rows cols bars)) = true := rfl
        have ii : (id (eT (eP PyData.int PyData.int) (freeC rows cols bars))) = eT (eP PyData.int PyData.int) (freeC rows cols bars) := rfl
        rw [tt, if_neg (by decide : ¬ (!true) = true), if_pos (by simp [eqD, c0]), ii, sF.repr (by decide) (by decide)]
        simp only [M.ok_bind]
        rw [sF.same]
        simp only [M.ok_bind, Bool.not_true, Bool.false_eq_true, if_false]
        exact ok_ret ⟨(), rfl, trivial⟩
      · rw [if_neg (by simp [eqD, c0])]
        have fin : ∀ v : PyData, PyData.isTuple v = true → Ok (M.ok v >>= fun r21 =>
            (if (!(PyData.isTuple r21)) = true then .ok true else ((if (eqD a (0 : Int)) = true then (reprM (id r21) >>= fun txt22 => reprM ((eT (eP PyData.int PyData.int)) (freeC rows cols bars)) >>= fun txt23 => eqSM txt22 txt23 >>= fun same24 => .ok (!same24)) else .ok false) >>= fun b25 => .ok b25)) >>= fun b26 =>
            if b26 = true then (.ok (.rt false)) else (.ok (.nx ()) : M (Lp Unit Bool))) fun l => ∃ s', l = .nx s' ∧ True := fun v hv => by
          rw [M.ok_bind, hv]
          rw [if_neg (by decide : ¬ (!true) = true), if_neg (by simp [eqD, c0])]
          exact ok_ret ⟨(), rfl, trivial⟩
        by_cases c1 : a = 1
        · rw [if_pos (by simp [eqD, c1]), tabscale_ok hT, M.ok_bind, tryM_ok, M.ok_bind]
          exact fin _ rfl
        · rw [if_neg (by simp [eqD, c1]), tbook_ok hT, M.ok_bind, tryM_ok, M.ok_bind]
          exact fin _ rfl
    · obtain ⟨s1, rfl, _⟩ := hl1
      dsimp only
      refine ok_bind (ok_forT Dk (fun a s ha hs => ?_) hd15) fun l2 hl2 => ?_
      · refine ok_bind (badbars_ok hs hT) fun r33 h33 => ?_
        obtain ⟨⟨b1, b2⟩, hd33⟩ := h33
        obtain ⟨v, d33⟩ := r33
        dsimp only at b1 b2 hd33 ⊢
        show Ok (reprM v >>= _) _
        rw [b2.repr (by decide) (by decide), M.ok_bind]
        refine ok_bind (ok_forT (fun _ => True) (fun a s ha _ => ?_) trivial) fun l3 hl3 => ?_
        · rw [told_bad b1, M.ok_bind]
          have e1 : eqAM (.str (Str.ofString "bars")) (.str (Str.ofString "bars")) = .ok true := by
            unfold eqAM
            rw [if_pos (by decide +kernel), show PyData.eqv (.str (Str.ofString "bars")) (.str (Str.ofString "bars")) = true by decide +kernel]
          rw [e1, M.ok_bind, if_neg (by decide)]
          show Ok ((reprM v >>= _) >>= _) _
          rw [b2.repr (by decide) (by decide), M.ok_bind, b2.same, M.ok_bind, M.ok_bind, if_neg (by decide)]
          exact ok_ret ⟨(), rfl, trivial⟩
        · obtain ⟨s3, rfl, _⟩ := hl3
          exact ok_ret ⟨_, rfl, hd33⟩
      · obtain ⟨s2, rfl, hs2⟩ := hl2
        dsimp only
        rw [cells_ok hT, M.ok_bind, sF.repr (by decide) (by decide), M.ok_bind, M.ok_bind, sF.same, M.ok_bind, if_neg (by decide)]
        exact ok_ret ⟨_, rfl, hs2⟩
  · obtain ⟨s', rfl, _⟩ := hl
    exact ok_ret rfl
theorem the_law (ns : List Int) (_ : ns.length ≤ 63) : ∃ outs, F_law [.d (.list (ns.map PyData.int))] = .ok (.d (.bool true)) outs := by
  have h := L_law ns
  rw [law_ok] at h
  exact ⟨_, h⟩
end BH.K25
set_option maxRecDepth 100000
set_option maxHeartbeats 4000000
namespace BH.K25
open PySem PySem.Spec PyProof.Rows L2
theorem all_mk {l : PySem.W.OpenLaw} {w : World} {K : PySem.W.Frag} {h : Heap} {mg : Str → Option Value} {fa f0 f1 f2 f3 f4 f5 f6 f7 f8 f9 f10 f11 f12 f13 f14 f15 : Addr} (X : K.In h) (G : h.Ns mainGlobals mg) (hfa : mg "law" = some (.ref fa))
    {e_BadBars : Addr}
    {od0 an0 od1 an1 od2 an2 od3 an3 od4 an4 od5 an5 od6 an6 od7 an7 od8 an8 od9 an9 od10 an10 od11 an11 od12 an12 od13 an13 od14 an14 od15 an15 : Option Addr} {sl0 sl1 sl2 sl3 sl4 sl5 sl6 sl7 sl8 sl9 sl10 sl11 sl12 sl13 sl14 sl15 : Array (Option Value)} {oc0 kV0 dc0 pm0 cd0 ct0 oc1 kV1 dc1 pm1 cd1 ct1 oc2 kV2 dc2 pm2 cd2 ct2 oc3 kV3 dc3 pm3 cd3 ct3 oc4 kV4 dc4 pm4 cd4 ct4 oc5 kV5 dc5 pm5 cd5 ct5 oc6 kV6 dc6 pm6 cd6 ct6 oc7 kV7 dc7 pm7 cd7 ct7 oc8 kV8 dc8 pm8 cd8 ct8 oc9 kV9 dc9 pm9 cd9 ct9 oc10 kV10 dc10 pm10 cd10 ct10 oc11 kV11 dc11 pm11 cd11 ct11 oc12 kV12 dc12 pm12 cd12 ct12 oc13 kV13 dc13 pm13 cd13 ct13 oc14 kV14 dc14 pm14 cd14 ct14 oc15 kV15 dc15 pm15 cd15 ct15 : Value} {t_MAX_KINDS : Tok}
    (a0 : PySem.W.nsIn K mainGlobals "_law_deck" = some (some (.ref f0))) (l0 : K.lookup f0 = some ⟨oc0, od0, .func (PySem.W.fnOf "_law_deck" "_law_deck" (defArgs s_law_deck) (defBody s_law_deck) (defScope s_law_deck) .none kV0 dc0 pm0 an0 cd0 ct0), sl0⟩) (c0 : PySem.W.codeIn K cd0 "_law_deck" = true) (k0 : PySem.W.keepIn K (.ref f0) = true)
    (a1 : PySem.W.nsIn K mainGlobals "_law_draw" = some (some (.ref f1))) (l1 : K.lookup f1 = some ⟨oc1, od1, .func (PySem.W.fnOf "_law_draw" "_law_draw" (defArgs s_law_draw) (defBody s_law_draw) (defScope s_law_draw) .none kV1 dc1 pm1 an1 cd1 ct1), sl1⟩) (c1 : PySem.W.codeIn K cd1 "_law_draw" = true) (k1 : PySem.W.keepIn K (.ref f1) = true)
    (a2 : PySem.W.nsIn K mainGlobals "_law_shape" = some (some (.ref f2))) (l2 : K.lookup f2 = some ⟨oc2, od2, .func (PySem.W.fnOf "_law_shape" "_law_shape" (defArgs s_law_shape) (defBody s_law_shape) (defScope s_law_shape) .none kV2 dc2 pm2 an2 cd2 ct2), sl2⟩) (c2 : PySem.W.codeIn K cd2 "_law_shape" = true) (k2 : PySem.W.keepIn K (.ref f2) = true)
    (a3 : PySem.W.nsIn K mainGlobals "_law_mixed" = some (some (.ref f3))) (l3 : K.lookup f3 = some ⟨oc3, od3, .func (PySem.W.fnOf "_law_mixed" "_law_mixed" (defArgs s_law_mixed) (defBody s_law_mixed) (defScope s_law_mixed) .none kV3 dc3 pm3 an3 cd3 ct3), sl3⟩) (c3 : PySem.W.codeIn K cd3 "_law_mixed" = true) (k3 : PySem.W.keepIn K (.ref f3) = true)
    (a4 : PySem.W.nsIn K mainGlobals "_law_bars" = some (some (.ref f4))) (l4 : K.lookup f4 = some ⟨oc4, od4, .func (PySem.W.fnOf "_law_bars" "_law_bars" (defArgs s_law_bars) (defBody s_law_bars) (defScope s_law_bars) .none kV4 dc4 pm4 an4 cd4 ct4), sl4⟩) (c4 : PySem.W.codeIn K cd4 "_law_bars" = true) (k4 : PySem.W.keepIn K (.ref f4) = true)
    (a5 : PySem.W.nsIn K mainGlobals "_law_left" = some (some (.ref f5))) (l5 : K.lookup f5 = some ⟨oc5, od5, .func (PySem.W.fnOf "_law_left" "_law_left" (defArgs s_law_left) (defBody s_law_left) (defScope s_law_left) .none kV5 dc5 pm5 an5 cd5 ct5), sl5⟩) (c5 : PySem.W.codeIn K cd5 "_law_left" = true) (k5 : PySem.W.keepIn K (.ref f5) = true)
    (a6 : PySem.W.nsIn K mainGlobals "is_integer" = some (some (.ref f6))) (l6 : K.lookup f6 = some ⟨oc6, od6, .func (PySem.W.fnOf "is_integer" "is_integer" (defArgs s_is_integer) (defBody s_is_integer) (defScope s_is_integer) .none kV6 dc6 pm6 an6 cd6 ct6), sl6⟩) (c6 : PySem.W.codeIn K cd6 "is_integer" = true) (k6 : PySem.W.keepIn K (.ref f6) = true)
    (a7 : PySem.W.nsIn K mainGlobals "is_cell" = some (some (.ref f7))) (l7 : K.lookup f7 = some ⟨oc7, od7, .func (PySem.W.fnOf "is_cell" "is_cell" (defArgs s_is_cell) (defBody s_is_cell) (defScope s_is_cell) .none kV7 dc7 pm7 an7 cd7 ct7), sl7⟩) (c7 : PySem.W.codeIn K cd7 "is_cell" = true) (k7 : PySem.W.keepIn K (.ref f7) = true)
    (a8 : PySem.W.nsIn K mainGlobals "cells" = some (some (.ref f8))) (l8 : K.lookup f8 = some ⟨oc8, od8, .func (PySem.W.fnOf "cells" "cells" (defArgs s_cells) (defBody s_cells) (defScope s_cells) .none kV8 dc8 pm8 an8 cd8 ct8), sl8⟩) (c8 : PySem.W.codeIn K cd8 "cells" = true) (k8 : PySem.W.keepIn K (.ref f8) = true)
    (a9 : PySem.W.nsIn K mainGlobals "table_scale" = some (some (.ref f9))) (l9 : K.lookup f9 = some ⟨oc9, od9, .func (PySem.W.fnOf "table_scale" "table_scale" (defArgs s_table_scale) (defBody s_table_scale) (defScope s_table_scale) .none kV9 dc9 pm9 an9 cd9 ct9), sl9⟩) (c9 : PySem.W.codeIn K cd9 "table_scale" = true) (k9 : PySem.W.keepIn K (.ref f9) = true)
    (a10 : PySem.W.nsIn K mainGlobals "heap_of" = some (some (.ref f10))) (l10 : K.lookup f10 = some ⟨oc10, od10, .func (PySem.W.fnOf "heap_of" "heap_of" (defArgs s_heap_of) (defBody s_heap_of) (defScope s_heap_of) .none kV10 dc10 pm10 an10 cd10 ct10), sl10⟩) (c10 : PySem.W.codeIn K cd10 "heap_of" = true) (k10 : PySem.W.keepIn K (.ref f10) = true)
    (a11 : PySem.W.nsIn K mainGlobals "table_book" = some (some (.ref f11))) (l11 : K.lookup f11 = some ⟨oc11, od11, .func (PySem.W.fnOf "table_book" "table_book" (defArgs s_table_book) (defBody s_table_book) (defScope s_table_book) .none kV11 dc11 pm11 an11 cd11 ct11), sl11⟩) (c11 : PySem.W.codeIn K cd11 "table_book" = true) (k11 : PySem.W.keepIn K (.ref f11) = true)
    (a12 : PySem.W.nsIn K mainGlobals "_law_cells_told" = some (some (.ref f12))) (l12 : K.lookup f12 = some ⟨oc12, od12, .func (PySem.W.fnOf "_law_cells_told" "_law_cells_told" (defArgs s_law_cells_told) (defBody s_law_cells_told) (defScope s_law_cells_told) .none kV12 dc12 pm12 an12 cd12 ct12), sl12⟩) (c12 : PySem.W.codeIn K cd12 "_law_cells_told" = true) (k12 : PySem.W.keepIn K (.ref f12) = true)
    (a13 : PySem.W.nsIn K mainGlobals "_law_pick" = some (some (.ref f13))) (l13 : K.lookup f13 = some ⟨oc13, od13, .func (PySem.W.fnOf "_law_pick" "_law_pick" (defArgs s_law_pick) (defBody s_law_pick) (defScope s_law_pick) .none kV13 dc13 pm13 an13 cd13 ct13), sl13⟩) (c13 : PySem.W.codeIn K cd13 "_law_pick" = true) (k13 : PySem.W.keepIn K (.ref f13) = true)
    (a14 : PySem.W.nsIn K mainGlobals "_law_bad_bars" = some (some (.ref f14))) (l14 : K.lookup f14 = some ⟨oc14, od14, .func (PySem.W.fnOf "_law_bad_bars" "_law_bad_bars" (defArgs s_law_bad_bars) (defBody s_law_bad_bars) (defScope s_law_bad_bars) .none kV14 dc14 pm14 an14 cd14 ct14), sl14⟩) (c14 : PySem.W.codeIn K cd14 "_law_bad_bars" = true) (k14 : PySem.W.keepIn K (.ref f14) = true)
    (a15 : PySem.W.nsIn K mainGlobals "law" = some (some (.ref f15))) (l15 : K.lookup f15 = some ⟨oc15, od15, .func (PySem.W.fnOf "law" "law" (defArgs s_law) (defBody s_law) (defScope s_law) .none kV15 dc15 pm15 an15 cd15 ct15), sl15⟩) (c15 : PySem.W.codeIn K cd15 "law" = true) (k15 : PySem.W.keepIn K (.ref f15) = true)
    (v_MAX_KINDS : PySem.W.nsIn K mainGlobals "MAX_KINDS" = some (some (.int 6 t_MAX_KINDS)))
    (aE_BadBars : PySem.W.nsIn K mainGlobals "BadBars" = some (some (.ref e_BadBars)))
    (kE_BadBars : PySem.W.keepIn K (.ref e_BadBars) = true)
    (bE_BadBars : PySem.W.subIn K (.ref e_BadBars) (.type "BaseException") = some true)
    (tE_BadBars : PySem.W.typeIn K (.ref e_BadBars) = some (.type "type"))
    (hE_BadBars : PySem.W.hasDictIn K e_BadBars = true)
    (qE_BadBars : PySem.W.excIn K e_BadBars bmVE "ValueError.__new__" = true)
    (sE_BadBars_BadBars : PySem.W.subIn K (.ref e_BadBars) (.ref e_BadBars) = some true)
    (z_len : PySem.W.nsIn K mainGlobals "len" = some none) (z_abs : PySem.W.nsIn K mainGlobals "abs" = some none) (z_int : PySem.W.nsIn K mainGlobals "int" = some none) (z_list : PySem.W.nsIn K mainGlobals "list" = some none) (z_range : PySem.W.nsIn K mainGlobals "range" = some none) (z_max : PySem.W.nsIn K mainGlobals "max" = some none) (z_min : PySem.W.nsIn K mainGlobals "min" = some none) (z_tuple : PySem.W.nsIn K mainGlobals "tuple" = some none) (z_isinstance : PySem.W.nsIn K mainGlobals "isinstance" = some none) (z_bool : PySem.W.nsIn K mainGlobals "bool" = some none) (z_all : PySem.W.nsIn K mainGlobals "all" = some none) (z_dict : PySem.W.nsIn K mainGlobals "dict" = some none) (z_repr : PySem.W.nsIn K mainGlobals "repr" = some none) :
    ∃ fd : FuncData, (∀ (s : Shared) (v : Value), BindsTo s fd ⟨[v], []⟩ [("script", v)]) ∧ ∀ base : Heap, SysIn base → K.In base → base.Ns mainGlobals mg → FnG l.prog w K mg base 6 fa fd ["script"] (spF mg K 1 F_law) := by
  have e := hfa.symm.trans (PySem.W.mg_of X G a15)
  cases e
  exact ⟨PySem.W.fnOf "law" "law" (defArgs s_law) (defBody s_law) (defScope s_law) .none kV15 dc15 pm15 an15 cd15 ct15, fun s v => .of_eq rfl, fun base hB _ _ => G_law { c_MAX_KINDS := ⟨_, PySem.W.mg_of X G v_MAX_KINDS⟩, z_len := PySem.W.mg_none_of X G z_len, z_abs := PySem.W.mg_none_of X G z_abs, z_int := PySem.W.mg_none_of X G z_int, z_list := PySem.W.mg_none_of X G z_list, z_range := PySem.W.mg_none_of X G z_range, z_max := PySem.W.mg_none_of X G z_max, z_min := PySem.W.mg_none_of X G z_min, z_tuple := PySem.W.mg_none_of X G z_tuple, z_isinstance := PySem.W.mg_none_of X G z_isinstance, z_bool := PySem.W.mg_none_of X G z_bool, z_all := PySem.W.mg_none_of X G z_all, z_dict := PySem.W.mg_none_of X G z_dict, z_repr := PySem.W.mg_none_of X G z_repr, a_law_deck := f0, d_law_deck := _, g_law_deck := PySem.W.mg_of X G a0, F_law_deck := fun_mk (st := s_law_deck) l0 c0 k0, b_law_deck := (fun_mk (st := s_law_deck) l0 c0 k0).binds fun _ _ _ _ _ _ us hl => match us, hl with | [_], _ => rfl, a_law_draw := f1, d_law_draw := _, g_law_draw := PySem.W.mg_of X G a1, F_law_draw := fun_mk (st := s_law_draw) l1 c1 k1, b_law_draw := (fun_mk (st := s_law_draw) l1 c1 k1).binds fun _ _ _ _ _ _ us hl => match us, hl with | [_, _], _ => rfl, a_law_shape := f2, d_law_shape := _, g_law_shape := PySem.W.mg_of X G a2, F_law_shape := fun_mk (st := s_law_shape) l2 c2 k2, b_law_shape := (fun_mk (st := s_law_shape) l2 c2 k2).binds fun _ _ _ _ _ _ us hl => match us, hl with | [_], _ => rfl, a_law_mixed := f3, d_law_mixed := _, g_law_mixed := PySem.W.mg_of X G a3, F_law_mixed := fun_mk (st := s_law_mixed) l3 c3 k3, b_law_mixed := (fun_mk (st := s_law_mixed) l3 c3 k3).binds fun _ _ _ _ _ _ us hl => match us, hl with | [_, _], _ => rfl, a_law_bars := f4, d_law_bars := _, g_law_bars := PySem.W.mg_of X G a4, F_law_bars := fun_mk (st := s_law_bars) l4 c4 k4, b_law_bars := (fun_mk (st := s_law_bars) l4 c4 k4).binds fun _ _ _ _ _ _ us hl => match us, hl with | [_, _, _], _ => rfl, a_law_left := f5, d_law_left := _, g_law_left := PySem.W.mg_of X G a5, F_law_left := fun_mk (st := s_law_left) l5 c5 k5, b_law_left := (fun_mk (st := s_law_left) l5 c5 k5).binds fun _ _ _ _ _ _ us hl => match us, hl with | [_, _, _], _ => rfl, a_is_integer := f6, d_is_integer := _, g_is_integer := PySem.W.mg_of X G a6, F_is_integer := fun_mk (st := s_is_integer) l6 c6 k6, b_is_integer := (fun_mk (st := s_is_integer) l6 c6 k6).binds fun _ _ _ _ _ _ us hl => match us, hl with | [_, _, _], _ => rfl, a_is_cell := f7, d_is_cell := _, g_is_cell := PySem.W.mg_of X G a7, F_is_cell := fun_mk (st := s_is_cell) l7 c7 k7, b_is_cell := (fun_mk (st := s_is_cell) l7 c7 k7).binds fun _ _ _ _ _ _ us hl => match us, hl with | [_, _, _], _ => rfl, a_cells := f8, d_cells := _, g_cells := PySem.W.mg_of X G a8, F_cells := fun_mk (st := s_cells) l8 c8 k8, b_cells := (fun_mk (st := s_cells) l8 c8 k8).binds fun _ _ _ _ _ _ us hl => match us, hl with | [_, _, _], _ => rfl, a_table_scale := f9, d_table_scale := _, g_table_scale := PySem.W.mg_of X G a9, F_table_scale := fun_mk (st := s_table_scale) l9 c9 k9, b_table_scale := (fun_mk (st := s_table_scale) l9 c9 k9).binds fun _ _ _ _ _ _ us hl => match us, hl with | [_, _, _], _ => rfl, a_heap_of := f10, d_heap_of := _, g_heap_of := PySem.W.mg_of X G a10, F_heap_of := fun_mk (st := s_heap_of) l10 c10 k10, b_heap_of := (fun_mk (st := s_heap_of) l10 c10 k10).binds fun _ _ _ _ _ _ us hl => match us, hl with | [_, _], _ => rfl, a_table_book := f11, d_table_book := _, g_table_book := PySem.W.mg_of X G a11, F_table_book := fun_mk (st := s_table_book) l11 c11 k11, b_table_book := (fun_mk (st := s_table_book) l11 c11 k11).binds fun _ _ _ _ _ _ us hl => match us, hl with | [_, _, _], _ => rfl, a_law_cells_told := f12, d_law_cells_told := _, g_law_cells_told := PySem.W.mg_of X G a12, F_law_cells_told := fun_mk (st := s_law_cells_told) l12 c12 k12, b_law_cells_told := (fun_mk (st := s_law_cells_told) l12 c12 k12).binds fun _ _ _ _ _ _ us hl => match us, hl with | [_, _, _, _], _ => rfl, a_law_pick := f13, d_law_pick := _, g_law_pick := PySem.W.mg_of X G a13, F_law_pick := fun_mk (st := s_law_pick) l13 c13 k13, b_law_pick := (fun_mk (st := s_law_pick) l13 c13 k13).binds fun _ _ _ _ _ _ us hl => match us, hl with | [_, _], _ => rfl, a_law_bad_bars := f14, d_law_bad_bars := _, g_law_bad_bars := PySem.W.mg_of X G a14, F_law_bad_bars := fun_mk (st := s_law_bad_bars) l14 c14 k14, b_law_bad_bars := (fun_mk (st := s_law_bad_bars) l14 c14 k14).binds fun _ _ _ _ _ _ us hl => match us, hl with | [_, _, _, _], _ => rfl, a_law := fa, d_law := _, g_law := PySem.W.mg_of X G a15, F_law := fun_mk (st := s_law) l15 c15 k15, b_law := (fun_mk (st := s_law) l15 c15 k15).binds fun _ _ _ _ _ _ us hl => match us, hl with | [_], _ => rfl, e_BadBars := e_BadBars, E_BadBars := ⟨PySem.W.mg_of X G aE_BadBars, kE_BadBars, bE_BadBars, tE_BadBars, hE_BadBars⟩, q_BadBars := qE_BadBars, s_BadBars_BadBars := sE_BadBars_BadBars }⟩
end BH.K25
open PySem PySem.W PyProof.Rows
set_option maxRecDepth 100000 in
set_option maxHeartbeats 0 in
theorem PySem.Challenge.cw_barterheaps_k25_cells_and_bars_holds : PySem.Challenge.rw_barterheaps_k25_cells_and_bars.Holds := by
  w_on; o_law; k_head; (case hw => w_witness2)
  k_fill
  refine BH.walk_data (l := PySem.Challenge.rw_barterheaps_k25_cells_and_bars) (n := 63) (k := 6) (x := "script") (F := BH.K25.F_law) rfl (by decide) rfl ⟨rfl, by decide, by decide⟩ (fun w h Y => PySem.W.kIn_of Y) ?F BH.K25.the_law
  case F =>
    intro w mg fa h KX G hmg
    refine' BH.K25.all_mk KX G hmg ?a0 ?l0 ?c0 ?k0 ?a1 ?l1 ?c1 ?k1 ?a2 ?l2 ?c2 ?k2 ?a3 ?l3 ?c3 ?k3 ?a4 ?l4 ?c4 ?k4 ?a5 ?l5 ?c5 ?k5 ?a6 ?l6 ?c6 ?k6 ?a7 ?l7 ?c7 ?k7 ?a8 ?l8 ?c8 ?k8 ?a9 ?l9 ?c9 ?k9 ?a10 ?l10 ?c10 ?k10 ?a11 ?l11 ?c11 ?k11 ?a12 ?l12 ?c12 ?k12 ?a13 ?l13 ?c13 ?k13 ?a14 ?l14 ?c14 ?k14 ?a15 ?l15 ?c15 ?k15 ?v_MAX_KINDS ?aE_BadBars ?kE_BadBars ?bE_BadBars ?tE_BadBars ?hE_BadBars ?qE_BadBars ?sE_BadBars_BadBars ?z_len ?z_abs ?z_int ?z_list ?z_range ?z_max ?z_min ?z_tuple ?z_isinstance ?z_bool ?z_all ?z_dict ?z_repr
    (case a0 => k_is)
    (case l0 => k_is)
    (case c0 => k_is)
    (case k0 => k_is)
    (case a1 => k_is)
    (case l1 => k_is)
    (case c1 => k_is)
    (case k1 => k_is)
    (case a2 => k_is)
    (case l2 => k_is)
    (case c2 => k_is)
    (case k2 => k_is)
    (case a3 => k_is)
    (case l3 => k_is)
    (case c3 => k_is)
    (case k3 => k_is)
    (case a4 => k_is)
    (case l4 => k_is)
    (case c4 => k_is)
    (case k4 => k_is)
    (case a5 => k_is)
    (case l5 => k_is)
    (case c5 => k_is)
    (case k5 => k_is)
    (case a6 => k_is)
    (case l6 => k_is)
    (case c6 => k_is)
    (case k6 => k_is)
    (case a7 => k_is)
    (case l7 => k_is)
    (case c7 => k_is)
    (case k7 => k_is)
    (case a8 => k_is)
    (case l8 => k_is)
    (case c8 => k_is)
    (case k8 => k_is)
    (case a9 => k_is)
    (case l9 => k_is)
    (case c9 => k_is)
    (case k9 => k_is)
    (case a10 => k_is)
    (case l10 => k_is)
    (case c10 => k_is)
    (case k10 => k_is)
    (case a11 => k_is)
    (case l11 => k_is)
    (case c11 => k_is)
    (case k11 => k_is)
    (case a12 => k_is)
    (case l12 => k_is)
    (case c12 => k_is)
    (case k12 => k_is)
    (case a13 => k_is)
    (case l13 => k_is)
    (case c13 => k_is)
    (case k13 => k_is)
    (case a14 => k_is)
    (case l14 => k_is)
    (case c14 => k_is)
    (case k14 => k_is)
    (case a15 => k_is)
    (case l15 => k_is)
    (case c15 => k_is)
    (case k15 => k_is)
    (case v_MAX_KINDS => k_is)
    (case aE_BadBars => k_is)
    (case kE_BadBars => k_is)
    (case bE_BadBars => k_is)
    (case tE_BadBars => k_is)
    (case hE_BadBars => k_is)
    (case qE_BadBars => first | k_exc | k_is)
    (case sE_BadBars_BadBars => first | rfl | k_is)
    (case z_len => k_is)
    (case z_abs => k_is)
    (case z_int => k_is)
    (case z_list => k_is)
    (case z_range => k_is)
    (case z_max => k_is)
    (case z_min => k_is)
    (case z_tuple => k_is)
    (case z_isinstance => k_is)
    (case z_bool => k_is)
    (case z_all => k_is)
    (case z_dict => k_is)
    (case z_repr => k_is)
