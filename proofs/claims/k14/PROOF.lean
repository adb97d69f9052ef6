import PyProof.Rows.All
import HandS.ForMost
import HandS.ForExc
import HandS.CallSlots
import HandS.TryMany
import HandS.ExcInit
import HandS.ExcField
import HandS.IsInst
import HandS.Flow
import HandS.TupAny
import HandS.TupMul
import HandS.Deep
import HandS.DeepEq
import HandS.NoneIn
import HandS.Sort
import HandS.Zip
import KE.GoesEnum
import HandS.MakeKwOnly
import KE.KExcSuper
import HandS.Style
import HandS.RaiseMore
import HandS.ExcOwn
import HandS.ExcIs
import KE.KExcIs
import PySem.Challenge.RW_gateskept_k14_errors
set_option Elab.async false
set_option linter.all false
set_option maxRecDepth 100000
set_option maxHeartbeats 4000000
namespace DL
open PySem L2
inductive D where
  | non | bl (b : Bool) | int (i : Int) | str (s : Str)
  | tup (l : List D) | lst (l : List D)
  | obj (c : Str) (ns : List Str) (l : List D)
  | fn (n : Str)
  /-- a list that nobody changes: the script -/
  | scr (l : List D)
/-- an error: its class, its fields -/
structure Ex where
  c : Str
  ns : List Str
  l : List D
/-- what a name of a def holds: nothing; a value; a list of its own; a dict of its own; an instance of its own; a caught error -/
inductive Slot where
  | no | val (d : D) | own (l : List D) | dic (ks vs : List D) | inst (c : Str) (ns : List Str) (l : List D) | ex (e : Ex)
abbrev Ev := List Slot
inductive Out (α : Type) where
  | ok (a : α) (ρ : Ev) | exc (e : Ex) (ρ : Ev) | bad
abbrev M (α : Type) := Ev → Out α
def M.ret {α} (a : α) : M α := fun ρ => .ok a ρ
def M.bnd {α β} (m : M α) (f : α → M β) : M β := fun ρ => match m ρ with
  | .ok a ρ' => f a ρ'
  | .exc e ρ' => .exc e ρ'
  | .bad => .bad
theorem bnd_ok {α β} {m : M α} {f : α → M β} {ρ ρ' : Ev} {a : α} (h : m ρ = .ok a ρ') : M.bnd m f ρ = f a ρ' := by unfold M.bnd; rw [h]
theorem bnd_exc {α β} {m : M α} {f : α → M β} {ρ ρ' : Ev} {e : Ex} (h : m ρ = .exc e ρ') : M.bnd m f ρ = .exc e ρ' := by unfold M.bnd; rw [h]
theorem bnd_bad {α β} {m : M α} {f : α → M β} {ρ : Ev} (h : m ρ = .bad) : M.bnd m f ρ = .bad := by unfold M.bnd; rw [h]
def M.opt {α} : Option α → M α
  | some a => fun ρ => .ok a ρ
  | none => fun _ => .bad
inductive SOut where
  | nx (ρ : Ev) | rt (d : D) (ρ : Ev) | bk (ρ : Ev) | ct (ρ : Ev) | exc (e : Ex) (ρ : Ev) | bad
abbrev S := Ev → SOut
mutual
def Rep (K : PySem.W.Frag) (mg : Str → Option Value) (F : Hp) : D → V → Prop
  | .non, v => v = .non
  | .bl b, v => v = .bl b
  | .int i, v => v = .int i
  | .str s, v => v = .str s
  | .fn n, v => ∃ a, v = .ref a ∧ mg n = some (.ref a)
  | .tup l, v => ∃ a xs, v = .ref a ∧ SqT K F a xs ∧ Reps K mg F l xs
  | .lst l, v => ∃ a xs, v = .ref a ∧ F a = some (.lst xs) ∧ Reps K mg F l xs
  | .scr l, v => ∃ a xs, v = .ref a ∧ SqL K F a xs ∧ Reps K mg F l xs
  | .obj c ns l, v => ∃ a C dx fvs, v = .ref a ∧ mg c = some (.ref C) ∧ F a = some (.ins C dx (ns.zip fvs)) ∧ ns.length = fvs.length ∧ Reps K mg F l fvs
def Reps (K : PySem.W.Frag) (mg : Str → Option Value) (F : Hp) : List D → List V → Prop
  | [], vs => vs = []
  | d :: ds, vs => ∃ v r, vs = v :: r ∧ Rep K mg F d v ∧ Reps K mg F ds r
end
section
variable {K : PySem.W.Frag} {mg : Str → Option Value} {F F' : Hp}
theorem Rd.mono {a : Addr} {u : HO} (s : Same F F') (h : Rd F a u) : Rd F' a u := h.elim (fun h => .inl (s _ _ h)) fun ⟨o, h⟩ => .inr ⟨o, s _ _ h⟩
theorem SqL.mono {a : Addr} {xs : List V} (s : Same F F') (h : SqL K F a xs) : SqL K F' a xs := h.elim (fun h => .inl (Rd.mono s h)) .inr
theorem SqT.mono {a : Addr} {xs : List V} (s : Same F F') (h : SqT K F a xs) : SqT K F' a xs := h.elim (fun h => .inl (Rd.mono s h)) .inr
mutual
theorem Rep.mono (s : Same F F') : ∀ (d : D) (v : V), Rep K mg F d v → Rep K mg F' d v
  | .non, _, h => h
  | .bl _, _, h => h
  | .int _, _, h => h
  | .str _, _, h => h
  | .fn _, _, h => h
  | .tup l, _, ⟨a, xs, e, q, r⟩ => ⟨a, xs, e, SqT.mono s q, Reps.mono s l xs r⟩
  | .lst l, _, ⟨a, xs, e, q, r⟩ => ⟨a, xs, e, s _ _ q, Reps.mono s l xs r⟩
  | .scr l, _, ⟨a, xs, e, q, r⟩ => ⟨a, xs, e, SqL.mono s q, Reps.mono s l xs r⟩
  | .obj _ _ l, _, ⟨a, C, dx, fvs, e, m, q, n, r⟩ => ⟨a, C, dx, fvs, e, m, s _ _ q, n, Reps.mono s l fvs r⟩
theorem Reps.mono (s : Same F F') : ∀ (ds : List D) (vs : List V), Reps K mg F ds vs → Reps K mg F' ds vs
  | [], _, h => h
  | d :: ds, _, ⟨v, r, e, h, t⟩ => ⟨v, r, e, Rep.mono s d v h, Reps.mono s ds r t⟩
end
theorem Reps.nil : Reps K mg F [] [] := rfl
theorem Reps.cons {d : D} {ds : List D} {v : V} {vs : List V} (h : Rep K mg F d v) (t : Reps K mg F ds vs) : Reps K mg F (d :: ds) (v :: vs) := ⟨v, vs, rfl, h, t⟩
theorem Reps.length : ∀ {ds : List D} {vs : List V}, Reps K mg F ds vs → ds.length = vs.length
  | [], _, h => by rw [show _ = [] from h]; rfl
  | d :: ds, _, ⟨v, r, e, h, t⟩ => by subst e; simp [Reps.length t]
theorem Reps.get : ∀ {ds : List D} {vs : List V} {i : Nat} {d : D}, Reps K mg F ds vs → ds[i]? = some d → ∃ v, vs[i]? = some v ∧ Rep K mg F d v
  | [], _, i, d, h, e => by simp at e
  | d' :: ds, _, 0, d, ⟨v, r, e1, h, t⟩, e => by
    subst e1
    simp at e
    subst e
    exact ⟨v, by simp, h⟩
  | d' :: ds, _, i + 1, d, ⟨v, r, e1, h, t⟩, e => by
    subst e1
    obtain ⟨w, h1, h2⟩ := Reps.get (i := i) t (by simpa using e)
    exact ⟨w, by simpa using h1, h2⟩
theorem Reps.getV : ∀ {ds : List D} {vs : List V} {i : Nat} {v : V}, Reps K mg F ds vs → vs[i]? = some v → ∃ d, ds[i]? = some d ∧ Rep K mg F d v := fun {ds vs i v} r e => by
  have hl := r.length
  have hi : i < vs.length := (List.getElem?_eq_some_iff.mp e).1
  have hd : ds[i]? = some ds[i] := by simp [hl, hi]
  obtain ⟨w, h1, h2⟩ := r.get hd
  rw [e] at h1
  cases h1
  exact ⟨_, hd, h2⟩
theorem Reps.append : ∀ {ds es : List D} {vs ws : List V}, Reps K mg F ds vs → Reps K mg F es ws → Reps K mg F (ds ++ es) (vs ++ ws)
  | [], _, _, _, h, t => by rw [show _ = [] from h]; exact t
  | d :: ds, _, _, _, ⟨v, r, e, h, t⟩, u => by subst e; exact ⟨v, _, rfl, h, t.append u⟩
theorem Reps.set : ∀ {ds : List D} {vs : List V} (i : Nat) {d : D} {v : V}, Reps K mg F ds vs → Rep K mg F d v → Reps K mg F (ds.set i d) (vs.set i v)
  | [], _, i, d, v, h, r => by rw [show _ = [] from h]; exact rfl
  | e :: ds, _, 0, d, v, ⟨w, r, e1, h, t⟩, q => by subst e1; exact ⟨v, r, rfl, q, t⟩
  | e :: ds, _, i + 1, d, v, ⟨w, r, e1, h, t⟩, q => by subst e1; exact ⟨w, _, rfl, h, t.set i q⟩
theorem Reps.take : ∀ {ds : List D} {vs : List V} (i : Nat), Reps K mg F ds vs → Reps K mg F (ds.take i) (vs.take i)
  | _, _, 0, _ => rfl
  | [], _, i + 1, h => by rw [show _ = [] from h]; exact rfl
  | e :: ds, _, i + 1, ⟨w, r, e1, h, t⟩ => by subst e1; exact ⟨w, _, rfl, h, t.take i⟩
theorem Reps.drop : ∀ {ds : List D} {vs : List V} (i : Nat), Reps K mg F ds vs → Reps K mg F (ds.drop i) (vs.drop i)
  | _, _, 0, h => h
  | [], _, i + 1, h => by rw [show _ = [] from h]; exact rfl
  | e :: ds, _, i + 1, ⟨w, r, e1, h, t⟩ => by subst e1; exact t.drop i
end
/-- the heap without the objects at A -/
def off (A : List Addr) (H : Hp) : Hp := fun a => if a ∈ A then none else H a
theorem off_same {A : List Addr} {H H' : Hp} (s : ∀ a o, a ∉ A → H a = some o → H' a = some o) : Same (off A H) (off A H') := fun b o h => by
  unfold off at h ⊢
  split at h
  · cases h
  · rename_i hb
    rw [if_neg hb]
    exact s b o hb h
theorem off_Same {A : List Addr} {H H' : Hp} (s : Same H H') : Same (off A H) (off A H') := off_same fun a o _ h => s a o h
theorem off_sub {A B : List Addr} {H : Hp} (s : ∀ a ∈ B, a ∈ A) : Same (off A H) (off B H) := fun b o h => by
  unfold off at h ⊢
  split at h
  · cases h
  · rename_i hb
    rw [if_neg fun z => hb (s b z)]
    exact h
theorem off_le {A : List Addr} {H : Hp} : Same (off A H) H := fun b o h => by
  unfold off at h
  split at h
  · cases h
  · exact h
theorem off_at {A : List Addr} {H : Hp} {a : Addr} {o : HO} (h : H a = some o) (n : a ∉ A) : off A H a = some o := by
  unfold off
  rw [if_neg n]
  exact h
/-- what is fixed while a def runs: the heap at the entry, the objects that callers may change, those that this def may change, where its parameters hold them, how many parameters; the caught error and its dict -/
structure Wd where
  G : Hp
  B : List Addr
  pa : List (Nat × Addr)
  np : Nat
  xx : Addr × Option Addr × Value
/-- the objects that this def may change -/
def Wd.Op (w : Wd) : List Addr := w.pa.map (·.2)
def Slot.isOwn : Slot → Bool
  | .own _ => true
  | .dic _ _ => true
  | .inst _ _ _ => true
  | _ => false
def Slot.has : Slot → Bool
  | .no => false
  | _ => true
def kD : Key → D
  | .inl i => .int i
  | .inr s => .str s
/-- an error, as it lies behind a raise -/
def ExR (K : PySem.W.Frag) (mg : Str → Option Value) (A : List Addr) (H : Hp) (e : Ex) (c : Value) (dd : Option Addr) : Prop :=
  ∃ C, c = .ref C ∧ mg e.c = some (.ref C) ∧ ((e.ns = [] ∧ dd = none) ∨ ∃ d fs, dd = some d ∧ H d = some (.xd fs) ∧ d ∉ A ∧ ∀ (i : Nat) n x, e.ns[i]? = some n → e.l[i]? = some x → ∃ v, fs.lookup n = some v ∧ Rep K mg (off A H) x v)
theorem ExR.to {K : PySem.W.Frag} {mg : Str → Option Value} {A A' : List Addr} {H H' : Hp} {e : Ex} {c : Value} {dd : Option Addr} (sm : Same (off A H) (off A' H')) : ExR K mg A H e c dd → ExR K mg A' H' e c dd := fun ⟨C, e1, e2, z⟩ =>
  ⟨C, e1, e2, z.imp id fun ⟨d, fs, h1, h2, h3, h4⟩ => by
    have q := sm _ _ (off_at h2 h3)
    have q2 : d ∉ A' := fun m => by
      unfold off at q
      rw [if_pos m] at q
      cases q
    exact ⟨d, fs, h1, off_le _ _ q, q2, fun i n x g1 g2 => let ⟨v, r1, r2⟩ := h4 i n x g1 g2; ⟨v, r1, r2.mono sm⟩⟩⟩
def SlotR (K : PySem.W.Frag) (mg : Str → Option Value) (xx : Addr × Option Addr × Value) (A : List Addr) (H : Hp) : Slot → Option V → Prop
  | .no, _ => True
  | .val d, o => ∃ v, o = some v ∧ Rep K mg (off A H) d v
  | .own l, o => ∃ a vs, o = some (.ref a) ∧ a ∈ A ∧ H a = some (.lst vs) ∧ Reps K mg (off A H) l vs
  | .dic ks vs, o => ∃ a kvs, o = some (.ref a) ∧ a ∈ A ∧ H a = some (.dK kvs) ∧ ks = kvs.map (fun p => kD p.1) ∧ Reps K mg (off A H) vs (kvs.map (·.2))
  | .inst c ns l, o => ∃ a C dx fvs, o = some (.ref a) ∧ a ∈ A ∧ mg c = some (.ref C) ∧ H a = some (.ins C dx (ns.zip fvs)) ∧ ns.length = fvs.length ∧ Reps K mg (off A H) l fvs
  | .ex e, o => o = some (.ref xx.1) ∧ ExR K mg A H e xx.2.2 xx.2.1
structure SR (K : PySem.W.Frag) (mg : Str → Option Value) (w : Wd) (A : List Addr) (ρ : Ev) (σ : St) (H : Hp) : Prop where
  len : ρ.length = σ.length
  slots : ∀ (i : Nat) s o, ρ[i]? = some s → σ[i]? = some o → SlotR K mg w.xx A H s o
  dist : ∀ (i j : Nat) s t a, ρ[i]? = some s → ρ[j]? = some t → s.isOwn = true → t.isOwn = true → σ[i]? = some (some (.ref a)) → σ[j]? = some (some (.ref a)) → i = j
  sub : ∀ a ∈ w.B, a ∈ A
  trk : ∀ a ∈ A, H a ≠ none
  frame : ∀ a o, w.G a = some o → a ∉ w.Op → H a = some o
  mine : ∀ (i : Nat) s a, ρ[i]? = some s → s.isOwn = true → σ[i]? = some (some (.ref a)) → a ∈ w.Op ∨ (w.G a = none ∧ a ∉ w.B)
  opB : ∀ a ∈ w.Op, a ∈ w.B
  par : ∀ p ∈ w.pa, p.1 < w.np ∧ σ[p.1]? = some (some (.ref p.2)) ∧ ∃ s, ρ[p.1]? = some s ∧ s.isOwn = true
section
variable {K : PySem.W.Frag} {mg : Str → Option Value} {w : Wd} {A : List Addr} {ρ : Ev} {σ : St} {H H' : Hp}
theorem SlotR.same {xx : Addr × Option Addr × Value} (sm : Same H H') : ∀ {s : Slot} {o : Option V}, SlotR K mg xx A H s o → SlotR K mg xx A H' s o
  | .no, _, _ => trivial
  | .val d, _, ⟨v, e, r⟩ => ⟨v, e, r.mono (off_Same sm)⟩
  | .own l, _, ⟨a, vs, e, m, h, r⟩ => ⟨a, vs, e, m, sm _ _ h, r.mono (off_Same sm)⟩
  | .dic _ _, _, ⟨a, kvs, e, m, h, k, r⟩ => ⟨a, kvs, e, m, sm _ _ h, k, r.mono (off_Same sm)⟩
  | .inst _ _ _, _, ⟨a, C, dx, fvs, e, m, c, h, n, r⟩ => ⟨a, C, dx, fvs, e, m, c, sm _ _ h, n, r.mono (off_Same sm)⟩
  | .ex _, _, ⟨e, r⟩ => ⟨e, r.to (off_Same sm)⟩
theorem SR.same (sm : Same H H') (R : SR K mg w A ρ σ H) : SR K mg w A ρ σ H' :=
  { len := R.len, slots := fun i s o h1 h2 => (R.slots i s o h1 h2).same sm, dist := R.dist, sub := R.sub, mine := R.mine, opB := R.opB, par := R.par
    frame := fun a o h n => sm _ _ (R.frame a o h n)
    trk := fun a ha z => by
      cases e : H a with
      | none => exact R.trk a ha e
      | some o => rw [sm _ _ e] at z; cases z }
theorem same_upd {a : Addr} {o : HO} (n : H a = none) : Same H (upd H a o) := fun b u h => by rw [upd_ne (ne_of_none h n)]; exact h
theorem SR.new {a : Addr} {o : HO} (R : SR K mg w A ρ σ H) (n : H a = none) : SR K mg w A ρ σ (upd H a o) := R.same (same_upd n)
theorem SR.notA {a : Addr} (R : SR K mg w A ρ σ H) (n : H a = none) : a ∉ A := fun z => R.trk a z n
/-- a slot's value -/
theorem SR.val {i : Nat} {d : D} (R : SR K mg w A ρ σ H) (h : ρ[i]? = some (.val d)) : ∃ v, σ[i]? = some (some v) ∧ Rep K mg (off A H) d v := by
  have hi : i < σ.length := by rw [← R.len]; exact (List.getElem?_eq_some_iff.mp h).1
  have e : σ[i]? = some σ[i] := by simp [hi]
  obtain ⟨v, e1, r⟩ := R.slots i _ _ h e
  rw [e1] at e
  exact ⟨v, e, r⟩
theorem SR.at' {i : Nat} {s : Slot} (R : SR K mg w A ρ σ H) (h : ρ[i]? = some s) : ∃ o, σ[i]? = some o ∧ SlotR K mg w.xx A H s o := by
  have hi : i < σ.length := by rw [← R.len]; exact (List.getElem?_eq_some_iff.mp h).1
  have e : σ[i]? = some σ[i] := by simp [hi]
  exact ⟨_, e, R.slots i _ _ h e⟩
end
theorem SlotR.exi {K : PySem.W.Frag} {mg : Str → Option Value} {xx : Addr × Option Addr × Value} {A : List Addr} {H : Hp} : ∀ {s : Slot} {o : Option V}, SlotR K mg xx A H s o → s.has = true → ∃ v, o = some v
  | .no, _, _, h => by cases h
  | .val _, _, ⟨v, e, _⟩, _ => ⟨v, e⟩
  | .own _, _, ⟨_, _, e, _⟩, _ => ⟨_, e⟩
  | .dic _ _, _, ⟨_, _, e, _⟩, _ => ⟨_, e⟩
  | .inst _ _ _, _, ⟨_, _, _, _, e, _⟩, _ => ⟨_, e⟩
  | .ex _, _, ⟨e, _⟩, _ => ⟨_, e⟩
theorem SR.has {K : PySem.W.Frag} {mg : Str → Option Value} {w : Wd} {A : List Addr} {ρ : Ev} {σ : St} {H : Hp} {i : Nat} {s : Slot} (R : SR K mg w A ρ σ H) (h : ρ[i]? = some s) (hh : s.has = true) : ∃ v, σ[i]? = some (some v) := by
  obtain ⟨o, e, r⟩ := R.at' h
  obtain ⟨v, e1⟩ := r.exi hh
  exact ⟨v, e1 ▸ e⟩
/-- what is wished for of an exception; in an except suite: which error is caught -/
structure WZ where
  x : WX
  Z : Wd → Prop
instance : CoeFun WZ fun _ => Value → Option Addr → St → Hp → Prop := ⟨WZ.x⟩
abbrev WS (W : WZ) := { w : Wd // W.Z w }
structure TakesZ (X : Cx) (W : WZ) : Prop where
  t : Takes X W.x
  z : X.calm = false → ∀ w, W.Z w → ∃ oe, X.pn.head? = some (w.xx.1, oe) ∧ oe.cls = w.xx.2.2 ∧ oe.dict = w.xx.2.1
def Ext (A : List Addr) (H H' : Hp) : Prop := ∀ a o, a ∉ A → H a = some o → H' a = some o
theorem Ext.refl {A : List Addr} {H : Hp} : Ext A H H := fun _ _ _ h => h
theorem Ext.trans {A : List Addr} {H H1 H2 : Hp} (a : Ext A H H1) (b : Ext A H1 H2) : Ext A H H2 := fun c o n h => b c o n (a c o n h)
theorem Ext.of {A : List Addr} {H H' : Hp} (s : Same H H') : Ext A H H' := fun a o _ h => s a o h
theorem Ext.off {A : List Addr} {H H' : Hp} (s : Ext A H H') : Same (off A H) (off A H') := off_same s
def tE (K : PySem.W.Frag) (mg : Str → Option Value) (W : WZ) (m : M D) : TE := fun σ H Q => ∃ (w : WS W) (A : List Addr) (ρ : Ev), SR K mg w.1 A ρ σ H ∧ match m ρ with
  | .ok d ρ' => ∀ v H', Ext A H H' → SR K mg w.1 A ρ' σ H' → Rep K mg (off A H') d v → Q v H'
  | .exc e ρ' => ∀ c dd H', Ext A H H' → SR K mg w.1 A ρ' σ H' → ExR K mg A H' e c dd → W c dd σ H'
  | .bad => False
def tT (K : PySem.W.Frag) (mg : Str → Option Value) (W : WZ) (m : M Bool) : TT := fun σ H Q => ∃ (w : WS W) (A : List Addr) (ρ : Ev), SR K mg w.1 A ρ σ H ∧ match m ρ with
  | .ok b ρ' => ∀ H', Ext A H H' → SR K mg w.1 A ρ' σ H' → Q b H'
  | .exc e ρ' => ∀ c dd H', Ext A H H' → SR K mg w.1 A ρ' σ H' → ExR K mg A H' e c dd → W c dd σ H'
  | .bad => False
/-- an argument: a value, or the name of a thing of one's own -/
inductive AV where
  | d (d : D) | o (i : Nat)
inductive Arg where
  | v (m : M D) | o (i : Nat)
def Arg.ev : Arg → M AV
  | .v m => M.bnd m fun d => M.ret (.d d)
  | .o i => fun ρ => match ρ[i]? with
    | some s => if s.has then .ok (.o i) ρ else .bad
    | none => .bad
def evs : List Arg → M (List AV)
  | [] => M.ret []
  | a :: r => M.bnd a.ev fun x => M.bnd (evs r) fun xs => M.ret (x :: xs)
def AVR (K : PySem.W.Frag) (mg : Str → Option Value) (A : List Addr) (σ : St) (H : Hp) : AV → V → Prop
  | .d d, v => Rep K mg (off A H) d v
  | .o i, v => σ[i]? = some (some v)
def AVRs (K : PySem.W.Frag) (mg : Str → Option Value) (A : List Addr) (σ : St) (H : Hp) : List AV → List V → Prop
  | [], vs => vs = []
  | a :: as, vs => ∃ v r, vs = v :: r ∧ AVR K mg A σ H a v ∧ AVRs K mg A σ H as r
theorem AVR.ext {K : PySem.W.Frag} {mg : Str → Option Value} {A : List Addr} {σ : St} {H H' : Hp} (s : Ext A H H') : ∀ {a : AV} {v : V}, AVR K mg A σ H a v → AVR K mg A σ H' a v
  | .d d, v, h => Rep.mono s.off d v h
  | .o _, _, h => h
def tO (K : PySem.W.Frag) (mg : Str → Option Value) (W : WZ) (a : Arg) : TE := fun σ H Q => ∃ (w : WS W) (A : List Addr) (ρ : Ev), SR K mg w.1 A ρ σ H ∧ match a.ev ρ with
  | .ok x ρ' => ∀ v H', Ext A H H' → SR K mg w.1 A ρ' σ H' → AVR K mg A σ H' x v → Q v H'
  | .exc e ρ' => ∀ c dd H', Ext A H H' → SR K mg w.1 A ρ' σ H' → ExR K mg A H' e c dd → W c dd σ H'
  | .bad => False
def tA (K : PySem.W.Frag) (mg : Str → Option Value) (W : WZ) (as : List Arg) : TA := fun σ H Q => ∃ (w : WS W) (A : List Addr) (ρ : Ev), SR K mg w.1 A ρ σ H ∧ match evs as ρ with
  | .ok xs ρ' => ∀ vs H', Ext A H H' → SR K mg w.1 A ρ' σ H' → AVRs K mg A σ H' xs vs → Q vs H'
  | .exc e ρ' => ∀ c dd H', Ext A H H' → SR K mg w.1 A ρ' σ H' → ExR K mg A H' e c dd → W c dd σ H'
  | .bad => False
def tS (K : PySem.W.Frag) (mg : Str → Option Value) (np : Nat) (W : WZ) (m : S) : TS := fun E σ H => ∃ (w : WS W) (A : List Addr) (ρ : Ev), w.1.np = np ∧ SR K mg w.1 A ρ σ H ∧ match m ρ with
  | .nx ρ' => ∀ A' σ' H', Same (off A H) (off A' H') → SR K mg w.1 A' ρ' σ' H' → E.nx σ' H'
  | .rt d ρ' => ∀ A' σ' H' v, SR K mg w.1 A' ρ' σ' H' → Rep K mg (off A' H') d v → E.rt v H'
  | .bk ρ' => ∀ A' σ' H', Same (off A H) (off A' H') → SR K mg w.1 A' ρ' σ' H' → E.bk σ' H'
  | .ct ρ' => ∀ A' σ' H', Same (off A H) (off A' H') → SR K mg w.1 A' ρ' σ' H' → E.ct σ' H'
  | .exc e ρ' => ∀ A' σ' H' c dd, Same (off A H) (off A' H') → SR K mg w.1 A' ρ' σ' H' → ExR K mg A' H' e c dd → W c dd σ' H'
  | .bad => False
def DE (X : Cx) (e : Expr) (m : M D) : Prop := ∀ W : WZ, TakesZ X W → PE X e (tE X.K X.mg W m)
def DT (X : Cx) (e : Expr) (m : M Bool) : Prop := ∀ W : WZ, TakesZ X W → PT X e (tT X.K X.mg W m)
def DW (X : Cx) (e : Expr) (m : M Bool) : Prop := ∀ W : WZ, TakesZ X W → PW X e (tT X.K X.mg W m)
def DO (X : Cx) (e : Expr) (a : Arg) : Prop := ∀ W : WZ, TakesZ X W → PE X e (tO X.K X.mg W a)
def DA (X : Cx) (es : List Expr) (as : List Arg) : Prop := ∀ W : WZ, TakesZ X W → PA X es (tA X.K X.mg W as)
def DS (X : Cx) (np : Nat) (st : Stmt) (m : S) : Prop := ∀ W : WZ, TakesZ X W → PS X st (tS X.K X.mg np W m)
def DSs (X : Cx) (np : Nat) (st : List Stmt) (m : S) : Prop := ∀ W : WZ, TakesZ X W → PSs X st (tS X.K X.mg np W m)
section
variable {X : Cx} {e : Expr}
theorem pe_imp {t t' : TE} (h : PE X e t) (q : ∀ σ H Q, t' σ H Q → t σ H Q) : PE X e t' := ⟨fun pins s σ H Q I hw => h.run pins s σ H Q I (q σ H Q hw)⟩
theorem pt_imp {t t' : TT} (h : PT X e t) (q : ∀ σ H Q, t' σ H Q → t σ H Q) : PT X e t' := ⟨fun pins s σ H Q I hw => h.run pins s σ H Q I (q σ H Q hw)⟩
theorem pw_imp {t t' : TT} (h : PW X e t) (q : ∀ σ H Q, t' σ H Q → t σ H Q) : PW X e t' := ⟨fun wh pins s σ H Q I hw => h.run wh pins s σ H Q I (q σ H Q hw)⟩
theorem pa_imp {es : List Expr} {t t' : TA} (h : PA X es t) (q : ∀ σ H Q, t' σ H Q → t σ H Q) : PA X es t' := ⟨fun pos pins s σ H Q I hw => h.run pos pins s σ H Q I (q σ H Q hw)⟩
theorem ps_imp {st : Stmt} {t t' : TS} (h : PS X st t) (q : ∀ E σ H, t' E σ H → t E σ H) : PS X st t' := ⟨fun pins s σ H E I hw => h.run pins s σ H E I (q E σ H hw)⟩
theorem pss_imp {st : List Stmt} {t t' : TS} (h : PSs X st t) (q : ∀ E σ H, t' E σ H → t E σ H) : PSs X st t' := ⟨fun pins s σ H E I hw => h.run pins s σ H E I (q E σ H hw)⟩
end
end DL
namespace DL
open PySem L2
def Rep1 (K : PySem.W.Frag) (mg : Str → Option Value) (A : List Addr) (H : Hp) : D → V → Prop
  | .lst l, v => ∃ a xs, v = .ref a ∧ H a = some (.lst xs) ∧ Reps K mg (off A H) l xs
  | .obj c ns l, v => ∃ a C dx fvs, v = .ref a ∧ mg c = some (.ref C) ∧ H a = some (.ins C dx (ns.zip fvs)) ∧ ns.length = fvs.length ∧ Reps K mg (off A H) l fvs
  | d, v => Rep K mg (off A H) d v
section
variable {K : PySem.W.Frag} {mg : Str → Option Value} {w : Wd} {A : List Addr} {ρ ρ' : Ev} {σ : St} {H H' : Hp}
theorem Rep1.of : ∀ {d : D} {v : V}, Rep K mg (off A H) d v → Rep1 K mg A H d v
  | .lst l, _, ⟨a, xs, e, q, r⟩ => ⟨a, xs, e, off_le _ _ q, r⟩
  | .obj _ _ l, _, ⟨a, C, dx, fvs, e, m, q, n, r⟩ => ⟨a, C, dx, fvs, e, m, off_le _ _ q, n, r⟩
  | .non, _, h => h
  | .bl _, _, h => h
  | .int _, _, h => h
  | .str _, _, h => h
  | .fn _, _, h => h
  | .tup _, _, h => h
  | .scr _, _, h => h
def Slot.rd : Slot → Option D
  | .val d => some d
  | .own l => some (.lst l)
  | .inst c ns l => some (.obj c ns l)
  | _ => none
def rs : AV → Ev → Option D
  | .d d, _ => some d
  | .o i, ρ => (ρ[i]?).bind Slot.rd
def rss : List AV → Ev → Option (List D)
  | [], _ => some []
  | a :: as, ρ => (rs a ρ).bind fun d => (rss as ρ).map fun ds => d :: ds
inductive Reps1 (K : PySem.W.Frag) (mg : Str → Option Value) (A : List Addr) (H : Hp) : List D → List V → Prop
  | nil : Reps1 K mg A H [] []
  | cons {d v ds vs} : Rep1 K mg A H d v → Reps1 K mg A H ds vs → Reps1 K mg A H (d :: ds) (v :: vs)
theorem rs_rep (R : SR K mg w A ρ σ H) {x : AV} {v : V} {d : D} (h : AVR K mg A σ H x v) (e : rs x ρ = some d) : Rep1 K mg A H d v := by
  cases x with
  | d d' =>
    cases (Option.some.inj e)
    exact Rep1.of h
  | o i =>
    obtain ⟨s, hs, e⟩ := Option.bind_eq_some_iff.mp e
    obtain ⟨o, ho, r⟩ := R.at' hs
    have h' : σ[i]? = some (some v) := h
    rw [h'] at ho
    cases ho
    cases s with
    | val d' =>
      cases (Option.some.inj e)
      obtain ⟨v', e', r⟩ := r
      cases e'
      exact Rep1.of r
    | own l =>
      cases (Option.some.inj e)
      obtain ⟨a, vs, e', m, hh, r⟩ := r
      cases e'
      exact ⟨a, vs, rfl, hh, r⟩
    | inst c ns l =>
      cases (Option.some.inj e)
      obtain ⟨a, C, dx, fvs, e', m, c, hh, n, r⟩ := r
      cases e'
      exact ⟨a, C, dx, fvs, rfl, c, hh, n, r⟩
    | no => cases e
    | dic _ _ => cases e
    | ex _ => cases e
theorem rss_rep (R : SR K mg w A ρ σ H) : ∀ {xs : List AV} {vs : List V} {ds : List D}, AVRs K mg A σ H xs vs → rss xs ρ = some ds → Reps1 K mg A H ds vs
  | [], vs, ds, h, e => by
    rw [show vs = [] from h]
    cases (Option.some.inj e)
    exact .nil
  | x :: xs, vs, ds, ⟨v, r, e1, h, t⟩, e => by
    subst e1
    obtain ⟨d, hd, e⟩ := Option.bind_eq_some_iff.mp e
    obtain ⟨ds', hds, e⟩ := Option.map_eq_some_iff.mp e
    subst e
    exact .cons (rs_rep R h hd) (rss_rep R t hds)
end
def op1 (f : D → Option D) (a : Arg) : M D := M.bnd a.ev fun x ρ => match (rs x ρ).bind f with
  | some r => .ok r ρ
  | none => .bad
def op2 (f : D → D → Option D) (a b : Arg) : M D := M.bnd a.ev fun x => M.bnd b.ev fun y ρ => match (rs x ρ).bind fun p => (rs y ρ).bind fun q => f p q with
  | some r => .ok r ρ
  | none => .bad
def opN (f : List D → Option D) (as : List Arg) : M D := M.bnd (evs as) fun xs ρ => match (rss xs ρ).bind f with
  | some r => .ok r ρ
  | none => .bad
def Trk (A : List Addr) (H : Hp) : Prop := ∀ a ∈ A, H a ≠ none
/-- the reading r of values is served by the function f of data -/
def Snd1 (K : PySem.W.Frag) (mg : Str → Option Value) (r : V → Hp → VK → Prop) (f : D → Option D) : Prop :=
  ∀ (A : List Addr) (H : Hp) (x d : D) (v : V) (Q : VK), Trk A H → Rep1 K mg A H x v → f x = some d → (∀ v' H', Same H H' → Rep K mg (off A H') d v' → Q v' H') → r v H Q
def Snd2 (K : PySem.W.Frag) (mg : Str → Option Value) (r : R2) (f : D → D → Option D) : Prop :=
  ∀ (A : List Addr) (H : Hp) (x y d : D) (v u : V) (Q : VK), Trk A H → Rep1 K mg A H x v → Rep1 K mg A H y u → f x y = some d → (∀ v' H', Same H H' → Rep K mg (off A H') d v' → Q v' H') → r v u H Q
def SndN (K : PySem.W.Frag) (mg : Str → Option Value) (r : List V → Hp → VK → Prop) (f : List D → Option D) : Prop :=
  ∀ (A : List Addr) (H : Hp) (xs : List D) (d : D) (vs : List V) (Q : VK), Trk A H → Reps1 K mg A H xs vs → f xs = some d → (∀ v' H', Same H H' → Rep K mg (off A H') d v' → Q v' H') → r vs H Q
section
variable {X : Cx} {e a b : Expr} {es : List Expr} {x y : Arg} {as : List Arg} {pos : Pos}
def var (i : Nat) : M D := fun ρ => match ρ[i]? with
  | some (.val d) => .ok d ρ
  | _ => .bad
theorem de_ret {d : D} {v : V} (h : PE X e (tC v)) (r : ∀ F, Rep X.K X.mg F d v) : DE X e (M.ret d) := fun W _ => pe_imp h fun σ H Q ⟨w, A, ρ, R, q⟩ => q _ H Ext.refl R (r _)
theorem de_int {i : Int} {j} : DE X (.Constant (.int i) j pos) (M.ret (.int i)) := de_ret pe_int fun _ => rfl
theorem de_bl {i : Bool} {j} : DE X (.Constant (.bool i) j pos) (M.ret (.bl i)) := de_ret pe_bl fun _ => rfl
theorem de_non {j} : DE X (.Constant .none j pos) (M.ret .non) := de_ret pe_non fun _ => rfl
theorem de_str {i : Str} {j} : DE X (.Constant (.str i) j pos) (M.ret (.str i)) := de_ret pe_str fun _ => rfl
theorem de_var {i : Nat} (h : PE X e (tVar i)) : DE X e (var i) := fun W _ => pe_imp h fun σ H Q ⟨w, A, ρ, R, q⟩ => by
  unfold var at q
  cases hs : ρ[i]? with
  | none => rw [hs] at q; exact q.elim
  | some s =>
    rw [hs] at q
    cases s with
    | val d =>
      obtain ⟨v, e1, r⟩ := R.val hs
      exact ⟨v, e1, q v H Ext.refl R r⟩
    | _ => exact q.elim
theorem do_v {m : M D} (h : DE X e m) : DO X e (.v m) := fun W tk => pe_imp (h W tk) fun σ H Q ⟨w, A, ρ, R, q⟩ => by
  refine ⟨w, A, ρ, R, ?_⟩
  have e0 : (Arg.v m).ev ρ = M.bnd m (fun d => M.ret (AV.d d)) ρ := rfl
  rw [e0] at q
  cases hm : m ρ with
  | ok d ρ' => rw [bnd_ok hm] at q; exact fun v H' ex R' r => q v H' ex R' r
  | exc e ρ' => rw [bnd_exc hm] at q; exact q
  | bad => rw [bnd_bad hm] at q; exact q
/-- the name of a thing (own or a value), only looked at -/
theorem do_o {i : Nat} (h : PE X e (tVar i)) : DO X e (.o i) := fun W _ => pe_imp h fun σ H Q ⟨w, A, ρ, R, q⟩ => by
  unfold Arg.ev at q
  dsimp only at q
  cases hs : ρ[i]? with
  | none => rw [hs] at q; exact q.elim
  | some s =>
    rw [hs] at q
    by_cases hh : s.has = true
    · obtain ⟨v, hv⟩ := R.has hs hh
      simp only [hh, if_true] at q
      exact ⟨v, hv, q v H Ext.refl R hv⟩
    · simp only [hh, if_false] at q
      exact q.elim
theorem da_nil : DA X [] [] := fun W _ => pa_imp pa_nil fun σ H Q ⟨w, A, ρ, R, q⟩ => q [] H Ext.refl R rfl
theorem da_cons (h : DO X e x) (t : DA X es as) (hs : starEach (e :: es) X.env = (false, eval e X.env) :: starEach es X.env := by rfl) : DA X (e :: es) (x :: as) := fun W tk => pa_imp (pa_cons (h W tk) (t W tk) hs) fun σ H Q ⟨w, A, ρ, R, q⟩ => by
  refine ⟨w, A, ρ, R, ?_⟩
  have e0 : evs (x :: as) ρ = M.bnd x.ev (fun v => M.bnd (evs as) fun vs => M.ret (v :: vs)) ρ := rfl
  rw [e0] at q
  cases hx : x.ev ρ with
  | exc e ρ1 => rw [bnd_exc hx] at q; exact q
  | bad => rw [bnd_bad hx] at q; exact q
  | ok v ρ1 =>
    rw [bnd_ok hx] at q
    intro vv H1 ex1 R1 r1
    refine ⟨w, A, ρ1, R1, ?_⟩
    cases hr : evs as ρ1 with
    | exc e ρ2 => rw [bnd_exc hr] at q; exact fun c dd H2 ex2 R2 z => q c dd H2 (ex1.trans ex2) R2 z
    | bad => rw [bnd_bad hr] at q; exact q
    | ok vs ρ2 => rw [bnd_ok hr] at q; exact fun us H2 ex2 R2 r2 => q _ H2 (ex1.trans ex2) R2 ⟨_, _, rfl, r1.ext ex2, r2⟩
theorem op_end {w : Wd} {A : List Addr} {ρ : Ev} {σ : St} {H H1 : Hp} {Q : VK} {d : D} (R1 : SR X.K X.mg w A ρ σ H1) (ex : Ext A H H1)
    (q : ∀ v H', Ext A H H' → SR X.K X.mg w A ρ σ H' → Rep X.K X.mg (off A H') d v → Q v H') : ∀ v' H', Same H1 H' → Rep X.K X.mg (off A H') d v' → Q v' H' :=
  fun v' H' s r => q v' H' (ex.trans (.of s)) (R1.same s) r
/-- an operation on two values -/
theorem de_two {r : R2} {f : D → D → Option D} {e : Expr} (hp : ∀ ta tb : TE, PE X a ta → PE X b tb → PE X e (tOp r ta tb)) (hs : Snd2 X.K X.mg r f) (ha : DO X a x) (hb : DO X b y) : DE X e (op2 f x y) := fun W tk =>
  pe_imp (hp _ _ (ha W tk) (hb W tk)) fun σ H Q ⟨w, A, ρ, R, q⟩ => by
    refine ⟨w, A, ρ, R, ?_⟩
    unfold op2 at q
    cases hx : x.ev ρ with
    | exc e ρ1 => rw [bnd_exc hx] at q; exact q
    | bad => rw [bnd_bad hx] at q; exact q
    | ok v ρ1 =>
      rw [bnd_ok hx] at q
      intro vv H1 ex1 R1 r1
      refine ⟨w, A, ρ1, R1, ?_⟩
      cases hy : y.ev ρ1 with
      | exc e ρ2 => rw [bnd_exc hy] at q; exact fun c dd H2 ex2 R2 z => q c dd H2 (ex1.trans ex2) R2 z
      | bad => rw [bnd_bad hy] at q; exact q
      | ok u ρ2 =>
        rw [bnd_ok hy] at q
        intro uu H2 ex2 R2 r2
        cases hd : (rs v ρ2).bind fun p => (rs u ρ2).bind fun q => f p q with
        | none => rw [hd] at q; exact q.elim
        | some d =>
          rw [hd] at q
          obtain ⟨p, hp, hd⟩ := Option.bind_eq_some_iff.mp hd
          obtain ⟨p', hp', hd⟩ := Option.bind_eq_some_iff.mp hd
          exact hs A H2 p p' d vv uu Q R2.trk (rs_rep R2 (r1.ext ex2) hp) (rs_rep R2 r2 hp') hd (op_end R2 (ex1.trans ex2) q)
theorem de_one {r : V → Hp → VK → Prop} {f : D → Option D} {e : Expr} (hp : ∀ ta : TE, PE X a ta → PE X e (tUn r ta)) (hs : Snd1 X.K X.mg r f) (ha : DO X a x) : DE X e (op1 f x) := fun W tk =>
  pe_imp (hp _ (ha W tk)) fun σ H Q ⟨w, A, ρ, R, q⟩ => by
    refine ⟨w, A, ρ, R, ?_⟩
    unfold op1 at q
    cases hx : x.ev ρ with
    | exc e ρ1 => rw [bnd_exc hx] at q; exact q
    | bad => rw [bnd_bad hx] at q; exact q
    | ok v ρ1 =>
      rw [bnd_ok hx] at q
      intro vv H1 ex1 R1 r1
      cases hd : (rs v ρ1).bind f with
      | none => rw [hd] at q; exact q.elim
      | some d =>
        rw [hd] at q
        obtain ⟨p, hp, hd⟩ := Option.bind_eq_some_iff.mp hd
        exact hs A H1 p d vv Q R1.trk (rs_rep R1 r1 hp) hd (op_end R1 ex1 q)
theorem de_many {r : List V → Hp → VK → Prop} {f : List D → Option D} {e : Expr} (hp : ∀ t : TA, PA X es t → PE X e (tCB r t)) (hs : SndN X.K X.mg r f) (ha : DA X es as) : DE X e (opN f as) := fun W tk =>
  pe_imp (hp _ (ha W tk)) fun σ H Q ⟨w, A, ρ, R, q⟩ => by
    refine ⟨w, A, ρ, R, ?_⟩
    unfold opN at q
    cases hx : evs as ρ with
    | exc e ρ1 => rw [bnd_exc hx] at q; exact q
    | bad => rw [bnd_bad hx] at q; exact q
    | ok v ρ1 =>
      rw [bnd_ok hx] at q
      intro vv H1 ex1 R1 r1
      cases hd : (rss v ρ1).bind f with
      | none => rw [hd] at q; exact q.elim
      | some d =>
        rw [hd] at q
        obtain ⟨p, hp, hd⟩ := Option.bind_eq_some_iff.mp hd
        exact hs A H1 p d vv Q R1.trk (rss_rep R1 r1 hp) hd (op_end R1 ex1 q)
end
end DL
namespace DL
open PySem L2
theorem OpR.or {X : Cx} {f : Value → Value → Sem Value} {r r' : R2} (h : OpR X f r) (h' : OpR X f r') : OpR X f (fun x y H Q => r x y H Q ∨ r' x y H Q) :=
  fun pins s σ H x y v u Q I rx ry q => q.elim (h pins s σ H x y v u Q I rx ry) (h' pins s σ H x y v u Q I rx ry)
theorem ite_some {α : Type} {c : Prop} [Decidable c] {a d : α} (h : (if c then some a else none) = some d) : c ∧ a = d := by
  by_cases hc : c
  · rw [if_pos hc] at h; exact ⟨hc, Option.some.inj h⟩
  · rw [if_neg hc] at h; cases h
section
variable {K : PySem.W.Frag} {mg : Str → Option Value} {A : List Addr} {H : Hp}
theorem Trk.not {a : Addr} (t : Trk A H) (n : H a = none) : a ∉ A := fun z => t a z n
/-- a new list, a new tuple -/
theorem rep_lst {p : Addr} {vs : List V} {l : List D} (t : Trk A H) (n : H p = none) (r : Reps K mg (off A H) l vs) : Rep K mg (off A (upd H p (.lst vs))) (.lst l) (.ref p) :=
  ⟨p, vs, rfl, off_at upd_same (t.not n), r.mono (off_Same (same_upd n))⟩
theorem rep_tup {p : Addr} {vs : List V} {l : List D} (t : Trk A H) (n : H p = none) (r : Reps K mg (off A H) l vs) : Rep K mg (off A (upd H p (.tup vs))) (.tup l) (.ref p) :=
  ⟨p, vs, rfl, SqT.of (off_at upd_same (t.not n)), r.mono (off_Same (same_upd n))⟩
theorem Trk.upd {p : Addr} {o : HO} (t : Trk A H) : Trk A (upd H p o) := fun a ha z => by
  unfold L2.upd at z
  split at z
  · cases z
  · exact t a ha z
end
def D.add : D → D → Option D
  | .int i, .int j => some (.int (i + j))
  | .str a, .str b => if a.length + b.length ≤ sizeLine then some (.str (a ++ b)) else none
  | .lst a, .lst b => if a.length + b.length ≤ sizeLine then some (.lst (a ++ b)) else none
  | .tup a, .tup b => if a.length + b.length ≤ sizeLine then some (.tup (a ++ b)) else none
  | _, _ => none
def D.sub : D → D → Option D
  | .int i, .int j => some (.int (i - j))
  | _, _ => none
def D.mul : D → D → Option D
  | .int i, .int j => if (decide (-(2 ^ 64) < i) && decide (i < 2 ^ 64)) || (decide (-(2 ^ 64) < j) && decide (j < 2 ^ 64)) then some (.int (i * j)) else none
  | _, _ => none
def D.fdiv : D → D → Option D
  | .int i, .int j => if 0 < j ∧ j < 1073741824 then some (.int (i / j)) else none
  | _, _ => none
def D.mod : D → D → Option D
  | .int i, .int j => if 0 < j then some (.int (i % j)) else none
  | _, _ => none
def D.pow : D → D → Option D
  | .int i, .int j => if 0 ≤ j ∧ j ≤ 1000000 ∧ i.natAbs < 2 ^ 64 then some (.int (i ^ j.toNat)) else none
  | _, _ => none
def D.neg : D → Option D
  | .int i => some (.int (-i))
  | _ => none
section
variable {X : Cx} {a b : Expr} {x y : Arg} {pos : Pos} {K : PySem.W.Frag} {mg : Str → Option Value}
def rAddD (K : PySem.W.Frag) : R2 := fun x y H Q => (rI0 (fun i j => .int (i + j)) x y H Q ∨ (∃ i j, x = .str i ∧ y = .str j ∧ i.length + j.length ≤ sizeLine ∧ Q (.str (i ++ j)) H)) ∨ (rCat x y H Q ∨ rCatA K x y H Q)
theorem op_addD : OpR X (binaryOp .Add) (rAddD X.K) := (op_add.or op_add_str).or (op_cat.or op_catA)
theorem snd_add : Snd2 K mg (rAddD K) D.add := by
  intro A H x y d v u Q tk rx ry e q
  cases x with
  | int i =>
    cases y with
    | int j =>
      cases (Option.some.inj e)
      exact .inl (.inl ⟨i, j, rx, ry, q _ _ (Same.refl _) rfl⟩)
    | _ => cases e
  | str i =>
    cases y with
    | str j =>
      obtain ⟨hz, rfl⟩ := ite_some e
      exact .inl (.inr ⟨i, j, rx, ry, hz, q _ _ (Same.refl _) rfl⟩)
    | _ => cases e
  | lst i =>
    cases y with
    | lst j =>
      obtain ⟨hz, rfl⟩ := ite_some e
      obtain ⟨p, vs, e1, h1, r1⟩ := rx
      obtain ⟨p', us, e2, h2, r2⟩ := ry
      exact .inr (.inl ⟨p, p', vs, us, e1, e2, h1, h2, by rw [← r1.length, ← r2.length]; exact hz, fun t nt => q _ _ (same_upd nt) (rep_lst tk nt (r1.append r2))⟩)
    | _ => cases e
  | tup i =>
    cases y with
    | tup j =>
      obtain ⟨hz, rfl⟩ := ite_some e
      · obtain ⟨p, vs, e1, h1, r1⟩ := rx
        obtain ⟨p', us, e2, h2, r2⟩ := ry
        refine .inr (.inr ⟨p, p', vs, us, e1, e2, SqT.mono off_le h1, SqT.mono off_le h2, by rw [← r1.length, ← r2.length]; exact hz, fun z => ?_, fun _ z => ?_, fun _ _ t nt => q _ _ (same_upd nt) (rep_tup tk nt (r1.append r2))⟩)
        · subst z
          have : i = [] := List.eq_nil_of_length_eq_zero (by rw [r1.length]; rfl)
          subst this
          exact q _ _ (Same.refl _) ⟨p', us, rfl, h2, r2⟩
        · subst z
          have : j = [] := List.eq_nil_of_length_eq_zero (by rw [r2.length]; rfl)
          subst this
          rw [List.append_nil] at q
          exact q _ _ (Same.refl _) ⟨p, vs, rfl, h1, r1⟩
    | _ => cases e
  | _ => cases e
theorem de_add (ha : DO X a x) (hb : DO X b y) : DE X (.BinOp a .Add b pos) (op2 D.add x y) := de_two (fun _ _ h1 h2 => pe_op op_addD h1 h2) snd_add ha hb
theorem snd_int2 {C : Int → Int → Prop} {g : Int → Int → Int} {f : D → D → Option D} (hf : ∀ x y d, f x y = some d → ∃ i j, x = .int i ∧ y = .int j ∧ C i j ∧ d = .int (g i j)) : Snd2 K mg (rI C fun i j => .int (g i j)) f := by
  intro A H x y d v u Q tk rx ry e q
  obtain ⟨i, j, rfl, rfl, c, rfl⟩ := hf _ _ _ e
  exact ⟨i, j, rx, ry, c, q _ _ (Same.refl _) rfl⟩
theorem de_sub (ha : DO X a x) (hb : DO X b y) : DE X (.BinOp a .Sub b pos) (op2 D.sub x y) := de_two (r := rI0 fun i j => .int (i - j)) (fun _ _ h1 h2 => pe_op op_sub h1 h2) (by
  intro A H x y d v u Q tk rx ry e q
  cases x with
  | int i => cases y with
    | int j => cases (Option.some.inj e); exact ⟨i, j, rx, ry, q _ _ (Same.refl _) rfl⟩
    | _ => cases e
  | _ => cases e) ha hb
theorem de_mul (ha : DO X a x) (hb : DO X b y) : DE X (.BinOp a .Mult b pos) (op2 D.mul x y) := de_two (fun _ _ h1 h2 => pe_op op_mul h1 h2) (snd_int2 (C := CMul) (g := fun i j => i * j) fun x y d e => by
  cases x with
  | int i => cases y with
    | int j =>
      obtain ⟨h, rfl⟩ := ite_some e
      refine ⟨i, j, rfl, rfl, ?_, rfl⟩
      simp only [Bool.or_eq_true, Bool.and_eq_true, decide_eq_true_eq] at h
      exact h
    | _ => cases e
  | _ => cases e) ha hb
theorem de_fdiv (ha : DO X a x) (hb : DO X b y) : DE X (.BinOp a .FloorDiv b pos) (op2 D.fdiv x y) := de_two (fun _ _ h1 h2 => pe_op op_fdiv h1 h2) (snd_int2 (C := CDiv) (g := fun i j => i / j) fun x y d e => by
  cases x with
  | int i => cases y with
    | int j =>
      obtain ⟨h, rfl⟩ := ite_some e
      exact ⟨i, j, rfl, rfl, h, rfl⟩
    | _ => cases e
  | _ => cases e) ha hb
theorem de_mod (ha : DO X a x) (hb : DO X b y) : DE X (.BinOp a .Mod b pos) (op2 D.mod x y) := de_two (fun _ _ h1 h2 => pe_op op_mod h1 h2) (snd_int2 (C := fun _ j => 0 < j) (g := fun i j => i % j) fun x y d e => by
  cases x with
  | int i => cases y with
    | int j =>
      obtain ⟨h, rfl⟩ := ite_some e
      exact ⟨i, j, rfl, rfl, h, rfl⟩
    | _ => cases e
  | _ => cases e) ha hb
theorem de_pow (ha : DO X a x) (hb : DO X b y) : DE X (.BinOp a .Pow b pos) (op2 D.pow x y) := de_two (fun _ _ h1 h2 => pe_op op_pow h1 h2) (snd_int2 (C := CPow) (g := fun i j => i ^ j.toNat) fun x y d e => by
  cases x with
  | int i => cases y with
    | int j =>
      obtain ⟨h, rfl⟩ := ite_some e
      exact ⟨i, j, rfl, rfl, h, rfl⟩
    | _ => cases e
  | _ => cases e) ha hb
theorem de_neg (ha : DO X a x) : DE X (.UnaryOp .USub a pos) (op1 D.neg x) := de_one (r := rU fun i => .int (-i)) (fun _ h1 => pe_un un_neg h1) (by
  intro A H x d v Q tk rx e q
  cases x with
  | int i => cases (Option.some.inj e); exact ⟨i, rx, q _ _ (Same.refl _) rfl⟩
  | _ => cases e) ha
def D.isTrue : D → Option Bool
  | .bl b => some b
  | _ => none
def asTest (m : M D) : M Bool := M.bnd m fun d ρ => match d with
  | .bl b => .ok b ρ
  | _ => .bad
theorem dt_of {e : Expr} {m : M D} (hp : ∀ t : TE, PE X e t → PT X e (tTest t)) (h : DE X e m) : DT X e (asTest m) := fun W tk => pt_imp (hp _ (h W tk)) fun σ H Q ⟨w, A, ρ, R, q⟩ => by
  refine ⟨w, A, ρ, R, ?_⟩
  unfold asTest at q
  cases hm : m ρ with
  | exc e ρ1 => rw [bnd_exc hm] at q; exact q
  | bad => rw [bnd_bad hm] at q; exact q
  | ok d ρ1 =>
    rw [bnd_ok hm] at q
    intro v H1 ex R1 r1
    cases d with
    | bl b => exact ⟨b, r1, q H1 ex R1⟩
    | _ => exact q.elim
/-- a comparison by its rule: the value -/
theorem de_cmp {op : CmpOp} {r : R2} {f : D → D → Option D} (ho : OpR X (compareOp op) r) (hs : Snd2 X.K X.mg r f) (hm : behindInMarks op b = false) (ha : DO X a x) (hb : DO X b y) : DE X (.Compare a [op] [b] pos) (op2 f x y) :=
  de_two (fun _ _ h1 h2 => pe_cmpR ho h1 h2 hm) hs ha hb
theorem dt_cmp {op : CmpOp} {r : R2} {f : D → D → Option D} (ho : OpR X (compareOp op) r) (hs : Snd2 X.K X.mg r f) (hm : behindInMarks op b = false) (ha : DO X a x) (hb : DO X b y) : DT X (.Compare a [op] [b] pos) (asTest (op2 f x y)) := fun W tk => by
  have h := de_two (X := X) (e := .Compare a [op] [b] pos) (fun _ _ h1 h2 => pe_cmpR ho h1 h2 hm) hs ha hb
  have hp := pt_cmpR (pos := pos) ho (ha W tk) (hb W tk) hm
  refine pt_imp hp fun σ H Q ⟨w, A, ρ, R, q⟩ => ?_
  refine ⟨w, A, ρ, R, ?_⟩
  unfold asTest op2 at q
  cases hx : x.ev ρ with
  | exc e ρ1 => rw [bnd_exc (bnd_exc hx)] at q; exact q
  | bad => rw [bnd_bad (bnd_bad hx)] at q; exact q
  | ok v ρ1 =>
    intro vv H1 ex1 R1 r1
    refine ⟨w, A, ρ1, R1, ?_⟩
    cases hy : y.ev ρ1 with
    | exc e ρ2 => rw [bnd_exc (by rw [bnd_ok hx]; exact bnd_exc hy)] at q; exact fun c dd H2 ex2 R2 z => q c dd H2 (ex1.trans ex2) R2 z
    | bad => rw [bnd_bad (by rw [bnd_ok hx]; exact bnd_bad hy)] at q; exact q
    | ok u ρ2 =>
      intro uu H2 ex2 R2 r2
      cases hd : (rs v ρ2).bind fun p => (rs u ρ2).bind fun q => f p q with
      | none => rw [bnd_bad (by rw [bnd_ok hx, bnd_ok hy]; simp only [hd])] at q; exact q.elim
      | some d =>
        rw [bnd_ok (a := d) (ρ' := ρ2) (by rw [bnd_ok hx, bnd_ok hy]; simp only [hd])] at q
        obtain ⟨p, hp, hd⟩ := Option.bind_eq_some_iff.mp hd
        obtain ⟨p', hp', hd⟩ := Option.bind_eq_some_iff.mp hd
        refine hs A H2 p p' d vv uu _ R2.trk (rs_rep R2 (r1.ext ex2) hp) (rs_rep R2 r2 hp') hd fun v' H' sm r => ?_
        cases d with
        | bl b => exact ⟨b, r, q H' ((ex1.trans ex2).trans (.of sm)) (R2.same sm)⟩
        | _ => exact q.elim
def D.cmpI (g : Int → Int → Bool) : D → D → Option D
  | .int i, .int j => some (.bl (g i j))
  | _, _ => none
theorem snd_cmpI {g : Int → Int → Bool} : Snd2 K mg (rI0 fun i j => .bl (g i j)) (D.cmpI g) := by
  intro A H x y d v u Q tk rx ry e q
  cases x with
  | int i => cases y with
    | int j => cases (Option.some.inj e); exact ⟨i, j, rx, ry, q _ _ (Same.refl _) rfl⟩
    | _ => cases e
  | _ => cases e
abbrev D.lt : D → D → Option D := D.cmpI fun i j => decide (i < j)
abbrev D.le : D → D → Option D := D.cmpI fun i j => decide (i ≤ j)
abbrev D.gt : D → D → Option D := D.cmpI fun i j => decide (j < i)
abbrev D.ge : D → D → Option D := D.cmpI fun i j => decide (j ≤ i)
mutual
def D.toP : D → Option PyData
  | .non => some .none
  | .bl b => some (.bool b)
  | .int i => some (.int i)
  | .str s => some (.str s)
  | .tup l => (D.toPs l).map .tuple
  | .lst l => (D.toPs l).map .list
  | _ => none
def D.toPs : List D → Option (List PyData)
  | [] => some []
  | d :: ds => (D.toP d).bind fun p => (D.toPs ds).map fun ps => p :: ps
end
mutual
def D.eqb : D → D → Bool
  | .non, .non => true
  | .bl a, .bl b => a == b
  | .bl a, .int b => (if a then 1 else 0) == b
  | .int a, .bl b => a == (if b then 1 else 0)
  | .int a, .int b => a == b
  | .str a, .str b => a == b
  | .tup a, .tup b => D.eqbs a b
  | .lst a, .lst b => D.eqbs a b
  | _, _ => false
def D.eqbs : List D → List D → Bool
  | [], [] => true
  | a :: as, b :: bs => D.eqb a b && D.eqbs as bs
  | _, _ => false
end
def D.sh (d : D) : Bool := match d.toP with
  | some p => SeqAt.shaped p
  | none => false
mutual
theorem dp_of {A : List Addr} {H : Hp} : ∀ (d : D) (v : V) (p : PyData), Rep K mg (off A H) d v → d.toP = some p → Dp K H v p
  | .non, v, p, r, e => by cases r; cases (Option.some.inj e); exact .non
  | .bl b, v, p, r, e => by cases r; cases (Option.some.inj e); exact .bl b
  | .int b, v, p, r, e => by cases r; cases (Option.some.inj e); exact .int b
  | .str b, v, p, r, e => by cases r; cases (Option.some.inj e); exact .str b
  | .tup l, v, p, ⟨a, xs, e1, h, r⟩, e => by
    obtain ⟨ps, e2, e3⟩ := Option.map_eq_some_iff.mp e
    subst e1; subst e3
    exact .tup (SqT.mono off_le h) (dps_of l xs ps r e2)
  | .lst l, v, p, ⟨a, xs, e1, h, r⟩, e => by
    obtain ⟨ps, e2, e3⟩ := Option.map_eq_some_iff.mp e
    subst e1; subst e3
    exact .lst (SqL.of (off_le _ _ h)) (dps_of l xs ps r e2)
  | .obj _ _ _, _, _, _, e => by cases e
  | .fn _, _, _, _, e => by cases e
  | .scr _, _, _, _, e => by cases e
theorem dps_of {A : List Addr} {H : Hp} : ∀ (ds : List D) (vs : List V) (ps : List PyData), Reps K mg (off A H) ds vs → D.toPs ds = some ps → DpAll K H vs ps
  | [], vs, ps, r, e => by cases (show vs = [] from r); cases (Option.some.inj e); exact .nil
  | d :: ds, vs, ps, ⟨v, r, e1, h, t⟩, e => by
    obtain ⟨p, e2, e⟩ := Option.bind_eq_some_iff.mp e
    obtain ⟨qs, e3, e4⟩ := Option.map_eq_some_iff.mp e
    subst e1; subst e4
    exact .cons (dp_of d v p h e2) (dps_of ds r qs t e3)
end
theorem dp1_of {A : List Addr} {H : Hp} {d : D} {v : V} {p : PyData} (r : Rep1 K mg A H d v) (e : d.toP = some p) : Dp K H v p := by
  cases d with
  | lst l =>
    obtain ⟨a, xs, e1, h, r⟩ := r
    obtain ⟨ps, e2, e3⟩ := Option.map_eq_some_iff.mp e
    subst e1; subst e3
    exact .lst (SqL.of h) (dps_of l xs ps r e2)
  | obj _ _ _ => cases e
  | _ => exact dp_of _ v p r e
mutual
theorem eqv_of : ∀ (d e : D) (p q : PyData), d.toP = some p → e.toP = some q → PyData.eqv p q = D.eqb d e
  | .non, e, p, q, h, h' => by
    cases (Option.some.inj h)
    cases e with
    | tup l => obtain ⟨ps, _, e3⟩ := Option.map_eq_some_iff.mp h'; subst e3; simp [PyData.eqv, D.eqb]
    | lst l => obtain ⟨ps, _, e3⟩ := Option.map_eq_some_iff.mp h'; subst e3; simp [PyData.eqv, D.eqb]
    | obj _ _ _ => cases h'
    | fn _ => cases h'
    | scr _ => cases h'
    | _ => cases (Option.some.inj h'); simp [PyData.eqv, D.eqb]
  | .bl b, e, p, q, h, h' => by
    cases (Option.some.inj h)
    cases e with
    | tup l => obtain ⟨ps, _, e3⟩ := Option.map_eq_some_iff.mp h'; subst e3; simp [PyData.eqv, D.eqb]
    | lst l => obtain ⟨ps, _, e3⟩ := Option.map_eq_some_iff.mp h'; subst e3; simp [PyData.eqv, D.eqb]
    | obj _ _ _ => cases h'
    | fn _ => cases h'
    | scr _ => cases h'
    | _ => cases (Option.some.inj h'); simp [PyData.eqv, D.eqb]
  | .int b, e, p, q, h, h' => by
    cases (Option.some.inj h)
    cases e with
    | tup l => obtain ⟨ps, _, e3⟩ := Option.map_eq_some_iff.mp h'; subst e3; simp [PyData.eqv, D.eqb]
    | lst l => obtain ⟨ps, _, e3⟩ := Option.map_eq_some_iff.mp h'; subst e3; simp [PyData.eqv, D.eqb]
    | obj _ _ _ => cases h'
    | fn _ => cases h'
    | scr _ => cases h'
    | _ => cases (Option.some.inj h'); simp [PyData.eqv, D.eqb]
  | .str b, e, p, q, h, h' => by
    cases (Option.some.inj h)
    cases e with
    | tup l => obtain ⟨ps, _, e3⟩ := Option.map_eq_some_iff.mp h'; subst e3; simp [PyData.eqv, D.eqb]
    | lst l => obtain ⟨ps, _, e3⟩ := Option.map_eq_some_iff.mp h'; subst e3; simp [PyData.eqv, D.eqb]
    | obj _ _ _ => cases h'
    | fn _ => cases h'
    | scr _ => cases h'
    | _ => cases (Option.some.inj h'); simp [PyData.eqv, D.eqb]
  | .tup l, e, p, q, h, h' => by
    obtain ⟨ps, e2, e3⟩ := Option.map_eq_some_iff.mp h
    subst e3
    cases e with
    | tup l' => obtain ⟨qs, f2, f3⟩ := Option.map_eq_some_iff.mp h'; subst f3; simp [PyData.eqv, D.eqb, eqvs_of l l' ps qs e2 f2]
    | lst l => obtain ⟨ps, _, e3⟩ := Option.map_eq_some_iff.mp h'; subst e3; simp [PyData.eqv, D.eqb]
    | obj _ _ _ => cases h'
    | fn _ => cases h'
    | scr _ => cases h'
    | _ => cases (Option.some.inj h'); simp [PyData.eqv, D.eqb]
  | .lst l, e, p, q, h, h' => by
    obtain ⟨ps, e2, e3⟩ := Option.map_eq_some_iff.mp h
    subst e3
    cases e with
    | lst l' => obtain ⟨qs, f2, f3⟩ := Option.map_eq_some_iff.mp h'; subst f3; simp [PyData.eqv, D.eqb, eqvs_of l l' ps qs e2 f2]
    | tup l => obtain ⟨ps, _, e3⟩ := Option.map_eq_some_iff.mp h'; subst e3; simp [PyData.eqv, D.eqb]
    | obj _ _ _ => cases h'
    | fn _ => cases h'
    | scr _ => cases h'
    | _ => cases (Option.some.inj h'); simp [PyData.eqv, D.eqb]
  | .obj _ _ _, _, _, _, h, _ => by cases h
  | .fn _, _, _, _, h, _ => by cases h
  | .scr _, _, _, _, h, _ => by cases h
theorem eqvs_of : ∀ (ds es : List D) (ps qs : List PyData), D.toPs ds = some ps → D.toPs es = some qs → PyData.eqvAll ps qs = D.eqbs ds es
  | [], [], ps, qs, h, h' => by cases (Option.some.inj h); cases (Option.some.inj h'); simp [PyData.eqvAll, D.eqbs]
  | [], e :: es, ps, qs, h, h' => by
    cases (Option.some.inj h)
    obtain ⟨p, _, h'⟩ := Option.bind_eq_some_iff.mp h'
    obtain ⟨rs, _, e4⟩ := Option.map_eq_some_iff.mp h'
    subst e4
    simp [PyData.eqvAll, D.eqbs]
  | d :: ds, [], ps, qs, h, h' => by
    cases (Option.some.inj h')
    obtain ⟨p, _, h⟩ := Option.bind_eq_some_iff.mp h
    obtain ⟨rs, _, e4⟩ := Option.map_eq_some_iff.mp h
    subst e4
    simp [PyData.eqvAll, D.eqbs]
  | d :: ds, e :: es, ps, qs, h, h' => by
    obtain ⟨p, hp, h⟩ := Option.bind_eq_some_iff.mp h
    obtain ⟨rs, hr, e4⟩ := Option.map_eq_some_iff.mp h
    obtain ⟨p', hp', h'⟩ := Option.bind_eq_some_iff.mp h'
    obtain ⟨rs', hr', e5⟩ := Option.map_eq_some_iff.mp h'
    subst e4; subst e5
    simp [PyData.eqvAll, D.eqbs, eqv_of d e p p' hp hp', eqvs_of ds es rs rs' hr hr']
end
/-- scalars that == tells apart without more -/
def D.sc : D → D → Bool
  | .non, .non => true | .non, .int _ => true | .int _, .non => true | .non, .bl _ => true | .bl _, .non => true | .non, .str _ => true | .str _, .non => true
  | .int _, .int _ => true | .bl _, .bl _ => true | .str _, .str _ => true
  | .int _, .str _ => true | .str _, .int _ => true | .bl _, .str _ => true | .str _, .bl _ => true
  | _, _ => false
def D.eq (x y : D) : Option D := if D.sc x y || (x.sh && y.sh) then some (.bl (D.eqb x y)) else none
def D.ne (x y : D) : Option D := if D.sc x y || (x.sh && y.sh) then some (.bl (!D.eqb x y)) else none
theorem sc_eq {A : List Addr} {H : Hp} {x y : D} {v u : V} (rx : Rep1 K mg A H x v) (ry : Rep1 K mg A H y u) (h : D.sc x y = true) : scal v u = true ∧ decide (v = u) = D.eqb x y := by
  cases x <;> cases y <;> first
    | (cases h; done)
    | (have e1 := rx; have e2 := ry; cases e1; cases e2; refine ⟨rfl, ?_⟩; first | rfl | (simp [D.eqb]; done) | (rw [Bool.eq_iff_iff]; simp [D.eqb]; done))
def rEqD' (K : PySem.W.Frag) : R2 := fun x y H Q => rEq x y H Q ∨ rEqD K x y H Q
def rNeD' (K : PySem.W.Frag) : R2 := fun x y H Q => rNe x y H Q ∨ rNeD K x y H Q
theorem sh_some {d : D} (h : d.sh = true) : ∃ p, d.toP = some p ∧ SeqAt.shaped p = true := by
  unfold D.sh at h
  cases e : d.toP with
  | none => rw [e] at h; cases h
  | some p => rw [e] at h; exact ⟨p, rfl, h⟩
theorem snd_eq : Snd2 K mg (rEqD' K) D.eq := by
  intro A H x y d v u Q tk rx ry e q
  obtain ⟨h, rfl⟩ := ite_some e
  rcases Bool.or_eq_true_iff.mp h with h | h
  · obtain ⟨h1, h2⟩ := sc_eq rx ry h
    exact .inl ⟨h1, by rw [h2]; exact q _ _ (Same.refl _) rfl⟩
  · obtain ⟨h1, h2⟩ := Bool.and_eq_true_iff.mp h
    obtain ⟨p, e1, s1⟩ := sh_some h1
    obtain ⟨p', e2, s2⟩ := sh_some h2
    exact .inr ⟨p, p', dp1_of rx e1, dp1_of ry e2, s1, s2, by rw [eqv_of _ _ _ _ e1 e2]; exact q _ _ (Same.refl _) rfl⟩
theorem snd_ne : Snd2 K mg (rNeD' K) D.ne := by
  intro A H x y d v u Q tk rx ry e q
  obtain ⟨h, rfl⟩ := ite_some e
  rcases Bool.or_eq_true_iff.mp h with h | h
  · obtain ⟨h1, h2⟩ := sc_eq rx ry h
    exact .inl ⟨h1, by rw [h2]; exact q _ _ (Same.refl _) rfl⟩
  · obtain ⟨h1, h2⟩ := Bool.and_eq_true_iff.mp h
    obtain ⟨p, e1, s1⟩ := sh_some h1
    obtain ⟨p', e2, s2⟩ := sh_some h2
    exact .inr ⟨p, p', dp1_of rx e1, dp1_of ry e2, s1, s2, by rw [eqv_of _ _ _ _ e1 e2]; exact q _ _ (Same.refl _) rfl⟩
theorem op_eqD' (hu : X.A.units + 64 < cLine) : OpR X (compareOp .Eq) (rEqD' X.K) := op_eq.or (op_eqD hu)
theorem op_neD' (hu : X.A.units + 64 < cLine) : OpR X (compareOp .NotEq) (rNeD' X.K) := op_ne.or (op_neD hu)
def D.isN : D → D → Option D
  | .non, .non => some (.bl true)
  | _, .non => some (.bl false)
  | _, _ => none
end
end DL
namespace DL
open PySem L2
section
variable {X : Cx} {a b c : Expr} {x y : Arg} {pos : Pos} {K : PySem.W.Frag} {mg : Str → Option Value}
theorem snd_isN : Snd2 K mg (fun x y H Q => y = .non ∧ Q (.bl (decide (x = .non))) H) D.isN := by
  intro A H x y d v u Q tk rx ry e q
  cases y with
  | non =>
    refine ⟨ry, ?_⟩
    cases x with
    | non => cases rx; cases (Option.some.inj e); exact q _ _ (Same.refl _) rfl
    | bl _ => cases rx; cases (Option.some.inj e); exact q _ _ (Same.refl _) rfl
    | int _ => cases rx; cases (Option.some.inj e); exact q _ _ (Same.refl _) rfl
    | str _ => cases rx; cases (Option.some.inj e); exact q _ _ (Same.refl _) rfl
    | tup _ => obtain ⟨a, xs, e1, _⟩ := rx; subst e1; cases (Option.some.inj e); exact q _ _ (Same.refl _) rfl
    | lst _ => obtain ⟨a, xs, e1, _⟩ := rx; subst e1; cases (Option.some.inj e); exact q _ _ (Same.refl _) rfl
    | scr _ => obtain ⟨a, xs, e1, _⟩ := rx; subst e1; cases (Option.some.inj e); exact q _ _ (Same.refl _) rfl
    | fn _ => obtain ⟨a, e1, _⟩ := rx; subst e1; cases (Option.some.inj e); exact q _ _ (Same.refl _) rfl
    | obj _ _ _ => obtain ⟨a, C, dx, fvs, e1, _⟩ := rx; subst e1; cases (Option.some.inj e); exact q _ _ (Same.refl _) rfl
  | _ => cases x <;> cases e
def D.notN (x y : D) : Option D := match D.isN x y with
  | some (.bl k) => some (.bl (!k))
  | _ => none
theorem snd_notN : Snd2 K mg (fun x y H Q => y = .non ∧ Q (.bl (!decide (x = .non))) H) D.notN := by
  intro A H x y d v u Q tk rx ry e q
  unfold D.notN at e
  cases h : D.isN x y with
  | none => rw [h] at e; cases e
  | some z =>
    rw [h] at e
    refine (snd_isN (K := K) (mg := mg) A H x y z v u (fun z' H' => ∀ k, z' = .bl k → Q (.bl (!k)) H') tk rx ry h fun v' H' sm r k hk => ?_).imp id fun q' => q' _ rfl
    cases z with
    | bl k' =>
      cases (Option.some.inj e)
      cases r
      cases hk
      exact q _ _ sm rfl
    | _ => cases e
def D.items : D → Option (List D)
  | .lst l => some l
  | .tup l => some l
  | _ => none
/-- one sign within a text, a value within a list or a tuple -/
def D.mem (x y : D) : Option D := match x, y with
  | .str s, .str z => match s.cps.toList with
    | [c] => some (.bl (decide (c ∈ z.cps.toList)))
    | _ => none
  | x, .lst l => if x.sh && D.sh (.lst l) then some (.bl (l.any fun z => D.eqb z x)) else none
  | x, .tup l => if x.sh && D.sh (.tup l) then some (.bl (l.any fun z => D.eqb z x)) else none
  | _, _ => none
def D.nmem (x y : D) : Option D := match D.mem x y with
  | some (.bl k) => some (.bl (!k))
  | _ => none
def rInA (K : PySem.W.Frag) (neg : Bool) : R2 := fun x y H Q =>
  (∃ (c : Nat) (z : Str), x = .str ⟨#[c]⟩ ∧ y = .str z ∧ Q (.bl (if neg then !decide (c ∈ z.cps.toList) else decide (c ∈ z.cps.toList))) H) ∨
  (∃ d ds, Dp K H x d ∧ (Dp K H y (.list ds) ∨ Dp K H y (.tuple ds)) ∧ SeqAt.shaped d = true ∧ SeqAt.shaped (.list ds) = true ∧ Q (.bl (if neg then !(ds.any fun z => PyData.eqv z d) else ds.any fun z => PyData.eqv z d)) H)
theorem op_inA (hu : X.A.units + 65 < cLine) : OpR X (compareOp .In) (rInA X.K false) := by
  intro pins s σ H x y v u Q I rx ry h
  rcases h with ⟨c, z, e1, e2, q⟩ | ⟨d, ds, hd, he, sd, se, q⟩
  · exact op_in_sign pins s σ H x y v u Q I rx ry ⟨c, z, e1, e2, q⟩
  · obtain ⟨as, r1⟩ := Dp.reads I d x v hd rx
    rcases he with he | he
    · obtain ⟨bs, r2⟩ := Dp.reads I (.list ds) y u he ry
      exact SeqAt.in_list_reads r2 r1 (SeqAt.canLay_of_shaped se) (SeqAt.canLay_of_shaped sd) (PyProof.Rows.room_in_shaped sd hu) ⟨.bl _, H, I, rfl, q⟩
    · obtain ⟨bs, r2⟩ := Dp.reads I (.tuple ds) y u he ry
      exact SeqAt.in_tuple_reads r2 r1 (SeqAt.canLay_of_shaped se) (SeqAt.canLay_of_shaped sd) (PyProof.Rows.room_in_shaped sd hu) ⟨.bl _, H, I, rfl, q⟩
theorem op_notInA (hu : X.A.units + 65 < cLine) : OpR X (compareOp .NotIn) (rInA X.K true) := by
  intro pins s σ H x y v u Q I rx ry h
  rcases h with ⟨c, z, e1, e2, q⟩ | ⟨d, ds, hd, he, sd, se, q⟩
  · exact op_notIn_sign pins s σ H x y v u Q I rx ry ⟨c, z, e1, e2, q⟩
  · obtain ⟨as, r1⟩ := Dp.reads I d x v hd rx
    rcases he with he | he
    · obtain ⟨bs, r2⟩ := Dp.reads I (.list ds) y u he ry
      exact SeqAt.notIn_list_reads r2 r1 (SeqAt.canLay_of_shaped se) (SeqAt.canLay_of_shaped sd) (PyProof.Rows.room_in_shaped sd hu) ⟨.bl _, H, I, rfl, q⟩
    · obtain ⟨bs, r2⟩ := Dp.reads I (.tuple ds) y u he ry
      exact SeqAt.notIn_tuple_reads r2 r1 (SeqAt.canLay_of_shaped se) (SeqAt.canLay_of_shaped sd) (PyProof.Rows.room_in_shaped sd hu) ⟨.bl _, H, I, rfl, q⟩
theorem any_eqv {x : D} {p : PyData} (hp : x.toP = some p) : ∀ {l : List D} {ps : List PyData}, D.toPs l = some ps → (ps.any fun z => PyData.eqv z p) = l.any fun z => D.eqb z x
  | [], ps, h => by cases (Option.some.inj h); rfl
  | d :: l, ps, h => by
    obtain ⟨q, hq, h⟩ := Option.bind_eq_some_iff.mp h
    obtain ⟨qs, hqs, e⟩ := Option.map_eq_some_iff.mp h
    subst e
    rw [List.any_cons, List.any_cons, eqv_of d x q p hq hp, any_eqv hp hqs]
theorem snd_inA {A : List Addr} {H : Hp} {x y d : D} {v u : V} {Q : VK} (neg : Bool) (rx : Rep1 K mg A H x v) (ry : Rep1 K mg A H y u) (e : D.mem x y = some d) (q : ∀ k, d = .bl k → Q (.bl (if neg then !k else k)) H) : rInA K neg v u H Q := by
  unfold D.mem at e
  split at e
  · rename_i s z
    split at e
    · rename_i c hc
      cases (Option.some.inj e)
      refine .inl ⟨c, z, ?_, ry, q _ rfl⟩
      have : s = ⟨#[c]⟩ := by
        obtain ⟨cps⟩ := s
        congr
        exact Array.toList_inj.mp hc
      rw [← this]
      exact rx
    · cases e
  · rename_i l
    obtain ⟨h, rfl⟩ := ite_some e
    obtain ⟨h1, h2⟩ := Bool.and_eq_true_iff.mp h
    obtain ⟨p, e1, s1⟩ := sh_some h1
    obtain ⟨p', e2, s2⟩ := sh_some h2
    obtain ⟨ps, e3, e4⟩ := Option.map_eq_some_iff.mp (show (D.toPs l).map PyData.list = some p' from e2)
    subst e4
    refine .inr ⟨p, ps, dp1_of rx e1, .inl (dp1_of ry e2), s1, s2, ?_⟩
    rw [any_eqv e1 e3]
    exact q _ rfl
  · rename_i l
    obtain ⟨h, rfl⟩ := ite_some e
    obtain ⟨h1, h2⟩ := Bool.and_eq_true_iff.mp h
    obtain ⟨p, e1, s1⟩ := sh_some h1
    obtain ⟨p', e2, s2⟩ := sh_some h2
    obtain ⟨ps, e3, e4⟩ := Option.map_eq_some_iff.mp (show (D.toPs l).map PyData.tuple = some p' from e2)
    subst e4
    refine .inr ⟨p, ps, dp1_of rx e1, .inr (dp1_of ry e2), s1, ?_, ?_⟩
    · unfold SeqAt.shaped at s2 ⊢
      simpa [PyData.canLay0, PyData.depth] using s2
    · rw [any_eqv e1 e3]
      exact q _ rfl
  · cases e
theorem mem_bl {x y d : D} (e : D.mem x y = some d) : ∃ k, d = .bl k := by
  unfold D.mem at e
  split at e
  · split at e
    · cases (Option.some.inj e); exact ⟨_, rfl⟩
    · cases e
  · obtain ⟨h, rfl⟩ := ite_some e; exact ⟨_, rfl⟩
  · obtain ⟨h, rfl⟩ := ite_some e; exact ⟨_, rfl⟩
  · cases e
theorem snd_mem : Snd2 K mg (rInA K false) D.mem := by
  intro A H x y d v u Q tk rx ry e q
  exact snd_inA false rx ry e fun k hk => q _ _ (Same.refl _) (by subst hk; rfl)
theorem snd_nmem : Snd2 K mg (rInA K true) D.nmem := by
  intro A H x y d v u Q tk rx ry e q
  unfold D.nmem at e
  cases h : D.mem x y with
  | none => rw [h] at e; cases e
  | some z =>
    obtain ⟨k, rfl⟩ := mem_bl h
    rw [h] at e
    cases (Option.some.inj e)
    exact snd_inA true rx ry h fun k' hk => by
      cases hk
      exact q _ _ (Same.refl _) rfl
theorem de_lt (ha : DO X a x) (hb : DO X b y) : DE X (.Compare a [.Lt] [b] pos) (op2 D.lt x y) := de_cmp op_lt snd_cmpI (nomark _) ha hb
theorem de_le (ha : DO X a x) (hb : DO X b y) : DE X (.Compare a [.LtE] [b] pos) (op2 D.le x y) := de_cmp op_le snd_cmpI (nomark _) ha hb
theorem de_gt (ha : DO X a x) (hb : DO X b y) : DE X (.Compare a [.Gt] [b] pos) (op2 D.gt x y) := de_cmp op_gt snd_cmpI (nomark _) ha hb
theorem de_ge (ha : DO X a x) (hb : DO X b y) : DE X (.Compare a [.GtE] [b] pos) (op2 D.ge x y) := de_cmp op_ge snd_cmpI (nomark _) ha hb
theorem de_eq (hu : X.A.units + 64 < cLine) (ha : DO X a x) (hb : DO X b y) : DE X (.Compare a [.Eq] [b] pos) (op2 D.eq x y) := de_cmp (op_eqD' hu) snd_eq (nomark _) ha hb
theorem de_ne (hu : X.A.units + 64 < cLine) (ha : DO X a x) (hb : DO X b y) : DE X (.Compare a [.NotEq] [b] pos) (op2 D.ne x y) := de_cmp (op_neD' hu) snd_ne (nomark _) ha hb
theorem de_isN (ha : DO X a x) (hb : DO X b y) : DE X (.Compare a [.Is] [b] pos) (op2 D.isN x y) := de_cmp op_isN snd_isN (nomark _) ha hb
theorem de_notN (ha : DO X a x) (hb : DO X b y) : DE X (.Compare a [.IsNot] [b] pos) (op2 D.notN x y) := de_cmp op_notN snd_notN (nomark _) ha hb
theorem de_in (hu : X.A.units + 65 < cLine) (ha : DO X a x) (hb : DO X b y) (hm : behindInMarks .In b = false := by with_unfolding_all rfl) : DE X (.Compare a [.In] [b] pos) (op2 D.mem x y) := de_cmp (op_inA hu) snd_mem hm ha hb
theorem de_nin (hu : X.A.units + 65 < cLine) (ha : DO X a x) (hb : DO X b y) (hm : behindInMarks .NotIn b = false := by with_unfolding_all rfl) : DE X (.Compare a [.NotIn] [b] pos) (op2 D.nmem x y) := de_cmp (op_notInA hu) snd_nmem hm ha hb
theorem dt_lt (ha : DO X a x) (hb : DO X b y) : DT X (.Compare a [.Lt] [b] pos) (asTest (op2 D.lt x y)) := dt_cmp op_lt snd_cmpI (nomark _) ha hb
theorem dt_le (ha : DO X a x) (hb : DO X b y) : DT X (.Compare a [.LtE] [b] pos) (asTest (op2 D.le x y)) := dt_cmp op_le snd_cmpI (nomark _) ha hb
theorem dt_gt (ha : DO X a x) (hb : DO X b y) : DT X (.Compare a [.Gt] [b] pos) (asTest (op2 D.gt x y)) := dt_cmp op_gt snd_cmpI (nomark _) ha hb
theorem dt_ge (ha : DO X a x) (hb : DO X b y) : DT X (.Compare a [.GtE] [b] pos) (asTest (op2 D.ge x y)) := dt_cmp op_ge snd_cmpI (nomark _) ha hb
theorem dt_eq (hu : X.A.units + 64 < cLine) (ha : DO X a x) (hb : DO X b y) : DT X (.Compare a [.Eq] [b] pos) (asTest (op2 D.eq x y)) := dt_cmp (op_eqD' hu) snd_eq (nomark _) ha hb
theorem dt_ne (hu : X.A.units + 64 < cLine) (ha : DO X a x) (hb : DO X b y) : DT X (.Compare a [.NotEq] [b] pos) (asTest (op2 D.ne x y)) := dt_cmp (op_neD' hu) snd_ne (nomark _) ha hb
theorem dt_isN (ha : DO X a x) (hb : DO X b y) : DT X (.Compare a [.Is] [b] pos) (asTest (op2 D.isN x y)) := dt_cmp op_isN snd_isN (nomark _) ha hb
theorem dt_notN (ha : DO X a x) (hb : DO X b y) : DT X (.Compare a [.IsNot] [b] pos) (asTest (op2 D.notN x y)) := dt_cmp op_notN snd_notN (nomark _) ha hb
theorem dt_in (hu : X.A.units + 65 < cLine) (ha : DO X a x) (hb : DO X b y) (hm : behindInMarks .In b = false := by with_unfolding_all rfl) : DT X (.Compare a [.In] [b] pos) (asTest (op2 D.mem x y)) := dt_cmp (op_inA hu) snd_mem hm ha hb
theorem dt_nin (hu : X.A.units + 65 < cLine) (ha : DO X a x) (hb : DO X b y) (hm : behindInMarks .NotIn b = false := by with_unfolding_all rfl) : DT X (.Compare a [.NotIn] [b] pos) (asTest (op2 D.nmem x y)) := dt_cmp (op_notInA hu) snd_nmem hm ha hb
variable {e : Expr} {m n : M D} {t u : M Bool} {rest : List Expr}
theorem dt_val (h : DE X e m) (he : ∀ whole, isTrue e X.env whole = (do let v ← whole; standAt e.pos; holding [v] (truthy v)) := by intro _; rfl) : DT X e (asTest m) :=
  dt_of (fun _ h => pt_val h he) h
def bAnd (t u : M Bool) : M Bool := M.bnd t fun c => if c = true then u else M.ret false
def bOr (t u : M Bool) : M Bool := M.bnd t fun c => if c = true then M.ret true else u
def bNot (t : M Bool) : M Bool := M.bnd t fun c => M.ret (!c)
theorem dt_imp2 {σ : St} {H : Hp} {W : WZ} {Q : Bool → Hp → Prop} {f : Bool → M Bool} {G : Bool → Hp → Prop}
    (h : tT K mg W (M.bnd t f) σ H Q) (hq : ∀ (w : WS W) (A : List Addr) (ρ1 : Ev) c H1, SR K mg w A ρ1 σ H1 → (match f c ρ1 with
      | .ok b ρ' => ∀ H', Ext A H1 H' → SR K mg w A ρ' σ H' → Q b H'
      | .exc e ρ' => ∀ c dd H', Ext A H1 H' → SR K mg w A ρ' σ H' → ExR K mg A H' e c dd → W c dd σ H'
      | .bad => False) → G c H1) : tT K mg W t σ H G := by
  obtain ⟨w, A, ρ, R, q⟩ := h
  refine ⟨w, A, ρ, R, ?_⟩
  cases ht : t ρ with
  | exc e ρ1 => rw [bnd_exc ht] at q; exact q
  | bad => rw [bnd_bad ht] at q; exact q
  | ok c ρ1 =>
    rw [bnd_ok ht] at q
    intro H1 ex1 R1
    refine hq w A ρ1 c H1 R1 ?_
    cases hf : f c ρ1 with
    | exc e ρ2 => rw [hf] at q; exact fun c dd H2 ex2 R2 z => q c dd H2 (ex1.trans ex2) R2 z
    | bad => rw [hf] at q; exact q
    | ok c ρ2 => rw [hf] at q; exact fun H2 ex2 R2 => q H2 (ex1.trans ex2) R2
theorem dw_and1 (h : DT X a t) : DW X (.BoolOp .And [a] pos) t := fun W tk => pw_and1 (h W tk)
theorem dw_or1 (h : DT X a t) : DW X (.BoolOp .Or [a] pos) t := fun W tk => pw_or1 (h W tk)
theorem dw_and (h : DT X a t) (h2 : DW X (.BoolOp .And (b :: rest) pos) u) : DW X (.BoolOp .And (a :: b :: rest) pos) (bAnd t u) := fun W tk =>
  pw_imp (pw_and (h W tk) (h2 W tk)) fun σ H Q q => dt_imp2 q fun w A ρ1 c H1 R1 z => by
    cases c with
    | true => simp only [if_true] at z ⊢; exact ⟨w, A, ρ1, R1, z⟩
    | false => simp only [Bool.false_eq_true, if_false] at z ⊢; exact z H1 Ext.refl R1
theorem dw_or (h : DT X a t) (h2 : DW X (.BoolOp .Or (b :: rest) pos) u) : DW X (.BoolOp .Or (a :: b :: rest) pos) (bOr t u) := fun W tk =>
  pw_imp (pw_or (h W tk) (h2 W tk)) fun σ H Q q => dt_imp2 q fun w A ρ1 c H1 R1 z => by
    cases c with
    | false => simp only [Bool.false_eq_true, if_false] at z ⊢; exact ⟨w, A, ρ1, R1, z⟩
    | true => simp only [if_true] at z ⊢; exact z H1 Ext.refl R1
theorem dt_w (h : DW X e t) : DT X e t := fun W tk => (h W tk).pt
theorem dt_not (h : DT X a t) : DT X (.UnaryOp .Not a pos) (bNot t) := fun W tk => pt_imp (pt_not (h W tk)) fun σ H Q q => dt_imp2 q fun w A ρ1 c H1 R1 z => z H1 Ext.refl R1
theorem de_imp2 {σ : St} {H : Hp} {W : WZ} {Q : VK} {f : D → M D} {G : VK}
    (h : tE K mg W (M.bnd m f) σ H Q) (hq : ∀ (w : WS W) (A : List Addr) (ρ1 : Ev) d v H1, SR K mg w A ρ1 σ H1 → Rep K mg (off A H1) d v → (match f d ρ1 with
      | .ok d' ρ' => ∀ v H', Ext A H1 H' → SR K mg w A ρ' σ H' → Rep K mg (off A H') d' v → Q v H'
      | .exc e ρ' => ∀ c dd H', Ext A H1 H' → SR K mg w A ρ' σ H' → ExR K mg A H' e c dd → W c dd σ H'
      | .bad => False) → G v H1) : tE K mg W m σ H G := by
  obtain ⟨w, A, ρ, R, q⟩ := h
  refine ⟨w, A, ρ, R, ?_⟩
  cases ht : m ρ with
  | exc e ρ1 => rw [bnd_exc ht] at q; exact q
  | bad => rw [bnd_bad ht] at q; exact q
  | ok c ρ1 =>
    rw [bnd_ok ht] at q
    intro v H1 ex1 R1 r1
    refine hq w A ρ1 c v H1 R1 r1 ?_
    cases hf : f c ρ1 with
    | exc e ρ2 => rw [hf] at q; exact fun c dd H2 ex2 R2 z => q c dd H2 (ex1.trans ex2) R2 z
    | bad => rw [hf] at q; exact q
    | ok c ρ2 => rw [hf] at q; exact fun v2 H2 ex2 R2 => q v2 H2 (ex1.trans ex2) R2
def vAnd (m n : M D) : M D := M.bnd m fun d => match d with
  | .bl true => n
  | .bl false => M.ret (.bl false)
  | _ => fun _ => .bad
def vOr (m n : M D) : M D := M.bnd m fun d => match d with
  | .bl true => M.ret (.bl true)
  | .bl false => n
  | _ => fun _ => .bad
def vNot (m : M D) : M D := M.bnd m fun d => match d with
  | .bl k => M.ret (.bl (!k))
  | _ => fun _ => .bad
theorem de_one1 {op} (h : DE X a m) : DE X (.BoolOp op [a] pos) m := fun W tk => pe_one (h W tk)
theorem de_and (h : DE X a m) (h2 : DE X (.BoolOp .And (b :: rest) pos) n) : DE X (.BoolOp .And (a :: b :: rest) pos) (vAnd m n) := fun W tk =>
  pe_imp (pe_and (h W tk) (h2 W tk)) fun σ H Q q => de_imp2 q fun w A ρ1 d v H1 R1 r z => by
    cases d with
    | bl k =>
      cases r
      refine ⟨k, rfl, ?_⟩
      cases k with
      | true => simp only [if_true]; exact ⟨w, A, ρ1, R1, z⟩
      | false => simp only [Bool.false_eq_true, if_false]; exact z _ H1 Ext.refl R1 rfl
    | _ => exact z.elim
theorem de_or (h : DE X a m) (h2 : DE X (.BoolOp .Or (b :: rest) pos) n) : DE X (.BoolOp .Or (a :: b :: rest) pos) (vOr m n) := fun W tk =>
  pe_imp (pe_or (h W tk) (h2 W tk)) fun σ H Q q => de_imp2 q fun w A ρ1 d v H1 R1 r z => by
    cases d with
    | bl k =>
      cases r
      refine ⟨k, rfl, ?_⟩
      cases k with
      | false => simp only [Bool.false_eq_true, if_false]; exact ⟨w, A, ρ1, R1, z⟩
      | true => simp only [if_true]; exact z _ H1 Ext.refl R1 rfl
    | _ => exact z.elim
theorem de_not (h : DE X a m) : DE X (.UnaryOp .Not a pos) (vNot m) := fun W tk =>
  pe_imp (pe_not (h W tk)) fun σ H Q q => de_imp2 q fun w A ρ1 d v H1 R1 r z => by
    cases d with
    | bl k => cases r; exact ⟨k, rfl, z _ H1 Ext.refl R1 rfl⟩
    | _ => exact z.elim
def vIf (t : M Bool) (m n : M D) : M D := M.bnd t fun c => if c = true then m else n
theorem de_ifExp (ht : DT X c t) (ha : DE X a m) (hb : DE X b n) : DE X (.IfExp c a b pos) (vIf t m n) := fun W tk =>
  pe_imp (pe_ifExp (ht W tk) (ha W tk) (hb W tk)) fun σ H Q ⟨w, A, ρ, R, q⟩ => by
    refine ⟨w, A, ρ, R, ?_⟩
    unfold vIf at q
    cases hc : t ρ with
    | exc e ρ1 => rw [bnd_exc hc] at q; exact q
    | bad => rw [bnd_bad hc] at q; exact q
    | ok k ρ1 =>
      rw [bnd_ok hc] at q
      intro H1 ex1 R1
      cases k with
      | true =>
        simp only [if_true] at q ⊢
        refine ⟨w, A, ρ1, R1, ?_⟩
        cases hf : m ρ1 with
        | exc e ρ2 => rw [hf] at q; exact fun c dd H2 ex2 R2 z => q c dd H2 (ex1.trans ex2) R2 z
        | bad => rw [hf] at q; exact q
        | ok c ρ2 => rw [hf] at q; exact fun v2 H2 ex2 R2 => q v2 H2 (ex1.trans ex2) R2
      | false =>
        simp only [Bool.false_eq_true, if_false] at q ⊢
        refine ⟨w, A, ρ1, R1, ?_⟩
        cases hf : n ρ1 with
        | exc e ρ2 => rw [hf] at q; exact fun c dd H2 ex2 R2 z => q c dd H2 (ex1.trans ex2) R2 z
        | bad => rw [hf] at q; exact q
        | ok c ρ2 => rw [hf] at q; exact fun v2 H2 ex2 R2 => q v2 H2 (ex1.trans ex2) R2
end
end DL
namespace DL
open PySem L2
section
variable {X : Cx} {a b c e : Expr} {es : List Expr} {x y : Arg} {as : List Arg} {pos p : Pos} {K : PySem.W.Frag} {mg : Str → Option Value}
theorem ixN_congr {n m : Nat} (h : n = m) (i : Int) : ixN n i = ixN m i := by rw [h]
theorem Reps.atI {F : Hp} {ds : List D} {vs : List V} {i : Int} {d : D} (r : Reps K mg F ds vs) (h : atI ds i = some d) : ∃ v, L2.atI vs i = some v ∧ Rep K mg F d v := by
  unfold L2.atI at h ⊢
  rw [r.length] at h
  obtain ⟨j, h1, h2⟩ := Option.bind_eq_some_iff.mp h
  obtain ⟨v, h3, h4⟩ := r.get h2
  exact ⟨v, by rw [h1]; exact h3, h4⟩
def D.ix : D → D → Option D
  | .lst l, .int i => L2.atI l i
  | .tup l, .int i => L2.atI l i
  | .scr l, .int i => L2.atI l i
  | .str s, .int i => if s.length ≤ sizeLine then (L2.atI s.cps.toList i).map fun c => .str ⟨#[c]⟩ else none
  | _, _ => none
theorem snd_ix : Snd2 K mg (rIx K) D.ix := by
  intro A H x y d v u Q tk rx ry e q
  cases x with
  | lst l =>
    cases y with
    | int i =>
      obtain ⟨p, vs, e1, h, r⟩ := rx
      obtain ⟨w, h1, h2⟩ := r.atI e
      exact .inl ⟨p, vs, i, w, e1, ry, SqL.of h, h1, q _ _ (Same.refl _) h2⟩
    | _ => cases e
  | scr l =>
    cases y with
    | int i =>
      obtain ⟨p, vs, e1, h, r⟩ := rx
      obtain ⟨w, h1, h2⟩ := r.atI e
      exact .inl ⟨p, vs, i, w, e1, ry, SqL.mono off_le h, h1, q _ _ (Same.refl _) h2⟩
    | _ => cases e
  | tup l =>
    cases y with
    | int i =>
      obtain ⟨p, vs, e1, h, r⟩ := rx
      obtain ⟨w, h1, h2⟩ := r.atI e
      exact .inr (.inl ⟨p, vs, i, w, e1, ry, SqT.mono off_le h, h1, q _ _ (Same.refl _) h2⟩)
    | _ => cases e
  | str s =>
    cases y with
    | int i =>
      have e : (if s.length ≤ sizeLine then (L2.atI s.cps.toList i).map fun c => D.str ⟨#[c]⟩ else none) = some d := e
      by_cases hz : s.length ≤ sizeLine
      · rw [if_pos hz] at e
        obtain ⟨c, h1, h2⟩ := Option.map_eq_some_iff.mp e
        subst h2
        exact .inr (.inr ⟨s, i, c, rx, ry, hz, h1, q _ _ (Same.refl _) rfl⟩)
      · rw [if_neg hz] at e; cases e
    | _ => cases e
  | _ => cases e
theorem de_ix (ha : DO X a x) (hb : DO X b y) (hs : PlainIx b := by intro _ _; rfl) : DE X (.Subscript a b pos) (op2 D.ix x y) := de_two (fun _ _ h1 h2 => pe_ix ix_seq h1 h2 hs) snd_ix ha hb
def cutG {α : Type} (xs : List α) (lo hi : Option Int) : List α := (xs.drop (HT.sIx xs.length 0 lo)).take (HT.sIx xs.length xs.length hi - HT.sIx xs.length 0 lo)
theorem Reps.cut {F : Hp} {ds : List D} {vs : List V} {lo hi : Option Int} (r : Reps K mg F ds vs) : Reps K mg F (cutG ds lo hi) (cutV vs lo hi) := by
  unfold cutG cutV
  rw [r.length]
  exact (r.drop _).take _
def D.cut (lo hi : Option Int) : D → Option D
  | .lst l => some (.lst (cutG l lo hi))
  | .tup l => some (.tup (cutG l lo hi))
  | .str s => if s.length ≤ sizeLine then some (.str (cutS s lo hi)) else none
  | _ => none
/-- a part of a slice: none, or a whole number -/
def Pt := Option (M D)
def Pt.ev : Option (M D) → M (Option Int)
  | none => M.ret none
  | some m => M.bnd m fun d ρ => match d with
    | .int i => .ok (some i) ρ
    | _ => .bad
def tP (K : PySem.W.Frag) (mg : Str → Option Value) (W : WZ) (o : Option (M D)) : TO := fun σ H Q => ∃ (w : WS W) (A : List Addr) (ρ : Ev), SR K mg w A ρ σ H ∧ match Pt.ev o ρ with
  | .ok x ρ' => ∀ H', Ext A H H' → SR K mg w A ρ' σ H' → Q x H'
  | .exc e ρ' => ∀ c dd H', Ext A H H' → SR K mg w A ρ' σ H' → ExR K mg A H' e c dd → W c dd σ H'
  | .bad => False
def DP (X : Cx) (e : Option Expr) (o : Option (M D)) : Prop := ∀ W : WZ, TakesZ X W → PO X e (tP X.K X.mg W o)
theorem po_imp {e : Option Expr} {t t' : TO} (h : PO X e t) (q : ∀ σ H Q, t' σ H Q → t σ H Q) : PO X e t' := ⟨fun pins s σ H Q I hw => h.run pins s σ H Q I (q σ H Q hw)⟩
theorem dp_none : DP X none none := fun W _ => po_imp po_none fun σ H Q ⟨w, A, ρ, R, q⟩ => q H Ext.refl R
theorem dp_some {m : M D} (h : DE X e m) : DP X (some e) (some m) := fun W tk => po_imp (po_some (h W tk)) fun σ H Q ⟨w, A, ρ, R, q⟩ => by
  refine ⟨w, A, ρ, R, ?_⟩
  have e0 : Pt.ev (some m) ρ = M.bnd m (fun d ρ => match d with | .int i => .ok (some i) ρ | _ => .bad) ρ := rfl
  rw [e0] at q
  cases hm : m ρ with
  | exc e ρ1 => rw [bnd_exc hm] at q; exact q
  | bad => rw [bnd_bad hm] at q; exact q
  | ok d ρ1 =>
    rw [bnd_ok hm] at q
    intro v H1 ex1 R1 r1
    cases d with
    | int i => exact ⟨i, r1, q H1 ex1 R1⟩
    | _ => exact q.elim
def slc (x : Arg) (lo hi : Option (M D)) : M D := M.bnd x.ev fun v => M.bnd (Pt.ev lo) fun l => M.bnd (Pt.ev hi) fun u ρ => match (rs v ρ).bind (D.cut l u) with
  | some r => .ok r ρ
  | none => .bad
def rSlAll (K : PySem.W.Frag) : V → Option Int → Option Int → Hp → VK → Prop := fun x lo hi H Q => rSlL K x lo hi H Q ∨ (rSlA K x lo hi H Q ∨ ∃ z, x = .str z ∧ z.length ≤ sizeLine ∧ Q (.str (cutS z lo hi)) H)
theorem sIx_whole {α : Type} {xs : List α} {lo hi : Option Int} (h : HT.sIx xs.length 0 lo = 0 ∧ HT.sIx xs.length xs.length hi = xs.length) : cutG xs lo hi = xs := by
  unfold cutG
  rw [h.1, h.2]
  simp
theorem snd_cut {A : List Addr} {H : Hp} {x d : D} {v : V} {lo hi : Option Int} {Q : VK} (tk : Trk A H) (rx : Rep1 K mg A H x v) (e : D.cut lo hi x = some d)
    (q : ∀ v' H', Same H H' → Rep K mg (off A H') d v' → Q v' H') : rSlAll K v lo hi H Q := by
  cases x with
  | lst l =>
    cases (Option.some.inj e)
    obtain ⟨p, vs, e1, h, r⟩ := rx
    exact .inl ⟨p, vs, e1, SqL.of h, fun t nt => q _ _ (same_upd nt) (rep_lst tk nt r.cut)⟩
  | tup l =>
    cases (Option.some.inj e)
    obtain ⟨p, vs, e1, h, r⟩ := rx
    refine .inr (.inl ⟨p, vs, e1, SqT.mono off_le h, fun hw => ?_, fun _ t nt => q _ _ (same_upd nt) (rep_tup tk nt r.cut)⟩)
    have hl := r.length
    rw [← hl] at hw
    rw [sIx_whole hw] at q
    exact q _ _ (Same.refl _) ⟨p, vs, rfl, h, r⟩
  | str s =>
    obtain ⟨hz, rfl⟩ := ite_some e
    exact .inr (.inr ⟨s, rx, hz, q _ _ (Same.refl _) rfl⟩)
  | _ => cases e
theorem de_slice {lo hi : Option Expr} {l u : Option (M D)} {p2 : Pos} (ha : DO X a x) (hl : DP X lo l) (hu : DP X hi u) : DE X (.Subscript a (.Slice lo hi none p2) pos) (slc x l u) := fun W tk =>
  pe_imp (pe_slice (sl_list.or (sl_tupA.or sl_str)) (ha W tk) (hl W tk) (hu W tk)) fun σ H Q ⟨w, A, ρ, R, q⟩ => by
    refine ⟨w, A, ρ, R, ?_⟩
    unfold slc at q
    cases hx : x.ev ρ with
    | exc e ρ1 => rw [bnd_exc hx] at q; exact q
    | bad => rw [bnd_bad hx] at q; exact q
    | ok v ρ1 =>
      rw [bnd_ok hx] at q
      intro vv H1 ex1 R1 r1
      refine ⟨w, A, ρ1, R1, ?_⟩
      cases hy : Pt.ev l ρ1 with
      | exc e ρ2 => rw [bnd_exc hy] at q; exact fun c dd H2 ex2 R2 z => q c dd H2 (ex1.trans ex2) R2 z
      | bad => rw [bnd_bad hy] at q; exact q
      | ok lv ρ2 =>
        rw [bnd_ok hy] at q
        intro H2 ex2 R2
        refine ⟨w, A, ρ2, R2, ?_⟩
        cases hz : Pt.ev u ρ2 with
        | exc e ρ3 => rw [bnd_exc hz] at q; exact fun c dd H3 ex3 R3 z => q c dd H3 ((ex1.trans ex2).trans ex3) R3 z
        | bad => rw [bnd_bad hz] at q; exact q
        | ok uv ρ3 =>
          rw [bnd_ok hz] at q
          intro H3 ex3 R3
          cases hd : (rs v ρ3).bind (D.cut lv uv) with
          | none => rw [hd] at q; exact q.elim
          | some d =>
            rw [hd] at q
            obtain ⟨p', hp', hd⟩ := Option.bind_eq_some_iff.mp hd
            exact snd_cut R3.trk (rs_rep R3 (r1.ext (ex2.trans ex3)) hp') hd (op_end R3 ((ex1.trans ex2).trans ex3) q)
def dvs : List AV → Option (List D)
  | [] => some []
  | .d d :: as => (dvs as).map fun ds => d :: ds
  | .o _ :: _ => none
theorem dvs_rep {A : List Addr} {σ : St} {H : Hp} : ∀ {xs : List AV} {vs : List V} {ds : List D}, AVRs K mg A σ H xs vs → dvs xs = some ds → Reps K mg (off A H) ds vs
  | [], vs, ds, h, e => by cases (Option.some.inj e); exact h
  | .d d :: xs, vs, ds, ⟨v, r, e1, h, t⟩, e => by
    obtain ⟨ds', h2, e2⟩ := Option.map_eq_some_iff.mp e
    subst e1; subst e2
    exact ⟨v, r, rfl, h, dvs_rep t h2⟩
  | .o _ :: _, _, _, _, e => by cases e
def opV (f : List D → Option D) (as : List Arg) : M D := M.bnd (evs as) fun xs ρ => match (dvs xs).bind f with
  | some r => .ok r ρ
  | none => .bad
theorem de_vals {r : TA → TE} {f : List D → Option D} {e : Expr} (hp : ∀ t : TA, PA X es t → PE X e (r t)) (hm : ∀ (t : TA) σ H Q G, t σ H G → (∀ vs H1, G vs H1 → r (fun _ H' Q' => Q' vs H') σ H1 Q) → r t σ H Q)
    (hs : ∀ (A : List Addr) (σ : St) (H : Hp) (xs : List D) (d : D) (vs : List V) (Q : VK), Trk A H → Reps K mg (off A H) xs vs → f xs = some d → (∀ v' H', Same H H' → Rep K mg (off A H') d v' → Q v' H') → r (fun _ H' Q' => Q' vs H') σ H Q)
    (ha : DA X es as) (hK : X.K = K) (hg : X.mg = mg) : DE X e (opV f as) := fun W tk =>
  pe_imp (hp _ (ha W tk)) fun σ H Q ⟨w, A, ρ, R, q⟩ => by
    subst hK hg
    refine hm _ σ H Q (fun vs H1 => r (fun _ H' Q' => Q' vs H') σ H1 Q) ⟨w, A, ρ, R, ?_⟩ fun _ _ h => h
    unfold opV at q
    cases hx : evs as ρ with
    | exc e ρ1 => rw [bnd_exc hx] at q; exact q
    | bad => rw [bnd_bad hx] at q; exact q
    | ok v ρ1 =>
      rw [bnd_ok hx] at q
      intro vv H1 ex1 R1 r1
      cases hd : (dvs v).bind f with
      | none => rw [hd] at q; exact q.elim
      | some d =>
        rw [hd] at q
        obtain ⟨p, hp, hd⟩ := Option.bind_eq_some_iff.mp hd
        exact hs A σ H1 p d vv Q R1.trk (dvs_rep r1 hp) hd (op_end R1 ex1 q)
def D.mkL (l : List D) : Option D := if l.length ≤ sizeLine then some (.lst l) else none
def D.mkT (l : List D) : Option D := if l.length ≤ sizeLine then some (.tup l) else none
theorem da_mono {t : TA} {W : WZ} (h : PA X es (tA X.K X.mg W as)) : PA X es (tA X.K X.mg W as) := h
theorem de_lst (ha : DA X es as) : DE X (.List es pos) (opV D.mkL as) := fun W tk => pe_imp (pe_lst (ha W tk)) fun σ H Q ⟨w, A, ρ, R, q⟩ => by
  refine ⟨w, A, ρ, R, ?_⟩
  unfold opV at q
  cases hx : evs as ρ with
  | exc e ρ1 => rw [bnd_exc hx] at q; exact q
  | bad => rw [bnd_bad hx] at q; exact q
  | ok v ρ1 =>
    rw [bnd_ok hx] at q
    intro vv H1 ex1 R1 r1
    cases hd : (dvs v).bind D.mkL with
    | none => rw [hd] at q; exact q.elim
    | some d =>
      rw [hd] at q
      obtain ⟨p, hp, hd⟩ := Option.bind_eq_some_iff.mp hd
      obtain ⟨hz, rfl⟩ := ite_some hd
      have r := dvs_rep r1 hp
      exact ⟨by rw [← r.length]; exact hz, fun t nt => op_end R1 ex1 q _ _ (same_upd nt) (rep_lst R1.trk nt r)⟩
theorem de_tup {x1} (ha : DA X es as) : DE X (.Tuple es x1 pos) (opV D.mkT as) := fun W tk => pe_imp (pe_tup (ha W tk)) fun σ H Q ⟨w, A, ρ, R, q⟩ => by
  refine ⟨w, A, ρ, R, ?_⟩
  unfold opV at q
  cases hx : evs as ρ with
  | exc e ρ1 => rw [bnd_exc hx] at q; exact q
  | bad => rw [bnd_bad hx] at q; exact q
  | ok v ρ1 =>
    rw [bnd_ok hx] at q
    intro vv H1 ex1 R1 r1
    cases hd : (dvs v).bind D.mkT with
    | none => rw [hd] at q; exact q.elim
    | some d =>
      rw [hd] at q
      obtain ⟨p, hp, hd⟩ := Option.bind_eq_some_iff.mp hd
      obtain ⟨hz, rfl⟩ := ite_some hd
      have r := dvs_rep r1 hp
      exact ⟨by rw [← r.length]; exact hz, fun t nt => op_end R1 ex1 q _ _ (same_upd nt) (rep_tup R1.trk nt r)⟩
theorem zip_lookup {F : Hp} {f : Str} : ∀ {ns : List Str} {ds : List D} {vs : List V} {d : D}, Reps K mg F ds vs → (ns.zip ds).lookup f = some d → ∃ v, (ns.zip vs).lookup f = some v ∧ Rep K mg F d v
  | [], _, _, _, _, h => by simp at h
  | n :: ns, [], _, _, _, h => by simp at h
  | n :: ns, d' :: ds, _, d, ⟨v, r, e, h1, h2⟩, h => by
    subst e
    rw [List.zip_cons_cons, List.lookup_cons] at h ⊢
    cases hf : f == n with
    | true => rw [hf] at h; cases (Option.some.inj h); exact ⟨v, rfl, h1⟩
    | false => rw [hf] at h; exact zip_lookup h2 h
def D.fld (c f : Str) : D → Option D
  | .obj c' ns l => if c' = c then (ns.zip l).lookup f else none
  | _ => none
/-- what the written part says of a class and a field of it -/
def FldOk (K : PySem.W.Frag) (mg : Str → Option Value) (c f : Str) : Prop := ∀ C, mg c = some (.ref C) → Cls K C ∧ NoAttr K C f
theorem de_fld {c f : Str} (ok : FldOk X.K X.mg c f) (ha : DO X a x) (hb : attributeBase a f X.env (eval a X.env) = eval a X.env := by rfl) : DE X (.Attribute a f pos) (op1 (D.fld c f) x) :=
  de_one (r := fun x H1 Q => ∃ a C dx fs v, x = .ref a ∧ H1 a = some (.ins C dx fs) ∧ Cls X.K C ∧ NoAttr X.K C f ∧ fs.lookup f = some v ∧ Q v H1) (fun _ h => pe_fld h hb) (by
    intro A H x d v Q tk rx e q
    cases x with
    | obj c' ns l =>
      obtain ⟨a, C, dx, fvs, e1, m, h, n, r⟩ := rx
      have e : (if c' = c then (ns.zip l).lookup f else none) = some d := e
      by_cases hc : c' = c
      · subst hc
        rw [if_pos rfl] at e
        obtain ⟨u, h1, h2⟩ := zip_lookup r e
        exact ⟨a, C, dx, _, u, e1, h, (ok C m).1, (ok C m).2, h1, q _ _ (Same.refl _) h2⟩
      · rw [if_neg hc] at e; cases e
    | _ => cases e) ha
def D.len : List D → Option D
  | [.lst l] => some (.int l.length)
  | [.tup l] => some (.int l.length)
  | [.scr l] => some (.int l.length)
  | [.str s] => if s.length ≤ sizeLine then some (.int s.length) else none
  | _ => none
def D.toL : List D → Option D
  | [.lst l] => some (.lst l)
  | [.tup l] => some (.lst l)
  | _ => none
def D.toT : List D → Option D
  | [.lst l] => some (.tup l)
  | [.tup l] => some (.tup l)
  | _ => none
def D.toI : List D → Option D
  | [.int i] => some (.int i)
  | [.bl k] => some (.int (if k then 1 else 0))
  | _ => none
theorem Reps1.one {A : List Addr} {H : Hp} {d : D} {vs : List V} (h : Reps1 K mg A H [d] vs) : ∃ v, vs = [v] ∧ Rep1 K mg A H d v := by
  cases h with
  | cons h t => cases t; exact ⟨_, rfl, h⟩
theorem Reps1.two {A : List Addr} {H : Hp} {d d' : D} {vs : List V} (h : Reps1 K mg A H [d, d'] vs) : ∃ v u, vs = [v, u] ∧ Rep1 K mg A H d v ∧ Rep1 K mg A H d' u := by
  cases h with
  | cons h t => cases t with
    | cons h' t => cases t; exact ⟨_, _, rfl, h, h'⟩
theorem snd_len : SndN K mg (fun xs H Q => (∃ p ys, xs = [.ref p] ∧ (SqL K H p ys ∨ SqT K H p ys) ∧ Q (.int ys.length) H) ∨ ∃ z, xs = [.str z] ∧ z.length ≤ sizeLine ∧ Q (.int z.length) H) D.len := by
  intro A H xs d vs Q tk rx e q
  match xs, rx, e with
  | [.lst l], rx, e =>
    obtain ⟨v, rfl, p, us, rfl, h, r⟩ := rx.one
    cases (Option.some.inj e)
    exact .inl ⟨p, us, rfl, .inl (SqL.of h), q _ _ (Same.refl _) (by rw [r.length]; rfl)⟩
  | [.scr l], rx, e =>
    obtain ⟨v, rfl, p, us, rfl, h, r⟩ := rx.one
    cases (Option.some.inj e)
    exact .inl ⟨p, us, rfl, .inl (SqL.mono off_le h), q _ _ (Same.refl _) (by rw [r.length]; rfl)⟩
  | [.tup l], rx, e =>
    obtain ⟨v, rfl, p, us, rfl, h, r⟩ := rx.one
    cases (Option.some.inj e)
    exact .inl ⟨p, us, rfl, .inr (SqT.mono off_le h), q _ _ (Same.refl _) (by rw [r.length]; rfl)⟩
  | [.str s], rx, e =>
    obtain ⟨v, rfl, r⟩ := rx.one
    cases r
    obtain ⟨hz, rfl⟩ := ite_some e
    exact .inr ⟨s, rfl, hz, q _ _ (Same.refl _) rfl⟩
theorem de_len (hg : Gl X "len") (hm : X.mg "len" = none) (ha : DA X (e :: es) as)
    (he : starEach (e :: es) X.env = (false, eval e X.env) :: starEach es X.env := by rfl) (hpl : (backTo pos (starEach es X.env)).any (·.1) = false := by rfl) : DE X (.Call (.Name "len" p) (e :: es) [] pos) (opN D.len as) :=
  de_many (fun _ h => pe_callB (call_len_seq.or call_len_str) hg hm PySem.boot_len h (he := he) (hpl := hpl)) snd_len ha
theorem de_list (hg : Gl X "list") (hm : X.mg "list" = none) (ha : DA X (e :: es) as)
    (he : starEach (e :: es) X.env = (false, eval e X.env) :: starEach es X.env := by rfl) (hpl : (backTo pos (starEach es X.env)).any (·.1) = false := by rfl) : DE X (.Call (.Name "list" p) (e :: es) [] pos) (opN D.toL as) :=
  de_many (fun _ h => pe_callTy call_list_of hg hm (by decide +kernel) h (he := he) (hpl := hpl)) (by
    intro A H xs d vs Q tk rx e q
    match xs, rx, e with
    | [.lst l], rx, e =>
      obtain ⟨v, rfl, p, us, rfl, h, r⟩ := rx.one
      cases (Option.some.inj e)
      exact ⟨p, us, rfl, .inl (SqL.of h), fun t nt => q _ _ (same_upd nt) (rep_lst tk nt r)⟩
    | [.tup l], rx, e =>
      obtain ⟨v, rfl, p, us, rfl, h, r⟩ := rx.one
      cases (Option.some.inj e)
      exact ⟨p, us, rfl, .inr (SqT.mono off_le h), fun t nt => q _ _ (same_upd nt) (rep_lst tk nt r)⟩) ha
theorem de_tuple (hg : Gl X "tuple") (hm : X.mg "tuple" = none) (ha : DA X (e :: es) as)
    (he : starEach (e :: es) X.env = (false, eval e X.env) :: starEach es X.env := by rfl) (hpl : (backTo pos (starEach es X.env)).any (·.1) = false := by rfl) : DE X (.Call (.Name "tuple" p) (e :: es) [] pos) (opN D.toT as) :=
  de_many (fun _ h => pe_callTy call_tuple_of hg hm (by decide +kernel) h (he := he) (hpl := hpl)) (by
    intro A H xs d vs Q tk rx e q
    match xs, rx, e with
    | [.lst l], rx, e =>
      obtain ⟨v, rfl, p, us, rfl, h, r⟩ := rx.one
      cases (Option.some.inj e)
      exact ⟨p, us, rfl, .inl ⟨SqL.of h, fun t nt => q _ _ (same_upd nt) (rep_tup tk nt r)⟩⟩
    | [.tup l], rx, e =>
      obtain ⟨v, rfl, p, us, rfl, h, r⟩ := rx.one
      cases (Option.some.inj e)
      exact ⟨p, us, rfl, .inr ⟨SqT.mono off_le h, q _ _ (Same.refl _) ⟨p, us, rfl, h, r⟩⟩⟩) ha
theorem de_intc (hg : Gl X "int") (hm : X.mg "int" = none) (ha : DA X (e :: es) as)
    (he : starEach (e :: es) X.env = (false, eval e X.env) :: starEach es X.env := by rfl) (hpl : (backTo pos (starEach es X.env)).any (·.1) = false := by rfl) : DE X (.Call (.Name "int" p) (e :: es) [] pos) (opN D.toI as) :=
  de_many (fun _ h => pe_callTy call_int1 hg hm (by decide +kernel) h (he := he) (hpl := hpl)) (by
    intro A H xs d vs Q tk rx e q
    match xs, rx, e with
    | [.int l], rx, e =>
      obtain ⟨v, rfl, r⟩ := rx.one
      cases r
      cases (Option.some.inj e)
      exact .inl ⟨l, rfl, q _ _ (Same.refl _) rfl⟩
    | [.bl l], rx, e =>
      obtain ⟨v, rfl, r⟩ := rx.one
      cases r
      cases (Option.some.inj e)
      exact .inr ⟨l, rfl, q _ _ (Same.refl _) rfl⟩) ha
end
end DL
namespace DL
open PySem L2
section
variable {X : Cx} {a b c e : Expr} {es : List Expr} {x y : Arg} {as : List Arg} {pos p : Pos} {K : PySem.W.Frag} {mg : Str → Option Value}
theorem Rep1.same {A : List Addr} {H H' : Hp} (s : Same H H') : ∀ {d : D} {v : V}, Rep1 K mg A H d v → Rep1 K mg A H' d v
  | .lst l, _, ⟨a, xs, e, q, r⟩ => ⟨a, xs, e, s _ _ q, r.mono (off_Same s)⟩
  | .obj _ _ l, _, ⟨a, C, dx, fvs, e, m, q, n, r⟩ => ⟨a, C, dx, fvs, e, m, s _ _ q, n, r.mono (off_Same s)⟩
  | .non, _, h => h
  | .bl _, _, h => h
  | .int _, _, h => h
  | .str _, _, h => h
  | .fn _, _, h => h
  | .tup l, v, h => Rep.mono (off_Same s) (.tup l) v h
  | .scr l, v, h => Rep.mono (off_Same s) (.scr l) v h
def D.intsOf : List D → Option (List Int)
  | [] => some []
  | .int i :: r => (D.intsOf r).map fun is => i :: is
  | _ => none
def D.blsOf : List D → Option (List Bool)
  | [] => some []
  | .bl i :: r => (D.blsOf r).map fun is => i :: is
  | _ => none
theorem ints_vals {F : Hp} : ∀ {l : List D} {vs : List V} {ns : List Int}, Reps K mg F l vs → D.intsOf l = some ns → vs = ns.map V.int
  | [], _, _, r, e => by cases (Option.some.inj e); exact r
  | .int i :: l, _, _, ⟨v, r, e1, h, t⟩, e => by
    obtain ⟨ns', h2, e2⟩ := Option.map_eq_some_iff.mp e
    subst e1; subst e2
    rw [ints_vals t h2, show v = .int i from h]
    rfl
  | .non :: _, _, _, _, e => by cases e
  | .bl _ :: _, _, _, _, e => by cases e
  | .str _ :: _, _, _, _, e => by cases e
  | .tup _ :: _, _, _, _, e => by cases e
  | .lst _ :: _, _, _, _, e => by cases e
  | .obj _ _ _ :: _, _, _, _, e => by cases e
  | .fn _ :: _, _, _, _, e => by cases e
  | .scr _ :: _, _, _, _, e => by cases e
theorem bls_vals {F : Hp} : ∀ {l : List D} {vs : List V} {ns : List Bool}, Reps K mg F l vs → D.blsOf l = some ns → vs = ns.map V.bl
  | [], _, _, r, e => by cases (Option.some.inj e); exact r
  | .bl i :: l, _, _, ⟨v, r, e1, h, t⟩, e => by
    obtain ⟨ns', h2, e2⟩ := Option.map_eq_some_iff.mp e
    subst e1; subst e2
    rw [bls_vals t h2, show v = .bl i from h]
    rfl
  | .non :: _, _, _, _, e => by cases e
  | .int _ :: _, _, _, _, e => by cases e
  | .str _ :: _, _, _, _, e => by cases e
  | .tup _ :: _, _, _, _, e => by cases e
  | .lst _ :: _, _, _, _, e => by cases e
  | .obj _ _ _ :: _, _, _, _, e => by cases e
  | .fn _ :: _, _, _, _, e => by cases e
  | .scr _ :: _, _, _, _, e => by cases e
@[simp] theorem intsOf_map (l : List Int) : D.intsOf (l.map D.int) = some l := by
  induction l with
  | nil => rfl
  | cons a r ih => show (D.intsOf (r.map D.int)).map _ = _; rw [ih]; rfl
@[simp] theorem blsOf_map (l : List Bool) : D.blsOf (l.map D.bl) = some l := by
  induction l with
  | nil => rfl
  | cons a r ih => show (D.blsOf (r.map D.bl)).map _ = _; rw [ih]; rfl
/-- a built-in function called by its name -/
theorem de_callB {nm : Str} {id : String} {r : List V → Hp → VK → Prop} {f : List D → Option D} (hc : CallR X (.builtin id) r) (hs : SndN X.K X.mg r f) (hv : bootBuiltins nm = some (.builtin id)) (hn : nm ≠ "__name__") (hdb : (nm == ("__debug__" : Str)) = false)
    (hg : Gl X nm) (hm : X.mg nm = none) (ha : DA X (e :: es) as)
    (he : starEach (e :: es) X.env = (false, eval e X.env) :: starEach es X.env := by rfl) (hpl : (backTo pos (starEach es X.env)).any (·.1) = false := by rfl) : DE X (.Call (.Name nm p) (e :: es) [] pos) (opN f as) :=
  de_many (fun _ h => pe_callB hc hg hm hv h hn hdb he hpl) hs ha
theorem de_callTy {nm : Str} {T : String} {r : List V → Hp → VK → Prop} {f : List D → Option D} (hc : CallR X (.type T) r) (hs : SndN X.K X.mg r f) (hv : bootBuiltins nm = some (.type T)) (hn : nm ≠ "__name__") (hdb : (nm == ("__debug__" : Str)) = false)
    (hg : Gl X nm) (hm : X.mg nm = none) (ha : DA X (e :: es) as)
    (he : starEach (e :: es) X.env = (false, eval e X.env) :: starEach es X.env := by rfl) (hpl : (backTo pos (starEach es X.env)).any (·.1) = false := by rfl) : DE X (.Call (.Name nm p) (e :: es) [] pos) (opN f as) :=
  de_many (fun _ h => pe_callTy hc hg hm hv h hn hdb he hpl) hs ha
def D.sum : List D → Option D
  | [.lst l] => (D.intsOf l).map fun ns => .int ns.sum
  | _ => none
def lmax : Int → List Int → Int
  | a, [] => a
  | a, b :: r => lmax (max a b) r
def lmin : Int → List Int → Int
  | a, [] => a
  | a, b :: r => lmin (min a b) r
theorem lmax_ge : ∀ (r : List Int) (a : Int), a ≤ lmax a r ∧ ∀ y ∈ r, y ≤ lmax a r
  | [], a => ⟨Int.le_refl _, fun y h => by cases h⟩
  | b :: r, a => by
    obtain ⟨h1, h2⟩ := lmax_ge r (max a b)
    refine ⟨by show a ≤ lmax (max a b) r; omega, fun y hy => ?_⟩
    rcases List.mem_cons.mp hy with rfl | hy
    · show y ≤ lmax (max a y) r; omega
    · exact h2 y hy
theorem lmax_mem : ∀ (r : List Int) (a : Int), lmax a r ∈ a :: r
  | [], a => by simp [lmax]
  | b :: r, a => by
    have h := lmax_mem r (max a b)
    show lmax (max a b) r ∈ _
    rcases List.mem_cons.mp h with h | h
    · rw [h]
      rcases Int.le_total a b with q | q
      · rw [Int.max_eq_right q]; simp
      · rw [Int.max_eq_left q]; simp
    · simp [h]
theorem lmin_le : ∀ (r : List Int) (a : Int), lmin a r ≤ a ∧ ∀ y ∈ r, lmin a r ≤ y
  | [], a => ⟨Int.le_refl _, fun y h => by cases h⟩
  | b :: r, a => by
    obtain ⟨h1, h2⟩ := lmin_le r (min a b)
    refine ⟨by show lmin (min a b) r ≤ a; omega, fun y hy => ?_⟩
    rcases List.mem_cons.mp hy with rfl | hy
    · show lmin (min a y) r ≤ y; omega
    · exact h2 y hy
theorem lmin_mem : ∀ (r : List Int) (a : Int), lmin a r ∈ a :: r
  | [], a => by simp [lmin]
  | b :: r, a => by
    have h := lmin_mem r (min a b)
    show lmin (min a b) r ∈ _
    rcases List.mem_cons.mp h with h | h
    · rw [h]
      rcases Int.le_total a b with q | q
      · rw [Int.min_eq_left q]; simp
      · rw [Int.min_eq_right q]; simp
    · simp [h]
theorem lmax_only {a : Int} {r : List Int} {m : Int} (h1 : m ∈ a :: r) (h2 : ∀ y ∈ a :: r, y ≤ m) : m = lmax a r := by
  have h3 := h2 _ (lmax_mem r a)
  obtain ⟨h4, h5⟩ := lmax_ge r a
  rcases List.mem_cons.mp h1 with h | h
  · omega
  · have := h5 m h; omega
theorem lmin_only {a : Int} {r : List Int} {m : Int} (h1 : m ∈ a :: r) (h2 : ∀ y ∈ a :: r, m ≤ y) : m = lmin a r := by
  have h3 := h2 _ (lmin_mem r a)
  obtain ⟨h4, h5⟩ := lmin_le r a
  rcases List.mem_cons.mp h1 with h | h
  · omega
  · have := h5 m h; omega
def D.max : List D → Option D
  | [.int i, .int j] => some (.int (Max.max i j))
  | [.lst l] => (D.intsOf l).bind fun ns => match ns with
    | a :: r => some (.int (lmax a r))
    | [] => none
  | _ => none
def D.min : List D → Option D
  | [.int i, .int j] => some (.int (Min.min i j))
  | [.lst l] => (D.intsOf l).bind fun ns => match ns with
    | a :: r => some (.int (lmin a r))
    | [] => none
  | _ => none
def D.all : List D → Option D
  | [.lst l] => (D.blsOf l).map fun ns => .bl (ns.all id)
  | _ => none
def D.any : List D → Option D
  | [.lst l] => (D.blsOf l).map fun ns => .bl (ns.any id)
  | _ => none
theorem de_sum (hc : X.calm = true) (hg : Gl X "sum") (hm : X.mg "sum" = none) (ha : DA X (e :: es) as)
    (he : starEach (e :: es) X.env = (false, eval e X.env) :: starEach es X.env := by rfl) (hpl : (backTo pos (starEach es X.env)).any (·.1) = false := by rfl) : DE X (.Call (.Name "sum" p) (e :: es) [] pos) (opN D.sum as) :=
  de_callB (cr_sum hc) (by
    intro A H xs d vs Q tk rx e q
    match xs, rx, e with
    | [.lst l], rx, e =>
      obtain ⟨v, rfl, p, us, rfl, h, r⟩ := rx.one
      obtain ⟨ns, h1, e1⟩ := Option.map_eq_some_iff.mp e
      subst e1
      rw [ints_vals r h1] at h
      exact ⟨p, ns, rfl, SqL.of h, q _ _ (Same.refl _) rfl⟩) PyProof.Rows.boot_sum (by decide) (by decide) hg hm ha he hpl
theorem de_max (hc : X.calm = true) (hg : Gl X "max") (hm : X.mg "max" = none) (ha : DA X (e :: es) as)
    (he : starEach (e :: es) X.env = (false, eval e X.env) :: starEach es X.env := by rfl) (hpl : (backTo pos (starEach es X.env)).any (·.1) = false := by rfl) : DE X (.Call (.Name "max" p) (e :: es) [] pos) (opN D.max as) :=
  de_callB ((call_max2 hc).or (cr_max hc)) (by
    intro A H xs d vs Q tk rx e q
    match xs, rx, e with
    | [.int i, .int j], rx, e =>
      obtain ⟨v, u, rfl, r1, r2⟩ := rx.two
      cases r1; cases r2
      cases (Option.some.inj e)
      refine .inl ⟨i, j, rfl, ?_⟩
      have : (if j > i then j else i) = Max.max i j := by split <;> omega
      rw [this]
      exact q _ _ (Same.refl _) rfl
    | [.lst l], rx, e =>
      obtain ⟨v, rfl, p, us, rfl, h, r⟩ := rx.one
      obtain ⟨ns, h1, e1⟩ := Option.bind_eq_some_iff.mp e
      rw [ints_vals r h1] at h
      cases ns with
      | nil => cases e1
      | cons n ns =>
        cases (Option.some.inj e1)
        exact .inr ⟨p, _, rfl, SqL.of h, by simp, fun m h1 h2 => by rw [lmax_only h1 h2]; exact q _ _ (Same.refl _) rfl⟩) PyProof.Rows.boot_max (by decide) (by decide) hg hm ha he hpl
theorem de_min (hc : X.calm = true) (hg : Gl X "min") (hm : X.mg "min" = none) (ha : DA X (e :: es) as)
    (he : starEach (e :: es) X.env = (false, eval e X.env) :: starEach es X.env := by rfl) (hpl : (backTo pos (starEach es X.env)).any (·.1) = false := by rfl) : DE X (.Call (.Name "min" p) (e :: es) [] pos) (opN D.min as) :=
  de_callB ((call_min2 hc).or (cr_min hc)) (by
    intro A H xs d vs Q tk rx e q
    match xs, rx, e with
    | [.int i, .int j], rx, e =>
      obtain ⟨v, u, rfl, r1, r2⟩ := rx.two
      cases r1; cases r2
      cases (Option.some.inj e)
      refine .inl ⟨i, j, rfl, ?_⟩
      have : (if j < i then j else i) = Min.min i j := by split <;> omega
      rw [this]
      exact q _ _ (Same.refl _) rfl
    | [.lst l], rx, e =>
      obtain ⟨v, rfl, p, us, rfl, h, r⟩ := rx.one
      obtain ⟨ns, h1, e1⟩ := Option.bind_eq_some_iff.mp e
      rw [ints_vals r h1] at h
      cases ns with
      | nil => cases e1
      | cons n ns =>
        cases (Option.some.inj e1)
        exact .inr ⟨p, _, rfl, SqL.of h, by simp, fun m h1 h2 => by rw [lmin_only h1 h2]; exact q _ _ (Same.refl _) rfl⟩) PyProof.Rows.boot_min (by decide) (by decide) hg hm ha he hpl
theorem boot_all : bootBuiltins "all" = some (.builtin "all") := by decide +kernel
theorem boot_any : bootBuiltins "any" = some (.builtin "any") := by decide +kernel
theorem de_all (hc : X.calm = true) (hg : Gl X "all") (hm : X.mg "all" = none) (ha : DA X (e :: es) as)
    (he : starEach (e :: es) X.env = (false, eval e X.env) :: starEach es X.env := by rfl) (hpl : (backTo pos (starEach es X.env)).any (·.1) = false := by rfl) : DE X (.Call (.Name "all" p) (e :: es) [] pos) (opN D.all as) :=
  de_callB (cr_all hc) (by
    intro A H xs d vs Q tk rx e q
    match xs, rx, e with
    | [.lst l], rx, e =>
      obtain ⟨v, rfl, p, us, rfl, h, r⟩ := rx.one
      obtain ⟨ns, h1, e1⟩ := Option.map_eq_some_iff.mp e
      subst e1
      rw [bls_vals r h1] at h
      exact ⟨p, ns, rfl, SqL.of h, q _ _ (Same.refl _) rfl⟩) boot_all (by decide) (by decide) hg hm ha he hpl
theorem de_any (hc : X.calm = true) (hg : Gl X "any") (hm : X.mg "any" = none) (ha : DA X (e :: es) as)
    (he : starEach (e :: es) X.env = (false, eval e X.env) :: starEach es X.env := by rfl) (hpl : (backTo pos (starEach es X.env)).any (·.1) = false := by rfl) : DE X (.Call (.Name "any" p) (e :: es) [] pos) (opN D.any as) :=
  de_callB (cr_any hc) (by
    intro A H xs d vs Q tk rx e q
    match xs, rx, e with
    | [.lst l], rx, e =>
      obtain ⟨v, rfl, p, us, rfl, h, r⟩ := rx.one
      obtain ⟨ns, h1, e1⟩ := Option.map_eq_some_iff.mp e
      subst e1
      rw [bls_vals r h1] at h
      exact ⟨p, ns, rfl, SqL.of h, q _ _ (Same.refl _) rfl⟩) boot_any (by decide) (by decide) hg hm ha he hpl
/-- the built-in classes that are asked for -/
inductive Ty where
  | int | bool | str | list | tuple
def Ty.nm : Ty → String
  | .int => "int" | .bool => "bool" | .str => "str" | .list => "list" | .tuple => "tuple"
def D.tn : D → Option String
  | .non => some "NoneType"
  | .bl _ => some "bool"
  | .int _ => some "int"
  | .str _ => some "str"
  | .tup _ => some "tuple"
  | .lst _ => some "list"
  | .scr _ => some "list"
  | _ => none
def D.is : Ty → D → Option Bool
  | .int, .int _ => some true | .int, .bl _ => some true | .bool, .bl _ => some true | .str, .str _ => some true
  | .list, .lst _ => some true | .list, .scr _ => some true | .tuple, .tup _ => some true
  | _, d => d.tn.map fun _ => false
theorem is_kit : ∀ (t : Ty) (d : D) (k : Bool), D.is t d = some k → ∃ n, d.tn = some n ∧ kitB n t.nm = some k := by
  intro t d k h
  cases t <;> cases d <;> first
    | (cases h; done)
    | (cases (Option.some.inj h); exact ⟨_, rfl, by decide +kernel⟩)
theorem tyx_of {A : List Addr} {H : Hp} {d : D} {v : V} {n : String} (r : Rep1 K mg A H d v) (h : d.tn = some n) : TyX K H v (.type n) := by
  cases d with
  | non => cases r; cases (Option.some.inj h); exact .base .non
  | bl b => cases r; cases (Option.some.inj h); exact .base (.bl _)
  | int b => cases r; cases (Option.some.inj h); exact .base (.int _)
  | str b => cases r; cases (Option.some.inj h); exact .base (.str _)
  | tup l =>
    obtain ⟨a, xs, rfl, q, _⟩ := r
    cases (Option.some.inj h)
    rcases SqT.mono off_le q with (q | ⟨o, q⟩) | ⟨o, its, n, q1, q2, _⟩
    · exact .base (.tup q)
    · exact .fTuple q
    · exact .kTuple q1 q2
  | lst l =>
    obtain ⟨a, xs, rfl, q, _⟩ := r
    cases (Option.some.inj h)
    exact .base (.lst q)
  | scr l =>
    obtain ⟨a, xs, rfl, q, _⟩ := r
    cases (Option.some.inj h)
    rcases SqL.mono off_le q with (q | ⟨o, q⟩) | ⟨o, its, n, q1, q2, _⟩
    · exact .base (.lst q)
    · exact .base (.frz q)
    · exact .kList q1 q2
  | obj _ _ _ => cases h
  | fn _ => cases h
def isiB (t : Ty) (d : D) : Option D := (D.is t d).map D.bl
def isi2 (t u : Ty) (d : D) : Option D := match D.is t d, D.is u d with
  | some a, some b => some (.bl (a || b))
  | _, _ => none
/-- isinstance(x, T) -/
theorem de_isi (t : Ty) {nm : Str} {p2 : Pos} (hg : Gl X "isinstance") (hm : X.mg "isinstance" = none) (hg2 : Gl X nm) (hm2 : X.mg nm = none) (hv : bootBuiltins nm = some (.type t.nm)) (ha : DO X a x)
    (hn : nm ≠ "__name__" := by decide) (hdb : (nm == ("__debug__" : Str)) = false := by decide)
    (hs : starEach [a, .Name nm p2] X.env = (false, eval a X.env) :: starEach [.Name nm p2] X.env := by rfl) (hs2 : starEach [.Name nm p2] X.env = (false, eval (.Name nm p2) X.env) :: starEach [] X.env := by rfl)
    (hpl : (backTo pos (starEach [.Name nm p2] X.env)).any (·.1) = false := by rfl) :
    DE X (.Call (.Name "isinstance" p) [a, .Name nm p2] [] pos) (op1 (isiB t) x) :=
  de_one (r := fun v H Q => rIsi X.K [v, .ty t.nm] H Q) (fun ta h => pe_imp (pe_callB call_isi hg hm PyProof.Rows.boot_isinstance (pa_cons h (pa_cons (pe_bltn (v := .ty t.nm) hg2 hm2 hv rfl hn hdb) pa_nil hs2) hs) (he := hs) (hpl := hpl)) fun σ H Q q => q) (by
    intro A H x d v Q tk rx e q
    obtain ⟨k, h1, e1⟩ := Option.map_eq_some_iff.mp e
    subst e1
    obtain ⟨n, h2, h3⟩ := is_kit t x k h1
    exact ⟨v, .ty t.nm, .type n, .type t.nm, k, rfl, .ty _, tyx_of rx h2, kit_ty h3, q _ _ (Same.refl _) rfl⟩) ha
/-- isinstance(x, (T, U)) -/
theorem de_isi2 (t u : Ty) {nm nm' : Str} {p2 p3 p4 : Pos} {k4} (hg : Gl X "isinstance") (hm : X.mg "isinstance" = none) (hg2 : Gl X nm) (hm2 : X.mg nm = none) (hv : bootBuiltins nm = some (.type t.nm)) (hg3 : Gl X nm') (hm3 : X.mg nm' = none) (hv3 : bootBuiltins nm' = some (.type u.nm)) (ha : DO X a x)
    (hn : nm ≠ "__name__" := by decide) (hdb : (nm == ("__debug__" : Str)) = false := by decide) (hn3 : nm' ≠ "__name__" := by decide) (hdb3 : (nm' == ("__debug__" : Str)) = false := by decide)
    (hs : starEach [a, .Tuple [.Name nm p2, .Name nm' p3] k4 p4] X.env = (false, eval a X.env) :: starEach [.Tuple [.Name nm p2, .Name nm' p3] k4 p4] X.env := by rfl)
    (hs2 : starEach [.Tuple [.Name nm p2, .Name nm' p3] k4 p4] X.env = (false, eval (.Tuple [.Name nm p2, .Name nm' p3] k4 p4) X.env) :: starEach [] X.env := by rfl)
    (hs3 : starEach [.Name nm p2, .Name nm' p3] X.env = (false, eval (.Name nm p2) X.env) :: starEach [.Name nm' p3] X.env := by rfl)
    (hs4 : starEach [.Name nm' p3] X.env = (false, eval (.Name nm' p3) X.env) :: starEach [] X.env := by rfl)
    (hpl : (backTo pos (starEach [.Tuple [.Name nm p2, .Name nm' p3] k4 p4] X.env)).any (·.1) = false := by rfl) :
    DE X (.Call (.Name "isinstance" p) [a, .Tuple [.Name nm p2, .Name nm' p3] k4 p4] [] pos) (op1 (isi2 t u) x) :=
  de_one (r := fun v H Q => [V.ty t.nm, V.ty u.nm].length ≤ sizeLine ∧ ∀ tp, H tp = none → rIsiT X.K [v, .ref tp] (upd H tp (.tup [.ty t.nm, .ty u.nm])) Q) (fun ta h => pe_imp (pe_callB call_isiT hg hm PyProof.Rows.boot_isinstance
      (pa_cons h (pa_cons (pe_tup (pa_cons (pe_bltn (v := .ty t.nm) hg2 hm2 hv rfl hn hdb) (pa_cons (pe_bltn (v := .ty u.nm) hg3 hm3 hv3 rfl hn3 hdb3) pa_nil hs4) hs3)) pa_nil hs2) hs) (he := hs) (hpl := hpl))
      fun σ H Q q => q) (by
    intro A H x d v Q tk rx e q
    refine ⟨by show 2 ≤ sizeLine; decide, fun tp hn => ?_⟩
    unfold isi2 at e
    cases h1 : D.is t x with
    | none => rw [h1] at e; cases e
    | some k1 =>
      cases h2 : D.is u x with
      | none => rw [h1, h2] at e; cases e
      | some k2 =>
        rw [h1, h2] at e
        cases (Option.some.inj e)
        obtain ⟨n, g1, g2⟩ := is_kit t x k1 h1
        obtain ⟨n', g3, g4⟩ := is_kit u x k2 h2
        rw [g1] at g3
        cases g3
        have ty : TyX X.K (upd H tp (.tup [.ty t.nm, .ty u.nm])) v (.type n) := tyx_of (rx.same (same_upd hn)) g1
        refine ⟨v, tp, [.ty t.nm, .ty u.nm], .type n, [.type t.nm, .type u.nm], (k1 || k2), rfl, upd_same, .cons (.ty _) (.cons (.ty _) .nil), ty, ?_, q _ _ (same_upd hn) rfl⟩
        refine kitAny_cons (kit_ty g2) (fun z => ?_) (fun z => by rw [z]; rfl)
        subst z
        refine kitAny_cons (kit_ty g4) (fun z => ?_) (fun z => by rw [z]; rfl)
        subst z
        exact kitAny_nil) ha
def D.strI : List D → Option D
  | [.int i] => if i.natAbs.log2 < 1920 then some (.str (toString i)) else none
  | _ => none
theorem de_strc (hg : Gl X "str") (hm : X.mg "str" = none) (ha : DA X (e :: es) as)
    (he : starEach (e :: es) X.env = (false, eval e X.env) :: starEach es X.env := by rfl) (hpl : (backTo pos (starEach es X.env)).any (·.1) = false := by rfl) : DE X (.Call (.Name "str" p) (e :: es) [] pos) (opN D.strI as) :=
  de_callTy call_str_int (by
    intro A H xs d vs Q tk rx e q
    match xs, rx, e with
    | [.int i], rx, e =>
      obtain ⟨v, rfl, r⟩ := rx.one
      cases r
      obtain ⟨hz, rfl⟩ := ite_some e
      exact ⟨i, rfl, hz, q _ _ (Same.refl _) rfl⟩) (by decide +kernel) (by decide) (by decide) hg hm ha he hpl
/-- lo, lo + 1, .. below hi -/
def rng (lo hi : Int) : List D := (List.range (hi - lo).toNat).map fun (k : Nat) => D.int (lo + (k : Int))
def D.rngOk (lo hi : Int) : Bool := decide (-(2 ^ 62) ≤ lo) && decide (lo < 2 ^ 62) && decide (-(2 ^ 62) ≤ hi) && decide (hi < 2 ^ 62)
def D.listRng : List D → Option D
  | [.int lo, .int hi] => if D.rngOk lo hi ∧ (hi - lo).toNat ≤ sizeLine then some (.lst (rng lo hi)) else none
  | [.int hi] => if D.rngOk 0 hi ∧ (hi - 0).toNat ≤ sizeLine then some (.lst (rng 0 hi)) else none
  | _ => none
theorem rngOk_of {lo hi : Int} (h : D.rngOk lo hi = true) : -(2 ^ 62) ≤ lo ∧ lo < 2 ^ 62 ∧ -(2 ^ 62) ≤ hi ∧ hi < 2 ^ 62 := by
  unfold D.rngOk at h
  simp only [Bool.and_eq_true, decide_eq_true_eq] at h
  exact ⟨h.1.1.1, h.1.1.2, h.1.2, h.2⟩
theorem reps_ints {F : Hp} : ∀ (l : List Int), Reps K mg F (l.map D.int) (l.map V.int)
  | [] => rfl
  | i :: l => ⟨.int i, _, rfl, rfl, reps_ints l⟩
theorem vals_of_ix : ∀ {xs : List V} {us : List Value}, xs.length = us.length → (∀ (k : Nat) x u, xs[k]? = some x → us[k]? = some u → RelV x u) → Vals xs us
  | [], [], _, _ => .nil
  | [], _ :: _, h, _ => by cases h
  | _ :: _, [], h, _ => by cases h
  | x :: xs, u :: us, h, r => .cons (r 0 x u (by simp) (by simp)) (vals_of_ix (by simpa using h) fun k y v h1 h2 => r (k + 1) y v (by simpa using h1) (by simpa using h2))
theorem call_list_rng (hc : X.calm = true) : CallR X (.type "list") (fun xs H Q => ∃ p i j, xs = [.ref p] ∧ H p = some (.rng i j) ∧ D.rngOk i j = true ∧ (j - i).toNat ≤ sizeLine ∧
    ∀ l, H l = none → Q (.ref l) (upd H l (.lst ((List.range (j - i).toNat).map fun (k : Nat) => V.int (i + (k : Int)))))) := by
  intro pins s σ H xs us Q I r h
  obtain ⟨p, i, j, rfl, hp, hb, hz, q⟩ := h
  obtain ⟨u, rfl, r1⟩ := vals1 r
  cases r1
  obtain ⟨t, u, v, hr⟩ := (show ObjOk X.prog X.w H s.heap p (.rng i j) from I.hok p _ hp)
  obtain ⟨b1, b2, b3, b4⟩ := rngOk_of hb
  have hsz : Builtin.Range.rangeSize i j 1 = (((j - i).toNat : Nat) : Int) := by
    rw [rangeSize_one]
    split <;> omega
  refine call_list_range (I.ok.hd hc) hr (small_one b1 b2 b3 b4) hsz (by rw [sizeLine_eq] at hz; omega) fun h' tk acc' c' hk hS hacc => ?_
  refine ⟨.ref s.heap.objs.size, _, I.laid (t' := tk) (o := .lst ((List.range (j - i).toNat).map fun (k : Nat) => V.int (i + (k : Int)))) hk (Nat.le_refl _) ?_, rfl, q _ (I.hok.fresh (Nat.le_refl _))⟩
  refine ⟨by simpa using hz, acc'.toList, c', ?_, by simpa using hS⟩
  obtain ⟨ha, hb⟩ := hacc
  refine vals_of_ix (by simpa using ha.symm) fun k x v hx hk => ?_
  rw [List.getElem?_map] at hx
  obtain ⟨k', hk', e⟩ := Option.map_eq_some_iff.mp hx
  have : k' = k := by
    obtain ⟨h1, h2⟩ := List.getElem?_eq_some_iff.mp hk'
    simpa using h2.symm
  subst this
  subst e
  obtain ⟨t, ht⟩ := hb k' v (by simpa using hk)
  exact ⟨t, by rw [ht]; congr 1; omega⟩
end
end DL
namespace DL
open PySem L2
section
variable {X : Cx} {a b c e : Expr} {es : List Expr} {x y : Arg} {as : List Arg} {pos p : Pos} {K : PySem.W.Frag} {mg : Str → Option Value}
theorem cr_range1 : CallR X (.type "range") (fun vs H Q => ∃ j, vs = [V.int j] ∧ ∀ p, H p = none → Q (.ref p) (upd H p (.rng 0 j))) := by
  intro pins s σ H vs us Q I r h
  obtain ⟨j, rfl, q⟩ := h
  obtain ⟨u1, rfl, rj⟩ := vals1 r
  obtain ⟨u, rfl⟩ := rj
  refine PySem.call_range_1 ⟨.ref s.heap.objs.size, upd H s.heap.objs.size (.rng 0 j), I.laid (t' := _) (fun b o e => Heap.get?_push_of_some _ e) (Nat.le_refl _) ?_, rfl, q _ (I.hok.fresh (Nat.le_refl _))⟩
  exact ⟨_, _, _, Heap.get?_push_size _ rfl⟩
def rRngA : List V → Hp → VK → Prop := fun vs H Q => (∃ j, vs = [V.int j] ∧ ∀ p, H p = none → Q (.ref p) (upd H p (.rng 0 j))) ∨ ∃ i j, vs = [V.int i, V.int j] ∧ ∀ p, H p = none → Q (.ref p) (upd H p (.rng i j))
def rLstRng : List V → Hp → VK → Prop := fun xs H Q => ∃ p i j, xs = [.ref p] ∧ H p = some (.rng i j) ∧ D.rngOk i j = true ∧ (j - i).toNat ≤ sizeLine ∧
    ∀ l, H l = none → Q (.ref l) (upd H l (.lst ((List.range (j - i).toNat).map fun (k : Nat) => V.int (i + (k : Int)))))
theorem de_listrng {p2 pos2 : Pos} (hc : X.calm = true) (hg : Gl X "list") (hm : X.mg "list" = none) (hg2 : Gl X "range") (hm2 : X.mg "range" = none) (ha : DA X (e :: es) as)
    (he : starEach [.Call (.Name "range" p2) (e :: es) [] pos2] X.env = (false, eval (.Call (.Name "range" p2) (e :: es) [] pos2) X.env) :: starEach [] X.env := by rfl) (hpl : (backTo pos (starEach [] X.env)).any (·.1) = false := by rfl)
    (he2 : starEach (e :: es) X.env = (false, eval e X.env) :: starEach es X.env := by rfl) (hpl2 : (backTo pos2 (starEach es X.env)).any (·.1) = false := by rfl) :
    DE X (.Call (.Name "list" p) [.Call (.Name "range" p2) (e :: es) [] pos2] [] pos) (opN D.listRng as) :=
  de_many (r := fun vs H Q => rRngA vs H fun x H2 => rLstRng [x] H2 Q)
    (fun t h => pe_callTy (r := rLstRng) (call_list_rng hc) hg hm (by decide +kernel) (pa_cons (pe_callTy (r := rRngA) (cr_range1.or cr_range2) hg2 hm2 (by decide +kernel) h (he := he2) (hpl := hpl2)) pa_nil he) (he := he) (hpl := hpl)) (by
    intro A H xs d vs Q tk rx e q
    match xs, rx, e with
    | [.int lo, .int hi], rx, e =>
      obtain ⟨v, u, rfl, r1, r2⟩ := rx.two
      cases r1; cases r2
      obtain ⟨⟨hb, hz⟩, rfl⟩ := ite_some e
      refine .inr ⟨lo, hi, rfl, fun t nt => ⟨t, lo, hi, rfl, upd_same, hb, hz, fun l nl => ?_⟩⟩
      have nl' : H l = none := by
        cases e : H l with
        | none => rfl
        | some o => rw [upd_ne (ne_of_none e nt), e] at nl; cases nl
      refine q _ _ ((same_upd nt).trans (same_upd nl)) (rep_lst (H := upd H t (.rng lo hi)) tk.upd nl ?_)
      unfold rng
      rw [show ((List.range (hi - lo).toNat).map fun (k : Nat) => D.int (lo + (k : Int))) = ((List.range (hi - lo).toNat).map fun (k : Nat) => (lo + (k : Int))).map D.int by rw [List.map_map]; rfl,
        show ((List.range (hi - lo).toNat).map fun (k : Nat) => V.int (lo + (k : Int))) = ((List.range (hi - lo).toNat).map fun (k : Nat) => (lo + (k : Int))).map V.int by rw [List.map_map]; rfl]
      exact reps_ints _
    | [.int hi], rx, e =>
      obtain ⟨v, rfl, r1⟩ := rx.one
      cases r1
      obtain ⟨⟨hb, hz⟩, rfl⟩ := ite_some e
      refine .inl ⟨hi, rfl, fun t nt => ⟨t, 0, hi, rfl, upd_same, hb, hz, fun l nl => ?_⟩⟩
      have nl' : H l = none := by
        cases e : H l with
        | none => rfl
        | some o => rw [upd_ne (ne_of_none e nt), e] at nl; cases nl
      refine q _ _ ((same_upd nt).trans (same_upd nl)) (rep_lst (H := upd H t (.rng 0 hi)) tk.upd nl ?_)
      unfold rng
      rw [show ((List.range (hi - 0).toNat).map fun (k : Nat) => D.int (0 + (k : Int))) = ((List.range (hi - 0).toNat).map fun (k : Nat) => (0 + (k : Int))).map D.int by rw [List.map_map]; rfl,
        show ((List.range (hi - 0).toNat).map fun (k : Nat) => V.int (0 + (k : Int))) = ((List.range (hi - 0).toNat).map fun (k : Nat) => (0 + (k : Int))).map V.int by rw [List.map_map]; rfl]
      exact reps_ints _) ha
def chL (f : D → D → Option D) (mb : M D) (d : D) : M D := M.bnd mb fun y => M.opt (f d y)
def chC (f : D → D → Option D) (mb : M D) (rest : D → M D) (d : D) : M D := M.bnd mb fun y => M.bnd (M.opt (f d y)) fun z => match z with
  | .bl true => rest y
  | .bl false => M.ret (.bl false)
  | _ => fun _ => .bad
structure CH (X : Cx) (ops : List CmpOp) (es : List Expr) (m : D → M D) : Prop where
  run : ∀ (W : WZ), TakesZ X W → ∀ (pos : Pos) (pins : List (Addr × Obj)) (s : Shared) (σ : St) (H : Hp) (Q : VK) (x : V) (v : Value) (w : WS W) (A : List Addr) (ρ : Ev) (d : D), Inv X pins σ H s → RelV x v → SR X.K X.mg w A ρ σ H → Rep X.K X.mg (off A H) d x →
    (match m d ρ with
      | .ok d' ρ' => ∀ v H', Ext A H H' → SR X.K X.mg w A ρ' σ H' → Rep X.K X.mg (off A H') d' v → Q v H'
      | .exc e ρ' => ∀ c dd H', Ext A H H' → SR X.K X.mg w A ρ' σ H' → ExR X.K X.mg A H' e c dd → W c dd σ H'
      | .bad => False) → wpAny (model X.prog X.w) X.A (compareChain pos v ops (evalEach es X.env)) (EP X pins σ Q) X.xe s
  test : ∀ (W : WZ), TakesZ X W → ∀ (pos : Pos) (pins : List (Addr × Obj)) (s : Shared) (σ : St) (H : Hp) (Q : Bool → Hp → Prop) (x : V) (v : Value) (w : WS W) (A : List Addr) (ρ : Ev) (d : D), Inv X pins σ H s → RelV x v → SR X.K X.mg w A ρ σ H → Rep X.K X.mg (off A H) d x →
    (match asTest (m d) ρ with
      | .ok d' ρ' => ∀ H', Ext A H H' → SR X.K X.mg w A ρ' σ H' → Q d' H'
      | .exc e ρ' => ∀ c dd H', Ext A H H' → SR X.K X.mg w A ρ' σ H' → ExR X.K X.mg A H' e c dd → W c dd σ H'
      | .bad => False) → wpAny (model X.prog X.w) X.A (testChain pos v ops (evalEach es X.env)) (TP X pins σ Q) X.xe s
variable {op op' : CmpOp} {ops : List CmpOp} {r : R2} {f : D → D → Option D} {m mb : M D} {rest : D → M D}
theorem ch_last (ho : OpR X (compareOp op) r) (hs : Snd2 X.K X.mg r f) (hb : DE X b mb) : CH X [op] [b] (chL f mb) where
  run := by
    intro W tk pos pins s σ H Q x v w A ρ d I rx R r0 q
    refine PyProof.Rows.chain_last ?_
    refine thn ((hb W tk).run pins s σ H (fun y H1 => r x y H1 Q) I ⟨w, A, ρ, R, ?_⟩) fun u s1 ⟨y, H1, I1, r1, q1⟩ => ho pins s1 σ H1 x y v u Q I1 rx r1 q1
    unfold chL at q
    cases hm : mb ρ with
    | exc e ρ1 => rw [bnd_exc hm] at q; exact q
    | bad => rw [bnd_bad hm] at q; exact q
    | ok d1 ρ1 =>
      rw [bnd_ok hm] at q
      intro v1 H1 ex1 R1 r1
      cases hf : f d d1 with
      | none => rw [hf] at q; exact q.elim
      | some z => rw [hf] at q; exact hs A H1 d d1 z x v1 Q R1.trk (Rep1.of (r0.mono ex1.off)) (Rep1.of r1) hf (op_end R1 ex1 q)
  test := by
    intro W tk pos pins s σ H Q x v w A ρ d I rx R r0 q
    refine PyProof.Rows.test_last ?_
    refine thn ((hb W tk).run pins s σ H (fun y H1 => r x y H1 fun z H2 => ∃ k, z = .bl k ∧ Q k H2) I ⟨w, A, ρ, R, ?_⟩) fun u s1 ⟨y, H1, I1, r1, q1⟩ => thn (ho pins s1 σ H1 x y v u _ I1 rx r1 q1) fun c s2 ⟨z, H2, I2, r2, k, e, q2⟩ => by
      subst e
      cases r2
      exact wpAny_truthy_bool ⟨H2, I2, q2⟩
    unfold asTest chL at q
    cases hm : mb ρ with
    | exc e ρ1 => rw [bnd_exc (bnd_exc hm)] at q; exact q
    | bad => rw [bnd_bad (bnd_bad hm)] at q; exact q
    | ok d1 ρ1 =>
      intro v1 H1 ex1 R1 r1
      cases hf : f d d1 with
      | none => rw [bnd_bad (by rw [bnd_ok hm, hf]; rfl)] at q; exact q.elim
      | some z =>
        rw [bnd_ok (a := z) (ρ' := ρ1) (by rw [bnd_ok hm, hf]; rfl)] at q
        refine hs A H1 d d1 z x v1 _ R1.trk (Rep1.of (r0.mono ex1.off)) (Rep1.of r1) hf fun v' H' sm rr => ?_
        cases z with
        | bl k => exact ⟨k, rr, q H' (ex1.trans (.of sm)) (R1.same sm)⟩
        | _ => exact q.elim
theorem ch_cons {b2 : Expr} (ho : OpR X (compareOp op) r) (hs : Snd2 X.K X.mg r f) (hb : DE X b mb) (hr : CH X (op' :: ops) (b2 :: es) rest) : CH X (op :: op' :: ops) (b :: b2 :: es) (chC f mb rest) where
  run := by
    intro W tk pos pins s σ H Q x v w A ρ d I rx R r0 q
    refine PyProof.Rows.chain_link ?_
    refine thn ((hb W tk).run pins s σ H (fun y H1 => r x y H1 fun z H2 => ∃ k, z = .bl k ∧ if k = true then (∃ (w : WS W) (A : List Addr) (ρ : Ev) (d : D), SR X.K X.mg w A ρ σ H2 ∧ Rep X.K X.mg (off A H2) d y ∧ (match rest d ρ with
        | .ok d' ρ' => ∀ v H', Ext A H2 H' → SR X.K X.mg w A ρ' σ H' → Rep X.K X.mg (off A H') d' v → Q v H'
        | .exc e ρ' => ∀ c dd H', Ext A H2 H' → SR X.K X.mg w A ρ' σ H' → ExR X.K X.mg A H' e c dd → W c dd σ H'
        | .bad => False)) else Q (.bl false) H2) I ⟨w, A, ρ, R, ?_⟩) fun u s1 ⟨y, H1, I1, r1, q1⟩ => thn (ho pins s1 σ H1 x y v u _ I1 rx r1 q1) fun c s2 ⟨z, H2, I2, r2, k, e, q2⟩ => by
      subst e
      cases r2
      refine wpAny_truthy_bool ?_
      cases k with
      | false =>
        simp only [Bool.false_eq_true, if_false] at q2 ⊢
        exact ⟨.bl false, H2, I2, rfl, q2⟩
      | true =>
        simp only [if_true] at q2 ⊢
        obtain ⟨w2, A2, ρ2, d2, R2, rr2, q3⟩ := q2
        exact hr.run W tk pos pins s2 σ H2 Q y u w2 A2 ρ2 d2 I2 r1 R2 rr2 q3
    unfold chC at q
    cases hm : mb ρ with
    | exc e ρ1 => rw [bnd_exc hm] at q; exact q
    | bad => rw [bnd_bad hm] at q; exact q
    | ok d1 ρ1 =>
      rw [bnd_ok hm] at q
      intro v1 H1 ex1 R1 r1
      cases hf : f d d1 with
      | none => rw [hf, bnd_bad (m := M.opt none) rfl] at q; exact q.elim
      | some z =>
        rw [hf, bnd_ok (m := M.opt (some z)) (a := z) (ρ' := ρ1) rfl] at q
        refine hs A H1 d d1 z x v1 _ R1.trk (Rep1.of (r0.mono ex1.off)) (Rep1.of r1) hf fun v' H' sm rr => ?_
        cases z with
        | bl k =>
          refine ⟨k, rr, ?_⟩
          cases k with
          | false =>
            simp only [Bool.false_eq_true, if_false]
            exact q _ H' (ex1.trans (.of sm)) (R1.same sm) rfl
          | true =>
            simp only [if_true]
            refine ⟨w, A, ρ1, d1, R1.same sm, r1.mono (off_Same sm), ?_⟩
            dsimp only at q
            cases hf : rest d1 ρ1 with
            | exc e ρ2 => rw [hf] at q; exact fun c dd H2 ex2 R2 z => q c dd H2 ((ex1.trans (.of sm)).trans ex2) R2 z
            | bad => rw [hf] at q; exact q
            | ok c ρ2 => rw [hf] at q; exact fun v2 H2 ex2 R2 => q v2 H2 ((ex1.trans (.of sm)).trans ex2) R2
        | _ => exact q.elim
  test := by
    intro W tk pos pins s σ H Q x v w A ρ d I rx R r0 q
    refine PyProof.Rows.test_link ?_
    refine thn ((hb W tk).run pins s σ H (fun y H1 => r x y H1 fun z H2 => ∃ k, z = .bl k ∧ if k = true then (∃ (w : WS W) (A : List Addr) (ρ : Ev) (d : D), SR X.K X.mg w A ρ σ H2 ∧ Rep X.K X.mg (off A H2) d y ∧ (match asTest (rest d) ρ with
        | .ok d' ρ' => ∀ H', Ext A H2 H' → SR X.K X.mg w A ρ' σ H' → Q d' H'
        | .exc e ρ' => ∀ c dd H', Ext A H2 H' → SR X.K X.mg w A ρ' σ H' → ExR X.K X.mg A H' e c dd → W c dd σ H'
        | .bad => False)) else Q false H2) I ⟨w, A, ρ, R, ?_⟩) fun u s1 ⟨y, H1, I1, r1, q1⟩ => thn (ho pins s1 σ H1 x y v u _ I1 rx r1 q1) fun c s2 ⟨z, H2, I2, r2, k, e, q2⟩ => by
      subst e
      cases r2
      refine wpAny_truthy_bool ?_
      cases k with
      | false =>
        simp only [Bool.false_eq_true, if_false] at q2 ⊢
        exact ⟨H2, I2, q2⟩
      | true =>
        simp only [if_true] at q2 ⊢
        obtain ⟨w2, A2, ρ2, d2, R2, rr2, q3⟩ := q2
        exact hr.test W tk pos pins s2 σ H2 Q y u w2 A2 ρ2 d2 I2 r1 R2 rr2 q3
    unfold asTest chC at q
    cases hm : mb ρ with
    | exc e ρ1 => rw [bnd_exc (bnd_exc hm)] at q; exact q
    | bad => rw [bnd_bad (bnd_bad hm)] at q; exact q
    | ok d1 ρ1 =>
      intro v1 H1 ex1 R1 r1
      cases hf : f d d1 with
      | none => rw [bnd_bad (by rw [bnd_ok hm, hf]; rfl)] at q; exact q.elim
      | some z =>
        refine hs A H1 d d1 z x v1 _ R1.trk (Rep1.of (r0.mono ex1.off)) (Rep1.of r1) hf fun v' H' sm rr => ?_
        cases z with
        | bl k =>
          refine ⟨k, rr, ?_⟩
          cases k with
          | false =>
            rw [bnd_ok (a := .bl false) (ρ' := ρ1) (by rw [bnd_ok hm, hf]; rfl)] at q
            simp only [Bool.false_eq_true, if_false]
            exact q H' (ex1.trans (.of sm)) (R1.same sm)
          | true =>
            simp only [if_true]
            refine ⟨w, A, ρ1, d1, R1.same sm, r1.mono (off_Same sm), ?_⟩
            unfold asTest
            cases hr2 : rest d1 ρ1 with
            | exc e ρ2 =>
              rw [bnd_exc (e := e) (ρ' := ρ2) (by rw [bnd_ok hm, hf]; exact hr2)] at q
              rw [bnd_exc hr2]
              exact fun c dd H2 ex2 R2 z => q c dd H2 ((ex1.trans (.of sm)).trans ex2) R2 z
            | bad =>
              rw [bnd_bad (by rw [bnd_ok hm, hf]; exact hr2)] at q
              exact q.elim
            | ok c ρ2 =>
              rw [bnd_ok (a := c) (ρ' := ρ2) (by rw [bnd_ok hm, hf]; exact hr2)] at q
              rw [bnd_ok hr2]
              cases c with
              | bl kk => exact fun H2 ex2 R2 => q H2 ((ex1.trans (.of sm)).trans ex2) R2
              | _ => exact q
        | _ => rw [bnd_bad (by rw [bnd_ok hm, hf]; rfl)] at q; exact q.elim
def chain (ma : M D) (rest : D → M D) : M D := M.bnd ma rest
theorem de_chain {op1 op2 : CmpOp} {b1 b2 : Expr} (ha : DE X a m) (hr : CH X (op1 :: op2 :: ops) (b1 :: b2 :: es) rest) (hm : lastMarks (op1 :: op2 :: ops) (b1 :: b2 :: es) = false := by with_unfolding_all rfl) :
    DE X (.Compare a (op1 :: op2 :: ops) (b1 :: b2 :: es) pos) (chain m rest) := fun W tk => by
  refine ⟨fun pins s σ H Q I h => ?_⟩
  refine PyProof.Rows.Compare_chain (thn ((ha W tk).run pins s σ H _ I (de_imp2 (G := fun x H1 => ∃ (w : WS W) (A : List Addr) (ρ : Ev) (d : D), SR X.K X.mg w A ρ σ H1 ∧ Rep X.K X.mg (off A H1) d x ∧ (match rest d ρ with
        | .ok d' ρ' => ∀ v H', Ext A H1 H' → SR X.K X.mg w A ρ' σ H' → Rep X.K X.mg (off A H') d' v → Q v H'
        | .exc e ρ' => ∀ c dd H', Ext A H1 H' → SR X.K X.mg w A ρ' σ H' → ExR X.K X.mg A H' e c dd → W c dd σ H'
        | .bad => False)) h fun w A ρ1 d v H1 R1 r1 q => ⟨w, A, ρ1, d, R1, r1, q⟩)) fun v s1 ⟨x, H1, I1, rx, w, A, ρ, d, R, r0, q⟩ => ?_) hm
  exact hr.run W tk _ pins s1 σ H1 Q x v w A ρ d I1 rx R r0 q
theorem dt_chain {op1 op2 : CmpOp} {b1 b2 : Expr} (ha : DE X a m) (hr : CH X (op1 :: op2 :: ops) (b1 :: b2 :: es) rest) (hm : lastMarks (op1 :: op2 :: ops) (b1 :: b2 :: es) = false := by with_unfolding_all rfl) :
    DT X (.Compare a (op1 :: op2 :: ops) (b1 :: b2 :: es) pos) (asTest (chain m rest)) := fun W tk => by
  refine ⟨fun pins s σ H Q I h => ?_⟩
  obtain ⟨w, A, ρ, R, q⟩ := h
  refine PyProof.Rows.isTrue_chain (thn ((ha W tk).run pins s σ H (fun x H1 => ∃ (w : WS W) (A : List Addr) (ρ : Ev) (d : D), SR X.K X.mg w A ρ σ H1 ∧ Rep X.K X.mg (off A H1) d x ∧ (match asTest (rest d) ρ with
        | .ok d' ρ' => ∀ H', Ext A H1 H' → SR X.K X.mg w A ρ' σ H' → Q d' H'
        | .exc e ρ' => ∀ c dd H', Ext A H1 H' → SR X.K X.mg w A ρ' σ H' → ExR X.K X.mg A H' e c dd → W c dd σ H'
        | .bad => False)) I ⟨w, A, ρ, R, ?_⟩) fun v s1 ⟨x, H1, I1, rx, w, A, ρ, d, R, r0, q⟩ => ?_) hm
  · unfold asTest chain at q
    cases hm : m ρ with
    | exc e ρ1 => rw [bnd_exc (bnd_exc hm)] at q; exact q
    | bad => rw [bnd_bad (bnd_bad hm)] at q; exact q
    | ok d ρ1 =>
      intro v1 H1 ex1 R1 r1
      refine ⟨w, A, ρ1, d, R1, r1, ?_⟩
      unfold asTest
      cases hr2 : rest d ρ1 with
      | exc e ρ2 => rw [bnd_exc (e := e) (ρ' := ρ2) (by rw [bnd_ok hm]; exact hr2)] at q; rw [bnd_exc hr2]; exact fun c dd H2 ex2 R2 z => q c dd H2 (ex1.trans ex2) R2 z
      | bad => rw [bnd_bad (by rw [bnd_ok hm]; exact hr2)] at q; exact q.elim
      | ok c ρ2 =>
        rw [bnd_ok (a := c) (ρ' := ρ2) (by rw [bnd_ok hm]; exact hr2)] at q
        rw [bnd_ok hr2]
        cases c with
        | bl kk => exact fun H2 ex2 R2 => q H2 (ex1.trans ex2) R2
        | _ => exact q
  · exact hr.test W tk _ pins s1 σ H1 Q x v w A ρ d I1 rx R r0 q
end
end DL
namespace DL
open PySem L2
/-- the slots but those at is are as they were -/
def Agr (is : List Nat) (σ σ' : L2.St) : Prop := σ'.length = σ.length ∧ ∀ (j : Nat), j ∉ is → σ'[j]? = σ[j]?
theorem Agr.trans {is js : List Nat} {σ σ1 σ2 : L2.St} (a : Agr is σ σ1) (b : Agr js σ1 σ2) : Agr (is ++ js) σ σ2 :=
  ⟨b.1.trans a.1, fun j hj => (b.2 j fun z => hj (List.mem_append_right _ z)).trans (a.2 j fun z => hj (List.mem_append_left _ z))⟩
def tG (K : PySem.W.Frag) (mg : Str → Option Value) (is : List Nat) (t : D → Ev → Option Ev) : TG := fun v σ H Q => ∃ w A ρ d, SR K mg w A ρ σ H ∧ Rep K mg (off A H) d v ∧ match t d ρ with
  | some ρ' => ∀ σ', Agr is σ σ' → SR K mg w A ρ' σ' H → Q σ' H
  | none => False
def tGs (K : PySem.W.Frag) (mg : Str → Option Value) (is : List Nat) (t : List D → Ev → Option Ev) : TGs := fun vs σ H Q => ∃ w A ρ ds, SR K mg w A ρ σ H ∧ Reps K mg (off A H) ds vs ∧ match t ds ρ with
  | some ρ' => ∀ σ', Agr is σ σ' → SR K mg w A ρ' σ' H → Q σ' H
  | none => False
def DG (X : Cx) (e : Expr) (is : List Nat) (t : D → Ev → Option Ev) : Prop := PG X e (tG X.K X.mg is t)
def DGs (X : Cx) (es : List Expr) (is : List Nat) (t : List D → Ev → Option Ev) : Prop := PGs X es (tGs X.K X.mg is t)
section
variable {X : Cx} {e : Expr} {es : List Expr} {pos : Pos} {K : PySem.W.Frag} {mg : Str → Option Value} {w : Wd} {A : List Addr} {ρ : Ev} {σ : L2.St} {H : Hp}
theorem pg_imp {g g' : TG} (h : PG X e g) (q : ∀ v σ H Q, g' v σ H Q → g v σ H Q) : PG X e g' := ⟨fun pins s σ H v u Q I r hw => h.run pins s σ H v u Q I r (q v σ H Q hw)⟩
theorem pgs_imp {g g' : TGs} (h : PGs X es g) (q : ∀ v σ H Q, g' v σ H Q → g v σ H Q) : PGs X es g' := ⟨fun pins s σ H v u Q I r hw => h.run pins s σ H v u Q I r (q v σ H Q hw)⟩
/-- the i-th name takes a value; a thing of one's own is not lost so -/
def gN (i : Nat) (d : D) (ρ : Ev) : Option Ev := match ρ[i]? with
  | some s => if s.isOwn then none else some (ρ.set i (.val d))
  | none => none
theorem SR.set {i : Nat} {s : Slot} {d : D} {v : V} (R : SR K mg w A ρ σ H) (h : ρ[i]? = some s) (ho : s.isOwn = false) (r : Rep K mg (off A H) d v) : SR K mg w A (ρ.set i (.val d)) (σ.set i (some v)) H := by
  have hi : i < ρ.length := (List.getElem?_eq_some_iff.mp h).1
  have hi' : i < σ.length := by rw [← R.len]; exact hi
  refine ⟨by simp [R.len], fun j s' o h1 h2 => ?_, fun j k s1 s2 a h1 h2 o1 o2 e1 e2 => ?_, R.sub, R.trk, R.frame, fun j s' a h1 o1 e1 => ?_, R.opB, fun p hp => ?_⟩
  · by_cases hj : j = i
    · subst hj
      rw [List.getElem?_set_self hi] at h1
      rw [List.getElem?_set_self hi'] at h2
      cases h1; cases h2
      exact ⟨v, rfl, r⟩
    · rw [List.getElem?_set_ne (Ne.symm hj)] at h1 h2
      exact R.slots j s' o h1 h2
  · have nj : j ≠ i := fun z => by
      subst z
      rw [List.getElem?_set_self hi] at h1
      cases h1
      cases o1
    have nk : k ≠ i := fun z => by
      subst z
      rw [List.getElem?_set_self hi] at h2
      cases h2
      cases o2
    rw [List.getElem?_set_ne (Ne.symm nj)] at h1 e1
    rw [List.getElem?_set_ne (Ne.symm nk)] at h2 e2
    exact R.dist j k s1 s2 a h1 h2 o1 o2 e1 e2
  · have nj : j ≠ i := fun z => by
      subst z
      rw [List.getElem?_set_self hi] at h1
      cases h1
      cases o1
    rw [List.getElem?_set_ne (Ne.symm nj)] at h1 e1
    exact R.mine j s' a h1 o1 e1
  · obtain ⟨p1, p2, s', p3, p4⟩ := R.par p hp
    have np : p.1 ≠ i := fun z => by
      rw [z, h] at p3
      cases p3
      rw [ho] at p4
      cases p4
    exact ⟨p1, by rw [List.getElem?_set_ne (Ne.symm np)]; exact p2, s', by rw [List.getElem?_set_ne (Ne.symm np)]; exact p3, p4⟩
theorem dg_name {i : Nat} (h : PG X e (gName i)) : DG X e [i] (gN i) := pg_imp h fun v σ H Q ⟨w, A, ρ, d, R, r, q⟩ => by
  unfold gN at q
  cases hs : ρ[i]? with
  | none => rw [hs] at q; exact q.elim
  | some s =>
    rw [hs] at q
    dsimp only at q
    cases ho : s.isOwn with
    | true => rw [ho] at q; exact q.elim
    | false =>
      rw [ho] at q
      exact q _ ⟨by simp, fun j hj => List.getElem?_set_ne fun z => hj (by simp [z])⟩ (R.set hs ho r)
def gTu (t : List D → Ev → Option Ev) (n : Nat) : D → Ev → Option Ev
  | .tup l, ρ => if l.length = n then t l ρ else none
  | _, _ => none
theorem dg_tup {k n : Nat} {is : List Nat} {t : List D → Ev → Option Ev} (hc : X.calm = true) (h : DGs X es is t) (hn : (assignEach es X.env).length = n := by rfl) (hst : (assignEach es X.env).findIdx? (·.1) = none := by rfl) : DG X (.Tuple es k pos) is (gTu t n) :=
  pg_imp (pg_tup hc h hn hst) fun v σ H Q ⟨w, A, ρ, d, R, r, q⟩ => by
    cases d with
    | tup l =>
      obtain ⟨a, xs, rfl, hq, rr⟩ := r
      have q : match (if l.length = n then t l ρ else none) with | some ρ' => ∀ σ', Agr is σ σ' → SR X.K X.mg w A ρ' σ' H → Q σ' H | none => False := q
      by_cases hl : l.length = n
      · rw [if_pos hl] at q
        exact ⟨a, xs, rfl, SqT.mono off_le hq, by rw [← rr.length]; exact hl, w, A, ρ, l, R, rr, q⟩
      · rw [if_neg hl] at q; exact q.elim
    | _ => exact q.elim
def gNi : List D → Ev → Option Ev
  | [], ρ => some ρ
  | _ :: _, _ => none
def gCo (t : D → Ev → Option Ev) (u : List D → Ev → Option Ev) : List D → Ev → Option Ev
  | [], _ => none
  | d :: ds, ρ => (t d ρ).bind (u ds)
theorem dgs_nil : DGs X [] [] gNi := pgs_imp pgs_nil fun v σ H Q ⟨w, A, ρ, ds, R, r, q⟩ => by
  cases ds with
  | nil => exact ⟨r, q σ ⟨rfl, fun _ _ => rfl⟩ R⟩
  | cons _ _ => exact q.elim
theorem dgs_cons {is js : List Nat} {t : D → Ev → Option Ev} {u : List D → Ev → Option Ev} (h : DG X e is t) (h2 : DGs X es js u) (hs : (assignEach (e :: es) X.env).map (·.2) = assign e X.env :: (assignEach es X.env).map (·.2) := by rfl) : DGs X (e :: es) (is ++ js) (gCo t u) :=
  pgs_imp (pgs_cons h h2 hs) fun vs σ H Q ⟨w, A, ρ, ds, R, r, q⟩ => by
    cases ds with
    | nil => exact q.elim
    | cons d ds =>
      obtain ⟨v, us, rfl, rd, rr⟩ := r
      refine ⟨v, us, rfl, w, A, ρ, d, R, rd, ?_⟩
      have q : match (t d ρ).bind (u ds) with | some ρ' => ∀ σ', Agr (is ++ js) σ σ' → SR X.K X.mg w A ρ' σ' H → Q σ' H | none => False := q
      cases ht : t d ρ with
      | none => rw [ht] at q; exact q.elim
      | some ρ1 =>
        rw [ht] at q
        refine fun σ1 a1 R1 => ⟨w, A, ρ1, ds, R1, rr, ?_⟩
        have q : match u ds ρ1 with | some ρ' => ∀ σ', Agr (is ++ js) σ σ' → SR X.K X.mg w A ρ' σ' H → Q σ' H | none => False := q
        cases hu : u ds ρ1 with
        | none => rw [hu] at q; exact q.elim
        | some ρ2 => rw [hu] at q; exact fun σ2 a2 R2 => q σ2 (a1.trans a2) R2
end
def Wk (K : PySem.W.Frag) (mg : Str → Option Value) (A : List Addr) (ds : List D) (J : It) (H0 : Hp) : Prop := ∀ (i : Nat) (A' : List Addr) (H : Hp), Same (off A H0) (off A' H) → Trk A' H →
  (∀ d, ds[i]? = some d → J.go i H ∧ ∀ x H', J.yld i H x H' → Same H H' ∧ Rep K mg (off A' H') d x) ∧ (ds.length ≤ i → J.stop i H)
def iD (K : PySem.W.Frag) (mg : Str → Option Value) (W : WZ) (src : M (List D)) : TI := fun σ H R => ∃ (w : WS W) (A : List Addr) (ρ : Ev), SR K mg w A ρ σ H ∧ match src ρ with
  | .ok ds ρ' => ∀ J H', Ext A H H' → SR K mg w A ρ' σ H' → Wk K mg A ds J H' → ds.length ≤ sizeLine → R J H'
  | .exc e ρ' => ∀ c dd H', Ext A H H' → SR K mg w A ρ' σ H' → ExR K mg A H' e c dd → W c dd σ H'
  | .bad => False
def DI (X : Cx) (tg iter : Expr) (src : M (List D)) : Prop := ∀ W : WZ, TakesZ X W → PI X tg iter (iD X.K X.mg W src)
theorem pi_imp {X : Cx} {tg e : Expr} {t t' : TI} (h : PI X tg e t) (q : ∀ σ H R, t' σ H R → t σ H R) : PI X tg e t' := ⟨fun pins s σ H R I hw => h.run pins s σ H R I (q σ H R hw)⟩
section
variable {X : Cx} {tg e e2 : Expr} {es : List Expr} {as : List Arg} {pos p tpos : Pos} {m : M D} {K : PySem.W.Frag} {mg : Str → Option Value} {A : List Addr} {H0 : Hp}
theorem wk_list {a : Addr} {vs : List V} {ds : List D} (h : off A H0 a = some (.lst vs)) (r : Reps K mg (off A H0) ds vs) : Wk K mg A ds (Itl K a) H0 := fun i A' H sm tk => by
  have q : SqL K H a vs := SqL.of (off_le _ _ (sm _ _ h))
  refine ⟨fun d hd => ?_, fun hl => ⟨vs, q, by rw [← r.length]; exact hl⟩⟩
  obtain ⟨v, h1, h2⟩ := r.get hd
  refine ⟨⟨vs, v, q, h1⟩, fun x H' y => ?_⟩
  obtain ⟨e, y⟩ := y
  subst e
  have := y vs q
  rw [h1] at this
  cases this
  exact ⟨Same.refl _, h2.mono sm⟩
theorem wk_scr {a : Addr} {vs : List V} {ds : List D} (h : SqL K (off A H0) a vs) (r : Reps K mg (off A H0) ds vs) : Wk K mg A ds (Itl K a) H0 := fun i A' H sm tk => by
  have q : SqL K H a vs := SqL.mono off_le (SqL.mono sm h)
  refine ⟨fun d hd => ?_, fun hl => ⟨vs, q, by rw [← r.length]; exact hl⟩⟩
  obtain ⟨v, h1, h2⟩ := r.get hd
  refine ⟨⟨vs, v, q, h1⟩, fun x H' y => ?_⟩
  obtain ⟨e, y⟩ := y
  subst e
  have := y vs q
  rw [h1] at this
  cases this
  exact ⟨Same.refl _, h2.mono sm⟩
theorem wk_tup {a : Addr} {vs : List V} {ds : List D} (h : SqT K (off A H0) a vs) (r : Reps K mg (off A H0) ds vs) : Wk K mg A ds (Itt K a) H0 := fun i A' H sm tk => by
  have q : SqT K H a vs := SqT.mono off_le (SqT.mono sm h)
  refine ⟨fun d hd => ?_, fun hl => ⟨vs, q, by rw [← r.length]; exact hl⟩⟩
  obtain ⟨v, h1, h2⟩ := r.get hd
  refine ⟨⟨vs, v, q, h1⟩, fun x H' y => ?_⟩
  obtain ⟨e, y⟩ := y
  subst e
  have := y vs q
  rw [h1] at this
  cases this
  exact ⟨Same.refl _, h2.mono sm⟩
theorem wk_rng {lo : Int} {n : Nat} : Wk K mg A ((List.range n).map fun (k : Nat) => D.int (lo + (k : Int))) (Itr lo n) H0 := fun i A' H sm tk => by
  refine ⟨fun d hd => ?_, fun hl => (by show n ≤ i; simpa using hl)⟩
  rw [List.getElem?_map] at hd
  obtain ⟨k, hk, e⟩ := Option.map_eq_some_iff.mp hd
  obtain ⟨h1, h2⟩ := List.getElem?_eq_some_iff.mp hk
  have : k = i := by simpa using h2.symm
  subst this
  subst e
  refine ⟨(by show k < n; simpa using h1), fun x H' y => ?_⟩
  obtain ⟨e, y⟩ := y
  subst e y
  exact ⟨Same.refl _, rfl⟩
/-- over a list or a tuple -/
def iSeq (K : PySem.W.Frag) (tl : TE) : TI := fun σ H R => tl σ H fun x H1 => ∃ a xs, x = .ref a ∧ ((SqL K H1 a xs ∧ (xs.length ≤ sizeLine → R (Itl K a) H1)) ∨ (SqT K H1 a xs ∧ (xs.length ≤ sizeLine → R (Itt K a) H1)))
theorem pi_seq {l : Expr} {tl : TE} (hl : PE X l tl) : PI X tg l (iSeq X.K tl) := ⟨fun pins s σ H R I h => by
  refine thn (hl.run pins s σ H _ I h) fun v s1 ⟨x, H1, I1, r1, q1⟩ => ?_
  obtain ⟨a, xs, rfl, hx⟩ := q1
  cases r1
  have fr : ∀ b ∈ [s1.heap.objs.size], FpOk X pins H1 b := fun b hb => by
    cases (List.mem_singleton.mp hb)
    exact I1.fpOk (Nat.le_refl _) (I1.hok.fresh (Nat.le_refl _))
  have kp : ∀ (o : Obj), L2.Inv X pins σ H1 { s1 with heap := s1.heap.push o } := fun o => I1.kept (t' := s1.toks) fun b u z => Heap.get?_push_of_some _ z
  rcases hx with ⟨hq, q⟩ | ⟨hq, q⟩
  · obtain ⟨its, rv, hp, hz⟩ := I1.list hq
    exact wpAny_pyIter_list hp.isList ⟨_, _, _, _, H1, rfl, kp _, turn_list a _, ⟨_, Heap.get?_push_size _ rfl, rfl, rfl⟩, fr, q hz⟩
  · obtain ⟨its, rv, hp, hz⟩ := I1.tuple hq
    exact wpAny_pyIter_tuple (show s1.heap.IsTuple a its.toArray from hp) ⟨_, _, _, _, H1, rfl, kp _, turn_tuple a _, ⟨_, Heap.get?_push_size _ rfl, rfl, rfl⟩, fr, q hz⟩⟩
def seqM (m : M D) : M (List D) := M.bnd m fun d ρ => match d with
  | .lst l => .ok l ρ
  | .tup l => .ok l ρ
  | .scr l => .ok l ρ
  | _ => .bad
theorem di_seq (h : DE X e m) : DI X tg e (seqM m) := fun W tk => pi_imp (pi_seq (h W tk)) fun σ H R ⟨w, A, ρ, Rr, q⟩ => by
  refine ⟨w, A, ρ, Rr, ?_⟩
  unfold seqM at q
  cases hm : m ρ with
  | exc e ρ1 => rw [bnd_exc hm] at q; exact q
  | bad => rw [bnd_bad hm] at q; exact q
  | ok d ρ1 =>
    rw [bnd_ok hm] at q
    intro v H1 ex1 R1 r1
    cases d with
    | lst l =>
      obtain ⟨a, xs, rfl, h, r⟩ := r1
      exact ⟨a, xs, rfl, .inl ⟨SqL.of (off_le _ _ h), fun z => q _ H1 ex1 R1 (wk_list h r) (by rw [r.length]; exact z)⟩⟩
    | scr l =>
      obtain ⟨a, xs, rfl, h, r⟩ := r1
      exact ⟨a, xs, rfl, .inl ⟨SqL.mono off_le h, fun z => q _ H1 ex1 R1 (wk_scr h r) (by rw [r.length]; exact z)⟩⟩
    | tup l =>
      obtain ⟨a, xs, rfl, h, r⟩ := r1
      exact ⟨a, xs, rfl, .inr ⟨SqT.mono off_le h, fun z => q _ H1 ex1 R1 (wk_tup h r) (by rw [r.length]; exact z)⟩⟩
    | _ => exact q.elim
/-- a source made of arguments -/
def srcN (f : List D → Option (List D)) (as : List Arg) : M (List D) := M.bnd (evs as) fun xs ρ => match (dvs xs).bind f with
  | some r => .ok r ρ
  | none => .bad
def D.rng1 : List D → Option (List D)
  | [.int hi] => if D.rngOk 0 hi ∧ (hi - 0).toNat ≤ sizeLine then some (rng 0 hi) else none
  | _ => none
def D.rng2 : List D → Option (List D)
  | [.int lo, .int hi] => if D.rngOk lo hi ∧ (hi - lo).toNat ≤ sizeLine then some (rng lo hi) else none
  | _ => none
theorem di_range1 {a : Expr} (hg : Gl X "range") (hm : X.mg "range" = none) (ha : DA X [a] as) (hs : starEach [a] X.env = [(false, eval a X.env)] := by rfl) : DI X tg (.Call (.Name "range" p) [a] [] pos) (srcN D.rng1 as) :=
  fun W tk => pi_imp (pi_range1 hg hm (ha W tk) hs) fun σ H R ⟨w, A, ρ, Rr, q⟩ => by
    refine ⟨w, A, ρ, Rr, ?_⟩
    unfold srcN at q
    cases hx : evs as ρ with
    | exc e ρ1 => rw [bnd_exc hx] at q; exact q
    | bad => rw [bnd_bad hx] at q; exact q
    | ok v ρ1 =>
      rw [bnd_ok hx] at q
      intro vv H1 ex1 R1 r1
      cases hd : (dvs v).bind D.rng1 with
      | none => rw [hd] at q; exact q.elim
      | some d =>
        rw [hd] at q
        obtain ⟨ds, h1, h2⟩ := Option.bind_eq_some_iff.mp hd
        have r := dvs_rep r1 h1
        match ds, h2, r with
        | [.int hi], h2, ⟨v, _, e1, e2, e3⟩ =>
          obtain ⟨⟨hb, hz⟩, rfl⟩ := ite_some h2
          cases e3; cases e2; subst e1
          obtain ⟨b1, b2, b3, b4⟩ := rngOk_of hb
          refine ⟨hi, rfl, b3, b4, q _ H1 ex1 R1 ?_ (by unfold rng; simpa using hz)⟩
          have := wk_rng (K := X.K) (mg := X.mg) (A := A) (H0 := H1) (lo := 0) (n := hi.toNat)
          unfold rng
          rw [Int.sub_zero]
          exact this
theorem di_range2 {a b : Expr} (hg : Gl X "range") (hm : X.mg "range" = none) (ha : DA X [a, b] as) (hs : starEach [a, b] X.env = [(false, eval a X.env), (false, eval b X.env)] := by rfl) (hs2 : starEach [b] X.env = [(false, eval b X.env)] := by rfl) :
    DI X tg (.Call (.Name "range" p) [a, b] [] pos) (srcN D.rng2 as) :=
  fun W tk => pi_imp (pi_range2 hg hm (ha W tk) hs hs2) fun σ H R ⟨w, A, ρ, Rr, q⟩ => by
    refine ⟨w, A, ρ, Rr, ?_⟩
    unfold srcN at q
    cases hx : evs as ρ with
    | exc e ρ1 => rw [bnd_exc hx] at q; exact q
    | bad => rw [bnd_bad hx] at q; exact q
    | ok v ρ1 =>
      rw [bnd_ok hx] at q
      intro vv H1 ex1 R1 r1
      cases hd : (dvs v).bind D.rng2 with
      | none => rw [hd] at q; exact q.elim
      | some d =>
        rw [hd] at q
        obtain ⟨ds, h1, h2⟩ := Option.bind_eq_some_iff.mp hd
        have r := dvs_rep r1 h1
        match ds, h2, r with
        | [.int lo, .int hi], h2, ⟨v, _, e1, e2, v', _, e3, e4, e5⟩ =>
          obtain ⟨⟨hb, hz⟩, rfl⟩ := ite_some h2
          cases e5; cases e4; subst e3; cases e2; subst e1
          obtain ⟨b1, b2, b3, b4⟩ := rngOk_of hb
          exact ⟨lo, hi, rfl, ⟨b1, b2, b3, b4⟩, q _ H1 ex1 R1 wk_rng (by unfold rng; simpa using hz)⟩
end
end DL
namespace DL
open PySem L2
theorem enum_new1 {v : Value} {o : Obj} {P : Heap → Prop} (B : Begins v o P) : Meets (Builtin.«enumerate.__new__» ⟨[.type "enumerate", v], []⟩) (fun _ R s => P s.heap ∧
    R (.ok (.ret (.ref (s.heap.push o).objs.size))) { s with heap := (s.heap.push o).push { cls := .type "enumerate", data := .fields #[.none, .bool false, .ref s.heap.objs.size, rawInt 0, .none, .none] } }) := .of_wp fun P' w A R s h => by
  obtain ⟨g0, g1, g2, g3, g4⟩ := s
  have sub := sub_enumerate
  have it : ∀ {A' : Around} {E : Value → Shared → Prop} {Q : Value → Shared → Prop}, Q (.ref g0.objs.size) ⟨g0.push o, g1, g2, g3, g4⟩ → wpAny (model P' w) A' (pyIter v) Q E ⟨g0, g1, g2, g3, g4⟩ :=
    fun q => B.iter P' w _ _ ⟨g0, g1, g2, g3, g4⟩ _ h.1 q
  wp_walk using it
  refine wpAny_stack_any fun _ => wpAny_pure ?_
  split
  · rename_i c _ _ _ _ _
    cases (c == Value.type "enumerate") <;> (wp_walk using it; exact ⟨_, rfl, h.2⟩)
  · wp_walk using it
    exact ⟨_, rfl, h.2⟩
theorem enum_call {prog : Program} {w : World} {A : Around} {E : Value → Shared → Prop} {s : Shared} {v : Value} {o : Obj} {P : Heap → Prop} {Q : Value → Shared → Prop} (B : Begins v o P) (h1 : P s.heap)
    (h : ∀ h', IsEnum h' (s.heap.objs.size + 1) s.heap.objs.size 0 .none → h'.get? s.heap.objs.size = some o → (∀ b u, s.heap.get? b = some u → h'.get? b = some u) → Q (.ref (s.heap.objs.size + 1)) { s with heap := h' }) :
    wpAny (model prog w) A (call (.type "enumerate") [v]) Q E s := by
  have sz : (s.heap.push o).objs.size = s.heap.objs.size + 1 := Heap.size_push ..
  have he := Heap.get?_push_size (s.heap.push o) (o := { cls := .type "enumerate", data := .fields #[.none, .bool false, .ref s.heap.objs.size, rawInt 0, .none, .none] }) rfl
  rw [sz] at he
  refine callType_new F.called_enumerate (by decide) (F.typeCall_enumerate_1 _) (F.newCall_enumerate_1 _) (fun x => F.args_object_init_2 x _) F.entry_enumerate_new (enum_new1 B) ⟨h1, ?_⟩
  show _ ∧ _
  rw [sz]
  exact ⟨⟨_, he, rfl⟩, h _ he (Heap.get?_push_of_some _ (Heap.get?_push_size _ B.free)) fun b u q => Heap.get?_push_of_some _ (Heap.get?_push_of_some _ q)⟩
/-- the tuple at a, its items numbered, each pair new -/
def IteT (K : PySem.W.Frag) (a : Addr) : It where
  go := fun i H => ∃ (xs : List V) (x : V), SqT K H a xs ∧ xs[i]? = some x
  yld := fun i H v H' => ∃ T x, v = .ref T ∧ H T = none ∧ H' = upd H T (.tup [.int (i : Nat), x]) ∧ ∀ xs, SqT K H a xs → xs[i]? = some x
  stop := fun i H => ∃ xs : List V, SqT K H a xs ∧ xs.length ≤ i
theorem turn_enumT {P : Program} {w : World} {K : PySem.W.Frag} {elts : List Expr} {kk : Nat} {tpos : Pos} (a e it : Addr) :
    Turn P w K (.Tuple elts kk tpos) (IteT K a) [e, it] e (fun i h => (∃ x, IsEnum h e it ((i : Nat) : Int) x) ∧ h.IsTupleIter it a i ∧ e ≠ it ∧ a ≠ e ∧ a ≠ it) where
  mem := by simp
  obj := fun i h ⟨⟨x, z⟩, ⟨o, h1, _, h2⟩, _⟩ b hb => by
    rcases (show b = e ∨ b = it by simpa using hb) with q | q <;> subst q
    · exact ⟨_, z, fun v q => nomatch q⟩
    · exact ⟨o, h1, fun v q => by rw [h2] at q; cases q⟩
  keep := fun i h h' ⟨⟨x, z⟩, y, n⟩ k => ⟨⟨x, k e (by simp) _ z⟩, y.at fun o q => k it (by simp) o q, n⟩
  self := fun A i s Q E ⟨⟨_, z⟩, _⟩ h => wpAny_pyIter_enum z h
  item := by
    intro X hP hw hK hc i pins s σ H E I hf st hg
    subst hP hw hK
    obtain ⟨⟨old, z⟩, y, n1, n2, n3⟩ := st
    obtain ⟨xs, x, hq, hx⟩ := hg
    obtain ⟨its, rv, p, hz⟩ := I.tuple hq
    obtain ⟨u, hu, ru⟩ := rv.get hx
    have le : e < s.heap.objs.size := Heap.lt_size z
    have li : it < s.heap.objs.size := let ⟨_, q, _⟩ := y; Heap.lt_size q
    have hi : i < its.toArray.size := by simpa using (List.getElem?_eq_some_iff.mp hu).1
    have dr := Draws.tuple (prog := X.prog) (w := X.w) (A := X.A.in1) (show X.A.in1.handled = none from I.ok.hd hc) it a n3 its.toArray
    refine wpAny_pyNext_enum_itemD dr z ⟨y, p⟩ hi n1 (by simp [n1, Ne.symm n2]) fun x' h' tk hx' ho st' hT hsz hk => ?_
    have ex : x' = u := by
      have e1 : its.toArray[i]? = some u := by simpa using hu
      rw [e1] at hx'
      exact (Option.some.inj hx').symm
    subst ex
    refine ⟨_, rfl, wpAny_letOwnedTupleGo_enum (s := { s with heap := h', toks := tk + 1 }) ho fun h2 z2 sb => ?_⟩
    have neT : s.heap.objs.size ≠ e := Nat.ne_of_gt le
    have hT2 := (sb.2 _ neT).trans hT
    have I1 : L2.Inv X pins σ (upd H s.heap.objs.size (.tup [.int (i : Nat), x])) { s with heap := h2, toks := tk + 1 } :=
      I.turnedNew (ch := [e, it]) (fun b ob nb q => by
        have ⟨nb1, nb2⟩ : b ≠ e ∧ b ≠ it := by simpa using nb
        exact (sb.2 b nb1).trans (hk b ob nb1 nb2 q)) hf (Nat.le_refl _) ⟨by show 2 ≤ sizeLine; decide, [.int i tk, x'], .cons ⟨_, rfl⟩ (.cons ru .nil), ⟨_, hT2, rfl, _, rfl⟩⟩
    refine ⟨.ref s.heap.objs.size, _, I1, rfl, ⟨_, x, rfl, I.hok.fresh (Nat.le_refl _), rfl, fun ys hy => by rw [I.tuple_inj hy hq]; exact hx⟩, ⟨⟨x', ?_⟩, st'.1.at fun o q => (sb.2 it (Ne.symm n1)).trans q, n1, n2, n3⟩, fun b hb => ?_⟩
    · rw [show ((i + 1 : Nat) : Int) = (i : Int) + 1 by omega]
      exact z2
    · have lb : b < s.heap.objs.size := by rcases (show b = e ∨ b = it by simpa using hb) with q | q <;> (subst q; assumption)
      rw [upd_ne (Nat.ne_of_lt lb)]
      exact (hf b hb).1
  done := by
    intro X hP hw hK hc i pins s σ H E I hf st hg
    subst hP hw hK
    obtain ⟨⟨old, z⟩, y, n1, n2, n3⟩ := st
    obtain ⟨xs, hq, hx⟩ := hg
    obtain ⟨its, rv, p, hz⟩ := I.tuple hq
    have hl := rv.length
    have hh : X.A.in1.handled = none := I.ok.hd hc
    have out : its.toArray[i]? = none := by simp; omega
    have dr : Draws X.prog X.w X.A.in1 it [it, a] i (fun _ _ => True) (fun j h => j = i ∧ h.IsTupleIter it a i ∧ h.IsTuple a its.toArray) :=
      { live := fun _ _ st => let ⟨o, q, _⟩ := st.2.1; ⟨o, q⟩
        frame := fun _ _ _ st k => ⟨st.1, st.2.1.at fun o q => k it (by simp) o q, st.2.2.at fun o q => k a (by simp) o q⟩
        item := fun j s' Q' E' hj st _ => by rw [st.1] at hj; exact absurd hj (Nat.lt_irrefl _)
        done := fun s' Q' E' st hE => wpAny_nextOf_tuple_end hh st.2.1 st.2.2 out hE }
    obtain ⟨f0, f1, f2, f3, f4, f5⟩ := hf it (by simp)
    exact wpAny_pyNext_enum_endD dr z ⟨rfl, y, p⟩ fun h' eb => ⟨rfl, I.turned (t' := s.toks) (fun b o hb q => eb b o hb q) f0 f1 f3 f4 f5⟩
def iEnumA (K : PySem.W.Frag) (ta : TA) : TI := fun σ H R => ta σ H fun vs H1 => ∃ a xs, vs = [.ref a] ∧ ((SqL K H1 a xs ∧ (xs.length ≤ sizeLine → R (Ite K a) H1)) ∨ (SqT K H1 a xs ∧ (xs.length ≤ sizeLine → R (IteT K a) H1)))
theorem pi_enumA {X : Cx} {e : Expr} {ta : TA} {p pos tpos : Pos} {elts : List Expr} {kk : Nat} (hg : Gl X "enumerate") (hm : X.mg "enumerate" = none) (ha : PA X [e] ta) (hs : starEach [e] X.env = [(false, eval e X.env)] := by rfl) :
    PI X (.Tuple elts kk tpos) (.Call (.Name "enumerate" p) [e] [] pos) (iEnumA X.K ta) := by
  refine ⟨fun pins s σ H R I h => PyProof.Rows.Call_ (ld_blt I hg hm PyProof.Rows.boot_enumerate (PyProof.Rows.callWith_type1 (thn (ha.run pos pins s σ H _ I h) fun us s1 ⟨vs, H1, I1, r1, a, xs, e1, q1⟩ => ?_) hs rfl))⟩
  subst e1
  cases r1 with
  | cons r rr =>
    cases rr
    cases r
    have fr : ∀ b ∈ [s1.heap.objs.size + 1, s1.heap.objs.size], FpOk X pins H1 b := fun b hb => by
      have hle : s1.heap.objs.size ≤ b := by
        rcases (show b = s1.heap.objs.size + 1 ∨ b = s1.heap.objs.size by simpa using hb) with q | q <;> subst q <;> omega
      exact I1.fpOk hle (I1.hok.fresh hle)
    rcases q1 with ⟨hq, q⟩ | ⟨hq, q⟩
    · obtain ⟨its, rv, pl, hz⟩ := I1.list hq
      refine enum_call (begins_list a its.toArray) pl.isList fun h' z ho hk => wpAny_pyIter_enum z ?_
      exact ⟨_, _, _, _, H1, rfl, I1.kept (t' := s1.toks) hk, turn_enum a (s1.heap.objs.size + 1) s1.heap.objs.size, ⟨⟨.none, z⟩, ⟨_, ho, rfl, rfl⟩, Nat.succ_ne_self _⟩, fr, q hz⟩
    · obtain ⟨its, rv, pl, hz⟩ := I1.tuple hq
      have la : a < s1.heap.objs.size := pl.lt
      refine enum_call (begins_tuple a its.toArray) (show s1.heap.IsTuple a its.toArray from pl) fun h' z ho hk => wpAny_pyIter_enum z ?_
      exact ⟨_, _, _, _, H1, rfl, I1.kept (t' := s1.toks) hk, turn_enumT a (s1.heap.objs.size + 1) s1.heap.objs.size, ⟨⟨.none, z⟩, ⟨_, ho, rfl, rfl⟩, Nat.succ_ne_self _, Nat.ne_of_lt (Nat.lt_succ_of_lt la), Nat.ne_of_lt la⟩, fr, q hz⟩
section
variable {X : Cx} {e : Expr} {as : List Arg} {pos p tpos : Pos} {K : PySem.W.Frag} {mg : Str → Option Value} {A : List Addr} {H0 : Hp}
def numd (i : Nat) : List D → List D
  | [] => []
  | d :: ds => .tup [.int (i : Int), d] :: numd (i + 1) ds
theorem numd_get : ∀ (ds : List D) (n i : Nat), (numd n ds)[i]? = (ds[i]?).map fun d => D.tup [.int ((n + i : Nat) : Int), d]
  | [], _, _ => by simp [numd]
  | d :: ds, n, 0 => by simp [numd]
  | d :: ds, n, i + 1 => by
    show (numd (n + 1) ds)[i]? = (ds[i]?).map _
    rw [numd_get ds (n + 1) i, show n + 1 + i = n + (i + 1) by omega]
theorem numd_len : ∀ (ds : List D) (n : Nat), (numd n ds).length = ds.length
  | [], _ => rfl
  | d :: ds, n => by show (numd (n + 1) ds).length + 1 = _; rw [numd_len]; rfl
theorem rep_pair {A' : List Addr} {H : Hp} {T : Addr} {x y : D} {v u : V} (tk : Trk A' H) (n : H T = none) (r1 : Rep K mg (off A' H) x v) (r2 : Rep K mg (off A' H) y u) : Rep K mg (off A' (upd H T (.tup [v, u]))) (.tup [x, y]) (.ref T) :=
  rep_tup tk n (.cons r1 (.cons r2 .nil))
theorem wk_enum {a : Addr} {vs : List V} {ds : List D} (h : SqL K (off A H0) a vs) (r : Reps K mg (off A H0) ds vs) : Wk K mg A (numd 0 ds) (Ite K a) H0 := fun i A' H sm tk => by
  have q : SqL K H a vs := SqL.mono off_le (SqL.mono sm h)
  refine ⟨fun d hd => ?_, fun hl => ⟨vs, q, by rw [numd_len] at hl; rw [← r.length]; exact hl⟩⟩
  rw [numd_get] at hd
  obtain ⟨d0, hd, e⟩ := Option.map_eq_some_iff.mp hd
  obtain ⟨v, h1, h2⟩ := r.get hd
  refine ⟨⟨vs, v, q, h1⟩, fun x H' ⟨T, x', e1, nT, e2, y⟩ => ?_⟩
  have := y vs q
  rw [h1] at this
  cases this
  subst e e1 e2
  rw [Nat.zero_add]
  exact ⟨same_upd nT, rep_pair tk nT rfl (h2.mono sm)⟩
theorem wk_enumT {a : Addr} {vs : List V} {ds : List D} (h : SqT K (off A H0) a vs) (r : Reps K mg (off A H0) ds vs) : Wk K mg A (numd 0 ds) (IteT K a) H0 := fun i A' H sm tk => by
  have q : SqT K H a vs := SqT.mono off_le (SqT.mono sm h)
  refine ⟨fun d hd => ?_, fun hl => ⟨vs, q, by rw [numd_len] at hl; rw [← r.length]; exact hl⟩⟩
  rw [numd_get] at hd
  obtain ⟨d0, hd, e⟩ := Option.map_eq_some_iff.mp hd
  obtain ⟨v, h1, h2⟩ := r.get hd
  refine ⟨⟨vs, v, q, h1⟩, fun x H' ⟨T, x', e1, nT, e2, y⟩ => ?_⟩
  have := y vs q
  rw [h1] at this
  cases this
  subst e e1 e2
  rw [Nat.zero_add]
  exact ⟨same_upd nT, rep_pair tk nT rfl (h2.mono sm)⟩
def D.enum : List D → Option (List D)
  | [.lst l] => some (numd 0 l)
  | [.tup l] => some (numd 0 l)
  | [.scr l] => some (numd 0 l)
  | _ => none
theorem di_enum {elts : List Expr} {kk : Nat} (hg : Gl X "enumerate") (hm : X.mg "enumerate" = none) (ha : DA X [e] as) (hs : starEach [e] X.env = [(false, eval e X.env)] := by rfl) :
    DI X (.Tuple elts kk tpos) (.Call (.Name "enumerate" p) [e] [] pos) (srcN D.enum as) :=
  fun W tk => pi_imp (pi_enumA hg hm (ha W tk) hs) fun σ H R ⟨w, A, ρ, Rr, q⟩ => by
    refine ⟨w, A, ρ, Rr, ?_⟩
    unfold srcN at q
    cases hx : evs as ρ with
    | exc e ρ1 => rw [bnd_exc hx] at q; exact q
    | bad => rw [bnd_bad hx] at q; exact q
    | ok v ρ1 =>
      rw [bnd_ok hx] at q
      intro vv H1 ex1 R1 r1
      cases hd : (dvs v).bind D.enum with
      | none => rw [hd] at q; exact q.elim
      | some d =>
        rw [hd] at q
        obtain ⟨ds, h1, h2⟩ := Option.bind_eq_some_iff.mp hd
        have r := dvs_rep r1 h1
        match ds, h2, r with
        | [.lst l], h2, ⟨v, _, e1, ⟨a, xs, e2, hh, rr⟩, e3⟩ =>
          cases (Option.some.inj h2)
          cases e3; subst e2; subst e1
          exact ⟨a, xs, rfl, .inl ⟨SqL.of (off_le _ _ hh), fun z => q _ H1 ex1 R1 (wk_enum (SqL.of hh) rr) (by rw [numd_len, rr.length]; exact z)⟩⟩
        | [.scr l], h2, ⟨v, _, e1, ⟨a, xs, e2, hh, rr⟩, e3⟩ =>
          cases (Option.some.inj h2)
          cases e3; subst e2; subst e1
          exact ⟨a, xs, rfl, .inl ⟨SqL.mono off_le hh, fun z => q _ H1 ex1 R1 (wk_enum hh rr) (by rw [numd_len, rr.length]; exact z)⟩⟩
        | [.tup l], h2, ⟨v, _, e1, ⟨a, xs, e2, hh, rr⟩, e3⟩ =>
          cases (Option.some.inj h2)
          cases e3; subst e2; subst e1
          exact ⟨a, xs, rfl, .inr ⟨SqT.mono off_le hh, fun z => q _ H1 ex1 R1 (wk_enumT hh rr) (by rw [numd_len, rr.length]; exact z)⟩⟩
end
end DL
namespace DL
open PySem L2
def wipeE (ρ : Ev) : List Nat → Ev
  | [] => ρ
  | v :: vs => (wipeE ρ vs).set v .no
/-- what a block leaves: the things of one's own as it leaves them, all else as it was -/
def mergeE : Ev → Ev → Option Ev
  | [], [] => some []
  | a :: r, b :: s => if a.isOwn then (if b.isOwn then (mergeE r s).map fun t => b :: t else none) else (mergeE r s).map fun t => a :: t
  | _, _ => none
/-- one of the names holds a thing of one's own -/
def ownAt (vs : List Nat) (ρ : Ev) : Bool := vs.any fun v => match ρ[v]? with
  | some s => s.isOwn
  | none => false
theorem ownAt_no {vs : List Nat} {ρ : Ev} (h : ownAt vs ρ = false) : ∀ v ∈ vs, ∀ s, ρ[v]? = some s → s.isOwn = false := fun v hv s hs => by
  unfold ownAt at h
  have := List.any_eq_false.mp h v hv
  rw [hs] at this
  simpa using this
def lcL (vs : List Nat) (t : D → Ev → Option Ev) (tt : M Bool) (te : M D) : List D → Ev → List D → Out (List D)
  | [], ρ, acc => .ok acc ρ
  | d :: ds, ρ, acc => match t d ρ with
    | none => .bad
    | some ρ1 => match tt ρ1 with
      | .ok true ρ2 => match te ρ2 with
        | .ok y ρ3 => if ownAt vs ρ3 then .bad else lcL vs t tt te ds (wipeE ρ3 vs) (acc ++ [y])
        | _ => .bad
      | .ok false ρ2 => if ownAt vs ρ2 then .bad else lcL vs t tt te ds (wipeE ρ2 vs) acc
      | _ => .bad
def compM (vs : List Nat) (src : M (List D)) (t : D → Ev → Option Ev) (tt : M Bool) (te : M D) : M D := M.bnd src fun ds ρ1 =>
  if ownAt vs ρ1 then .bad else match lcL vs t tt te ds (wipeE ρ1 vs) [] with
    | .ok acc ρ2 => match mergeE ρ1 ρ2 with
      | some ρ3 => .ok (.lst acc) ρ3
      | none => .bad
    | _ => .bad
def noTest : M Bool := M.ret true
section
variable {K : PySem.W.Frag} {mg : Str → Option Value} {w : Wd} {A : List Addr} {ρ ρ' : Ev} {σ σ' : L2.St} {H : Hp}
theorem wipeE_len : ∀ (vs : List Nat) (ρ : Ev), (wipeE ρ vs).length = ρ.length
  | [], _ => rfl
  | v :: vs, ρ => by show ((wipeE ρ vs).set v .no).length = _; rw [List.length_set, wipeE_len vs ρ]
theorem wipeE_get : ∀ (vs : List Nat) (ρ : Ev) (j : Nat), (wipeE ρ vs)[j]? = if j ∈ vs then (if j < ρ.length then some .no else none) else ρ[j]?
  | [], ρ, j => by simp [wipeE]
  | v :: vs, ρ, j => by
    show ((wipeE ρ vs).set v .no)[j]? = _
    by_cases hj : j = v
    · subst hj
      simp only [List.mem_cons, true_or, if_true]
      by_cases hl : j < ρ.length
      · rw [if_pos hl, List.getElem?_set_self (by rw [wipeE_len]; exact hl)]
      · rw [if_neg hl]; exact List.getElem?_eq_none (by simpa [wipeE_len] using hl)
    · rw [List.getElem?_set_ne (Ne.symm hj), wipeE_get vs ρ j]
      simp [hj]
theorem wipe_get : ∀ (vs : List Nat) (σ : L2.St) (j : Nat), (wipe σ vs)[j]? = if j ∈ vs then (if j < σ.length then some none else none) else σ[j]?
  | [], σ, j => by simp [wipe]
  | v :: vs, σ, j => by
    show ((wipe σ vs).set v none)[j]? = _
    by_cases hj : j = v
    · subst hj
      simp only [List.mem_cons, true_or, if_true]
      by_cases hl : j < σ.length
      · rw [if_pos hl, List.getElem?_set_self (by rw [wipe_length]; exact hl)]
      · rw [if_neg hl]; exact List.getElem?_eq_none (by simpa [wipe_length] using hl)
    · rw [List.getElem?_set_ne (Ne.symm hj), wipe_get vs σ j]
      simp [hj]
theorem wipe_agr {vs is : List Nat} (a : Agr is (wipe σ vs) σ') (h : ∀ i ∈ is, i ∈ vs) : wipe σ' vs = wipe σ vs := by
  refine List.ext_getElem? fun j => ?_
  rw [wipe_get, wipe_get]
  have hl : σ'.length = σ.length := by rw [a.1, wipe_length]
  by_cases hj : j ∈ vs
  · rw [if_pos hj, if_pos hj, hl]
  · rw [if_neg hj, if_neg hj, a.2 j fun z => hj (h j z), wipe_get, if_neg hj]
theorem SR.wipe {vs : List Nat} (R : SR K mg w A ρ σ H) (ho : ∀ v ∈ vs, ∀ s, ρ[v]? = some s → s.isOwn = false) : SR K mg w A (wipeE ρ vs) (wipe σ vs) H := by
  have get : ∀ {j : Nat} {s : Slot}, (wipeE ρ vs)[j]? = some s → s = .no ∨ (j ∉ vs ∧ ρ[j]? = some s) := fun {j s} h => by
    rw [wipeE_get] at h
    split at h
    · split at h
      · exact .inl (Option.some.inj h).symm
      · cases h
    · rename_i hj
      exact .inr ⟨hj, h⟩
  have own : ∀ {j : Nat} {s : Slot}, (wipeE ρ vs)[j]? = some s → s.isOwn = true → j ∉ vs ∧ ρ[j]? = some s := fun {j s} h o => by
    rcases get h with z | z
    · subst z; cases o
    · exact z
  have sg : ∀ {j : Nat}, j ∉ vs → (L2.wipe σ vs)[j]? = σ[j]? := fun {j} hj => by rw [wipe_get, if_neg hj]
  refine ⟨by rw [wipeE_len, wipe_length, R.len], fun j s o h1 h2 => ?_, fun i j s t a h1 h2 o1 o2 e1 e2 => ?_, R.sub, R.trk, R.frame, fun i s a h1 o1 e1 => ?_, R.opB, fun p hp => ?_⟩
  · rcases get h1 with z | ⟨z, h⟩
    · subst z; trivial
    · rw [sg z] at h2
      exact R.slots j s o h h2
  · obtain ⟨n1, g1⟩ := own h1 o1
    obtain ⟨n2, g2⟩ := own h2 o2
    rw [sg n1] at e1
    rw [sg n2] at e2
    exact R.dist i j s t a g1 g2 o1 o2 e1 e2
  · obtain ⟨n1, g1⟩ := own h1 o1
    rw [sg n1] at e1
    exact R.mine i s a g1 o1 e1
  · obtain ⟨p1, p2, s, p3, p4⟩ := R.par p hp
    have np : p.1 ∉ vs := fun z => by rw [ho _ z s p3] at p4; cases p4
    exact ⟨p1, by rw [sg np]; exact p2, s, by rw [wipeE_get, if_neg np]; exact p3, p4⟩
/-- the new list, while it grows, is a thing that changes -/
theorem off_cons {p : Addr} {o : HO} (n : H p = none) : off (p :: A) (upd H p o) = off A H := by
  funext b
  unfold off
  by_cases hb : b = p
  · subst hb
    rw [if_pos List.mem_cons_self]
    split
    · rfl
    · exact n.symm
  · rw [upd_ne hb]
    by_cases hA : b ∈ A
    · rw [if_pos (List.mem_cons_of_mem _ hA), if_pos hA]
    · rw [if_neg hA, if_neg fun z => (List.mem_cons.mp z).elim hb hA]
theorem SlotR.grow {xx : Addr × Option Addr × Value} {p : Addr} {o : HO} (n : H p = none) (t : Trk A H) : ∀ {s : Slot} {v : Option V}, SlotR K mg xx A H s v → SlotR K mg xx (p :: A) (upd H p o) s v
  | .no, _, _ => trivial
  | .val d, _, ⟨v, e, r⟩ => ⟨v, e, by rw [off_cons n]; exact r⟩
  | .own l, _, ⟨a, vs, e, m, h, r⟩ => ⟨a, vs, e, List.mem_cons_of_mem _ m, by rw [upd_ne (ne_of_none h n)]; exact h, by rw [off_cons n]; exact r⟩
  | .dic _ _, _, ⟨a, kvs, e, m, h, k, r⟩ => ⟨a, kvs, e, List.mem_cons_of_mem _ m, by rw [upd_ne (ne_of_none h n)]; exact h, k, by rw [off_cons n]; exact r⟩
  | .inst _ _ _, _, ⟨a, C, dx, fvs, e, m, c, h, l, r⟩ => ⟨a, C, dx, fvs, e, List.mem_cons_of_mem _ m, c, by rw [upd_ne (ne_of_none h n)]; exact h, l, by rw [off_cons n]; exact r⟩
  | .ex _, _, ⟨e, r⟩ => ⟨e, r.to (by rw [off_cons n]; exact Same.refl _)⟩
/-- a thing that changes and that no name holds -/
def Wd.with (w : Wd) (p : Addr) (o : HO) : Wd := { w with B := p :: w.B, G := upd w.G p o }
theorem SR.noOp {p : Addr} (R : SR K mg w A ρ σ H) (n : H p = none) : p ∉ w.Op := fun z => R.trk p (R.sub p (R.opB p z)) n
theorem SR.noG {p : Addr} (R : SR K mg w A ρ σ H) (n : H p = none) : w.G p = none := by
  cases e : w.G p with
  | none => rfl
  | some o => rw [R.frame p o e (R.noOp n)] at n; cases n
/-- an own slot's object stands -/
theorem SR.stood {p : Addr} (R : SR K mg w A ρ σ H) (n : H p = none) (i : Nat) (s : Slot) (h : ρ[i]? = some s) (o : s.isOwn = true) : σ[i]? ≠ some (some (.ref p)) := fun z => by
  have := R.slots i s _ h z
  cases s with
  | own l => obtain ⟨b, vs', e, m, hh, _⟩ := this; cases e; rw [n] at hh; cases hh
  | dic ks vs => obtain ⟨b, vs', e, m, hh, _⟩ := this; cases e; rw [n] at hh; cases hh
  | inst c ns l => obtain ⟨b, C, dx, fvs, e, m, c, hh, _⟩ := this; cases e; rw [n] at hh; cases hh
  | _ => cases o
theorem SR.grow {p : Addr} {o : HO} (R : SR K mg w A ρ σ H) (n : H p = none) : SR K mg (w.with p o) (p :: A) ρ σ (upd H p o) :=
  { len := R.len, slots := fun i s v h1 h2 => (R.slots i s v h1 h2).grow n R.trk, dist := R.dist
    sub := fun a h => (List.mem_cons.mp h).elim (fun z => z ▸ List.mem_cons_self) fun z => List.mem_cons_of_mem _ (R.sub a z)
    trk := fun a ha z => by
      rcases List.mem_cons.mp ha with q | q
      · subst q; rw [upd_same] at z; cases z
      · exact Trk.upd (show Trk A H from R.trk) a q z
    frame := fun a u h nn => by
      by_cases ha : a = p
      · subst ha
        have h' : upd w.G a o a = some u := h
        rw [upd_same] at h' ⊢
        exact h'
      · have h' : upd w.G p o a = some u := h
        rw [upd_ne ha] at h' ⊢
        exact R.frame a u h' nn
    mine := fun i s a h o' e => (R.mine i s a h o' e).imp id fun ⟨z1, z2⟩ => by
      have ne : a ≠ p := fun y => R.stood n i s h o' (by rw [e, y])
      exact ⟨by show upd w.G p o a = none; rw [upd_ne ne]; exact z1, fun z => (List.mem_cons.mp z).elim ne z2⟩
    opB := fun a h => List.mem_cons_of_mem _ (R.opB a h)
    par := R.par }
/-- another content of the list that grows -/
theorem off_in {p : Addr} {o : HO} (h : p ∈ A) : off A (upd H p o) = off A H := by
  funext b
  unfold off
  by_cases hb : b = p
  · subst hb; rw [if_pos h, if_pos h]
  · rw [upd_ne hb]
theorem mergeE_get : ∀ {ρ ρ' ρ2 : Ev}, mergeE ρ ρ' = some ρ2 → ρ2.length = ρ.length ∧ ρ'.length = ρ.length ∧ ∀ (j : Nat) s, ρ2[j]? = some s → (s.isOwn = true ∧ ρ'[j]? = some s ∧ ∃ u, ρ[j]? = some u ∧ u.isOwn = true) ∨ (s.isOwn = false ∧ ρ[j]? = some s)
  | [], [], _, h => by cases (Option.some.inj h); exact ⟨rfl, rfl, fun j s h => by simp at h⟩
  | [], _ :: _, _, h => by cases h
  | _ :: _, [], _, h => by cases h
  | a :: r, b :: s, ρ2, h => by
    unfold mergeE at h
    by_cases ha : a.isOwn = true
    · rw [if_pos ha] at h
      by_cases hb : b.isOwn = true
      · rw [if_pos hb] at h
        obtain ⟨t, h1, e⟩ := Option.map_eq_some_iff.mp h
        subst e
        obtain ⟨l1, l2, g⟩ := mergeE_get h1
        refine ⟨by simp [l1], by simp [l2], fun j s h => ?_⟩
        cases j with
        | zero => simp at h; subst h; exact .inl ⟨hb, by simp, a, by simp, ha⟩
        | succ j => simpa using g j s (by simpa using h)
      · rw [if_neg hb] at h; cases h
    · rw [if_neg ha] at h
      obtain ⟨t, h1, e⟩ := Option.map_eq_some_iff.mp h
      subst e
      obtain ⟨l1, l2, g⟩ := mergeE_get h1
      refine ⟨by simp [l1], by simp [l2], fun j s h => ?_⟩
      cases j with
      | zero => simp at h; subst h; exact .inr ⟨by simpa using ha, by simp⟩
      | succ j => simpa using g j s (by simpa using h)
theorem SlotR.shrink {xx : Addr × Option Addr × Value} {p : Addr} {s0 : Option V} (h : ∀ a, s0 = some (V.ref a) → a ≠ p) : ∀ {s : Slot}, SlotR K mg xx (p :: A) H s s0 → SlotR K mg xx A H s s0 := by
  intro s r
  have sm : Same (off (p :: A) H) (off A H) := off_sub fun a ha => List.mem_cons_of_mem _ ha
  have inA : ∀ {a : Addr}, s0 = some (.ref a) → a ∈ p :: A → a ∈ A := fun {a} e m => (List.mem_cons.mp m).elim (fun z => absurd z (h a e)) id
  cases s with
  | no => trivial
  | val d => obtain ⟨v, e, r⟩ := r; exact ⟨v, e, r.mono sm⟩
  | own l => obtain ⟨a, vs, e, m, hh, r⟩ := r; exact ⟨a, vs, e, inA e m, hh, r.mono sm⟩
  | dic ks vs => obtain ⟨a, kvs, e, m, hh, k, r⟩ := r; exact ⟨a, kvs, e, inA e m, hh, k, r.mono sm⟩
  | inst c ns l => obtain ⟨a, C, dx, fvs, e, m, c, hh, n, r⟩ := r; exact ⟨a, C, dx, fvs, e, inA e m, c, hh, n, r.mono sm⟩
  | ex e => exact ⟨r.1, r.2.to sm⟩
/-- behind the block: the outer slots again -/
theorem SR.back {H1 : Hp} {vs : List Nat} {ρ2 ρ3 : Ev} {p : Addr} {o : HO} (R : SR K mg w A ρ σ H1) (n : H1 p = none) (R2 : SR K mg (w.with p o) (p :: A) ρ2 (L2.wipe σ vs) H) (sm : Same (off A H1) (off (p :: A) H)) (hm : mergeE ρ ρ2 = some ρ3) (ho : ∀ v ∈ vs, ∀ s, ρ[v]? = some s → s.isOwn = false) :
    SR K mg w A ρ3 σ H := by
  obtain ⟨l1, l2, g⟩ := mergeE_get hm
  have sub : Same (off (p :: A) H) (off A H) := off_sub fun a ha => List.mem_cons_of_mem _ ha
  have sA : Same (off A H1) (off A H) := sm.trans sub
  have own : ∀ {j : Nat} {s : Slot}, ρ3[j]? = some s → s.isOwn = true → ρ2[j]? = some s ∧ j ∉ vs ∧ (∃ u, ρ[j]? = some u ∧ u.isOwn = true) := fun {j s} h o => by
    rcases g j s h with ⟨_, h2, u, h3, h4⟩ | ⟨z, _⟩
    · exact ⟨h2, fun hv => (by rw [ho j hv u h3] at h4; cases h4), u, h3, h4⟩
    · rw [z] at o; cases o
  have sg : ∀ {j : Nat}, j ∉ vs → (L2.wipe σ vs)[j]? = σ[j]? := fun {j} hj => by rw [wipe_get, if_neg hj]
  refine ⟨by rw [l1, R.len], fun j s o h1 h2 => ?_, fun i j s t a h1 h2 o1 o2 e1 e2 => ?_, R.sub, fun a ha => R2.trk a (List.mem_cons_of_mem _ ha), fun a u h nn => R2.frame a u (by show upd w.G p o a = some u; rw [upd_ne (ne_of_none h (R.noG n))]; exact h) nn, fun i s a h1 o1 e1 => ?_, R.opB, fun q hq => ?_⟩
  · by_cases hs : s.isOwn = true
    · obtain ⟨h3, nv, u, h4, o4⟩ := own h1 hs
      rw [← sg nv] at h2
      refine SlotR.shrink (fun a e z => ?_) (R2.slots j s o h3 h2)
      rw [sg nv] at h2
      subst e z
      exact R.stood n j u h4 o4 h2
    · rcases g j s h1 with ⟨z, _⟩ | ⟨_, h3⟩
      · exact absurd z hs
      · have q := R.slots j s o h3 h2
        cases s with
        | no => trivial
        | val d => obtain ⟨v, e, r⟩ := q; exact ⟨v, e, r.mono sA⟩
        | ex e =>
          exact ⟨q.1, q.2.to sA⟩
        | _ => exact absurd rfl hs
  · obtain ⟨g1, n1, _⟩ := own h1 o1
    obtain ⟨g2, n2, _⟩ := own h2 o2
    exact R2.dist i j s t a g1 g2 o1 o2 (by rw [sg n1]; exact e1) (by rw [sg n2]; exact e2)
  · obtain ⟨g1, n1, _⟩ := own h1 o1
    exact (R2.mine i s a g1 o1 (by rw [sg n1]; exact e1)).imp id fun ⟨z1, z2⟩ => by
      have ne : a ≠ p := fun y => z2 (by rw [y]; exact List.mem_cons_self)
      exact ⟨by have z1' : upd w.G p o a = none := z1; rw [upd_ne ne] at z1'; exact z1', fun z => z2 (List.mem_cons_of_mem _ z)⟩
  · obtain ⟨p1, p2, s, p3, p4⟩ := R.par q hq
    have hj : q.1 < ρ3.length := by rw [l1]; exact (List.getElem?_eq_some_iff.mp p3).1
    have e3 : ρ3[q.1]? = some ρ3[q.1] := by simp [hj]
    rcases g q.1 _ e3 with ⟨z, _, _⟩ | ⟨z, h3⟩
    · exact ⟨p1, p2, _, e3, z⟩
    · rw [p3] at h3; cases h3; rw [z] at p4; cases p4
end
end DL
namespace DL
open PySem L2
/-- nothing is wished for -/
abbrev WF : WZ := ⟨fun _ _ _ _ => False, fun _ => True⟩
theorem takesF {X : Cx} {s : Shared} {H : Hp} {scope : Scope} {env : Env} {fp : List Addr} (hc : X.calm = true) : TakesZ (X.blk s H scope env fp) WF := ⟨takes0, fun h => by
  have z : X.calm = false := h
  rw [hc] at z
  cases z⟩
def DTs (X : Cx) (ifs : List Expr) (t : M Bool) : Prop := ∀ W : WZ, TakesZ X W → PTs X ifs (tT X.K X.mg W t)
section
variable {X : Cx} {e : Expr} {K : PySem.W.Frag} {mg : Str → Option Value} {w : Wd} {A : List Addr} {ρ ρ' : Ev} {σ σ' : L2.St} {H : Hp} {t : M Bool}
theorem dts_nil : DTs X [] noTest := fun W _ => ⟨fun pins s σ H Q I ⟨w, A, ρ, R, q⟩ => (pts_nil (X := X)).run pins s σ H Q I (q H Ext.refl R)⟩
theorem dts_one (h : DT X e t) : DTs X [e] t := fun W tk => pts_one (h W tk)
theorem ext_own {p : Addr} {o : HO} (h : p ∈ A) : Same (off A H) (off A (upd H p o)) := by rw [off_in h]; exact Same.refl _
/-- the list that grows takes one more -/
theorem SR.more {p : Addr} {xs ys : List V} (R : SR K mg (w.with p (.lst xs)) (p :: A) ρ σ H) (nO : p ∉ w.Op) : SR K mg (w.with p (.lst ys)) (p :: A) ρ σ (upd H p (.lst ys)) := by
  have e : off (p :: A) (upd H p (.lst ys)) = off (p :: A) H := off_in List.mem_cons_self
  have no : ∀ (i : Nat) s, ρ[i]? = some s → s.isOwn = true → σ[i]? ≠ some (some (.ref p)) := fun i s h o z => by
    rcases R.mine i s p h o z with q | ⟨_, q⟩
    · exact nO q
    · exact q List.mem_cons_self
  refine ⟨R.len, fun i s o h1 h2 => ?_, R.dist, R.sub, Trk.upd (show Trk (p :: A) H from R.trk), fun a u hu nu => ?_, fun i s a h1 o1 e1 => (R.mine i s a h1 o1 e1).imp id fun ⟨z1, z2⟩ => ?_, R.opB, R.par⟩
  · have r := R.slots i s o h1 h2
    cases s with
    | no => trivial
    | val d => obtain ⟨v, e1, r⟩ := r; exact ⟨v, e1, by rw [e]; exact r⟩
    | own l => obtain ⟨a, vs, e1, m, hh, r⟩ := r; subst e1; exact ⟨a, vs, rfl, m, by rw [upd_ne fun z => no i _ h1 rfl (by rw [h2, z])]; exact hh, by rw [e]; exact r⟩
    | dic ks vs => obtain ⟨a, kvs, e1, m, hh, k, r⟩ := r; subst e1; exact ⟨a, kvs, rfl, m, by rw [upd_ne fun z => no i _ h1 rfl (by rw [h2, z])]; exact hh, k, by rw [e]; exact r⟩
    | inst c ns l => obtain ⟨a, C, dx, fvs, e1, m, c, hh, n, r⟩ := r; subst e1; exact ⟨a, C, dx, fvs, rfl, m, c, by rw [upd_ne fun z => no i _ h1 rfl (by rw [h2, z])]; exact hh, n, by rw [e]; exact r⟩
    | ex ee => exact ⟨r.1, r.2.to (by rw [e]; exact Same.refl _)⟩
  · have hu' : upd w.G p (.lst ys) a = some u := hu
    by_cases ha : a = p
    · subst ha
      rw [upd_same] at hu' ⊢
      exact hu'
    · rw [upd_ne ha] at hu' ⊢
      exact R.frame a u (by show upd w.G p (.lst xs) a = some u; rw [upd_ne ha]; exact hu') nu
  · have ne : a ≠ p := fun y => z2 (by rw [y]; exact List.mem_cons_self)
    refine ⟨?_, z2⟩
    have z1' : upd w.G p (.lst xs) a = none := z1
    show upd w.G p (.lst ys) a = none
    rw [upd_ne ne] at z1' ⊢
    exact z1'
theorem wipe_own {vs : List Nat} {i : Nat} {s : Slot} (h : (wipeE ρ vs)[i]? = some s) (hv : i ∈ vs) : s = .no := by
  rw [wipeE_get, if_pos hv] at h
  split at h
  · exact (Option.some.inj h).symm
  · cases h
theorem lc_go {vs is : List Nat} {t : D → Ev → Option Ev} {tt : M Bool} {te : M D} {J : It} {H1 : Hp} {p : Addr} {ds : List D} {Q : VK} {ρ1 : Ev}
    (his : ∀ i ∈ is, i ∈ vs) (R1 : SR K mg w A ρ1 σ H1) (np : H1 p = none) (wk : Wk K mg A ds J H1) (hz : ds.length ≤ sizeLine) (ho : ∀ v ∈ vs, ∀ s, ρ1[v]? = some s → s.isOwn = false)
    (q : match lcL vs t tt te ds (wipeE ρ1 vs) [] with
      | .ok acc ρ2 => match mergeE ρ1 ρ2 with
        | some ρ3 => ∀ H', Same (off A H1) (off (p :: A) H') → SR K mg w A ρ3 σ H' → Rep K mg (off A H') (.lst acc) (.ref p) → Q (.ref p) H'
        | none => False
      | _ => False) :
    ∃ W : Nat → Nat → Hp → Prop, (∃ m, W 0 m (upd H1 p (.lst []))) ∧ ∀ i m H, W i m H →
      (J.stop i H ∧ Q (.ref p) H) ∨ (J.go i H ∧ ∃ Nx : Hp → Prop, (∀ H', Nx H' → ∃ m', m' < m ∧ W (i + 1) m' H') ∧ ∀ x H', J.yld i H x H' → tG K mg is t x (L2.wipe σ vs) H' fun σ2 H2 => L2.wipe σ2 vs = L2.wipe σ vs ∧ tT K mg WF tt σ2 H2 fun b H3 =>
        if b = true then tE K mg WF te σ2 H3 fun y H4 => ∃ acc, H4 p = some (.lst acc) ∧ acc.length < sizeLine ∧ Nx (upd H4 p (.lst (acc ++ [y]))) else Nx H3) := by
  generalize hE : lcL vs t tt te ds (wipeE ρ1 vs) [] = E0 at q
  let St := fun (i : Nat) (H : Hp) (ρi : Ev) (acc : List D) => Same (off A H1) (off (p :: A) H) ∧ (∃ xs, SR K mg (w.with p (.lst xs)) (p :: A) ρi (L2.wipe σ vs) H ∧ Reps K mg (off (p :: A) H) acc xs) ∧ acc.length ≤ i ∧ i ≤ ds.length ∧
    lcL vs t tt te (ds.drop i) ρi acc = E0
  refine ⟨fun i m H => m = ds.length - i ∧ ∃ ρi acc, St i H ρi acc, ⟨ds.length, by simp, wipeE ρ1 vs, [], by rw [off_cons np]; exact Same.refl _, ⟨[], (R1.wipe ho).grow np, rfl⟩, Nat.zero_le _, Nat.zero_le _, hE⟩, ?_⟩
  rintro i m H ⟨rfl, ρi, acc, sm, ⟨xs, R, rs⟩, ha, hi, el⟩
  have nO : p ∉ w.Op := R1.noOp np
  have at_p : ∀ {H : Hp} {ρ : Ev} {σ : L2.St}, SR K mg (w.with p (.lst xs)) (p :: A) ρ σ H → H p = some (.lst xs) := fun {H ρ σ} R => R.frame p _ (by show upd w.G p (.lst xs) p = _; exact upd_same) nO
  obtain ⟨wk1, wk2⟩ := wk i (p :: A) H sm R.trk
  by_cases hlt : i < ds.length
  · right
    obtain ⟨go, yld⟩ := wk1 ds[i] (by simp [hlt])
    refine ⟨go, fun H' => ∃ ρi acc, St (i + 1) H' ρi acc, fun H' h => ⟨ds.length - (i + 1), by omega, rfl, h⟩, fun x H' y => ?_⟩
    obtain ⟨s1, rx⟩ := yld x H' y
    have sm1 : Same (off A H1) (off (p :: A) H') := sm.trans (off_Same s1)
    have R' := R.same s1
    rw [show ds.drop i = ds[i] :: ds.drop (i + 1) from List.drop_eq_getElem_cons hlt] at el
    refine ⟨w.with p (.lst xs), p :: A, ρi, ds[i], R', rx, ?_⟩
    rw [← el] at q
    unfold lcL at q el
    cases ht : t ds[i] ρi with
    | none => rw [ht] at q; exact q.elim
    | some ρ2 =>
      rw [ht] at q el
      dsimp only at q el
      intro σ2 ag R2
      have hw : L2.wipe σ2 vs = L2.wipe σ vs := wipe_agr ag his
      refine ⟨hw, ⟨w.with p (.lst xs), trivial⟩, p :: A, ρ2, R2, ?_⟩
      cases htt : tt ρ2 with
      | exc e ρ3 => rw [htt] at q; exact q.elim
      | bad => rw [htt] at q; exact q.elim
      | ok b ρ3 =>
        rw [htt] at q el
        intro H3 ex3 R3
        have sm3 : Same (off A H1) (off (p :: A) H3) := sm1.trans ex3.off
        have rs3 : Reps K mg (off (p :: A) H3) acc xs := (rs.mono (off_Same s1)).mono ex3.off
        cases b with
        | false =>
          simp only [Bool.false_eq_true, if_false]
          dsimp only at q el
          cases hw2 : ownAt vs ρ3 with
          | true => rw [hw2] at q; exact q.elim
          | false =>
            rw [hw2] at q el
            simp only [Bool.false_eq_true, if_false] at el
            refine ⟨wipeE ρ3 vs, acc, sm3, ⟨xs, ?_, rs3⟩, by omega, hlt, el⟩
            rw [← hw]
            exact R3.wipe (ownAt_no hw2)
        | true =>
          simp only [if_true]
          refine ⟨⟨w.with p (.lst xs), trivial⟩, p :: A, ρ3, R3, ?_⟩
          dsimp only at q el
          cases hte : te ρ3 with
          | exc e ρ4 => rw [hte] at q; exact q.elim
          | bad => rw [hte] at q; exact q.elim
          | ok y ρ4 =>
            rw [hte] at q el
            dsimp only at q el
            cases hw2 : ownAt vs ρ4 with
            | true => rw [hw2] at q; exact q.elim
            | false =>
              rw [hw2] at q el
              simp only [Bool.false_eq_true, if_false] at el
              intro v H4 ex4 R4 r4
              have rs4 : Reps K mg (off (p :: A) H4) acc xs := rs3.mono ex4.off
              have hp4 : H4 p = some (.lst xs) := at_p R4
              have e4 : off (p :: A) (upd H4 p (.lst (xs ++ [v]))) = off (p :: A) H4 := off_in List.mem_cons_self
              refine ⟨xs, hp4, by rw [← rs4.length]; omega, wipeE ρ4 vs, acc ++ [y], by rw [e4]; exact sm3.trans ex4.off, ⟨xs ++ [v], ?_, by rw [e4]; exact rs4.append (.cons r4 .nil)⟩, by simp; omega, hlt, el⟩
              rw [← hw]
              exact (R4.more nO).wipe (ownAt_no hw2)
  · have e : i = ds.length := by omega
    subst e
    left
    refine ⟨wk2 (Nat.le_refl _), ?_⟩
    rw [List.drop_length] at el
    rw [← el] at q
    have q : match mergeE ρ1 ρi with
        | some ρ3 => ∀ H', Same (off A H1) (off (p :: A) H') → SR K mg w A ρ3 σ H' → Rep K mg (off A H') (.lst acc) (.ref p) → Q (.ref p) H'
        | none => False := q
    cases hm : mergeE ρ1 ρi with
    | none => rw [hm] at q; exact q.elim
    | some ρ3 =>
      rw [hm] at q
      refine q H sm (R1.back np R sm hm ho) ⟨p, xs, rfl, off_at (at_p R) fun z => R1.trk p z np, rs.mono (off_sub fun a ha => List.mem_cons_of_mem _ ha)⟩
/-- [elt for target in .. if ..] -/
theorem de_lc {elt tg iter : Expr} {ifs : List Expr} {scope : Scope} {own : List (Str × Nat)} {pos : Pos} {is : List Nat} {src : M (List D)} {t : D → Ev → Option Ev} {tt : M Bool} {te : M D} (hc : X.calm = true) (hN : X.N.Nodup) (hi : DI X tg iter src) (ok : blkC X.N X.env.scope scope own = true)
    (hg : ∀ (s : Shared) (H : Hp) (C : Addr) (cl : List (Str × Addr)) (fp : List Addr), DG (X.blk s H scope (compEnvC scope cl C X.env) fp) tg is t) (ht : ∀ (s : Shared) (H : Hp) (C : Addr) (cl : List (Str × Addr)) (fp : List Addr), DTs (X.blk s H scope (compEnvC scope cl C X.env) fp) ifs tt)
    (he : ∀ (s : Shared) (H : Hp) (C : Addr) (cl : List (Str × Addr)) (fp : List Addr), DE (X.blk s H scope (compEnvC scope cl C X.env) fp) elt te) (his : is.all (fun i => (own.map (·.2)).contains i) = true := by rfl) (hs : ∀ x, foldedSetIterable iter X.env x = pure x := by intro _; rfl) :
    DE X (.ListComp elt [⟨tg, iter, ifs, 0⟩] scope pos) (compM (own.map (·.2)) src t tt te) := fun W tk =>
  pe_imp (pe_lc (g := tG X.K X.mg is t) (tt := tT X.K X.mg WF tt) (te := tE X.K X.mg WF te) hc hN (hi W tk) (blkOk_by ok) hg (fun s H C cl fp => ht s H C cl fp WF (takesF hc)) (fun s H C cl fp => he s H C cl fp WF (takesF hc)) hs) fun σ H Q ⟨w, A, ρ, R, q⟩ => by
    refine ⟨w, A, ρ, R, ?_⟩
    unfold compM at q
    cases hm : src ρ with
    | exc e ρ1 => rw [bnd_exc hm] at q; exact q
    | bad => rw [bnd_bad hm] at q; exact q
    | ok ds ρ1 =>
      rw [bnd_ok hm] at q
      intro J H1 ex1 R1 wk hz p np
      cases hw : ownAt (own.map (·.2)) ρ1 with
      | true => rw [hw] at q; exact q.elim
      | false =>
        rw [hw] at q
        refine lc_go (fun i hi => ?_) R1 np wk hz (ownAt_no hw) ?_
        · have := List.all_eq_true.mp his i hi
          simpa using this
        · simp only [Bool.false_eq_true, if_false] at q
          cases hl : lcL (own.map (·.2)) t tt te ds (wipeE ρ1 (own.map (·.2))) [] with
          | exc e ρ2 => rw [hl] at q; exact q.elim
          | bad => rw [hl] at q; exact q.elim
          | ok acc ρ2 =>
            rw [hl] at q
            dsimp only at q ⊢
            cases hmm : mergeE ρ1 ρ2 with
            | none => rw [hmm] at q; exact q.elim
            | some ρ3 =>
              rw [hmm] at q
              exact fun H' sm R' r => q _ H' (ex1.trans fun a o ha h => off_le _ _ (sm _ _ (off_at h ha))) R' r
end
end DL
namespace DL
open PySem L2
section
variable {X : Cx} {np : Nat} {st : Stmt} {rest : List Stmt} {e : Expr} {m : M D} {s s' : S} {pos : Pos} {K : PySem.W.Frag} {mg : Str → Option Value} {w : Wd} {A : List Addr} {ρ : Ev} {σ : L2.St} {H : Hp}
def sSeq (a b : S) : S := fun ρ => match a ρ with
  | .nx ρ' => b ρ'
  | .rt d ρ' => .rt d ρ' | .bk ρ' => .bk ρ' | .ct ρ' => .ct ρ' | .exc e ρ' => .exc e ρ' | .bad => .bad
def sNx : S := fun ρ => .nx ρ
/-- what is wanted behind an outcome -/
def Aft (K : PySem.W.Frag) (mg : Str → Option Value) (W : WZ) (w : Wd) (A : List Addr) (H : Hp) (E : Ends) : SOut → Prop
  | .nx ρ' => ∀ A' σ' H', Same (off A H) (off A' H') → SR K mg w A' ρ' σ' H' → E.nx σ' H'
  | .rt d ρ' => ∀ A' σ' H' v, SR K mg w A' ρ' σ' H' → Rep K mg (off A' H') d v → E.rt v H'
  | .bk ρ' => ∀ A' σ' H', Same (off A H) (off A' H') → SR K mg w A' ρ' σ' H' → E.bk σ' H'
  | .ct ρ' => ∀ A' σ' H', Same (off A H) (off A' H') → SR K mg w A' ρ' σ' H' → E.ct σ' H'
  | .exc e ρ' => ∀ A' σ' H' c dd, Same (off A H) (off A' H') → SR K mg w A' ρ' σ' H' → ExR K mg A' H' e c dd → W c dd σ' H'
  | .bad => False
theorem tS_iff {W : WZ} {E : Ends} : tS K mg np W s E σ H ↔ ∃ (w : WS W) (A : List Addr) (ρ : Ev), w.1.np = np ∧ SR K mg w A ρ σ H ∧ Aft K mg W w A H E (s ρ) := by
  unfold tS
  constructor <;> rintro ⟨w, A, ρ, h, R, q⟩ <;> refine ⟨w, A, ρ, h, R, ?_⟩ <;> cases hs : s ρ <;> (rw [hs] at q; exact q)
theorem Aft.from {W : WZ} {E : Ends} {A1 : List Addr} {H1 : Hp} (sm : Same (off A H) (off A1 H1)) : ∀ {o : SOut}, Aft K mg W w A H E o → Aft K mg W w A1 H1 E o
  | .nx _, q => fun A' σ' H' s2 R => q A' σ' H' (sm.trans s2) R
  | .rt _ _, q => q
  | .bk _, q => fun A' σ' H' s2 R => q A' σ' H' (sm.trans s2) R
  | .ct _, q => fun A' σ' H' s2 R => q A' σ' H' (sm.trans s2) R
  | .exc _ _, q => fun A' σ' H' c dd s2 R => q A' σ' H' c dd (sm.trans s2) R
  | .bad, q => q
theorem dss_nil : DSs X np [] sNx := fun W _ => pss_imp pss_nil fun E σ H ⟨w, A, ρ, hn, R, q⟩ => q A σ H (Same.refl _) R
theorem dss_cons (h : DS X np st s) (h2 : DSs X np rest s') : DSs X np (st :: rest) (sSeq s s') := fun W tk => pss_imp (pss_cons (h W tk) (h2 W tk)) fun E σ H q => by
  obtain ⟨w, A, ρ, hn, R, q⟩ := tS_iff.mp q
  refine tS_iff.mpr ⟨w, A, ρ, hn, R, ?_⟩
  unfold sSeq at q
  cases hs : s ρ with
  | nx ρ1 =>
    rw [hs] at q
    exact fun A' σ' H' sm R' => tS_iff.mpr ⟨w, A', ρ1, hn, R', Aft.from sm q⟩
  | rt d ρ1 => rw [hs] at q; exact q
  | bk ρ1 => rw [hs] at q; exact q
  | ct ρ1 => rw [hs] at q; exact q
  | exc e ρ1 => rw [hs] at q; exact q
  | bad => rw [hs] at q; exact q
theorem dss_one (h : DS X np st s) : DSs X np [st] s := fun W tk => pss_one (h W tk)
theorem ds_pass : DS X np (.Pass pos) sNx := fun W _ => ps_imp ps_pass fun E σ H ⟨w, A, ρ, hn, R, q⟩ => q A σ H (Same.refl _) R
theorem ds_break : DS X np (.Break pos) (fun ρ => .bk ρ) := fun W _ => ps_imp ps_break fun E σ H ⟨w, A, ρ, hn, R, q⟩ => q A σ H (Same.refl _) R
theorem ds_continue : DS X np (.Continue pos) (fun ρ => .ct ρ) := fun W _ => ps_imp ps_continue fun E σ H ⟨w, A, ρ, hn, R, q⟩ => q A σ H (Same.refl _) R
/-- a value, then what is done with it -/
def sV (m : M D) (f : D → S) : S := fun ρ => match m ρ with
  | .ok d ρ' => f d ρ'
  | .exc e ρ' => .exc e ρ'
  | .bad => .bad
theorem te_of {W : WZ} {E : Ends} {f : D → S} {Q : VK} (h : tS K mg np W (sV m f) E σ H)
    (hq : ∀ (w : WS W) (A : List Addr) (ρ1 : Ev) d v H1, w.1.np = np → SR K mg w A ρ1 σ H1 → Rep K mg (off A H1) d v → Aft K mg W w A H1 E (f d ρ1) → Q v H1) : tE K mg W m σ H Q := by
  obtain ⟨w, A, ρ, hn, R, q⟩ := tS_iff.mp h
  refine ⟨w, A, ρ, R, ?_⟩
  unfold sV at q
  cases hm : m ρ with
  | exc e ρ1 => rw [hm] at q; exact fun c dd H' ex R' z => q A σ H' c dd ex.off R' z
  | bad => rw [hm] at q; exact q
  | ok d ρ1 =>
    rw [hm] at q
    exact fun v H1 ex R1 r1 => hq w A ρ1 d v H1 hn R1 r1 (Aft.from ex.off q)
theorem ds_expr (h : DE X e m) (hs : swapsWith e none pos.line X.env = pure false := by rfl) : DS X np (.Expr e pos) (sV m fun _ => sNx) := fun W tk =>
  ps_imp (ps_expr (h W tk) hs) fun E σ H q => te_of q fun w A ρ1 d v H1 hn R1 r1 z => z A σ H1 (Same.refl _) R1
theorem ds_ret (h : DE X e m) : DS X np (.Return (some e) pos) (sV m fun d ρ => .rt d ρ) := fun W tk =>
  ps_imp (ps_ret (h W tk)) fun E σ H q => te_of q fun w A ρ1 d v H1 hn R1 r1 z => z A σ H1 v R1 r1
theorem ds_retN : DS X np (.Return none pos) (fun ρ => .rt .non ρ) := fun W tk => ps_imp ps_retN fun E σ H ⟨w, A, ρ, hn, R, q⟩ => q A σ H .non R rfl
/-- target = value -/
def sAsg (m : M D) (t : D → Ev → Option Ev) : S := sV m fun d ρ => match t d ρ with
  | some ρ' => .nx ρ'
  | none => .bad
theorem ds_asg {tg : Expr} {is : List Nat} {t : D → Ev → Option Ev} (h : DE X e m) (hg : DG X tg is t) (hs : swapsWithSole [tg] e pos.line X.env = pure false := by rfl) (hw : swappedStores [tg] e X.env = pure none := by rfl)
    (h1 : (assignEach [tg] X.env).map (·.2) = [assign tg X.env] := by rfl) : DS X np (.Assign [tg] e pos) (sAsg m t) := fun W tk =>
  ps_imp (ps_asg (h W tk) hg hs hw h1) fun E σ H q => te_of q fun w A ρ1 d v H1 hn R1 r1 z => by
    refine ⟨w, A, ρ1, d, R1, r1, ?_⟩
    cases ht : t d ρ1 with
    | none => rw [ht] at z; exact z.elim
    | some ρ2 => rw [ht] at z; exact fun σ' _ R2 => z A σ' H1 (Same.refl _) R2
theorem ds_set {i : Nat} {x : Str} {pos' : Pos} (hN : X.N.Nodup) (hi : X.N[i]? = some x) (hx : Loc X.env.scope x) (h : DE X e m) (hs : swapsWith e (some (.Name x pos')) pos.line X.env = pure false := by rfl)
    (hf : X.fn x = true ∨ X.env.scope.names.lookup x = some .local := by first | exact .inl rfl | exact .inr rfl | assumption) : DS X np (.Assign [.Name x pos'] e pos) (sAsg m (gN i)) := fun W tk =>
  ps_imp (ps_set hN hi hx (h W tk) hs hf) fun E σ H q => te_of q fun w A ρ1 d v H1 hn R1 r1 z => by
    unfold gN at z
    cases hs : ρ1[i]? with
    | none => rw [hs] at z; exact z.elim
    | some s0 =>
      rw [hs] at z
      dsimp only at z
      cases ho : s0.isOwn with
      | true => rw [ho] at z; exact z.elim
      | false => rw [ho] at z; exact z A _ H1 (Same.refl _) (R1.set hs ho r1)
/-- name = [..] on one line -/
theorem ds_setLc {i : Nat} {y : Str} {py : Pos} {elt tg iter : Expr} {ifs : List Expr} {scope : Scope} {own : List (Str × Nat)} {pos spos : Pos} {is : List Nat} {src : M (List D)} {t : D → Ev → Option Ev} {tt : M Bool} {te : M D} (hc : X.calm = true) (hN : X.N.Nodup) (hy : X.N[i]? = some y) (hyl : X.env.scope.names.lookup y = some .local)
    (hsw : swapsWith (.ListComp elt [⟨tg, iter, ifs, 0⟩] scope pos) (some (.Name y py)) spos.line X.env = pure true) (hi : DI X tg iter src) (ok : blkC X.N X.env.scope scope own = true)
    (hg : ∀ (s : Shared) (H : Hp) (C : Addr) (cl : List (Str × Addr)) (fp : List Addr), DG (X.blk s H scope (compEnvC scope cl C X.env) fp) tg is t) (ht : ∀ (s : Shared) (H : Hp) (C : Addr) (cl : List (Str × Addr)) (fp : List Addr), DTs (X.blk s H scope (compEnvC scope cl C X.env) fp) ifs tt)
    (he : ∀ (s : Shared) (H : Hp) (C : Addr) (cl : List (Str × Addr)) (fp : List Addr), DE (X.blk s H scope (compEnvC scope cl C X.env) fp) elt te) (his : is.all (fun i => (own.map (·.2)).contains i) = true := by rfl) (hs : ∀ x, foldedSetIterable iter X.env x = pure x := by intro _; rfl) :
    DS X np (.Assign [.Name y py] (.ListComp elt [⟨tg, iter, ifs, 0⟩] scope pos) spos) (sAsg (compM (own.map (·.2)) src t tt te) (gN i)) := fun W tk =>
  ps_imp (ps_setLc (g := tG X.K X.mg is t) (tt := tT X.K X.mg WF tt) (te := tE X.K X.mg WF te) hc hN hy hyl hsw (hi W tk) (blkOk_by ok) hg (fun s H C cl fp => ht s H C cl fp WF (takesF hc)) (fun s H C cl fp => he s H C cl fp WF (takesF hc)) hs) fun E σ H q => by
    obtain ⟨w, A, ρ, hn, R, q⟩ := tS_iff.mp q
    refine ⟨w, A, ρ, R, ?_⟩
    unfold sAsg sV compM at q
    cases hm : src ρ with
    | exc e ρ1 => rw [bnd_exc hm] at q; exact fun c dd H' ex R' z => q A σ H' c dd ex.off R' z
    | bad => rw [bnd_bad hm] at q; exact q
    | ok ds ρ1 =>
      rw [bnd_ok hm] at q
      intro J H1 ex1 R1 wk hz p np'
      cases hw : ownAt (own.map (·.2)) ρ1 with
      | true => rw [hw] at q; exact q.elim
      | false =>
        rw [hw] at q
        refine lc_go (Q := fun x H1 => gName i x σ H1 E.nx) (is := is) (fun i hi => ?_) R1 np' wk hz (ownAt_no hw) ?_
        · have := List.all_eq_true.mp his i hi
          simpa using this
        · simp only [Bool.false_eq_true, if_false] at q
          cases hl : lcL (own.map (·.2)) t tt te ds (wipeE ρ1 (own.map (·.2))) [] with
          | exc e ρ2 => rw [hl] at q; exact q.elim
          | bad => rw [hl] at q; exact q.elim
          | ok acc ρ2 =>
            rw [hl] at q
            dsimp only at q ⊢
            cases hmm : mergeE ρ1 ρ2 with
            | none => rw [hmm] at q; exact q.elim
            | some ρ3 =>
              rw [hmm] at q
              intro H' sm R' r
              dsimp only at q
              unfold gN at q
              cases hs : ρ3[i]? with
              | none => rw [hs] at q; exact q.elim
              | some s0 =>
                rw [hs] at q
                dsimp only at q
                cases ho : s0.isOwn with
                | true => rw [ho] at q; exact q.elim
                | false =>
                  rw [ho] at q
                  exact q A _ H' (ex1.off.trans (sm.trans (off_sub fun a ha => List.mem_cons_of_mem _ ha))) (R'.set hs ho r)
/-- if -/
def sIf (t : M Bool) (a b : S) : S := fun ρ => match t ρ with
  | .ok true ρ' => a ρ'
  | .ok false ρ' => b ρ'
  | .exc e ρ' => .exc e ρ'
  | .bad => .bad
theorem ds_if {c : Expr} {a b : List Stmt} {t : M Bool} (h : DT X c t) (ha : DSs X np a s) (hb : DSs X np b s') : DS X np (.If c a b pos) (sIf t s s') := fun W tk =>
  ps_imp (ps_if (h W tk) (ha W tk) (hb W tk)) fun E σ H q => by
    obtain ⟨w, A, ρ, hn, R, q⟩ := tS_iff.mp q
    refine ⟨w, A, ρ, R, ?_⟩
    unfold sIf at q
    cases ht : t ρ with
    | exc e ρ1 => rw [ht] at q; exact fun c dd H' ex R' z => q A σ H' c dd ex.off R' z
    | bad => rw [ht] at q; exact q
    | ok b ρ1 =>
      rw [ht] at q
      intro H1 ex R1
      cases b with
      | true => exact tS_iff.mpr ⟨w, A, ρ1, hn, R1, Aft.from ex.off q⟩
      | false => exact tS_iff.mpr ⟨w, A, ρ1, hn, R1, Aft.from ex.off q⟩
/-- for -/
def forL (t : D → Ev → Option Ev) (b : S) : List D → S
  | [], ρ => .nx ρ
  | d :: ds, ρ => match t d ρ with
    | none => .bad
    | some ρ1 => match b ρ1 with
      | .nx ρ2 => forL t b ds ρ2
      | .ct ρ2 => forL t b ds ρ2
      | .bk ρ2 => .nx ρ2
      | .rt d ρ2 => .rt d ρ2
      | .exc e ρ2 => .exc e ρ2
      | .bad => .bad
def sFor (src : M (List D)) (t : D → Ev → Option Ev) (b : S) : S := fun ρ => match src ρ with
  | .ok ds ρ' => forL t b ds ρ'
  | .exc e ρ' => .exc e ρ'
  | .bad => .bad
theorem ds_for {tg iter : Expr} {body : List Stmt} {is : List Nat} {src : M (List D)} {t : D → Ev → Option Ev} (hp : PassesOwn (model X.prog X.w) X.A X.env X.xe) (hc : X.calm = true) (hi : DI X tg iter src) (hg : DG X tg is t) (hb : DSs X np body s)
    (hs : ∀ x, foldedSetIterable iter X.env x = pure x := by intro _; rfl) : DS X np (.For tg iter body [] pos) (sFor src t s) := fun W tk =>
  ps_imp (ps_for hp hc (hi W tk) hg (hb W tk) hs) fun E σ H q => by
    obtain ⟨w, A, ρ, hn, R, q⟩ := tS_iff.mp q
    refine ⟨w, A, ρ, R, ?_⟩
    unfold sFor at q
    cases hm : src ρ with
    | exc e ρ1 => rw [hm] at q; exact fun c dd H' ex R' z => q A σ H' c dd ex.off R' z
    | bad => rw [hm] at q; exact q
    | ok ds ρ1 =>
      rw [hm] at q
      intro J H1 ex1 R1 wk hz
      have q := Aft.from ex1.off q
      refine ⟨fun i m σ2 H2 => m = ds.length - i ∧ i ≤ ds.length ∧ ∃ A2 ρ2, SR X.K X.mg w A2 ρ2 σ2 H2 ∧ Same (off A H1) (off A2 H2) ∧ Aft X.K X.mg W w A2 H2 E (forL t s (ds.drop i) ρ2), ⟨ds.length, by simp, Nat.zero_le _, A, ρ1, R1, Same.refl _, q⟩, ?_⟩
      rintro i m σ2 H2 ⟨rfl, hle, A2, ρ2, R2, sm, z⟩
      obtain ⟨wk1, wk2⟩ := wk i A2 H2 sm R2.trk
      by_cases hlt : i < ds.length
      · right
        obtain ⟨go, yld⟩ := wk1 ds[i] (by simp [hlt])
        rw [show ds.drop i = ds[i] :: ds.drop (i + 1) from List.drop_eq_getElem_cons hlt] at z
        unfold forL at z
        refine ⟨go, fun σ3 H3 => ∃ A3 ρ3, SR X.K X.mg w A3 ρ3 σ3 H3 ∧ Same (off A H1) (off A3 H3) ∧ Aft X.K X.mg W w A3 H3 E (forL t s (ds.drop (i + 1)) ρ3), fun σ3 H3 h => ⟨_, by omega, rfl, by omega, h⟩, fun x H' y => ?_⟩
        obtain ⟨s1, rx⟩ := yld x H' y
        refine ⟨w, A2, ρ2, ds[i], R2.same s1, rx, ?_⟩
        cases ht : t ds[i] ρ2 with
        | none => rw [ht] at z; exact z.elim
        | some ρ3 =>
          rw [ht] at z
          dsimp only at z
          intro σ3 _ R3
          refine tS_iff.mpr ⟨w, A2, ρ3, hn, R3, ?_⟩
          have z := Aft.from (off_Same s1) z
          have sm3 := sm.trans (off_Same s1)
          cases hb : s ρ3 with
          | nx ρ4 => rw [hb] at z; exact fun A4 σ4 H4 s4 R4 => ⟨A4, ρ4, R4, sm3.trans s4, Aft.from s4 z⟩
          | ct ρ4 => rw [hb] at z; exact fun A4 σ4 H4 s4 R4 => ⟨A4, ρ4, R4, sm3.trans s4, Aft.from s4 z⟩
          | bk ρ4 => rw [hb] at z; exact z
          | rt d ρ4 => rw [hb] at z; exact z
          | exc e ρ4 => rw [hb] at z; exact z
          | bad => rw [hb] at z; exact z
      · left
        have e : i = ds.length := by omega
        subst e
        rw [List.drop_length] at z
        exact ⟨wk2 (Nat.le_refl _), z A2 σ2 H2 (Same.refl _) R2⟩
/-- while: at most so many turns -/
def whL (t : M Bool) (b : S) : Nat → S
  | 0, _ => .bad
  | n + 1, ρ => match t ρ with
    | .ok false ρ1 => .nx ρ1
    | .ok true ρ1 => (match b ρ1 with
      | .nx ρ2 => whL t b n ρ2
      | .ct ρ2 => whL t b n ρ2
      | .bk ρ2 => .nx ρ2
      | .rt d ρ2 => .rt d ρ2
      | .exc e ρ2 => .exc e ρ2
      | .bad => .bad)
    | .exc e ρ1 => .exc e ρ1
    | .bad => .bad
theorem ds_while {c : Expr} {body : List Stmt} {t : M Bool} (n : Nat) (hp : PassesOwn (model X.prog X.w) X.A X.env X.xe) (hc : DT X c t) (hb : DSs X np body s) : DS X np (.While c body [] pos) (whL t s n) := fun W tk =>
  ps_imp (ps_while hp (hc W tk) (hb W tk)) fun E σ H q => by
    obtain ⟨w, A, ρ, hn, R, q⟩ := tS_iff.mp q
    refine ⟨fun m σ2 H2 => ∃ A2 ρ2, SR X.K X.mg w A2 ρ2 σ2 H2 ∧ Aft X.K X.mg W w A2 H2 E (whL t s m ρ2), ⟨n, A, ρ, R, q⟩, ?_⟩
    rintro m σ2 H2 ⟨A2, ρ2, R2, z⟩
    refine ⟨w, A2, ρ2, R2, ?_⟩
    cases m with
    | zero => exact z.elim
    | succ m =>
      unfold whL at z
      cases ht : t ρ2 with
      | exc e ρ3 => rw [ht] at z; exact fun c dd H' ex R' y => z A2 σ2 H' c dd ex.off R' y
      | bad => rw [ht] at z; exact z
      | ok k ρ3 =>
        rw [ht] at z
        intro H3 ex3 R3
        have z := Aft.from ex3.off z
        cases k with
        | false => simp only [Bool.false_eq_true, if_false]; exact z A2 σ2 H3 (Same.refl _) R3
        | true =>
          simp only [if_true]
          refine ⟨fun σ4 H4 => ∃ A2 ρ2, SR X.K X.mg w A2 ρ2 σ4 H4 ∧ Aft X.K X.mg W w A2 H4 E (whL t s m ρ2), fun σ4 H4 h => ⟨m, Nat.lt_succ_self _, h⟩, ?_⟩
          refine tS_iff.mpr ⟨w, A2, ρ3, hn, R3, ?_⟩
          dsimp only at z
          cases hb : s ρ3 with
          | nx ρ4 => rw [hb] at z; exact fun A4 σ4 H4 s4 R4 => ⟨A4, ρ4, R4, Aft.from s4 z⟩
          | ct ρ4 => rw [hb] at z; exact fun A4 σ4 H4 s4 R4 => ⟨A4, ρ4, R4, Aft.from s4 z⟩
          | bk ρ4 => rw [hb] at z; exact z
          | rt d ρ4 => rw [hb] at z; exact z
          | exc e ρ4 => rw [hb] at z; exact z
          | bad => rw [hb] at z; exact z
end
end DL
namespace DL
open PySem L2
section
variable {X : Cx} {np : Nat} {e : Expr} {es : List Expr} {as : List Arg} {m : M D} {s s' : S} {pos : Pos} {K : PySem.W.Frag} {mg : Str → Option Value} {w : Wd} {A : List Addr} {ρ : Ev} {σ : L2.St} {H : Hp}
/-- a new object that no name holds may change from now on -/
theorem SR.growA {p : Addr} {o : HO} (R : SR K mg w A ρ σ H) (n : H p = none) : SR K mg w (p :: A) ρ σ (upd H p o) :=
  { len := R.len, slots := fun i s v h1 h2 => (R.slots i s v h1 h2).grow n R.trk, dist := R.dist
    sub := fun a h => List.mem_cons_of_mem _ (R.sub a h)
    trk := fun a ha z => by
      rcases List.mem_cons.mp ha with q | q
      · subst q; rw [upd_same] at z; cases z
      · exact Trk.upd (show Trk A H from R.trk) a q z
    frame := fun a u h nn => by have := R.frame a u h nn; rw [upd_ne (ne_of_none this n)]; exact this
    mine := R.mine, opB := R.opB, par := R.par }
/-- .. and the i-th name holds it -/
theorem SR.hold {i : Nat} {p : Addr} {vs : List V} {l : List D} {s0 : Slot} (R : SR K mg w A ρ σ H) (hi : ρ[i]? = some s0) (hn : w.np ≤ i) (hp : H p = some (.lst vs)) (hA : p ∈ A) (r : Reps K mg (off A H) l vs)
    (no : ∀ (j : Nat) s, ρ[j]? = some s → s.isOwn = true → σ[j]? ≠ some (some (.ref p))) (nG : w.G p = none) (nB : p ∉ w.B) : SR K mg w A (ρ.set i (.own l)) (σ.set i (some (.ref p))) H := by
  have li : i < ρ.length := (List.getElem?_eq_some_iff.mp hi).1
  have li' : i < σ.length := by rw [← R.len]; exact li
  refine ⟨by simp [R.len], fun j s o h1 h2 => ?_, fun j k s1 s2 a h1 h2 o1 o2 e1 e2 => ?_, R.sub, R.trk, R.frame, fun j s a h1 o1 e1 => ?_, R.opB, fun q hq => ?_⟩
  · by_cases hj : j = i
    · subst hj
      rw [List.getElem?_set_self li] at h1
      rw [List.getElem?_set_self li'] at h2
      cases h1; cases h2
      exact ⟨p, vs, rfl, hA, hp, r⟩
    · rw [List.getElem?_set_ne (Ne.symm hj)] at h1 h2
      exact R.slots j s o h1 h2
  · by_cases hj : j = i
    · by_cases hk : k = i
      · omega
      · subst hj
        rw [List.getElem?_set_self li'] at e1
        cases e1
        rw [List.getElem?_set_ne (Ne.symm hk)] at h2 e2
        exact absurd e2 (no k s2 h2 o2)
    · rw [List.getElem?_set_ne (Ne.symm hj)] at h1 e1
      by_cases hk : k = i
      · subst hk
        rw [List.getElem?_set_self li'] at e2
        cases e2
        exact absurd e1 (no j s1 h1 o1)
      · rw [List.getElem?_set_ne (Ne.symm hk)] at h2 e2
        exact R.dist j k s1 s2 a h1 h2 o1 o2 e1 e2
  · by_cases hj : j = i
    · subst hj
      rw [List.getElem?_set_self li'] at e1
      cases e1
      exact .inr ⟨nG, nB⟩
    · rw [List.getElem?_set_ne (Ne.symm hj)] at h1 e1
      exact R.mine j s a h1 o1 e1
  · obtain ⟨p1, p2, s, p3, p4⟩ := R.par q hq
    have nq : q.1 ≠ i := by omega
    exact ⟨p1, by rw [List.getElem?_set_ne (Ne.symm nq)]; exact p2, s, by rw [List.getElem?_set_ne (Ne.symm nq)]; exact p3, p4⟩
/-- name = [..], a list of its own from now on -/
def sOwn (i np : Nat) (as : List Arg) : S := fun ρ => match evs as ρ with
  | .ok xs ρ' => (match dvs xs, ρ'[i]? with
    | some l, some _ => if np ≤ i ∧ l.length ≤ sizeLine then .nx (ρ'.set i (.own l)) else .bad
    | _, _ => .bad)
  | .exc e ρ' => .exc e ρ'
  | .bad => .bad
theorem ds_own {i : Nat} {x : Str} {pos' pos'' : Pos} (hN : X.N.Nodup) (hi : X.N[i]? = some x) (hx : Loc X.env.scope x) (h : DA X es as) (hs : swapsWith (.List es pos'') (some (.Name x pos')) pos.line X.env = pure false := by rfl)
    (hf : X.fn x = true ∨ X.env.scope.names.lookup x = some .local := by first | exact .inl rfl | exact .inr rfl | assumption) : DS X np (.Assign [.Name x pos'] (.List es pos'') pos) (sOwn i np as) := fun W tk =>
  ps_imp (ps_set hN hi hx (pe_lst (h W tk)) hs hf) fun E σ H q => by
    obtain ⟨w, A, ρ, hn, R, q⟩ := tS_iff.mp q
    refine ⟨w, A, ρ, R, ?_⟩
    unfold sOwn at q
    cases hx : evs as ρ with
    | exc e ρ1 => rw [hx] at q; exact fun c dd H' ex R' z => q A σ H' c dd ex.off R' z
    | bad => rw [hx] at q; exact q
    | ok xs ρ1 =>
      rw [hx] at q
      intro vv H1 ex1 R1 r1
      dsimp only at q
      cases hd : dvs xs with
      | none => rw [hd] at q; exact q.elim
      | some l =>
        cases hs : ρ1[i]? with
        | none => rw [hd, hs] at q; exact q.elim
        | some s0 =>
          rw [hd, hs] at q
          dsimp only at q
          by_cases hc : np ≤ i ∧ l.length ≤ sizeLine
          · rw [if_pos hc] at q
            have r := dvs_rep r1 hd
            refine ⟨by rw [← r.length]; exact hc.2, fun p hp => ?_⟩
            have nB : p ∉ w.1.B := fun z => R1.trk p (R1.sub p z) hp
            refine q (p :: A) _ _ ?_ ((R1.growA hp).hold hs (by omega) upd_same List.mem_cons_self (by rw [off_cons hp]; exact r) (R1.stood hp) (R1.noG hp) nB)
            rw [off_cons hp]
            exact ex1.off
          · rw [if_neg hc] at q; exact q.elim
/-- another content of an own list -/
theorem SR.put {i : Nat} {p : Addr} {vs vs' : List V} {l l' : List D} (R : SR K mg w A ρ σ H) (hi : ρ[i]? = some (.own l)) (hp : σ[i]? = some (some (.ref p))) (r : Reps K mg (off A H) l' vs') : p ∈ A ∧ SR K mg w A (ρ.set i (.own l')) σ (upd H p (.lst vs')) := by
  have li : i < ρ.length := (List.getElem?_eq_some_iff.mp hi).1
  obtain ⟨a, us, e, hA, hh, _⟩ := R.slots i _ _ hi hp
  cases e
  have e : off A (upd H p (.lst vs')) = off A H := off_in hA
  have other : ∀ {j : Nat} {s : Slot} {a : Addr}, j ≠ i → ρ[j]? = some s → s.isOwn = true → σ[j]? = some (some (.ref a)) → a ≠ p := fun {j s a} hj h o e1 z => hj (R.dist j i s (.own l) p h hi o rfl (by rw [e1, z]) hp)
  refine ⟨hA, by simp [R.len], fun j s o h1 h2 => ?_, fun j k s1 s2 a h1 h2 o1 o2 e1 e2 => ?_, R.sub, Trk.upd (show Trk A H from R.trk), fun a u h nn => ?_, fun j s a h1 o1 e1 => ?_, R.opB, fun q hq => ?_⟩
  · by_cases hj : j = i
    · subst hj
      rw [List.getElem?_set_self li] at h1
      rw [hp] at h2
      cases h1; cases h2
      exact ⟨p, vs', rfl, hA, upd_same, by rw [e]; exact r⟩
    · rw [List.getElem?_set_ne (Ne.symm hj)] at h1
      have q := R.slots j s o h1 h2
      cases s with
      | no => trivial
      | val d => obtain ⟨v, e1, r⟩ := q; exact ⟨v, e1, by rw [e]; exact r⟩
      | own l => obtain ⟨a, vs, e1, m, hh, r⟩ := q; subst e1; exact ⟨a, vs, rfl, m, by rw [upd_ne (other hj h1 rfl h2)]; exact hh, by rw [e]; exact r⟩
      | dic ks vs => obtain ⟨a, kvs, e1, m, hh, k, r⟩ := q; subst e1; exact ⟨a, kvs, rfl, m, by rw [upd_ne (other hj h1 rfl h2)]; exact hh, k, by rw [e]; exact r⟩
      | inst c ns l => obtain ⟨a, C, dx, fvs, e1, m, c, hh, n, r⟩ := q; subst e1; exact ⟨a, C, dx, fvs, rfl, m, c, by rw [upd_ne (other hj h1 rfl h2)]; exact hh, n, by rw [e]; exact r⟩
      | ex ee => exact ⟨q.1, q.2.to (by rw [e]; exact Same.refl _)⟩
  · have o1' : ∃ t, ρ[j]? = some t ∧ t.isOwn = true := by
      by_cases hj : j = i
      · subst hj; exact ⟨_, hi, rfl⟩
      · rw [List.getElem?_set_ne (Ne.symm hj)] at h1; exact ⟨_, h1, o1⟩
    have o2' : ∃ t, ρ[k]? = some t ∧ t.isOwn = true := by
      by_cases hj : k = i
      · subst hj; exact ⟨_, hi, rfl⟩
      · rw [List.getElem?_set_ne (Ne.symm hj)] at h2; exact ⟨_, h2, o2⟩
    obtain ⟨t1, g1, g2⟩ := o1'
    obtain ⟨t2, g3, g4⟩ := o2'
    exact R.dist j k t1 t2 a g1 g3 g2 g4 e1 e2
  · have q := R.frame a u h nn
    rcases R.mine i _ p hi rfl hp with z | ⟨z, _⟩
    · rw [upd_ne fun (y : a = p) => nn (by rw [y]; exact z)]; exact q
    · rw [upd_ne fun (y : a = p) => by rw [y, z] at h; cases h]; exact q
  · by_cases hj : j = i
    · subst hj; exact R.mine j _ a hi rfl e1
    · rw [List.getElem?_set_ne (Ne.symm hj)] at h1; exact R.mine j s a h1 o1 e1
  · obtain ⟨p1, p2, s, p3, p4⟩ := R.par q hq
    refine ⟨p1, p2, ?_⟩
    by_cases hj : q.1 = i
    · exact ⟨.own l', by rw [hj, List.getElem?_set_self li], rfl⟩
    · exact ⟨s, by rw [List.getElem?_set_ne (Ne.symm hj)]; exact p3, p4⟩
/-- name.append(e) -/
def sApp (i : Nat) (m : M D) : S := fun ρ => match ρ[i]? with
  | some (.own _) => (match m ρ with
    | .ok d ρ' => (match ρ'[i]? with
      | some (.own l) => if l.length < sizeLine then .nx (ρ'.set i (.own (l ++ [d]))) else .bad
      | _ => .bad)
    | .exc e ρ' => .exc e ρ'
    | .bad => .bad)
  | _ => .bad
theorem own_at {i : Nat} {l : List D} (R : SR K mg w A ρ σ H) (h : ρ[i]? = some (.own l)) : ∃ p vs, σ[i]? = some (some (.ref p)) ∧ p ∈ A ∧ H p = some (.lst vs) ∧ Reps K mg (off A H) l vs := by
  obtain ⟨o, ho, p, vs, e, hA, hh, r⟩ := R.at' h
  subst e
  exact ⟨p, vs, ho, hA, hh, r⟩
theorem ds_append {i : Nat} {o : Expr} {apos cpos pos : Pos} (ho : PE X o (tVar i)) (h : DE X e m) (hm1 : ∀ t : TE, PE X e t → PE X (.Call (.Attribute o "append" apos) [e] [] cpos) (tBM X.K "list" rAppend (tVar i) (tCons t tNil)))
    (hs : swapsWith (.Call (.Attribute o "append" apos) [e] [] cpos) none pos.line X.env = pure false := by rfl) : DS X np (.Expr (.Call (.Attribute o "append" apos) [e] [] cpos) pos) (sApp i m) := fun W tk =>
  ps_imp (ps_expr (hm1 _ (h W tk)) hs) fun E σ H q => by
    obtain ⟨w, A, ρ, hn, R, q⟩ := tS_iff.mp q
    unfold sApp at q
    cases hs : ρ[i]? with
    | none => rw [hs] at q; exact q.elim
    | some s0 =>
      rw [hs] at q
      cases s0 with
      | own l0 =>
        obtain ⟨p, vs, h1, hA, hh, r⟩ := own_at R hs
        refine ⟨.ref p, h1, .inl ⟨rfl, vs, SqL.of hh⟩, w, A, ρ, R, ?_⟩
        dsimp only at q
        cases hm : m ρ with
        | exc e ρ1 => rw [hm] at q; exact fun c dd H' ex R' z => q A σ H' c dd ex.off R' z
        | bad => rw [hm] at q; exact q
        | ok d ρ1 =>
          rw [hm] at q
          dsimp only at q
          intro v H1 ex1 R1 r1
          cases hs1 : ρ1[i]? with
          | none => rw [hs1] at q; exact q.elim
          | some s1 =>
            rw [hs1] at q
            cases s1 with
            | own l =>
              dsimp only at q
              by_cases hz : l.length < sizeLine
              · rw [if_pos hz] at q
                obtain ⟨p', us, g1, gA, gh, gr⟩ := own_at R1 hs1
                rw [h1] at g1
                cases g1
                refine ⟨p, us, v, rfl, rfl, gh, by rw [← gr.length]; exact hz, ?_⟩
                obtain ⟨_, R2⟩ := R1.put (vs := us) hs1 h1 (gr.append (.cons r1 .nil))
                exact q A σ _ (by rw [off_in gA]; exact ex1.off) R2
              · rw [if_neg hz] at q; exact q.elim
            | _ => exact q.elim
      | _ => exact q.elim
/-- an own list is a value from now on -/
theorem SR.froze {i : Nat} {l : List D} (R : SR K mg w A ρ σ H) (h : ρ[i]? = some (.own l)) (hn : w.np ≤ i) : ∃ A', Same (off A H) (off A' H) ∧ SR K mg w A' (ρ.set i (.val (.lst l))) σ H := by
  have li : i < ρ.length := (List.getElem?_eq_some_iff.mp h).1
  obtain ⟨p, vs, hp, hA, hh, r⟩ := own_at R h
  refine ⟨A.filter (· ≠ p), off_sub fun a ha => (List.mem_filter.mp ha).1, ?_⟩
  have sm : Same (off A H) (off (A.filter (· ≠ p)) H) := off_sub fun a ha => (List.mem_filter.mp ha).1
  have other : ∀ {j : Nat} {s : Slot} {a : Addr}, j ≠ i → ρ[j]? = some s → s.isOwn = true → σ[j]? = some (some (.ref a)) → a ≠ p := fun {j s a} hj h1 o e1 z => hj (R.dist j i s (.own l) p h1 h o rfl (by rw [e1, z]) hp)
  have keep : ∀ {j : Nat} {s : Slot} {a : Addr}, j ≠ i → ρ[j]? = some s → s.isOwn = true → σ[j]? = some (some (.ref a)) → a ∈ A → a ∈ A.filter (· ≠ p) := fun {j s a} hj h1 o e1 ha => List.mem_filter.mpr ⟨ha, by simpa using other hj h1 o e1⟩
  have ne : ∀ {j : Nat} {s : Slot}, (ρ.set i (.val (.lst l)))[j]? = some s → s.isOwn = true → j ≠ i ∧ ρ[j]? = some s := fun {j s} h1 o => by
    by_cases hj : j = i
    · subst hj
      rw [List.getElem?_set_self li] at h1
      cases h1
      cases o
    · rw [List.getElem?_set_ne (Ne.symm hj)] at h1
      exact ⟨hj, h1⟩
  have nB : p ∉ w.B := by
    rcases R.mine i _ p h rfl hp with z | ⟨_, z⟩
    · obtain ⟨q, hq, e⟩ := List.mem_map.mp z
      obtain ⟨p1, p2, s, p3, p4⟩ := R.par q hq
      have := R.dist q.1 i s _ p p3 h p4 rfl (by rw [p2, e]) hp
      omega
    · exact z
  refine ⟨by simp [R.len], fun j s o h1 h2 => ?_, fun j k s1 s2 a h1 h2 o1 o2 e1 e2 => ?_, fun a ha => ?_, fun a ha => R.trk a (List.mem_filter.mp ha).1, R.frame, fun j s a h1 o1 e1 => ?_, R.opB, fun q hq => ?_⟩
  · by_cases hj : j = i
    · subst hj
      rw [List.getElem?_set_self li] at h1
      rw [hp] at h2
      cases h1; cases h2
      exact ⟨_, rfl, p, vs, rfl, off_at hh fun z => by simpa using (List.mem_filter.mp z).2, r.mono sm⟩
    · rw [List.getElem?_set_ne (Ne.symm hj)] at h1
      have q := R.slots j s o h1 h2
      cases s with
      | no => trivial
      | val d => obtain ⟨v, e1, r⟩ := q; exact ⟨v, e1, r.mono sm⟩
      | own l => obtain ⟨a, vs, e1, m, hh, r⟩ := q; subst e1; exact ⟨a, vs, rfl, keep hj h1 rfl h2 m, hh, r.mono sm⟩
      | dic ks vs => obtain ⟨a, kvs, e1, m, hh, k, r⟩ := q; subst e1; exact ⟨a, kvs, rfl, keep hj h1 rfl h2 m, hh, k, r.mono sm⟩
      | inst c ns l => obtain ⟨a, C, dx, fvs, e1, m, c, hh, n, r⟩ := q; subst e1; exact ⟨a, C, dx, fvs, rfl, keep hj h1 rfl h2 m, c, hh, n, r.mono sm⟩
      | ex ee => exact ⟨q.1, q.2.to sm⟩
  · obtain ⟨n1, g1⟩ := ne h1 o1
    obtain ⟨n2, g2⟩ := ne h2 o2
    exact R.dist j k s1 s2 a g1 g2 o1 o2 e1 e2
  · refine List.mem_filter.mpr ⟨R.sub a ha, ?_⟩
    have : a ≠ p := fun z => nB (z ▸ ha)
    simpa using this
  · obtain ⟨n1, g1⟩ := ne h1 o1
    exact R.mine j s a g1 o1 e1
  · obtain ⟨p1, p2, s, p3, p4⟩ := R.par q hq
    have nq : q.1 ≠ i := by omega
    exact ⟨p1, p2, s, by rw [List.getElem?_set_ne (Ne.symm nq)]; exact p3, p4⟩
def sFrz (i np : Nat) : S := fun ρ => match ρ[i]? with
  | some (.own l) => if np ≤ i then .nx (ρ.set i (.val (.lst l))) else .bad
  | _ => .nx ρ
theorem ds_frz {st : Stmt} (i : Nat) (h : DS X np st s) : DS X np st (sSeq (sFrz i np) s) := fun W tk => ps_imp (h W tk) fun E σ H q => by
  obtain ⟨w, A, ρ, hn, R, q⟩ := tS_iff.mp q
  unfold sSeq sFrz at q
  cases hs : ρ[i]? with
  | none => rw [hs] at q; exact tS_iff.mpr ⟨w, A, ρ, hn, R, q⟩
  | some s0 =>
    rw [hs] at q
    cases s0 with
    | own l =>
      dsimp only at q
      by_cases hi : np ≤ i
      · rw [if_pos hi] at q
        obtain ⟨A', sm, R'⟩ := R.froze hs (by omega)
        exact tS_iff.mpr ⟨w, A', _, hn, R', Aft.from sm q⟩
      · rw [if_neg hi] at q; exact q.elim
    | _ => exact tS_iff.mpr ⟨w, A, ρ, hn, R, q⟩
/-- name += e, whole numbers -/
def sAug (f : D → D → Option D) (i : Nat) (m : M D) : S := fun ρ => match ρ[i]? with
  | some (.val x) => (match m ρ with
    | .ok y ρ' => (match f x y, ρ'[i]? with
      | some z, some (.val _) => .nx (ρ'.set i (.val z))
      | _, _ => .bad)
    | .exc e ρ' => .exc e ρ'
    | .bad => .bad)
  | _ => .bad
theorem ds_aug {i : Nat} {x : Str} {op : Operator} {g : Int → Int → Int} {f : D → D → Option D} {pos' : Pos} (hN : X.N.Nodup) (hi : X.N[i]? = some x) (hx : Loc X.env.scope x) (h : DE X e m) (ho : PIp X op (ipI g)) (hff : ∀ a b d, f a b = some d → ∃ i j, a = .int i ∧ b = .int j ∧ d = .int (g i j))
    (hf : X.fn x = true ∨ X.env.scope.names.lookup x = some .local := by first | exact .inl rfl | exact .inr rfl | assumption) : DS X np (.AugAssign (.Name x pos') op e pos) (sAug f i m) := fun W tk =>
  ps_imp (ps_aug hN hi hx (h W tk) ho hf) fun E σ H q => by
    obtain ⟨w, A, ρ, hn, R, q⟩ := tS_iff.mp q
    unfold sAug at q
    cases hs : ρ[i]? with
    | none => rw [hs] at q; exact q.elim
    | some s0 =>
      rw [hs] at q
      cases s0 with
      | val x0 =>
        obtain ⟨v, hv, rv⟩ := R.val hs
        refine ⟨v, hv, w, A, ρ, R, ?_⟩
        dsimp only at q
        cases hm : m ρ with
        | exc e ρ1 => rw [hm] at q; exact fun c dd H' ex R' z => q A σ H' c dd ex.off R' z
        | bad => rw [hm] at q; exact q
        | ok y ρ1 =>
          rw [hm] at q
          intro u H1 ex1 R1 r1
          dsimp only at q
          cases hz : f x0 y with
          | none => rw [hz] at q; exact q.elim
          | some z =>
            cases hs1 : ρ1[i]? with
            | none => rw [hz, hs1] at q; exact q.elim
            | some s1 =>
              rw [hz, hs1] at q
              cases s1 with
              | val _ =>
                obtain ⟨a, b, rfl, rfl, rfl⟩ := hff _ _ _ hz
                cases rv; cases r1
                exact ⟨a, b, rfl, rfl, q A _ H1 ex1.off (R1.set hs1 rfl rfl)⟩
              | _ => exact q.elim
      | _ => exact q.elim
theorem ds_iadd {i : Nat} {x : Str} {pos' : Pos} (hN : X.N.Nodup) (hi : X.N[i]? = some x) (hx : Loc X.env.scope x) (h : DE X e m)
    (hf : X.fn x = true ∨ X.env.scope.names.lookup x = some .local := by first | exact .inl rfl | exact .inr rfl | assumption) : DS X np (.AugAssign (.Name x pos') .Add e pos) (sAug (fun x y => match x, y with | .int i, .int j => some (.int (i + j)) | _, _ => none) i m) :=
  ds_aug hN hi hx h ip_add (fun a b d e => by
    cases a with
    | int i => cases b with
      | int j => cases (Option.some.inj e); exact ⟨i, j, rfl, rfl, rfl⟩
      | _ => cases e
    | _ => cases e) hf
end
end DL
namespace DL
open PySem L2
inductive FOut where
  | ok (d : D) (os : List Slot) | exc (e : Ex) (os : List Slot) | bad
abbrev Fn := List Slot → FOut
/-- what may be handed -/
def Slot.arg : Slot → Bool
  | .no => false
  | .ex _ => false
  | _ => true
section
variable (K : PySem.W.Frag) (mg : Str → Option Value)
/-- the arguments as they stand; B: all that callers may change -/
structure ArgsR (B : List Addr) (H : Hp) (as : List Slot) (vs : List V) : Prop where
  len : as.length = vs.length
  at_ : ∀ (i : Nat) s v, as[i]? = some s → vs[i]? = some v → SlotR K mg (0, none, .none) B H s (some v)
  dist : ∀ (i j : Nat) s t a, as[i]? = some s → as[j]? = some t → s.isOwn = true → t.isOwn = true → vs[i]? = some (.ref a) → vs[j]? = some (.ref a) → i = j
  trk : ∀ a ∈ B, H a ≠ none
/-- the arguments behind the call -/
structure Post (B : List Addr) (H : Hp) (as : List Slot) (vs : List V) (os : List Slot) (H' : Hp) : Prop where
  keep : ∀ a o, H a = some o → (∀ (i : Nat) s, as[i]? = some s → s.isOwn = true → vs[i]? ≠ some (.ref a)) → H' a = some o
  own : ∀ (i : Nat) s v, as[i]? = some s → s.isOwn = true → vs[i]? = some v → ∃ t, os[i]? = some t ∧ t.isOwn = true ∧ SlotR K mg (0, none, .none) B H' t (some v)
def spD (φ : Fn) : Sp := fun vs H Q E => ∃ (B : List Addr) (as : List Slot), ArgsR K mg B H as vs ∧ match φ as with
  | .ok d os => ∀ v H', Post K mg B H as vs os H' → Rep K mg (off B H') d v → Q v H'
  | .exc e os => ∀ c dd H', Post K mg B H as vs os H' → ExR K mg B H' e c dd → E c dd H'
  | .bad => False
end
/-- a def by its body: n parameters, so many other names -/
def fnF (n loc : Nat) (m : S) : Fn := fun as => if as.length = n ∧ as.all Slot.arg = true then match m (as ++ List.replicate loc .no) with
  | .rt d ρ => .ok d (ρ.take n)
  | .nx ρ => .ok .non (ρ.take n)
  | .exc e ρ => .exc e (ρ.take n)
  | _ => .bad else .bad
section
variable {K : PySem.W.Frag} {mg : Str → Option Value}
def ownPs : List Slot → List V → Nat → List (Nat × Addr)
  | s :: as, v :: vs, i => (match s.isOwn, v with
    | true, .ref a => [(i, a)]
    | _, _ => []) ++ ownPs as vs (i + 1)
  | _, _, _ => []
theorem ownPs_mem : ∀ {as : List Slot} {vs : List V} {n : Nat} {p : Nat × Addr}, p ∈ ownPs as vs n → ∃ (i : Nat) (s : Slot), p.1 = n + i ∧ as[i]? = some s ∧ s.isOwn = true ∧ vs[i]? = some (.ref p.2)
  | [], _, _, _, h => by simp [ownPs] at h
  | _ :: _, [], _, _, h => by simp [ownPs] at h
  | s :: as, v :: vs, n, p, h => by
    unfold ownPs at h
    rcases List.mem_append.mp h with h | h
    · cases hs : s.isOwn with
      | false => rw [hs] at h; simp at h
      | true =>
        rw [hs] at h
        cases v with
        | ref a =>
          have e : p = (n, a) := List.mem_singleton.mp h
          subst e
          exact ⟨0, s, rfl, by simp, hs, by simp⟩
        | _ => simp at h
    · obtain ⟨i, t, h1, h2, h3, h4⟩ := ownPs_mem h
      exact ⟨i + 1, t, by omega, by simpa using h2, h3, by simpa using h4⟩
theorem ownPs_of : ∀ {as : List Slot} {vs : List V} {n i : Nat} {s : Slot} {a : Addr}, as[i]? = some s → s.isOwn = true → vs[i]? = some (.ref a) → (n + i, a) ∈ ownPs as vs n
  | [], _, _, i, _, _, h, _, _ => by simp at h
  | _ :: _, [], _, i, _, _, _, _, h => by simp at h
  | s :: as, v :: vs, n, 0, t, a, h1, h2, h3 => by
    simp at h1 h3
    subst h1 h3
    unfold ownPs
    rw [h2]
    simp
  | s :: as, v :: vs, n, i + 1, t, a, h1, h2, h3 => by
    unfold ownPs
    refine List.mem_append_right _ ?_
    rw [show n + (i + 1) = n + 1 + i by omega]
    exact ownPs_of (by simpa using h1) h2 (by simpa using h3)
theorem own_ref {xx : Addr × Option Addr × Value} {B : List Addr} {H : Hp} {s : Slot} {v : V} (h : SlotR K mg xx B H s (some v)) (o : s.isOwn = true) : ∃ a, v = .ref a ∧ a ∈ B := by
  cases s with
  | own l => obtain ⟨a, vs, e, m, _⟩ := h; cases e; exact ⟨a, rfl, m⟩
  | dic ks vs => obtain ⟨a, kvs, e, m, _⟩ := h; cases e; exact ⟨a, rfl, m⟩
  | inst c ns l => obtain ⟨a, C, dx, fvs, e, m, _⟩ := h; cases e; exact ⟨a, rfl, m⟩
  | _ => cases o
theorem SlotR.off {xx xx' : Addr × Option Addr × Value} {A B : List Addr} {H : Hp} {s0 : Option V} (sm : Same (off A H) (off B H)) : ∀ {s : Slot}, (s.isOwn = true → ∀ a, s0 = Option.some (V.ref a) → a ∈ B) → s.arg = true → SlotR K mg xx A H s s0 → SlotR K mg xx' B H s s0 := by
  intro s inB ha r
  cases s with
  | no => cases ha
  | ex e => cases ha
  | val d => obtain ⟨v, e, r⟩ := r; exact ⟨v, e, r.mono sm⟩
  | own l => obtain ⟨a, vs, e, m, hh, r⟩ := r; exact ⟨a, vs, e, inB rfl a e, hh, r.mono sm⟩
  | dic ks vs => obtain ⟨a, kvs, e, m, hh, k, r⟩ := r; exact ⟨a, kvs, e, inB rfl a e, hh, k, r.mono sm⟩
  | inst c ns l => obtain ⟨a, C, dx, fvs, e, m, c, hh, n, r⟩ := r; exact ⟨a, C, dx, fvs, e, inB rfl a e, c, hh, n, r.mono sm⟩
theorem own_arg {s : Slot} (h : s.isOwn = true) : s.arg = true := by cases s <;> first | rfl | cases h
/-- the state at a def's entry -/
theorem sr_start {B : List Addr} {H : Hp} {as : List Slot} {vs : List V} {N : List Str} {n loc : Nat} (a : ArgsR K mg B H as vs) (hn : as.length = n) (hN : N.length = n + loc) (ha : as.all Slot.arg = true) :
    SR K mg { G := H, B := B, pa := ownPs as vs 0, np := n, xx := (0, none, .none) } B (as ++ List.replicate loc .no) (L2.start N vs) H := by
  have hl := a.len
  have get : ∀ {i : Nat} {s : Slot}, (as ++ List.replicate loc Slot.no)[i]? = some s → as[i]? = some s ∨ s = .no := fun {i s} h => by
    by_cases hi : i < as.length
    · rw [List.getElem?_append_left hi] at h; exact .inl h
    · rw [List.getElem?_append_right (by omega), List.getElem?_replicate] at h
      split at h
      · exact .inr (Option.some.inj h).symm
      · cases h
  have getv : ∀ {i : Nat}, i < vs.length → (L2.start N vs)[i]? = (vs[i]?).map some := fun {i} h => by
    unfold L2.start
    rw [List.getElem?_append_left (by simpa using h), List.getElem?_map]
  have own : ∀ {i : Nat} {s : Slot}, (as ++ List.replicate loc Slot.no)[i]? = some s → s.isOwn = true → as[i]? = some s ∧ i < vs.length := fun {i s} h o => by
    rcases get h with z | z
    · exact ⟨z, by rw [← hl]; exact (List.getElem?_eq_some_iff.mp z).1⟩
    · subst z; cases o
  refine ⟨?_, fun i s o h1 h2 => ?_, fun i j s t b h1 h2 o1 o2 e1 e2 => ?_, fun _ h => h, a.trk, fun _ _ h _ => h, fun i s b h1 o1 e1 => ?_, fun b hb => ?_, fun p hp => ?_⟩
  · unfold L2.start
    simp
    omega
  · rcases get h1 with z | z
    · have hi : i < vs.length := by rw [← hl]; exact (List.getElem?_eq_some_iff.mp z).1
      have e : vs[i]? = some vs[i] := by simp [hi]
      rw [getv hi, e] at h2
      cases h2
      exact a.at_ i s _ z e
    · subst z; trivial
  · obtain ⟨g1, l1⟩ := own h1 o1
    obtain ⟨g2, l2⟩ := own h2 o2
    rw [getv l1] at e1
    rw [getv l2] at e2
    obtain ⟨v, q1, q2⟩ := Option.map_eq_some_iff.mp e1
    obtain ⟨v', q3, q4⟩ := Option.map_eq_some_iff.mp e2
    cases q2; cases q4
    exact a.dist i j s t b g1 g2 o1 o2 q1 q3
  · obtain ⟨g1, l1⟩ := own h1 o1
    rw [getv l1] at e1
    obtain ⟨v, q1, q2⟩ := Option.map_eq_some_iff.mp e1
    cases q2
    have := ownPs_of (n := 0) g1 o1 q1
    exact .inl (List.mem_map.mpr ⟨_, this, rfl⟩)
  · obtain ⟨p, hp, e⟩ := List.mem_map.mp hb
    obtain ⟨i, s, h1, h2, h3, h4⟩ := ownPs_mem hp
    obtain ⟨c, e1, m⟩ := own_ref (a.at_ i s _ h2 h4) h3
    cases e1
    rw [← e]
    exact m
  · obtain ⟨i, s, h1, h2, h3, h4⟩ := ownPs_mem hp
    have hi : i < as.length := (List.getElem?_eq_some_iff.mp h2).1
    rw [Nat.zero_add] at h1
    refine ⟨by show p.1 < n; omega, ?_, s, ?_, h3⟩
    · rw [h1, getv (by omega), h4]; rfl
    · rw [h1, List.getElem?_append_left hi]; exact h2
theorem post_of {B A' : List Addr} {H H' : Hp} {as : List Slot} {vs : List V} {n : Nat} {ρ' : Ev} {σ' : L2.St} (hl : as.length = n) (a : ArgsR K mg B H as vs)
    (R : SR K mg { G := H, B := B, pa := ownPs as vs 0, np := n, xx := (0, none, .none) } A' ρ' σ' H') : Post K mg B H as vs (ρ'.take n) H' ∧ Same (off A' H') (off B H') := by
  have sm : Same (off A' H') (off B H') := off_sub R.sub
  refine ⟨⟨fun b o h nn => R.frame b o h fun z => ?_, fun i s v h1 h2 h3 => ?_⟩, sm⟩
  · obtain ⟨p, hp, e⟩ := List.mem_map.mp z
    obtain ⟨i, s, g1, g2, g3, g4⟩ := ownPs_mem hp
    exact nn i s g2 g3 (by rw [g4, e])
  · obtain ⟨b, e, m⟩ := own_ref (a.at_ i s v h1 h3) h2
    subst e
    have hp := ownPs_of (n := 0) h1 h2 h3
    rw [Nat.zero_add] at hp
    obtain ⟨p1, p2, t, p3, p4⟩ := R.par _ hp
    refine ⟨t, by rw [List.getElem?_take_of_lt p1]; exact p3, p4, ?_⟩
    exact SlotR.off sm (fun _ c z => by cases z; exact m) (own_arg p4) (R.slots i t _ p3 p2)
/-- a def keeps the promise that its body gives -/
theorem fn_ok {P : Program} {w : World} {base : Heap} {x qual : Str} {st : Stmt} {f : Addr} {fd : FuncData} {N ps : List Str} {k loc : Nat} {m : S} (F : Fun K x qual st f fd) (Sc : FnScope N ps (defScope st)) (hN : N.length = ps.length + loc)
    (hbody : ∀ (cdv : Value) (A : Around) (outer : List Env) (s : Shared) (H : Hp) (E : XK), Room k (A.deeper (PyProof.Rows.envOfC qual (defScope st) s.heap.objs.size f cdv)) →
      DSs (cxOf (L2.CX P w) P w K mg base N qual (defScope st) f cdv A outer s H E) ps.length (defBody st) m) :
    FnOk P w K mg base (L2.CX P w) (k + 1) f fd ps (spD K mg (fnF ps.length loc m)) := by
  have split : ∀ {as : List Slot}, fnF ps.length loc m as ≠ .bad → as.length = ps.length ∧ as.all Slot.arg = true := fun {as} h => by
    unfold fnF at h
    split at h
    · assumption
    · exact absurd rfl h
  refine F.okX Sc (fun vs H Q E h => ?_) (fun cdv A outer s H vs Q E hr h => ?_)
  · obtain ⟨B, as, a, q⟩ := h
    have := (split (as := as) fun z => by rw [z] at q; exact q).1
    rw [← a.len, this]
  · obtain ⟨B, as, a, q⟩ := h
    obtain ⟨hl, ha⟩ := split (as := as) fun z => by rw [z] at q; exact q
    have tk : Takes (cxOf (L2.CX P w) P w K mg base N qual (defScope st) f cdv A outer s H E) (fun cls d _ H => E cls d H) := takes_of rfl rfl rfl rfl
    refine ⟨_, hbody cdv A outer s H E hr ⟨fun cls d _ H => E cls d H, fun _ => True⟩ ⟨tk, fun h => by cases h⟩, tS_iff.mpr ⟨⟨_, trivial⟩, B, _, rfl, sr_start a hl hN ha, ?_⟩⟩
    unfold fnF at q
    rw [if_pos ⟨hl, ha⟩] at q
    cases hm : m (as ++ List.replicate loc .no) with
    | nx ρ =>
      rw [hm] at q
      intro A' σ' H' _ R
      obtain ⟨p, sm⟩ := post_of hl a R
      exact q .non H' p rfl
    | rt d ρ =>
      rw [hm] at q
      intro A' σ' H' v R r
      obtain ⟨p, sm⟩ := post_of hl a R
      exact q v H' p (r.mono sm)
    | exc e ρ =>
      rw [hm] at q
      intro A' σ' H' c dd _ R r
      obtain ⟨p, sm⟩ := post_of hl a R
      obtain ⟨C, e1, e2, z⟩ := r
      refine q c dd H' p ⟨C, e1, e2, z.imp id fun ⟨d, fs, y1, y2, y3, y4⟩ => ⟨d, fs, y1, y2, fun y => y3 (R.sub d y), fun i n x g1 g2 => ?_⟩⟩
      obtain ⟨v, z1, z2⟩ := y4 i n x g1 g2
      exact ⟨v, z1, z2.mono sm⟩
    | bk _ => rw [hm] at q; exact q.elim
    | ct _ => rw [hm] at q; exact q.elim
    | bad => rw [hm] at q; exact q.elim
end
end DL
namespace DL
open PySem L2
/-- the slots with new contents at some places -/
def updE : Ev → List (Nat × Slot) → Ev
  | ρ, [] => ρ
  | ρ, (i, t) :: r => updE (ρ.set i t) r
theorem updE_len : ∀ (ps : List (Nat × Slot)) (ρ : Ev), (updE ρ ps).length = ρ.length
  | [], _ => rfl
  | (i, t) :: r, ρ => by show (updE (ρ.set i t) r).length = _; rw [updE_len, List.length_set]
theorem updE_get : ∀ (ps : List (Nat × Slot)) (ρ : Ev) (j : Nat) (s : Slot), (updE ρ ps)[j]? = some s → (j, s) ∈ ps ∨ ((∀ t, (j, t) ∉ ps) ∧ ρ[j]? = some s)
  | [], ρ, j, s, h => .inr ⟨fun t z => (by cases z), h⟩
  | (i, t) :: r, ρ, j, s, h => by
    rcases updE_get r (ρ.set i t) j s h with z | ⟨z1, z2⟩
    · exact .inl (List.mem_cons_of_mem _ z)
    · by_cases hj : j = i
      · subst hj
        have hl : j < ρ.length := by
          have := (List.getElem?_eq_some_iff.mp z2).1
          simpa using this
        rw [List.getElem?_set_self hl] at z2
        cases z2
        exact .inl List.mem_cons_self
      · rw [List.getElem?_set_ne (Ne.symm hj)] at z2
        refine .inr ⟨fun u hu => ?_, z2⟩
        rcases List.mem_cons.mp hu with e | e
        · cases e; exact hj rfl
        · exact z1 u e
section
variable {K : PySem.W.Frag} {mg : Str → Option Value} {w : Wd} {A : List Addr} {ρ : Ev} {σ : L2.St} {H H' : Hp}
/-- behind a call that changed the things at ps -/
theorem SR.upds {ps : List (Nat × Slot)} (R : SR K mg w A ρ σ H) (keep : ∀ a o, H a = some o → (∀ i t, (i, t) ∈ ps → σ[i]? ≠ some (some (.ref a))) → H' a = some o)
    (at_ : ∀ i t, (i, t) ∈ ps → (∃ s, ρ[i]? = some s ∧ s.isOwn = true) ∧ t.isOwn = true ∧ ∃ v, σ[i]? = some (some v) ∧ SlotR K mg w.xx A H' t (some v)) : SR K mg w A (updE ρ ps) σ H' := by
  have mem : ∀ {a : Addr} {i : Nat} {t : Slot}, (i, t) ∈ ps → σ[i]? = some (some (.ref a)) → a ∈ A := fun {a i t} h e => by
    obtain ⟨_, o, v, e1, r⟩ := at_ i t h
    rw [e] at e1
    cases e1
    obtain ⟨b, e2, m⟩ := own_ref r o
    cases e2
    exact m
  have sm : Same (off A H) (off A H') := off_same fun a o ha h => keep a o h fun i t hi e => ha (mem hi e)
  have own : ∀ {j : Nat} {s : Slot}, (updE ρ ps)[j]? = some s → s.isOwn = true → ∃ u, ρ[j]? = some u ∧ u.isOwn = true := fun {j s} h o => by
    rcases updE_get ps ρ j s h with z | ⟨_, z⟩
    · exact (at_ j s z).1
    · exact ⟨s, z, o⟩
  refine ⟨by rw [updE_len, R.len], fun j s o h1 h2 => ?_, fun i j s t a h1 h2 o1 o2 e1 e2 => ?_, R.sub, fun a ha z => ?_, fun a o h nn => ?_, fun i s a h1 o1 e1 => ?_, R.opB, fun q hq => ?_⟩
  · rcases updE_get ps ρ j s h1 with z | ⟨z1, z2⟩
    · obtain ⟨_, _, v, e1, r⟩ := at_ j s z
      rw [h2] at e1
      cases e1
      exact r
    · have r := R.slots j s o z2 h2
      have st : ∀ {a : Addr} {u : HO}, s.isOwn = true → o = some (.ref a) → H a = some u → H' a = some u := fun {a u} os e h => keep a u h fun i t hi e2 => by
        obtain ⟨⟨s2, g1, g2⟩, _⟩ := at_ i t hi
        subst e
        have := R.dist j i s s2 a z2 g1 os g2 h2 e2
        subst this
        exact z1 t hi
      cases s with
      | no => trivial
      | val d => obtain ⟨v, e, r⟩ := r; exact ⟨v, e, r.mono sm⟩
      | own l => obtain ⟨a, vs, e, m, hh, r⟩ := r; exact ⟨a, vs, e, m, st rfl e hh, r.mono sm⟩
      | dic ks vs => obtain ⟨a, kvs, e, m, hh, k, r⟩ := r; exact ⟨a, kvs, e, m, st rfl e hh, k, r.mono sm⟩
      | inst c ns l => obtain ⟨a, C, dx, fvs, e, m, c, hh, n, r⟩ := r; exact ⟨a, C, dx, fvs, e, m, c, st rfl e hh, n, r.mono sm⟩
      | ex ee => exact ⟨r.1, r.2.to sm⟩
  · obtain ⟨u1, g1, g2⟩ := own h1 o1
    obtain ⟨u2, g3, g4⟩ := own h2 o2
    exact R.dist i j u1 u2 a g1 g3 g2 g4 e1 e2
  · cases e : H a with
    | none => exact R.trk a ha e
    | some o =>
      by_cases hz : ∃ i t, (i, t) ∈ ps ∧ σ[i]? = some (some (.ref a))
      · obtain ⟨i, t, hi, e2⟩ := hz
        obtain ⟨_, o1, v, e1, r⟩ := at_ i t hi
        rw [e2] at e1
        cases e1
        cases t with
        | own l => obtain ⟨b, vs, e, m, hh, r⟩ := r; cases e; rw [z] at hh; cases hh
        | dic ks vs => obtain ⟨b, kvs, e, m, hh, r⟩ := r; cases e; rw [z] at hh; cases hh
        | inst c ns l => obtain ⟨b, C, dx, fvs, e, m, c, hh, r⟩ := r; cases e; rw [z] at hh; cases hh
        | _ => cases o1
      · rw [keep a o e fun i t hi e2 => hz ⟨i, t, hi, e2⟩] at z; cases z
  · refine keep a o (R.frame a o h nn) fun i t hi e => ?_
    obtain ⟨⟨s2, g1, g2⟩, _⟩ := at_ i t hi
    rcases R.mine i s2 a g1 g2 e with z | ⟨z, _⟩
    · exact nn z
    · rw [h] at z; cases z
  · obtain ⟨u, g1, g2⟩ := own h1 o1
    exact R.mine i u a g1 g2 e1
  · obtain ⟨p1, p2, s, p3, p4⟩ := R.par q hq
    have hl : q.1 < (updE ρ ps).length := by rw [updE_len]; exact (List.getElem?_eq_some_iff.mp p3).1
    have e : (updE ρ ps)[q.1]? = some (updE ρ ps)[q.1] := by simp [hl]
    refine ⟨p1, p2, _, e, ?_⟩
    rcases updE_get ps ρ q.1 _ e with z | ⟨_, z⟩
    · exact (at_ _ _ z).2.1
    · rw [p3] at z; cases z; exact p4
/-- what is handed -/
def slotsOf : List AV → Ev → Option (List Slot)
  | [], _ => some []
  | .d d :: r, ρ => (slotsOf r ρ).map fun ss => .val d :: ss
  | .o i :: r, ρ => match ρ[i]? with
    | some s => if s.arg then (slotsOf r ρ).map fun ss => s :: ss else none
    | none => none
def ownIx : List AV → Ev → List Nat
  | [], _ => []
  | .d _ :: r, ρ => ownIx r ρ
  | .o i :: r, ρ => match ρ[i]? with
    | some s => if s.isOwn then i :: ownIx r ρ else ownIx r ρ
    | none => ownIx r ρ
/-- what comes back of one's own things -/
def upsOf : List AV → List Slot → Ev → Option (List (Nat × Slot))
  | [], _, _ => some []
  | .d _ :: r, _ :: os, ρ => upsOf r os ρ
  | .o i :: r, t :: os, ρ => match ρ[i]? with
    | some s => if s.isOwn then (if t.isOwn then (upsOf r os ρ).map fun ps => (i, t) :: ps else none) else upsOf r os ρ
    | none => none
  | _ :: _, [], _ => none
theorem avrs_get : ∀ {xs : List AV} {vs : List V} {i : Nat} {x : AV}, AVRs K mg A σ H xs vs → xs[i]? = some x → ∃ v, vs[i]? = some v ∧ AVR K mg A σ H x v
  | [], _, i, _, _, h => by simp at h
  | y :: xs, _, 0, x, ⟨v, r, e, h1, h2⟩, h => by subst e; simp at h; subst h; exact ⟨v, by simp, h1⟩
  | y :: xs, _, i + 1, x, ⟨v, r, e, h1, h2⟩, h => by
    subst e
    obtain ⟨u, q1, q2⟩ := avrs_get (i := i) h2 (by simpa using h)
    exact ⟨u, by simpa using q1, q2⟩
theorem avrs_len : ∀ {xs : List AV} {vs : List V}, AVRs K mg A σ H xs vs → xs.length = vs.length
  | [], _, h => by rw [show _ = [] from h]; rfl
  | y :: xs, _, ⟨v, r, e, h1, h2⟩ => by subst e; simp [avrs_len h2]
theorem slotsOf_get : ∀ {xs : List AV} {ss : List Slot} {i : Nat} {s : Slot}, slotsOf xs ρ = some ss → ss[i]? = some s → (∃ d, xs[i]? = some (.d d) ∧ s = .val d) ∨ (∃ j, xs[i]? = some (.o j) ∧ ρ[j]? = some s ∧ s.arg = true)
  | [], ss, i, s, h, hs => by cases (Option.some.inj h); simp at hs
  | .d d :: r, ss, i, s, h, hs => by
    obtain ⟨ts, h1, e⟩ := Option.map_eq_some_iff.mp h
    subst e
    cases i with
    | zero => simp at hs; exact .inl ⟨d, by simp, hs.symm⟩
    | succ i => simpa using slotsOf_get (i := i) h1 (by simpa using hs)
  | .o j :: r, ss, i, s, h, hs => by
    unfold slotsOf at h
    cases hj : ρ[j]? with
    | none => rw [hj] at h; cases h
    | some t =>
      rw [hj] at h
      dsimp only at h
      by_cases ha : t.arg = true
      · rw [if_pos ha] at h
        obtain ⟨ts, h1, e⟩ := Option.map_eq_some_iff.mp h
        subst e
        cases i with
        | zero => simp at hs; subst hs; exact .inr ⟨j, by simp, hj, ha⟩
        | succ i => simpa using slotsOf_get (i := i) h1 (by simpa using hs)
      · rw [if_neg ha] at h; cases h
theorem slotsOf_len : ∀ {xs : List AV} {ss : List Slot}, slotsOf xs ρ = some ss → ss.length = xs.length
  | [], ss, h => by cases (Option.some.inj h); rfl
  | .d d :: r, ss, h => by
    obtain ⟨ts, h1, e⟩ := Option.map_eq_some_iff.mp h
    subst e
    simp [slotsOf_len h1]
  | .o j :: r, ss, h => by
    unfold slotsOf at h
    cases hj : ρ[j]? with
    | none => rw [hj] at h; cases h
    | some t =>
      rw [hj] at h
      dsimp only at h
      by_cases ha : t.arg = true
      · rw [if_pos ha] at h
        obtain ⟨ts, h1, e⟩ := Option.map_eq_some_iff.mp h
        subst e
        simp [slotsOf_len h1]
      · rw [if_neg ha] at h; cases h
theorem ownIx_mem : ∀ {xs : List AV} {i j : Nat} {s : Slot}, xs[i]? = some (.o j) → ρ[j]? = some s → s.isOwn = true → j ∈ ownIx xs ρ
  | [], i, _, _, h, _, _ => by simp at h
  | .d d :: r, 0, j, s, h, _, _ => by simp at h
  | .d d :: r, i + 1, j, s, h, h2, h3 => by unfold ownIx; exact ownIx_mem (i := i) (by simpa using h) h2 h3
  | .o k :: r, 0, j, s, h, h2, h3 => by
    simp at h
    subst h
    unfold ownIx
    rw [h2]
    simp [h3]
  | .o k :: r, i + 1, j, s, h, h2, h3 => by
    have := ownIx_mem (i := i) (xs := r) (by simpa using h) h2 h3
    unfold ownIx
    split
    · split
      · exact List.mem_cons_of_mem _ this
      · exact this
    · exact this
theorem ownIx_inj : ∀ {xs : List AV} {i k j : Nat} {s : Slot}, (ownIx xs ρ).Nodup → xs[i]? = some (.o j) → xs[k]? = some (.o j) → ρ[j]? = some s → s.isOwn = true → i = k
  | [], i, _, _, _, _, h, _, _, _ => by simp at h
  | .d d :: r, i, k, j, s, nd, h1, h2, h3, h4 => by
    cases i with
    | zero => simp at h1
    | succ i => cases k with
      | zero => simp at h2
      | succ k => rw [ownIx_inj (i := i) (k := k) (xs := r) (by unfold ownIx at nd; exact nd) (by simpa using h1) (by simpa using h2) h3 h4]
  | .o l :: r, i, k, j, s, nd, h1, h2, h3, h4 => by
    have tail : (ownIx r ρ).Nodup := by
      unfold ownIx at nd
      split at nd
      · split at nd
        · exact (List.nodup_cons.mp nd).2
        · exact nd
      · exact nd
    have head : ∀ {m : Nat}, r[m]? = some (.o j) → l = j → False := fun {m} hm e => by
      subst e
      have := ownIx_mem hm h3 h4
      unfold ownIx at nd
      rw [h3] at nd
      simp only [h4, if_true] at nd
      exact (List.nodup_cons.mp nd).1 this
    cases i with
    | zero => cases k with
      | zero => rfl
      | succ k => exact (head (m := k) (by simpa using h2) (by simpa using h1)).elim
    | succ i => cases k with
      | zero => exact (head (m := i) (by simpa using h1) (by simpa using h2)).elim
      | succ k => rw [ownIx_inj (i := i) (k := k) (xs := r) tail (by simpa using h1) (by simpa using h2) h3 h4]
theorem upsOf_mem : ∀ {xs : List AV} {os : List Slot} {ps : List (Nat × Slot)} {j : Nat} {t : Slot}, upsOf xs os ρ = some ps → (j, t) ∈ ps → ∃ (i : Nat) (s : Slot), xs[i]? = some (.o j) ∧ os[i]? = some t ∧ ρ[j]? = some s ∧ s.isOwn = true ∧ t.isOwn = true
  | [], os, ps, j, t, h, hm => by cases (Option.some.inj h); cases hm
  | .d d :: r, u :: os, ps, j, t, h, hm => by
    obtain ⟨i, s, h1, h2, h3⟩ := upsOf_mem (xs := r) (os := os) h hm
    exact ⟨i + 1, s, by simpa using h1, by simpa using h2, h3⟩
  | .d d :: r, [], ps, j, t, h, hm => by cases h
  | .o k :: r, [], ps, j, t, h, hm => by cases h
  | .o k :: r, u :: os, ps, j, t, h, hm => by
    unfold upsOf at h
    cases hk : ρ[k]? with
    | none => rw [hk] at h; cases h
    | some s =>
      rw [hk] at h
      dsimp only at h
      by_cases ho : s.isOwn = true
      · rw [if_pos ho] at h
        by_cases hu : u.isOwn = true
        · rw [if_pos hu] at h
          obtain ⟨qs, h1, e⟩ := Option.map_eq_some_iff.mp h
          subst e
          rcases List.mem_cons.mp hm with e | hm
          · cases e
            exact ⟨0, s, by simp, by simp, hk, ho, hu⟩
          · obtain ⟨i, s, h2, h3, h4⟩ := upsOf_mem (xs := r) (os := os) h1 hm
            exact ⟨i + 1, s, by simpa using h2, by simpa using h3, h4⟩
        · rw [if_neg hu] at h; cases h
      · rw [if_neg ho] at h
        obtain ⟨i, s, h2, h3, h4⟩ := upsOf_mem (xs := r) (os := os) h hm
        exact ⟨i + 1, s, by simpa using h2, by simpa using h3, h4⟩
theorem upsOf_of : ∀ {xs : List AV} {os : List Slot} {ps : List (Nat × Slot)} {i j : Nat} {s : Slot}, upsOf xs os ρ = some ps → xs[i]? = some (.o j) → ρ[j]? = some s → s.isOwn = true → ∃ t, (j, t) ∈ ps
  | [], os, ps, i, j, s, h, h1, _, _ => by simp at h1
  | .d d :: r, [], ps, i, j, s, h, h1, _, _ => by cases h
  | .o k :: r, [], ps, i, j, s, h, h1, _, _ => by cases h
  | .d d :: r, u :: os, ps, i, j, s, h, h1, h2, h3 => by
    cases i with
    | zero => simp at h1
    | succ i => exact upsOf_of (xs := r) (os := os) (i := i) h (by simpa using h1) h2 h3
  | .o k :: r, u :: os, ps, i, j, s, h, h1, h2, h3 => by
    unfold upsOf at h
    cases hk : ρ[k]? with
    | none => rw [hk] at h; cases h
    | some s' =>
      rw [hk] at h
      dsimp only at h
      by_cases ho : s'.isOwn = true
      · rw [if_pos ho] at h
        by_cases hu : u.isOwn = true
        · rw [if_pos hu] at h
          obtain ⟨qs, g1, e⟩ := Option.map_eq_some_iff.mp h
          subst e
          cases i with
          | zero => simp at h1; subst h1; exact ⟨u, List.mem_cons_self⟩
          | succ i =>
            obtain ⟨t, ht⟩ := upsOf_of (xs := r) (os := os) (i := i) g1 (by simpa using h1) h2 h3
            exact ⟨t, List.mem_cons_of_mem _ ht⟩
        · rw [if_neg hu] at h; cases h
      · rw [if_neg ho] at h
        cases i with
        | zero => simp at h1; subst h1; rw [hk] at h2; cases h2; exact absurd h3 ho
        | succ i => exact upsOf_of (xs := r) (os := os) (i := i) h (by simpa using h1) h2 h3
/-- the arguments as the callee sees them -/
theorem args_of {xs : List AV} {vs : List V} {ss : List Slot} (R : SR K mg w A ρ σ H) (r : AVRs K mg A σ H xs vs) (h : slotsOf xs ρ = some ss) (nd : (ownIx xs ρ).Nodup) : ArgsR K mg A H ss vs := by
  have val : ∀ {i : Nat} {s : Slot} {v : V}, ss[i]? = some s → vs[i]? = some v → s.isOwn = true → ∃ j, xs[i]? = some (.o j) ∧ ρ[j]? = some s ∧ σ[j]? = some (some v) := fun {i s v} h1 h2 o => by
    rcases slotsOf_get h h1 with ⟨d, _, e⟩ | ⟨j, g1, g2, g3⟩
    · subst e; cases o
    · obtain ⟨u, q1, q2⟩ := avrs_get r g1
      rw [h2] at q1
      cases q1
      exact ⟨j, g1, g2, q2⟩
  refine ⟨by rw [slotsOf_len h, avrs_len r], fun i s v h1 h2 => ?_, fun i k s t a h1 h2 o1 o2 e1 e2 => ?_, R.trk⟩
  · rcases slotsOf_get h h1 with ⟨d, g1, e⟩ | ⟨j, g1, g2, g3⟩
    · subst e
      obtain ⟨u, q1, q2⟩ := avrs_get r g1
      rw [h2] at q1
      cases q1
      exact ⟨v, rfl, q2⟩
    · obtain ⟨u, q1, q2⟩ := avrs_get r g1
      rw [h2] at q1
      cases q1
      have q2 : σ[j]? = some (some v) := q2
      have := R.slots j s _ g2 q2
      refine SlotR.off (Same.refl _) (fun o a z => ?_) g3 this
      cases s with
      | own l => obtain ⟨b, vs, e, m, _⟩ := this; cases z; cases e; exact m
      | dic ks vs => obtain ⟨b, vs, e, m, _⟩ := this; cases z; cases e; exact m
      | inst c ns l => obtain ⟨b, C, dx, fvs, e, m, _⟩ := this; cases z; cases e; exact m
      | _ => cases o
  · obtain ⟨j, g1, g2, g3⟩ := val h1 e1 o1
    obtain ⟨l, g4, g5, g6⟩ := val h2 e2 o2
    have e := R.dist j l s t a g2 g5 o1 o2 g3 g6
    subst e
    exact ownIx_inj nd g1 g4 g2 o1
end
end DL
namespace DL
open PySem L2
def callV (φ : Fn) (xs : List AV) : M D := fun ρ => match slotsOf xs ρ with
  | none => .bad
  | some ss => if (ownIx xs ρ).Nodup then (match φ ss with
    | .ok d os => (match upsOf xs os ρ with
      | some ps => .ok d (updE ρ ps)
      | none => .bad)
    | .exc e os => (match upsOf xs os ρ with
      | some ps => .exc e (updE ρ ps)
      | none => .bad)
    | .bad => .bad) else .bad
def callF (φ : Fn) (as : List Arg) : M D := M.bnd (evs as) (callV φ)
section
variable {K : PySem.W.Frag} {mg : Str → Option Value} {w : Wd} {A : List Addr} {ρ : Ev} {σ : L2.St} {H : Hp}
theorem ups_sr {xs : List AV} {vs : List V} {ss os : List Slot} {ps : List (Nat × Slot)} {H' : Hp} (R : SR K mg w A ρ σ H) (r : AVRs K mg A σ H xs vs) (h : slotsOf xs ρ = some ss) (nd : (ownIx xs ρ).Nodup) (hp : upsOf xs os ρ = some ps) (p : Post K mg A H ss vs os H') :
    SR K mg w A (updE ρ ps) σ H' ∧ Ext A H H' := by
  have a := args_of R r h nd
  have handed : ∀ {i : Nat} {j : Nat} {s : Slot}, xs[i]? = some (.o j) → ρ[j]? = some s → s.isOwn = true → ss[i]? = some s ∧ ∃ v, vs[i]? = some v ∧ σ[j]? = some (some v) := fun {i j s} h1 h2 o => by
    obtain ⟨v, q1, q2⟩ := avrs_get r h1
    have hi : i < ss.length := by rw [slotsOf_len h]; exact (List.getElem?_eq_some_iff.mp h1).1
    have e : ss[i]? = some ss[i] := by simp [hi]
    rcases slotsOf_get h e with ⟨d, g1, _⟩ | ⟨k, g1, g2, _⟩
    · rw [h1] at g1; cases g1
    · rw [h1] at g1
      cases g1
      rw [h2] at g2
      cases g2
      exact ⟨e, v, q1, q2⟩
  have keep : ∀ b o, H b = some o → (∀ j t, (j, t) ∈ ps → σ[j]? ≠ some (some (.ref b))) → H' b = some o := fun b o hb hn => p.keep b o hb fun i s g1 g2 g3 => by
    rcases slotsOf_get h g1 with ⟨d, _, e⟩ | ⟨j, k1, k2, _⟩
    · subst e; cases g2
    · obtain ⟨t, ht⟩ := upsOf_of hp k1 k2 g2
      obtain ⟨v, q1, q2⟩ := avrs_get r k1
      rw [g3] at q1
      cases q1
      exact hn j t ht q2
  refine ⟨R.upds keep fun j t hjt => ?_, fun b o hb h1 => keep b o h1 fun j t hjt e => ?_⟩
  · obtain ⟨i, s, k1, k2, k3, k4, k5⟩ := upsOf_mem hp hjt
    obtain ⟨g1, v, g2, g3⟩ := handed k1 k3 k4
    obtain ⟨t', q1, q2, q3⟩ := p.own i s v g1 k4 g2
    rw [k2] at q1
    cases q1
    refine ⟨⟨s, k3, k4⟩, k5, v, g3, ?_⟩
    exact SlotR.off (Same.refl _) (fun _ a z => by
      obtain ⟨b, e, m⟩ := own_ref q3 k5
      cases z
      cases e
      exact m) (own_arg k5) q3
  · obtain ⟨i, s, k1, k2, k3, k4, k5⟩ := upsOf_mem hp hjt
    obtain ⟨c, e2, m⟩ := own_ref (R.slots j s _ k3 e) k4
    cases e2
    exact hb m
theorem call_end {W : WZ} {Q : VK} {φ : Fn} {xs : List AV} {vs : List V} (R : SR K mg w A ρ σ H) (r : AVRs K mg A σ H xs vs)
    (q : match callV φ xs ρ with
      | .ok d ρ' => ∀ v H', Ext A H H' → SR K mg w A ρ' σ H' → Rep K mg (off A H') d v → Q v H'
      | .exc e ρ' => ∀ c dd H', Ext A H H' → SR K mg w A ρ' σ H' → ExR K mg A H' e c dd → W c dd σ H'
      | .bad => False) : spD K mg φ vs H Q (WE W σ) := by
  unfold callV at q
  cases h : slotsOf xs ρ with
  | none => rw [h] at q; exact q.elim
  | some ss =>
    rw [h] at q
    dsimp only at q
    by_cases nd : (ownIx xs ρ).Nodup
    · rw [if_pos nd] at q
      refine ⟨A, ss, args_of R r h nd, ?_⟩
      cases hf : φ ss with
      | bad => rw [hf] at q; exact q.elim
      | ok d os =>
        rw [hf] at q
        dsimp only at q
        cases hp : upsOf xs os ρ with
        | none => rw [hp] at q; exact q.elim
        | some ps =>
          rw [hp] at q
          intro v H' p rv
          obtain ⟨R', ex⟩ := ups_sr R r h nd hp p
          exact q v H' ex R' rv
      | exc e os =>
        rw [hf] at q
        dsimp only at q
        cases hp : upsOf xs os ρ with
        | none => rw [hp] at q; exact q.elim
        | some ps =>
          rw [hp] at q
          intro c dd H' p rv
          obtain ⟨R', ex⟩ := ups_sr R r h nd hp p
          exact q c dd H' ex R' rv
    · rw [if_neg nd] at q; exact q.elim
end
section
variable {X : Cx} {k : Nat} {f C : Addr} {fd : FuncData} {ps : List Str} {φ : Fn} {x m : Str} {p pos apos : Pos} {e o : Expr} {es : List Expr} {as : List Arg} {mo : M D}
/-- f(e, ..) -/
theorem de_call (F : FnOk X.prog X.w X.K X.mg X.base (L2.CX X.prog X.w) k f fd ps (spD X.K X.mg φ)) (hr : Room k X.A) (hg : Gl X x) (hm : X.mg x = some (.ref f)) (hk : PySem.W.keepIn X.K (.ref f) = true) (hb : Binds X.K fd ps [])
    (ha : DA X (e :: es) as) (hdb : (x == ("__debug__" : Str)) = false := by decide) (he : starEach (e :: es) X.env = (false, eval e X.env) :: starEach es X.env := by rfl) (hpl : (backTo pos (starEach es X.env)).any (·.1) = false := by rfl) :
    DE X (.Call (.Name x p) (e :: es) [] pos) (callF φ as) := fun W tk =>
  pe_imp (pe_callSD (E := WE W) F hr hg hm hk hb .nil (fun σ => passAt tk.t σ) (ha W tk) hdb he hpl) fun σ H Q ⟨w, A, ρ, R, q⟩ => by
    refine ⟨w, A, ρ, R, ?_⟩
    unfold callF at q
    cases hx : evs as ρ with
    | exc e ρ1 => rw [bnd_exc hx] at q; exact q
    | bad => rw [bnd_bad hx] at q; exact q
    | ok xs ρ1 =>
      rw [bnd_ok hx] at q
      intro vs H1 ex1 R1 r1
      rw [List.append_nil]
      refine call_end R1 r1 ?_
      cases hc : callV φ xs ρ1 with
      | ok d ρ2 => rw [hc] at q; exact fun v H2 ex2 R2 r2 => q v H2 (ex1.trans ex2) R2 r2
      | exc e ρ2 => rw [hc] at q; exact fun c dd H2 ex2 R2 r2 => q c dd H2 (ex1.trans ex2) R2 r2
      | bad => rw [hc] at q; exact q
/-- f() -/
theorem de_call0 (F : FnOk X.prog X.w X.K X.mg X.base (L2.CX X.prog X.w) k f fd ps (spD X.K X.mg φ)) (hr : Room k X.A) (hg : Gl X x) (hm : X.mg x = some (.ref f)) (hk : PySem.W.keepIn X.K (.ref f) = true) (hb : Binds X.K fd ps [])
    (hdb : (x == ("__debug__" : Str)) = false := by decide) : DE X (.Call (.Name x p) [] [] pos) (callF φ []) := fun W tk => by
  refine ⟨fun pins s σ H Q I ⟨w, A, ρ, R, q⟩ => ?_⟩
  refine wpAny_Call_Name_kw (ld_glob I hg hm ?_ hdb)
  refine PySem.W.callWith_K0 I.kIn hk (run_fnSD (us := []) (vs := []) (dvs := []) (E := WE W) F hr hb .nil (passAt tk.t σ) I .nil ?_)
  exact call_end (xs := []) (vs := []) R rfl q
/-- o.m(..), where what is raised is wished for at the slots -/
theorem meth_S {E : L2.St → XK} {ta : TE} {t : TA} {pl : Sem Bool} {sp : Sp} (he : PE X o ta) (c : Cls X.K C) (hm : Meth X.K C m f) (F : FnOk X.prog X.w X.K X.mg X.base (L2.CX X.prog X.w) k f fd ps sp) (hr : Room k X.A) (hb : Binds X.K fd ps []) (hx : ∀ σ, PassesAt (L2.CX X.prog X.w) X σ (E σ)) (ha : PA X (e :: es) t)
    (hst : starEach (e :: es) X.env = (false, eval e X.env) :: starEach es X.env) (hpl : (backTo pos (starEach es X.env)).any (·.1) = false)
    (ht : eval (.Call (.Attribute o m apos) (e :: es) [] pos) X.env = (do
      let ov ← eval o X.env
      standAt apos.atName
      let (g, first) ← holding [ov] (getMethod ov m pl)
      callWith pos g first (backTo pos (starEach (e :: es) X.env)) (backToKw pos (keywordEach [] X.env)))) :
    PE X (.Call (.Attribute o m apos) (e :: es) [] pos) (fun σ H Q => ta σ H fun x H1 => ∃ a dx fs, x = .ref a ∧ H1 a = some (.ins C dx fs) ∧ fs.lookup m = none ∧ t σ H1 fun vs H2 => sp (x :: vs) H2 Q (E σ)) :=
  ⟨fun pins s σ H Q I h => PySem.W.methodCall_KW (pl := pl) (thn (he.run pins s σ H _ I h) fun u s1 ⟨x, H1, I1, rx, a, dx, fs, ex, ea, l, q⟩ => by
    subst ex
    cases rx
    refine getmeth_ok I1 ea c hm l (PySem.W.callWith_K (first := [.ref a]) (h₀ := X.base) I.ok.mod.kin hm.kp (thn (ha.run pos pins s1 σ H1 _ I1 q) fun us s2 ⟨vs, H2, I2, r, q2⟩ => ⟨I2.kIn, ?_⟩) hst hpl)
    exact run_fnSD (us := .ref a :: us) (vs := .ref a :: vs) (dvs := []) F hr hb .nil (hx σ) I2 (.cons rfl r) (by rw [List.append_nil]; exact q2)) ht⟩
theorem meth_S0 {E : L2.St → XK} {ta : TE} {pl : Sem Bool} {sp : Sp} (he : PE X o ta) (c : Cls X.K C) (hm : Meth X.K C m f) (F : FnOk X.prog X.w X.K X.mg X.base (L2.CX X.prog X.w) k f fd ps sp) (hr : Room k X.A) (hb : Binds X.K fd ps []) (hx : ∀ σ, PassesAt (L2.CX X.prog X.w) X σ (E σ))
    (ht : eval (.Call (.Attribute o m apos) [] [] pos) X.env = (do
      let ov ← eval o X.env
      standAt apos.atName
      let (g, first) ← holding [ov] (getMethod ov m pl)
      callWith pos g first (backTo pos (starEach [] X.env)) (backToKw pos (keywordEach [] X.env)))) :
    PE X (.Call (.Attribute o m apos) [] [] pos) (fun σ H Q => ta σ H fun x H1 => ∃ a dx fs, x = .ref a ∧ H1 a = some (.ins C dx fs) ∧ fs.lookup m = none ∧ sp [x] H1 Q (E σ)) :=
  ⟨fun pins s σ H Q I h => PySem.W.methodCall_KW (pl := pl) (thn (he.run pins s σ H _ I h) fun u s1 ⟨x, H1, I1, rx, a, dx, fs, ex, ea, l, q⟩ => by
    subst ex
    cases rx
    exact getmeth_ok I1 ea c hm l (PySem.W.callWith_K0 (first := [.ref a]) I1.kIn hm.kp (run_fnSD (us := [.ref a]) (vs := [.ref a]) (dvs := []) F hr hb .nil (hx σ) I1 (.cons rfl .nil) q))) ht⟩
/-- a method of a class c, of a value -/
def methF (c m : Str) (φ : Fn) (mo : M D) (as : List Arg) : M D := M.bnd mo fun d => match d with
  | .obj c' ns l => if c' = c ∧ ns.contains m = false then M.bnd (evs as) fun xs => callV φ (.d (.obj c' ns l) :: xs) else fun _ => .bad
  | _ => fun _ => .bad
theorem zip_none {ns : List Str} {vs : List V} {m : Str} (h : ns.contains m = false) : (ns.zip vs).lookup m = none := by
  induction ns generalizing vs with
  | nil => simp
  | cons n ns ih =>
    cases vs with
    | nil => simp
    | cons v vs =>
      rw [List.contains_cons] at h
      obtain ⟨h1, h2⟩ := Bool.or_eq_false_iff.mp h
      rw [List.zip_cons_cons, List.lookup_cons, h1]
      exact ih h2
theorem de_meth {c : Str} {pl : Sem Bool} (hC : X.mg c = some (.ref C)) (hc : Cls X.K C) (hm : Meth X.K C m f) (F : FnOk X.prog X.w X.K X.mg X.base (L2.CX X.prog X.w) k f fd ps (spD X.K X.mg φ)) (hr : Room k X.A) (hb : Binds X.K fd ps []) (ho : DE X o mo) (ha : DA X (e :: es) as)
    (hst : starEach (e :: es) X.env = (false, eval e X.env) :: starEach es X.env := by rfl) (hpl : (backTo pos (starEach es X.env)).any (·.1) = false := by rfl)
    (ht : eval (.Call (.Attribute o m apos) (e :: es) [] pos) X.env = (do
      let ov ← eval o X.env
      standAt apos.atName
      let (g, first) ← holding [ov] (getMethod ov m pl)
      callWith pos g first (backTo pos (starEach (e :: es) X.env)) (backToKw pos (keywordEach [] X.env))) := by rfl) :
    DE X (.Call (.Attribute o m apos) (e :: es) [] pos) (methF c m φ mo as) := fun W tk =>
  pe_imp (meth_S (E := WE W) (ho W tk) hc hm F hr hb (fun σ => passAt tk.t σ) (ha W tk) hst hpl ht) fun σ H Q q => de_imp2 q fun w A ρ1 d v H1 R1 r1 z => by
    cases d with
    | obj c' ns l =>
      dsimp only at z
      by_cases hcc : c' = c ∧ ns.contains m = false
      · rw [if_pos hcc] at z
        obtain ⟨rfl, hn⟩ := hcc
        have r1' := r1
        obtain ⟨a, C', dx, fvs, e1, h1, h2, h3, h4⟩ := r1
        rw [hC] at h1
        cases h1
        refine ⟨a, dx, _, e1, off_le _ _ h2, zip_none hn, w, A, ρ1, R1, ?_⟩
        cases hx : evs as ρ1 with
        | exc e ρ2 => rw [bnd_exc hx] at z; exact z
        | bad => rw [bnd_bad hx] at z; exact z
        | ok xs ρ2 =>
          rw [bnd_ok hx] at z
          intro vs H2 ex2 R2 r2
          refine call_end (xs := .d (.obj c' ns l) :: xs) R2 ⟨v, vs, rfl, r1'.mono ex2.off, r2⟩ ?_
          cases hcv : callV φ (.d (.obj c' ns l) :: xs) ρ2 with
          | ok d ρ3 => rw [hcv] at z; exact fun v H3 ex3 R3 r3 => z v H3 (ex2.trans ex3) R3 r3
          | exc e ρ3 => rw [hcv] at z; exact fun c dd H3 ex3 R3 r3 => z c dd H3 (ex2.trans ex3) R3 r3
          | bad => rw [hcv] at z; exact z
      · rw [if_neg hcc] at z; exact z.elim
    | _ => exact z.elim
theorem de_meth0 {c : Str} {pl : Sem Bool} (hC : X.mg c = some (.ref C)) (hc : Cls X.K C) (hm : Meth X.K C m f) (F : FnOk X.prog X.w X.K X.mg X.base (L2.CX X.prog X.w) k f fd ps (spD X.K X.mg φ)) (hr : Room k X.A) (hb : Binds X.K fd ps []) (ho : DE X o mo)
    (ht : eval (.Call (.Attribute o m apos) [] [] pos) X.env = (do
      let ov ← eval o X.env
      standAt apos.atName
      let (g, first) ← holding [ov] (getMethod ov m pl)
      callWith pos g first (backTo pos (starEach [] X.env)) (backToKw pos (keywordEach [] X.env))) := by rfl) :
    DE X (.Call (.Attribute o m apos) [] [] pos) (methF c m φ mo []) := fun W tk =>
  pe_imp (meth_S0 (E := WE W) (ho W tk) hc hm F hr hb (fun σ => passAt tk.t σ) ht) fun σ H Q q => de_imp2 q fun w A ρ1 d v H1 R1 r1 z => by
    cases d with
    | obj c' ns l =>
      dsimp only at z
      by_cases hcc : c' = c ∧ ns.contains m = false
      · rw [if_pos hcc] at z
        obtain ⟨rfl, hn⟩ := hcc
        have r1' := r1
        obtain ⟨a, C', dx, fvs, e1, h1, h2, h3, h4⟩ := r1
        rw [hC] at h1
        cases h1
        refine ⟨a, dx, _, e1, off_le _ _ h2, zip_none hn, ?_⟩
        exact call_end (xs := [.d (.obj c' ns l)]) R1 ⟨v, [], rfl, r1', rfl⟩ z
      · rw [if_neg hcc] at z; exact z.elim
    | _ => exact z.elim
/-- C(e, ..): a new instance -/
theorem run_makeS {E : XK} {pins : List (Addr × Obj)} {σ : L2.St} {H : Hp} {s : Shared} {Q : VK} {us : List Value} {vs : List V} {sp : Sp} (Mk' : Mk X.K C f) (F : FnOk X.prog X.w X.K X.mg X.base (L2.CX X.prog X.w) k f fd ps sp) (hr : Room (k + 1) X.A) (hb : Binds X.K fd ps [])
    (hx : PassesAt (L2.CX X.prog X.w) X σ E) (I : L2.Inv X pins σ H s) (r : Vals vs us)
    (h : ∀ y dy, H y = none → H dy = none → dy ≠ y → sp (.ref y :: vs) (upd (upd H dy (.own y)) y (.ins C dy [])) (fun v H2 => v = .non ∧ Q (.ref y) H2) E) :
    wpAny (model X.prog X.w) X.A (call (.ref C) us) (EP X pins σ Q) X.xe s := by
  have hz := h (s.heap.objs.size + 1) s.heap.objs.size (I.hok.fresh (Nat.le_succ _)) (I.hok.fresh (Nat.le_refl _)) (Nat.ne_of_lt (Nat.lt_succ_self _))
  have J := Inv.made (C := C) I
  have rr : Vals (V.ref (s.heap.objs.size + 1) :: vs) (Value.ref (s.heap.objs.size + 1) :: us) := .cons rfl r
  have hl := rr.length
  rw [F.len _ _ _ _ hz] at hl
  have bd := hb _ (Value.ref (s.heap.objs.size + 1) :: us) J.kIn (by rw [List.append_nil]; exact hl.symm)
  rw [List.append_nil] at bd
  refine wpAny_call (make_map (f := f) I.kIn Mk'.makes Mk'.init (beq_iff_eq.mp Mk'.fn) (codeAny_mono (F.run _ X.stack _ _ _ _ _ _ E (hr.make C us []) (J.env0.make C us []) bd rr hz) fun res t hres => ?_))
  cases res with
  | error ev => exact hx pins _ _ ev t J hres
  | ok fl =>
    cases fl with
    | ret u =>
      obtain ⟨v, H', J', rv, ev, q3⟩ := J.after hres
      subst ev
      exact ⟨rv, V.ref (s.heap.objs.size + 1), H', J', rfl, q3⟩
    | _ => exact False.elim hres
theorem make_S {E : L2.St → XK} {t : TA} {sp : Sp} (Mk' : Mk X.K C f) (F : FnOk X.prog X.w X.K X.mg X.base (L2.CX X.prog X.w) k f fd ps sp) (hr : Room (k + 1) X.A) (hg : Gl X x) (hm : X.mg x = some (.ref C)) (hb : Binds X.K fd ps []) (hx : ∀ σ, PassesAt (L2.CX X.prog X.w) X σ (E σ)) (ha : PA X (e :: es) t)
    (hdb : (x == ("__debug__" : Str)) = false) (he : starEach (e :: es) X.env = (false, eval e X.env) :: starEach es X.env) (hpl : (backTo pos (starEach es X.env)).any (·.1) = false) :
    PE X (.Call (.Name x p) (e :: es) [] pos) (fun σ H Q => t σ H fun vs H1 => ∀ y dy, H1 y = none → H1 dy = none → dy ≠ y → sp (.ref y :: vs) (upd (upd H1 dy (.own y)) y (.ins C dy [])) (fun v H2 => v = .non ∧ Q (.ref y) H2) (E σ)) :=
  ⟨fun pins s σ H Q I h => wpAny_Call_Name_kw (ld_glob I hg hm (PySem.W.callWith_K (h₀ := X.base) I.ok.mod.kin Mk'.kp (thn (ha.run pos pins s σ H _ I h) fun us s1 ⟨vs, H1, I1, r, q⟩ => ⟨I1.kIn, run_makeS Mk' F hr hb (hx σ) I1 r q⟩) he hpl) hdb)⟩
/-- C(e, ..), all values: the new instance is a value -/
def makeV (c : Str) (φ : Fn) (ds : List D) : M D := fun ρ => match φ (.inst c [] [] :: ds.map Slot.val) with
  | .ok .non (.inst c' ns l :: _) => .ok (.obj c' ns l) ρ
  | .exc e _ => .exc e ρ
  | _ => .bad
def makeF (c : Str) (φ : Fn) (as : List Arg) : M D := M.bnd (evs as) fun xs => match dvs xs with
  | some ds => makeV c φ ds
  | none => fun _ => .bad
theorem make_end {W : WZ} {Q : VK} {ds : List D} {vs : List V} {c : Str} {w : Wd} {A : List Addr} {ρ : Ev} {σ : L2.St} {H : Hp} {K : PySem.W.Frag} {mg : Str → Option Value} (hC : mg c = some (.ref C)) (R : SR K mg w A ρ σ H) (r : Reps K mg (off A H) ds vs)
    (q : match makeV c φ ds ρ with
      | .ok d ρ' => ∀ v H', Ext A H H' → SR K mg w A ρ' σ H' → Rep K mg (off A H') d v → Q v H'
      | .exc e ρ' => ∀ c dd H', Ext A H H' → SR K mg w A ρ' σ H' → ExR K mg A H' e c dd → W c dd σ H'
      | .bad => False) : ∀ y dy, H y = none → H dy = none → dy ≠ y → spD K mg φ (.ref y :: vs) (upd (upd H dy (.own y)) y (.ins C dy [])) (fun v H2 => v = .non ∧ Q (.ref y) H2) (WE W σ) := by
  intro y dy ny nd ne
  have s1 : Same H (upd (upd H dy (.own y)) y (.ins C dy [])) := fun b o h => by rw [upd_ne (ne_of_none h ny), upd_ne (ne_of_none h nd)]; exact h
  have nA : y ∉ A := R.notA ny
  have sm : Same (off A H) (off (y :: A) (upd (upd H dy (.own y)) y (.ins C dy []))) := fun b o h => by
    unfold off at h ⊢
    split at h
    · cases h
    · rename_i hb
      rw [if_neg fun z => (List.mem_cons.mp z).elim (fun e => by rw [e, ny] at h; cases h) hb]
      exact s1 b o h
  have a : ArgsR K mg (y :: A) (upd (upd H dy (.own y)) y (.ins C dy [])) (.inst c [] [] :: ds.map Slot.val) (.ref y :: vs) := by
    refine ⟨by simp [r.length], fun i s v h1 h2 => ?_, fun i j s t b h1 h2 o1 o2 e1 e2 => ?_, fun b hb => ?_⟩
    · cases i with
      | zero =>
        simp at h1 h2
        subst h1 h2
        exact ⟨y, C, dy, [], rfl, List.mem_cons_self, hC, by rw [upd_same]; rfl, rfl, rfl⟩
      | succ i =>
        rw [List.getElem?_cons_succ] at h1 h2
        rw [List.getElem?_map] at h1
        obtain ⟨d, h3, e⟩ := Option.map_eq_some_iff.mp h1
        subst e
        obtain ⟨u, h4, h5⟩ := r.get h3
        rw [h2] at h4
        cases h4
        exact ⟨v, rfl, h5.mono sm⟩
    · have z : ∀ {i : Nat} {s : Slot}, (Slot.inst c [] [] :: ds.map Slot.val)[i]? = some s → s.isOwn = true → i = 0 := fun {i s} h o => by
        cases i with
        | zero => rfl
        | succ i =>
          rw [List.getElem?_cons_succ, List.getElem?_map] at h
          obtain ⟨d, _, e⟩ := Option.map_eq_some_iff.mp h
          subst e
          cases o
      rw [z h1 o1, z h2 o2]
    · rcases List.mem_cons.mp hb with e | hb
      · subst e; rw [upd_same]; simp
      · intro z
        cases e : H b with
        | none => exact R.trk b hb e
        | some o => rw [s1 b o e] at z; cases z
  have back : ∀ {os : List Slot} {H' : Hp}, Post K mg (y :: A) (upd (upd H dy (.own y)) y (.ins C dy [])) (.inst c [] [] :: ds.map Slot.val) (.ref y :: vs) os H' → Same H H' := fun {os H'} p b o h => by
    refine p.keep b o (s1 b o h) fun i s h1 h2 h3 => ?_
    cases i with
    | zero =>
      simp at h3
      rw [← h3, ny] at h
      cases h
    | succ i =>
      rw [List.getElem?_cons_succ, List.getElem?_map] at h1
      obtain ⟨d, _, e⟩ := Option.map_eq_some_iff.mp h1
      subst e
      cases h2
  have sub : ∀ {H' : Hp}, Same (off (y :: A) H') (off A H') := fun {H'} => off_sub fun b hb => List.mem_cons_of_mem _ hb
  refine ⟨y :: A, _, a, ?_⟩
  unfold makeV at q
  cases hf : φ (.inst c [] [] :: ds.map Slot.val) with
  | bad => rw [hf] at q; exact q.elim
  | exc e os =>
    rw [hf] at q
    intro cc dd H' p z
    have sH := back p
    obtain ⟨C', e1, e2, z⟩ := z
    exact q cc dd H' (.of sH) (R.same sH) ⟨C', e1, e2, z.imp id fun ⟨d, fs, y1, y2, y3, y4⟩ => ⟨d, fs, y1, y2, fun m => y3 (List.mem_cons_of_mem _ m), fun i n x g1 g2 => let ⟨v, z1, z2⟩ := y4 i n x g1 g2; ⟨v, z1, z2.mono sub⟩⟩⟩
  | ok d os =>
    rw [hf] at q
    cases d with
    | non =>
      cases os with
      | nil => exact q.elim
      | cons t os =>
        cases t with
        | inst c' ns l =>
          intro v H' p rv
          have sH := back p
          obtain ⟨t', h1, h2, h3⟩ := p.own 0 (.inst c [] []) (.ref y) (by simp) rfl (by simp)
          simp at h1
          subst h1
          obtain ⟨b, C', dx, fvs, e1, m, g1, g2, g3, g4⟩ := h3
          cases e1
          exact ⟨rv, q _ H' (.of sH) (R.same sH) ⟨y, C', dx, fvs, rfl, g1, off_at g2 nA, g3, g4.mono sub⟩⟩
        | _ => exact q.elim
    | _ => exact q.elim
theorem de_make (hC : X.mg x = some (.ref C)) (Mk' : Mk X.K C f) (F : FnOk X.prog X.w X.K X.mg X.base (L2.CX X.prog X.w) k f fd ps (spD X.K X.mg φ)) (hr : Room (k + 1) X.A) (hg : Gl X x) (hb : Binds X.K fd ps []) (ha : DA X (e :: es) as)
    (hdb : (x == ("__debug__" : Str)) = false := by decide) (he : starEach (e :: es) X.env = (false, eval e X.env) :: starEach es X.env := by rfl) (hpl : (backTo pos (starEach es X.env)).any (·.1) = false := by rfl) :
    DE X (.Call (.Name x p) (e :: es) [] pos) (makeF x φ as) := fun W tk =>
  pe_imp (make_S (E := WE W) Mk' F hr hg hC hb (fun σ => passAt tk.t σ) (ha W tk) hdb he hpl) fun σ H Q ⟨w, A, ρ, R, q⟩ => by
    refine ⟨w, A, ρ, R, ?_⟩
    unfold makeF at q
    cases hx : evs as ρ with
    | exc e ρ1 => rw [bnd_exc hx] at q; exact q
    | bad => rw [bnd_bad hx] at q; exact q
    | ok xs ρ1 =>
      rw [bnd_ok hx] at q
      intro vs H1 ex1 R1 r1
      cases hd : dvs xs with
      | none => rw [hd] at q; exact q.elim
      | some ds =>
        rw [hd] at q
        refine make_end hC R1 (dvs_rep r1 hd) ?_
        dsimp only at q
        cases hc : makeV x φ ds ρ1 with
        | ok d ρ2 => rw [hc] at q; exact fun v H2 ex2 R2 r2 => q v H2 (ex1.trans ex2) R2 r2
        | exc e ρ2 => rw [hc] at q; exact fun c dd H2 ex2 R2 r2 => q c dd H2 (ex1.trans ex2) R2 r2
        | bad => rw [hc] at q; exact q
end
end DL
namespace DL
open PySem L2
open PySem.W (ksFn ksEnv kxs_mw)
/-- a name's value among pairs without doubles -/
theorem look_mem {β : Type} {y : Str} {u : β} : ∀ {l : List (Str × β)}, (l.map (·.1)).Nodup → (y, u) ∈ l → l.lookup y = some u
  | [], _, h => by cases h
  | (z, v) :: l, nd, h => by
    have nd' := List.nodup_cons.mp nd
    by_cases hz : y = z
    · subst hz
      rcases List.mem_cons.mp h with q | q
      · cases q; simp [List.lookup]
      · exact absurd (List.mem_map.mpr ⟨_, q, rfl⟩) nd'.1
    · rcases List.mem_cons.mp h with q | q
      · cases q; exact absurd rfl hz
      · have e : (y == z) = false := by simpa using hz
        simp only [List.lookup, e]
        exact look_mem nd'.2 q
theorem zip_fst : ∀ (ps : List Str) (us : List Value), ((ps.zip us).map (·.1)).Sublist ps
  | [], _ => by simp
  | p :: ps, [] => by simp
  | p :: ps, u :: us => by simpa using zip_fst ps us
theorem zip_back {ps : List Str} {us : List Value} {i : Nat} {y : Str} {u : Value} (nd : ps.Nodup) (h1 : ps[i]? = some y) (h2 : us[i]? = some u) : (ps.zip us).reverse.lookup y = some u := by
  refine look_mem ?_ ?_
  · rw [List.map_reverse]
    refine List.pairwise_reverse.mpr (List.Pairwise.imp (fun h => Ne.symm h) ?_)
    exact nd.sublist (zip_fst ps us)
  · rw [List.mem_reverse]
    refine List.mem_of_getElem? (i := i) ?_
    rw [List.getElem?_zip_eq_some]
    exact ⟨h1, h2⟩
/-- the names of such a def -/
structure SupScope (N ps : List Str) (sc : Scope) : Prop where
  kind : sc.kind = .function
  co : sc.isCoroutine = false
  gen : sc.isGenerator = false
  nd : N.Nodup
  pre : N.take ps.length = ps
  par : ∀ x ∈ ps, sc.names.lookup x = some .local
  nocell : ∀ y ∈ sc.names, y.2 ≠ .cell
  fre : ∀ x, sc.names.lookup x = some .free → x = "__class__"
  sup : sc.names.lookup ("super" : Str) = some .globalImplicit
  cls : sc.names.lookup ("__class__" : Str) = some .free
/-- the context of its body -/
def cxS (CX : CXT) (P : Program) (w : World) (K : PySem.W.Frag) (mg : Str → Option Value) (base : Heap) (N : List Str) (qual : Str) (sc : Scope) (f : Addr) (cd : Value) (cc : Addr) (A : Around) (outer : List Env) (s : Shared) (H : Hp) (E : XK) : Cx where
  prog := P
  w := w
  K := K
  mg := mg
  base := base
  A := A.deeper (ksEnv qual sc s.heap.objs.size f cd cc)
  N := N
  s_0 := s
  H_0 := H
  env := ksEnv qual sc s.heap.objs.size f cd cc
  outer := outer
  stack := ksEnv qual sc s.heap.objs.size f cd cc :: outer
  ex := []
  calm := true
  fn := fun _ => false
  pn := []
  xe := fun e s1 => wpAny (model P w) (A.deeper (ksEnv qual sc s.heap.objs.size f cd cc)) (leaving (ksEnv qual sc s.heap.objs.size f cd cc) e) (fun _ s2 => CX outer H s E e s2) (fun e2 s2 => CX outer H s E e2 s2) s1
section
variable {CX : CXT} {P : Program} {w : World} {K : PySem.W.Frag} {mg : Str → Option Value} {base : Heap} {N ps : List Str} {qual : Str} {sc : Scope} {f cc : Addr} {cd : Value} {A : Around} {outer : List Env} {s : Shared} {H : Hp} {E : XK} {us : List Value} {vs : List V}
theorem one_cell {x : Str} {c : Addr} (h : [(("__class__" : Str), cc)].lookup x = some c) : x = "__class__" ∧ c = cc := by
  by_cases e : x = "__class__"
  · subst e
    simp [List.lookup] at h
    exact ⟨rfl, h.symm⟩
  · have e' : (x == ("__class__" : Str)) = false := by simpa using e
    simp [List.lookup, e'] at h
theorem invS {h1 : Heap} {tk : Nat} (S : SupScope N ps sc) (hd : A.handled = none) (e0 : Env0 P w K mg base A outer s H) (hl : vs.length = ps.length) (r : Vals vs us) (ns : h1.Ns s.heap.objs.size fun y => (ps.zip us).reverse.lookup y)
    (hk : ∀ b o, s.heap.get? b = some o → h1.get? b = some o) {oc : Obj} (hcc : base.get? cc = some oc) {v0 : Option Value} (hcv : oc.data = .cell v0) :
    Inv (cxS CX P w K mg base N qual sc f cd cc A outer s H E) [] (L2.start N vs) H { s with heap := h1, toks := tk } := by
  have hpl : ps.length ≤ N.length := by have := congrArg List.length S.pre; rw [List.length_take] at this; omega
  have e1 := (e0.bs _ _ hcc)
  have hcl : cc < s.heap.objs.size := Heap.lt_size e1.1
  refine { ok := ?_, os := rfl, bare := e0.bare, base := Un.kept hk, loc := ⟨_, ns, fun i y v g1 g2 g3 => ?_⟩, cell := fun x c h => ?_, free := e0.hok.fresh (Nat.le_refl _), freeC := fun x c h => ?_, pin := fun p hp => absurd (show p ∈ ([] : List (Addr × Obj)) from hp) (by simp), hok := e0.hok.kept hk, len := ?_ }
  · exact { mod := e0.mod, kind := S.kind, glob := rfl, blt := rfl, above := Nat.le_refl _, inj := fun x y c q1 q2 => (one_cell q1).1.trans (one_cell q2).1.symm
            has := fun x h => by
              rcases (show sc.names.lookup x = some .cell ∨ sc.names.lookup x = some .free from h) with h | h
              · exact absurd rfl (S.nocell _ (PySem.mem_of_lookup h))
              · rw [S.fre x h]
                exact ⟨cc, by show List.lookup _ [(_, cc)] = _; simp [List.lookup]⟩
            cab := fun x c z => by cases z
            hd := fun _ => hd, frames := Around.frames_deeper e0.frames, stk := .inr ⟨rfl, rfl⟩, exf := fun b z => (by cases z)
            bs := e0.bs, bsz := e0.bsz, noex := fun b o _ z => (by cases z), exfs := fun b z => (by cases z), funs := e0.funs, frf := e0.frf }
  · have hi : i < vs.length := by
      unfold L2.start at g2
      by_cases hi : i < vs.length
      · exact hi
      · rw [List.getElem?_append_right (by simpa using hi), List.getElem?_replicate] at g2
        split at g2 <;> cases g2
    have ha : vs[i]? = some v := by
      unfold L2.start at g2
      rw [List.getElem?_append_left (by simpa using hi), List.getElem?_map] at g2
      obtain ⟨v', z1, z2⟩ := Option.map_eq_some_iff.mp g2
      cases z2
      exact z1
    obtain ⟨u, hu, rv⟩ := r.get ha
    have hp : ps[i]? = some y := by
      rw [← S.pre, List.getElem?_take_of_lt (by omega)]; exact g1
    have ndP : ps.Nodup := by rw [← S.pre]; exact S.nd.sublist (List.take_sublist _ _)
    exact ⟨u, rv, .inl ⟨S.par y (List.mem_of_getElem? hp), zip_back ndP hp hu⟩⟩
  · obtain ⟨_, rfl⟩ := one_cell h
    exact ⟨v0, oc, hk _ _ e1.1, hcv⟩
  · obtain ⟨_, rfl⟩ := one_cell h
    exact e1.2
  · show (L2.start N vs).length = N.length
    unfold L2.start
    rw [List.length_append, List.length_map, List.length_replicate]
    omega
end
section
open PySem.W PySem.Calls
variable {prog : Program} {w : World} {A : Around} {E : Value → Shared → Prop} {h : Heap} {g : Array GenState} {d : Drawn} {t : Nat} {os : OsState}
/-- the bound __init__ of ValueError called -/
theorem run_mw {nm q : Str} {C N mw e t0 : Addr} {bs bm : List Value} {hdct : Bool} {sn : List Str} {sub : List Value} {ab : Bool} {col : Option Bool} {dd : Option Addr} {k0 k1 k2 k3 k5 : Option Value} {ar : List Value} {Q : Value → Shared → Prop}
    (hC : h.get? C = some (excClassObj nm q C N bs bm hdct sn sub ab col dd k0 k1 k2 k3 k5 "ValueError.__new__")) (hx : h.get? e = some (HandSPX.excO C t0)) (hm : h.get? mw = some (kxs_mw "ValueError.__init__" e)) (hz : ar.length ≤ sizeLine)
    (fin : ∀ h' t1, (∀ b o, b ≠ e → h.get? b = some o → h'.get? b = some o) → h'.get? e = some (HandSPX.excO C t1) → Q .none ⟨h', g, d, t, os⟩) :
    wpAny (model prog w) A (call (.ref mw) ar) Q E ⟨h, g, d, t, os⟩ := by
  refine wpAny_call (codeAny_of_tree ?_)
  show wpAny (model prog w) A.in1 (callAny (.ref mw) ⟨ar, []⟩) _ _ _
  simp only [callAny]
  refine wpAny_bind (wpAny_load hm ?_)
  simp only [kxs_mw, show (Value.type "method-wrapper" == Value.type "method" || Value.type "method-wrapper" == Value.type "builtin_function_or_method" || Value.type "method-wrapper" == Value.type "method-wrapper") = true from by decide, if_true]
  refine KFB.if_so (by decide) ?_
  refine wpAny_bind (check_bound_init F.excBase_ValueError.toExcCallFacts hC hx rfl ?_)
  refine wpAny_bind (wpAny_pure (wpAny_pure ?_))
  refine ⟨plainId_quiet F.excBase_ValueError.init.plain _, codeAny_builtin F.excBase_ValueError.initEntry ?_⟩
  exact exc_init_tree (cls := .ref C) (t0 := t0) (dv := none) (c2 := .none) (c3 := .none) (b4 := .bool false) hx hz fun h' k1 k2 _ => fin h' _ k1 k2
end
section
open PySem.W PySem.Calls PyProof.Rows
variable {CX : CXT} {P : Program} {w : World} {K : PySem.W.Frag} {mg : Str → Option Value} {base : Heap} {N ps : List Str} {name qual : Str} {sc : Scope} {f cc cda Dc : Addr} {k : Nat} {sp : Sp}
  {params : Arguments} {rest : List Stmt} {e : Expr} {es : List Expr} {p0 p1 p2 p3 p4 : Pos} {dV kV doc pm ct oc ocl ccl : Value} {an od cdd cld : Option Addr} {osl ccs csl : Array (Option Value)} {vs2 : Array Value} {file : Str} {tf : Tok} {ar : PySem.Arg} {cdD : ClassData}
theorem mw_args {M : Model} {A : Around} {E : Value → Shared → Prop} {s : Shared} {pos : Pos} {env : Env} {Q : Value → Shared → Prop} {mw x : Addr}
    (he : starEach (e :: es) env = (false, eval e env) :: starEach es env) (hpl : (backTo pos (starEach es env)).any (·.1) = false)
    (go : wpAny M A (spliced (backTo pos (starEach (e :: es) env))) (fun ws s₁ => KxsAt "ValueError.__init__" mw x s₁.heap ∧ wpAny M A (call (.ref mw) ws) Q E s₁) E s) : wpAny M A (callWith pos (.ref mw) [] (backTo pos (starEach (e :: es) env)) []) Q E s := by
  rw [he] at go ⊢
  refine kxs_callWith (i := "ValueError.__init__") (x := x) ?_ (evalArgs_plain go)
  show (false || (backTo pos (starEach es env)).any (·.1)) = false
  rw [hpl, Bool.false_or]
/-- such a def keeps its promise -/
theorem sup_fn (lk : K.lookup f = some ⟨oc, od, .func (ksFn name qual params (.Expr (.Call (.Attribute (.Call (.Name "super" p0) [] [] p1) "__init__" p2) (e :: es) [] p3) p4 :: rest) sc dV kV doc pm an (.ref cda) ct cc), osl⟩)
    (hcd : codeIn K (.ref cda) qual = true) (S : SupScope N ps sc) (len : ∀ vs H Q E, sp vs H Q E → vs.length = ps.length)
    (hp : (params.posonlyargs ++ params.args).head? = some ar) (h0 : ps[0]? = some ar.arg) (hcode : K.lookup cda = some ⟨ccl, cdd, .fields vs2, ccs⟩) (hvs : vs2[2]? = some (.str file tf)) (hfile : ((P.main.file : Str) == file) = true)
    (hcell : K.lookup cc = some ⟨ocl, cld, .cell (some (.ref Dc)), csl⟩) (hD : clsIn K Dc = some cdD) (hsup : mg "super" = none) (htop : (P.main.scope.names.lookup ("super" : Str)).isSome = false) (hth : nsIn K cStatics "thirdparty.any" = some none)
    (hse : ∀ L : Addr, starEach (e :: es) (ksEnv qual sc L f (.ref cda) cc) = (false, eval e (ksEnv qual sc L f (.ref cda) cc)) :: starEach es (ksEnv qual sc L f (.ref cda) cc))
    (hpl : ∀ L : Addr, (backTo p3 (starEach es (ksEnv qual sc L f (.ref cda) cc))).any (·.1) = false)
    (hsw : ∀ L : Addr, swapsWith (.Call (.Attribute (.Call (.Name "super" p0) [] [] p1) "__init__" p2) (e :: es) [] p3) none p4.line (ksEnv qual sc L f (.ref cda) cc) = pure false)
    {pl : Addr → Sem Bool} (hev : ∀ L : Addr, eval (.Call (.Attribute (.Call (.Name "super" p0) [] [] p1) "__init__" p2) (e :: es) [] p3) (ksEnv qual sc L f (.ref cda) cc) = (do
      let sv ← attributeBase (.Call (.Name "super" p0) [] [] p1) "__init__" (ksEnv qual sc L f (.ref cda) cc) (eval (.Call (.Name "super" p0) [] [] p1) (ksEnv qual sc L f (.ref cda) cc))
      standAt p2.atName
      let (g, fst) ← holding [sv] (getMethod sv "__init__" (pl L))
      callWith p3 g fst (backTo p3 (starEach (e :: es) (ksEnv qual sc L f (.ref cda) cc))) []))
    (hbody : ∀ (A : Around) (outer : List Env) (s : Shared) (H : Hp) (vs : List V) (Q : VK) (E : XK), Room k (A.deeper (ksEnv qual sc s.heap.objs.size f (.ref cda) cc)) → sp vs H Q E →
      ∃ (ta : TA) (t : TS) (a C : Addr) (vr : List V), PA (cxS CX P w K mg base N qual sc f (.ref cda) cc A outer s H E) (e :: es) ta ∧ PSs (cxS CX P w K mg base N qual sc f (.ref cda) cc A outer s H E) rest t ∧ vs = .ref a :: vr ∧ OexC K C ∧
        ks_superIn K C Dc "__init__" = some (some (.builtin "ValueError.__init__")) ∧ subIn K (.ref C) (.type "ValueError") = some true ∧ mroIn K C (.ref Dc) = some true ∧ H a = some (exo a C none) ∧
        ta (L2.start N vs) H fun ws H1 => ws.length ≤ 1000 ∧ H1 a = some (exo a C none) ∧ t { nx := fun _ H' => Q .non H', rt := Q } (L2.start N vs) H1) :
    FnOk P w K mg base CX (k + 1) f (ksFn name qual params (.Expr (.Call (.Attribute (.Call (.Name "super" p0) [] [] p1) "__init__" p2) (e :: es) [] p3) p4 :: rest) sc dV kV doc pm an (.ref cda) ct cc) ps sp := by
  refine ⟨len, fun A outer s H args us vs Q E hr e0 hb r hsp => ?_⟩
  have hl := len _ _ _ _ hsp
  have KX : K.In s.heap := e0.mod.kin.keeps fun b o e => (e0.bs b o e).1
  have lim : s.heap.NoLimit := e0.mod.nolimit.keeps fun b o e => (e0.bs b o e).1
  refine ks_codeAny_call_defAt hr.depth (KX _ _ lk) rfl lim (codeRec_of KX hcd) rfl hb S.nocell (fun y hy => S.par _ (List.of_mem_zip hy).1) (fun h1 ns hk => ?_) S.co S.gen S.kind
  obtain ⟨ta, t, a, C, vr, ha, ht, ev, T, hsi, hve, hmr, ea, q⟩ := hbody A outer s H vs Q E (hr.deeper _) hsp
  have I := invS (CX := CX) (E := E) (cd := .ref cda) (f := f) (qual := qual) (tk := s.toks + (ps.zip us).length) S hr.hd e0 hl r ns hk (e0.mod.kin _ _ hcell) rfl
  obtain ⟨nm, qn, N', bs, bm, sn, sub, ab, col, dd, k0, k1, k2, k3, k5, hC, hbm⟩ := T.cls
  have hcl : clsIn K C = some { name := nm, bases := bs, mro := .ref C :: bm, ns := N', qualname := qn, hasDict := true, slotNames := sn, subclasses := sub, abstract := ab, collection := col, hasDel := false } := by unfold clsIn; rw [hC]
  obtain ⟨oD, gD, dD⟩ : ∃ oD, h1.get? Dc = some oD ∧ oD.data = .cls cdD := by
    unfold clsIn at hD
    split at hD
    · rename_i c d cd' sl ho
      cases hD
      exact ⟨_, hk _ _ (KX _ _ ho), rfl⟩
    · cases hD
  have X1 : K.In h1 := KX.keeps hk
  obtain ⟨t1, hx⟩ := exo_at I.hok ea
  have hsl : L2.start N vs = some (V.ref a) :: (L2.start N vs).tail := by
    rw [ev]; rfl
  have hN0 : N[0]? = some ar.arg := by
    rw [← S.pre, List.getElem?_take] at h0
    split at h0
    · exact h0
    · cases h0
  have par0 : sc.names.lookup ar.arg = some .local := S.par _ (List.mem_of_getElem? h0)
  have self : ∀ {s' : Shared} {pins : List (Addr × Obj)} {H' : Hp}, L2.Inv (cxS CX P w K mg base N qual sc f (.ref cda) cc A outer s H E) pins (L2.start N vs) H' s' → ∃ m, s'.heap.Ns s.heap.objs.size m ∧ m ar.arg = some (.ref a) := fun {s' pins H'} J => by
    obtain ⟨m, hn, hm⟩ := J.loc
    obtain ⟨u, ru, lo⟩ := hm 0 ar.arg (.ref a) hN0 (by rw [hsl]; rfl) (.inl par0)
    obtain rfl : u = Value.ref a := ru
    rcases lo with ⟨_, z⟩ | ⟨z, _⟩
    · exact ⟨m, hn, z⟩
    · rcases z with z | z
      · exact absurd ((show sc.names.lookup ar.arg = some .cell from z).symm.trans par0) (by decide)
      · exact absurd ((show sc.names.lookup ar.arg = some .free from z).symm.trans par0) (by decide)
  have node : ∀ {Q' : Value → Shared → Prop} {E' : Value → Shared → Prop} {body : List Stmt} {whole : Sem Value}, (∀ so h2, (∀ b o, h1.get? b = some o → h2.get? b = some o) → h2.get? so = some (ks_superObj Dc a C) → Q' (.ref so) ⟨h2, s.gens, s.drawn, s.toks + (ps.zip us).length, s.os⟩) →
      _root_.PySem.wpAt (model P w) (A.deeper (ksEnv qual sc s.heap.objs.size f (.ref cda) cc)) (.func body (ksEnv qual sc s.heap.objs.size f (.ref cda) cc))
        (attributeBase (.Call (.Name "super" p0) [] [] p1) "__init__" (ksEnv qual sc s.heap.objs.size f (.ref cda) cc) whole) Q' E' ⟨h1, s.gens, s.drawn, s.toks + (ps.zip us).length, s.os⟩ := fun {Q' E' body whole} q' => by
    refine ks_wpAt_super_base (env := ksEnv qual sc s.heap.objs.size f (.ref cda) cc) S.sup S.cls (by decide) rfl (hk _ _ (KX _ _ lk)) rfl hp rfl (hk _ _ (KX _ _ hcode)) rfl hvs hfile htop ?_
    obtain ⟨mb, z1, z2⟩ := e0.mod.blt
    refine ks_loadName_global S.kind S.sup (loadGlobal_builtin (env := ksEnv qual sc s.heap.objs.size f (.ref cda) cc) (I.mod.glob.keeps I.bk) hsup (z1.keeps I.bk) ((z2 _ (by decide)).trans (by first | rfl | kernel_rfl)) ⟨rfl, ?_⟩)
    refine wpAny_loadName_free S.kind S.cls rfl ⟨_, X1 _ _ hcell, rfl⟩ ?_
    obtain ⟨m, hn, hm⟩ := self I
    refine wpAny_loadName_local S.kind par0 hn hm ?_
    refine ks_wpAny_isType_cls gD dD ⟨rfl, ?_⟩
    refine ks_wpAny_call_super gD dD hx rfl (fun c z => by cases z) (looks_mroIn X1 hmr) fun h2 q1 q2 => ?_
    exact q' _ h2 q2 q1
  show _root_.PySem.wpAt (model P w) (A.deeper (ksEnv qual sc s.heap.objs.size f (.ref cda) cc)) (.func _ (ksEnv qual sc s.heap.objs.size f (.ref cda) cc)) (execs (_ :: rest) (ksEnv qual sc s.heap.objs.size f (.ref cda) cc)) _ _ _
  refine ks_wpAt_execs_cons (ks_wpAt_Expr_any (ks_wpAt_MethodCall (node fun so h2 q1 q2 => ?_) (hev _)) (by unfold interactive; rw [S.kind]; rfl) (hsw _))
  have I2 := I.kept (t' := s.toks + (ps.zip us).length) q1
  have X2 : K.In h2 := X1.keeps q1
  have hne : a ≠ C := ks_ne X2 (show InstAt h2 a _ C none from ⟨q1 _ _ hx, rfl, rfl, trivial⟩) hcl
  have hI : Looks (model P w) h2 (isInstance (.ref a) (.type "ValueError")) true := (show InstAt h2 a _ C none from ⟨q1 _ _ hx, rfl, rfl, trivial⟩).type.andThen (looks_subIn X2 hve)
  have hal : alongIn K "__init__" (((.ref C :: bm : List Value).dropWhile (· != .ref Dc)).drop 1) = some (some (.builtin "ValueError.__init__")) := by
    unfold ks_superIn at hsi
    rw [hcl] at hsi
    exact hsi
  refine kxs_getMethod kxs_ValueError q2 (looks_opaque X2 hth) (l₀ := .ref C :: bm) (fun A Q E s k q => wpAny_bind ((looks_clsIn X2 hcl) A _ E s k (wpAny_pure q))) rfl X2 hal hI hne (by decide) ?_
  have kp : ∀ b o, h2.get? b = some o → (h2.push (kxs_mw "ValueError.__init__" a)).get? b = some o := fun b o z => Heap.get?_push_of_some _ z
  have I3 := I2.kept (t' := s.toks + (ps.zip us).length + 1) kp
  have hmw : (h2.push (kxs_mw "ValueError.__init__" a)).get? h2.objs.size = some (kxs_mw "ValueError.__init__" a) := Heap.get?_push_at rfl rfl
  have I4 : L2.Inv (cxS CX P w K mg base N qual sc f (.ref cda) cc A outer s H E) [(h2.objs.size, kxs_mw "ValueError.__init__" a)] (L2.start N vs) H ⟨h2.push (kxs_mw "ValueError.__init__" a), s.gens, s.drawn, s.toks + (ps.zip us).length + 1, s.os⟩ :=
    ⟨I3.ok, I3.os, I3.bare, I3.base, I3.loc, I3.cell, I3.free, I3.freeC, fun p hp => by
      have e5 : p = (h2.objs.size, kxs_mw "ValueError.__init__" a) := by
        rcases List.mem_append.mp hp with z | z
        · cases z
        · simpa using z
      subst e5
      exact ⟨hmw, I2.hok.fresh (Nat.le_refl _), Nat.ne_of_gt I2.lt, I2.nofs (Nat.le_refl _), fun v z => by cases z⟩, I3.hok, I3.len⟩
  refine mw_args (x := a) (hse _) (hpl _) ?_
  refine L2.thn (ha.run p3 _ _ _ H _ I4 q) fun ws s5 ⟨xs, H1, I5, r5, hz, ea5, q5⟩ => ?_
  have hm5 := (I5.pin (h2.objs.size, kxs_mw "ValueError.__init__" a) (by simp)).1
  obtain ⟨t5, hx5⟩ := exo_at I5.hok ea5
  have hlen : ws.length ≤ sizeLine := by
    rw [← Paired.length r5, sizeLine_eq]
    omega
  refine ⟨hm5, ?_⟩
  obtain ⟨hp5, g5, d5, tk5, os5⟩ := s5
  refine run_mw (I5.kIn _ _ hC) hx5 hm5 hlen fun h6 t6 k6 e6 => ?_
  have I6 := I5.write (t' := tk5) (x := a) (e := a) (o := exo a C none) (by rw [ea5]; exact True.intro) (.inl rfl) k6 ⟨_, e6⟩ (exo_ok e6)
  have eu : upd H1 a (exo a C none) = H1 := funext fun b => by
    by_cases hb : b = a
    · rw [hb, upd_same, ea5]
    · rw [upd_ne hb]
  rw [eu] at I6
  refine wpAt_of_wpAny (wpAny_mono (ht.run [] _ _ H1 _ ⟨I6.ok, I6.os, I6.bare, I6.base, I6.loc, I6.cell, I6.free, I6.freeC, fun p hp => (by cases hp), I6.hok, I6.len⟩ q5) (fun fl s' hs => ?_) fun e s' hs => hs)
  have fin : ∀ {σ' : L2.St} {H' : Hp} {v : V} {u : Value}, L2.Inv (cxS CX P w K mg base N qual sc f (.ref cda) cc A outer s H E) [] σ' H' s' → RelV v u → Q v H' → CE outer P w H s Q u s' :=
    fun {σ' H' v u} J rv q => ⟨v, H', J.os, J.bare, J.base, J.hok, rv, q⟩
  cases fl with
  | ret u =>
    obtain ⟨v, σ', H', J, rv, q⟩ := hs
    exact fin J rv q
  | next =>
    obtain ⟨σ', H', J, q⟩ := hs
    exact fin (v := V.non) (u := Value.none) J rfl q
  | brk =>
    obtain ⟨_, _, _, q⟩ := hs
    cases q
  | cont =>
    obtain ⟨_, _, _, q⟩ := hs
    cases q
end
end DL
namespace DL
open PySem L2
/-- what the __init__ of an error class promises: the fields -/
def spI (C : Addr) (ns : List Str) : Sp := fun vs H Q _ => ∃ (a : Addr) (ys : List V), vs = .ref a :: ys ∧ ys.length = ns.length ∧ H a = some (exo a C none) ∧
  ∀ (dx : Addr) (H2 : Hp), H dx = none → dx ≠ a → H2 a = some (exo a C (some dx)) → H2 dx = some (exd dx (ns.zip ys).reverse) → (∀ b, b ≠ a → b ≠ dx → H2 b = H b) → Q .non H2
/-- an error class with fields -/
def ErrC (P : Program) (w : World) (K : PySem.W.Frag) (mg : Str → Option Value) (base : Heap) (c : Str) (ns : List Str) : Prop :=
  ns.Nodup ∧ ns.length ≤ 900 ∧ ∃ (C fI : Addr) (fd : FuncData) (ps : List Str), mg c = some (.ref C) ∧ OexC K C ∧ PySem.W.findIn K (.ref C) "__init__" = some (some (.ref fI)) ∧ PySem.W.typeIn K (.ref fI) = some (.type "function") ∧
    FnOk P w K mg base CX0 1 fI fd ps (spI C ns) ∧ Binds K fd ps []
def allD : List AV → Option (List D)
  | [] => some []
  | .d d :: r => (allD r).map fun ds => d :: ds
  | .o _ :: _ => none
theorem allD_rep {K : PySem.W.Frag} {mg : Str → Option Value} {A : List Addr} {σ : L2.St} {H : Hp} : ∀ {xs : List AV} {vs : List V} {ds : List D}, AVRs K mg A σ H xs vs → allD xs = some ds → Reps K mg (off A H) ds vs
  | [], vs, ds, h, e => by cases (Option.some.inj e); rw [show vs = [] from h]; exact rfl
  | .d d :: r, vs, ds, ⟨v, vr, e1, h, t⟩, e => by
    obtain ⟨ds', e2, e3⟩ := Option.map_eq_some_iff.mp e
    cases e3
    exact ⟨v, vr, e1, h, allD_rep t e2⟩
  | .o _ :: _, _, _, _, e => by cases e
/-- raise c(..) -/
def sRaise (c : Str) (ns : List Str) (as : List Arg) : S := fun ρ => match evs as ρ with
  | .ok xs ρ' => (match allD xs with
    | some ds => if ds.length = ns.length then .exc ⟨c, ns, ds⟩ ρ' else .bad
    | none => .bad)
  | .exc e ρ' => .exc e ρ'
  | .bad => .bad
theorem zip_sub {α β : Type} : ∀ (ps : List α) (us : List β), ((ps.zip us).map (·.1)).Sublist ps
  | [], _ => by simp
  | p :: ps, [] => by simp
  | p :: ps, u :: us => by simpa using zip_sub ps us
theorem zip_look {β : Type} {ps : List Str} {us : List β} {i : Nat} {y : Str} {u : β} (nd : ps.Nodup) (h1 : ps[i]? = some y) (h2 : us[i]? = some u) : (ps.zip us).reverse.lookup y = some u := by
  refine look_mem ?_ ?_
  · rw [List.map_reverse]
    refine List.pairwise_reverse.mpr (List.Pairwise.imp (fun h => Ne.symm h) ?_)
    exact nd.sublist (zip_sub ps us)
  · rw [List.mem_reverse]
    refine List.mem_of_getElem? (i := i) ?_
    rw [List.getElem?_zip_eq_some]
    exact ⟨h1, h2⟩
section
variable {X : Cx} {x : Str} {p pos pos' : Pos} {e : Expr} {es : List Expr} {as : List Arg} {ns : List Str} {np : Nat}
theorem passes0 : Passes CX0 X (fun _ _ _ => False) := fun _ _ _ _ _ _ _ h => False.elim h
theorem ds_raise (hc : X.calm = true) (T : ErrC X.prog X.w X.K X.mg X.base x ns) (hr : Room 2 X.A) (hg : Gl X x) (ha : DA X (e :: es) as)
    (hdb : (x == ("__debug__" : Str)) = false := by decide) (he : starEach (e :: es) X.env = (false, eval e X.env) :: starEach es X.env := by rfl) (hpl : (backTo pos (starEach es X.env)).any (·.1) = false := by rfl) :
    DS X np (.Raise (some (.Call (.Name x p) (e :: es) [] pos)) none pos') (sRaise x ns as) := fun W tk => by
  obtain ⟨nd, hz, C, fI, fd, ps, hm, O, iC, tI, F, hb⟩ := T
  refine ps_imp (ps_raise hc tk.t (pmk_oex O iC tI F hr hb .nil passes0 hg hm (ha W tk) hdb he hpl)) fun E σ H ⟨w, A, ρ, hnp, R, q⟩ => ?_
  refine ⟨w, A, ρ, R, ?_⟩
  unfold sRaise at q
  cases hx : evs as ρ with
  | bad => rw [hx] at q; exact q.elim
  | exc er ρ1 => rw [hx] at q; exact fun c dd H' ex R' z => q A σ H' c dd ex.off R' z
  | ok xs ρ1 =>
    rw [hx] at q
    intro vs H1 ex R1 r1
    dsimp only at q
    cases hd : allD xs with
    | none => rw [hd] at q; exact q.elim
    | some ds =>
      rw [hd] at q
      dsimp only at q
      by_cases hl : ds.length = ns.length
      · rw [if_pos hl] at q
        have r2 := allD_rep r1 hd
        have hvl : vs.length = ns.length := by rw [← r2.length, hl]
        refine ⟨by omega, fun a na => ⟨a, vs, by simp, hvl, upd_same, fun dx H2 nx ne e1 e2 e3 => ⟨rfl, dx, _, e1, e2, ?_, ?_⟩⟩⟩
        · rwa [upd_ne ne] at nx
        · rw [upd_ne ne] at nx
          have eH : upd (L2.del H2 a) dx (.xd (ns.zip vs).reverse) = upd H1 dx (.xd (ns.zip vs).reverse) := funext fun b => by
            by_cases h1 : b = dx
            · rw [h1, upd_same, upd_same]
            · rw [upd_ne h1, upd_ne h1]
              by_cases h2 : b = a
              · rw [h2, del_same, na]
              · rw [del_ne h2, e3 b h2 h1, upd_ne h2]
          rw [eH]
          refine q A σ _ _ _ (ex.off.trans (off_Same (same_upd nx))) (R1.new nx) ⟨C, rfl, hm, .inr ⟨dx, _, rfl, upd_same, R1.notA nx, fun i n y h1 h2 => ?_⟩⟩
          obtain ⟨v, g1, g2⟩ := r2.get h2
          exact ⟨v, zip_look nd h1 g1, g2.mono (off_Same (same_upd nx))⟩
      · rw [if_neg hl] at q
        exact q.elim
end
end DL
namespace DL
open PySem L2
open PySem.W (ksFn ksEnv)
section
open PySem.W PySem.Calls PyProof.Rows
variable {P : Program} {w : World} {K : PySem.W.Frag} {mg : Str → Option Value} {base : Heap} {c qual : Str} {sc : Scope} {fI cc cda C : Addr} {params : Arguments} {p0 p1 p2 p3 p4 q1 q2 q3 q4 q5 q6 q7 q8 q9 q10 : Pos} {kV doc pm ct oc ocl ccl : Value} {an od cdd cld : Option Addr}
  {osl ccs csl : Array (Option Value)} {vs2 : Array Value} {file : Str} {tf : Tok} {ar : PySem.Arg} {f g v u : Str}
theorem errF1 (O : OexC K C) 
    (lk : K.lookup fI = some ⟨oc, od, .func (ksFn "__init__" qual params [.Expr (.Call (.Attribute (.Call (.Name "super" p0) [] [] p1) "__init__" p2) [.Name v q1] [] p3) p4, .Assign [.Attribute (.Name "self" q2) f q3] (.Name v q4) q5] sc .none kV doc pm an (.ref cda) ct cc), osl⟩)
    (hcd : codeIn K (.ref cda) qual = true) (S : SupScope ["self", v] ["self", v] sc) (hp : (params.posonlyargs ++ params.args).head? = some ar) (h0 : ar.arg = "self")
    (hcode : K.lookup cda = some ⟨ccl, cdd, .fields vs2, ccs⟩) (hvs : vs2[2]? = some (.str file tf)) (hfile : ((P.main.file : Str) == file) = true) (hcell : K.lookup cc = some ⟨ocl, cld, .cell (some (.ref C)), csl⟩) (hsup : mg "super" = none)
    (htop : (P.main.scope.names.lookup ("super" : Str)).isSome = false) (hth : nsIn K cStatics "thirdparty.any" = some none) (hsi : ks_superIn K C C "__init__" = some (some (.builtin "ValueError.__init__"))) (hve : subIn K (.ref C) (.type "ValueError") = some true)
    (hmr : mroIn K C (.ref C) = some true) (hno : findIn K (.ref C) f = some none) (hd : (v == ("__debug__" : Str)) = false) (hd2 : (v == ("__classdict__" : Str)) = false)
    {pl : Addr → Sem Bool} (hev : ∀ L : Addr, eval (.Call (.Attribute (.Call (.Name "super" p0) [] [] p1) "__init__" p2) (.Name v q1 :: []) [] p3) (ksEnv qual sc L fI (.ref cda) cc) = (do
      let sv ← attributeBase (.Call (.Name "super" p0) [] [] p1) "__init__" (ksEnv qual sc L fI (.ref cda) cc) (eval (.Call (.Name "super" p0) [] [] p1) (ksEnv qual sc L fI (.ref cda) cc))
      standAt p2.atName
      let (g, fst) ← holding [sv] (getMethod sv "__init__" (pl L))
      callWith p3 g fst (backTo p3 (starEach (.Name v q1 :: []) (ksEnv qual sc L fI (.ref cda) cc))) [])) :
    FnOk P w K mg base CX0 1 fI (ksFn "__init__" qual params [.Expr (.Call (.Attribute (.Call (.Name "super" p0) [] [] p1) "__init__" p2) [.Name v q1] [] p3) p4, .Assign [.Attribute (.Name "self" q2) f q3] (.Name v q4) q5] sc .none kV doc pm an (.ref cda) ct cc) ["self", v] (spI C [f]) := by
  have hD : ∃ cdD, clsIn K C = some cdD := by
    unfold mroIn at hmr
    cases h : clsIn K C with
    | none => rw [h] at hmr; cases hmr
    | some cd => exact ⟨cd, rfl⟩
  obtain ⟨cdD, hD⟩ := hD
  refine sup_fn (N := ["self", v]) (k := 0) (Dc := C) lk hcd S (fun vs H Q E h => ?_) hp (by rw [h0]; rfl) hcode hvs hfile hcell hD hsup htop hth (fun L => rfl) (fun L => rfl) (fun L => rfl) hev fun A outer s H vs Q E hr h => ?_
  · obtain ⟨a, ys, rfl, h1, _⟩ := h
    simp [h1]
  · obtain ⟨a, ys, rfl, h1, h2, h3⟩ := h
    obtain ⟨y, rfl⟩ : ∃ y, ys = [y] := List.length_eq_one_iff.mp h1
    refine ⟨_, _, a, C, [y], pa_cons (pe_var (i := 1) rfl (.inl (S.par _ (by simp))) hd hd2) pa_nil, pss_one (ps_ost (pe_var (i := 0) rfl (.inl (S.par _ (by simp)))) (pe_var (i := 1) rfl (.inl (S.par _ (by simp))) hd hd2)), rfl, O, hsi, hve, hmr, h2, ?_⟩
    refine ⟨y, rfl, ?_, h2, ?_⟩
    · simp
    · refine ⟨y, rfl, .ref a, rfl, a, C, rfl, O, hno, .inl ⟨h2, fun dx n ne => ?_⟩⟩
      exact h3 dx _ n ne upd_same (by rw [upd_ne ne, upd_same]; rfl) fun b b1 b2 => by rw [upd_ne b1, upd_ne b2]
theorem errC1 (hm : mg c = some (.ref C)) (O : OexC K C) (iC : findIn K (.ref C) "__init__" = some (some (.ref fI))) (tI : typeIn K (.ref fI) = some (.type "function"))
    (lk : K.lookup fI = some ⟨oc, od, .func (ksFn "__init__" qual params [.Expr (.Call (.Attribute (.Call (.Name "super" p0) [] [] p1) "__init__" p2) [.Name v q1] [] p3) p4, .Assign [.Attribute (.Name "self" q2) f q3] (.Name v q4) q5] sc .none kV doc pm an (.ref cda) ct cc), osl⟩)
    (hcd : codeIn K (.ref cda) qual = true) (S : SupScope ["self", v] ["self", v] sc) (hp : (params.posonlyargs ++ params.args).head? = some ar) (h0 : ar.arg = "self")
    (hcode : K.lookup cda = some ⟨ccl, cdd, .fields vs2, ccs⟩) (hvs : vs2[2]? = some (.str file tf)) (hfile : ((P.main.file : Str) == file) = true) (hcell : K.lookup cc = some ⟨ocl, cld, .cell (some (.ref C)), csl⟩) (hsup : mg "super" = none)
    (htop : (P.main.scope.names.lookup ("super" : Str)).isSome = false) (hth : nsIn K cStatics "thirdparty.any" = some none) (hsi : ks_superIn K C C "__init__" = some (some (.builtin "ValueError.__init__"))) (hve : subIn K (.ref C) (.type "ValueError") = some true)
    (hmr : mroIn K C (.ref C) = some true) (hno : findIn K (.ref C) f = some none) (hd : (v == ("__debug__" : Str)) = false) (hd2 : (v == ("__classdict__" : Str)) = false)
    (hb : ∀ us : List Value, us.length = 2 → bindArgs (ksFn "__init__" qual params [.Expr (.Call (.Attribute (.Call (.Name "super" p0) [] [] p1) "__init__" p2) [.Name v q1] [] p3) p4, .Assign [.Attribute (.Name "self" q2) f q3] (.Name v q4) q5] sc .none kV doc pm an (.ref cda) ct cc) ⟨us, []⟩ = pure ((["self", v] : List Str).zip us))
    {pl : Addr → Sem Bool} (hev : ∀ L : Addr, eval (.Call (.Attribute (.Call (.Name "super" p0) [] [] p1) "__init__" p2) (.Name v q1 :: []) [] p3) (ksEnv qual sc L fI (.ref cda) cc) = (do
      let sv ← attributeBase (.Call (.Name "super" p0) [] [] p1) "__init__" (ksEnv qual sc L fI (.ref cda) cc) (eval (.Call (.Name "super" p0) [] [] p1) (ksEnv qual sc L fI (.ref cda) cc))
      standAt p2.atName
      let (g, fst) ← holding [sv] (getMethod sv "__init__" (pl L))
      callWith p3 g fst (backTo p3 (starEach (.Name v q1 :: []) (ksEnv qual sc L fI (.ref cda) cc))) [])) :
    ErrC P w K mg base c [f] :=
  ⟨by simp, by show 1 ≤ 900; omega, C, fI, _, ["self", v], hm, O, iC, tI, errF1 O lk hcd S hp h0 hcode hvs hfile hcell hsup htop hth hsi hve hmr hno hd hd2 hev, .all fun us h => hb us h⟩
theorem errF2 (O : OexC K C) 
    (lk : K.lookup fI = some ⟨oc, od, .func (ksFn "__init__" qual params [.Expr (.Call (.Attribute (.Call (.Name "super" p0) [] [] p1) "__init__" p2) [.Name v q1, .Name u q6] [] p3) p4, .Assign [.Attribute (.Name "self" q2) f q3] (.Name v q4) q5, .Assign [.Attribute (.Name "self" q7) g q8] (.Name u q9) q10] sc .none kV doc pm an (.ref cda) ct cc), osl⟩)
    (hcd : codeIn K (.ref cda) qual = true) (S : SupScope ["self", v, u] ["self", v, u] sc) (hp : (params.posonlyargs ++ params.args).head? = some ar) (h0 : ar.arg = "self")
    (hcode : K.lookup cda = some ⟨ccl, cdd, .fields vs2, ccs⟩) (hvs : vs2[2]? = some (.str file tf)) (hfile : ((P.main.file : Str) == file) = true) (hcell : K.lookup cc = some ⟨ocl, cld, .cell (some (.ref C)), csl⟩) (hsup : mg "super" = none)
    (htop : (P.main.scope.names.lookup ("super" : Str)).isSome = false) (hth : nsIn K cStatics "thirdparty.any" = some none) (hsi : ks_superIn K C C "__init__" = some (some (.builtin "ValueError.__init__"))) (hve : subIn K (.ref C) (.type "ValueError") = some true)
    (hmr : mroIn K C (.ref C) = some true) (hno : findIn K (.ref C) f = some none) (hno2 : findIn K (.ref C) g = some none) (hfg : f ≠ g) (hd3 : (u == ("__debug__" : Str)) = false) (hd4 : (u == ("__classdict__" : Str)) = false) (hd : (v == ("__debug__" : Str)) = false) (hd2 : (v == ("__classdict__" : Str)) = false)
    {pl : Addr → Sem Bool} (hev : ∀ L : Addr, eval (.Call (.Attribute (.Call (.Name "super" p0) [] [] p1) "__init__" p2) (.Name v q1 :: [.Name u q6]) [] p3) (ksEnv qual sc L fI (.ref cda) cc) = (do
      let sv ← attributeBase (.Call (.Name "super" p0) [] [] p1) "__init__" (ksEnv qual sc L fI (.ref cda) cc) (eval (.Call (.Name "super" p0) [] [] p1) (ksEnv qual sc L fI (.ref cda) cc))
      standAt p2.atName
      let (g, fst) ← holding [sv] (getMethod sv "__init__" (pl L))
      callWith p3 g fst (backTo p3 (starEach (.Name v q1 :: [.Name u q6]) (ksEnv qual sc L fI (.ref cda) cc))) [])) :
    FnOk P w K mg base CX0 1 fI (ksFn "__init__" qual params [.Expr (.Call (.Attribute (.Call (.Name "super" p0) [] [] p1) "__init__" p2) [.Name v q1, .Name u q6] [] p3) p4, .Assign [.Attribute (.Name "self" q2) f q3] (.Name v q4) q5, .Assign [.Attribute (.Name "self" q7) g q8] (.Name u q9) q10] sc .none kV doc pm an (.ref cda) ct cc) ["self", v, u] (spI C [f, g]) := by
  have hD : ∃ cdD, clsIn K C = some cdD := by
    unfold mroIn at hmr
    cases h : clsIn K C with
    | none => rw [h] at hmr; cases hmr
    | some cd => exact ⟨cd, rfl⟩
  obtain ⟨cdD, hD⟩ := hD
  refine sup_fn (N := ["self", v, u]) (k := 0) (Dc := C) lk hcd S (fun vs H Q E h => ?_) hp (by rw [h0]; rfl) hcode hvs hfile hcell hD hsup htop hth (fun L => rfl) (fun L => rfl) (fun L => rfl) hev fun A outer s H vs Q E hr h => ?_
  · obtain ⟨a, ys, rfl, h1, _⟩ := h
    simp [h1]
  · obtain ⟨a, ys, rfl, h1, h2, h3⟩ := h
    obtain ⟨y, z, rfl⟩ : ∃ y z, ys = [y, z] := by
      rcases ys with _ | ⟨y, _ | ⟨z, _ | ⟨_, _⟩⟩⟩ <;> first | exact ⟨_, _, rfl⟩ | simp at h1
    have s0 : PE (cxS CX0 P w K mg base ["self", v, u] qual sc fI (.ref cda) cc A outer s H E) (.Name "self" q2) (tVar 0) := pe_var rfl (.inl (S.par _ (by simp)))
    have s0' : PE (cxS CX0 P w K mg base ["self", v, u] qual sc fI (.ref cda) cc A outer s H E) (.Name "self" q7) (tVar 0) := pe_var rfl (.inl (S.par _ (by simp)))
    have s1 : ∀ q, PE (cxS CX0 P w K mg base ["self", v, u] qual sc fI (.ref cda) cc A outer s H E) (.Name v q) (tVar 1) := fun q => pe_var rfl (.inl (S.par _ (by simp))) hd hd2
    have s2 : ∀ q, PE (cxS CX0 P w K mg base ["self", v, u] qual sc fI (.ref cda) cc A outer s H E) (.Name u q) (tVar 2) := fun q => pe_var rfl (.inl (S.par _ (by simp))) hd3 hd4
    refine ⟨_, _, a, C, [y, z], pa_cons (s1 _) (pa_cons (s2 _) pa_nil), pss_cons (ps_ost s0 (s1 _)) (pss_one (ps_ost s0' (s2 _))), rfl, O, hsi, hve, hmr, h2, ?_⟩
    refine ⟨y, rfl, z, rfl, ?_, h2, ?_⟩
    · simp
    · refine ⟨y, rfl, .ref a, rfl, a, C, rfl, O, hno, .inl ⟨h2, fun dx n ne => ?_⟩⟩
      refine ⟨z, rfl, .ref a, rfl, a, C, rfl, O, hno2, .inr ⟨dx, [(f, y)], upd_same, by rw [upd_ne ne, upd_same], by simp, ?_⟩⟩
      exact h3 dx _ n ne (by rw [upd_ne (Ne.symm ne), upd_same]) (by rw [upd_same]; rfl) fun b b1 b2 => by rw [upd_ne b2, upd_ne b1, upd_ne b2]
theorem errC2 (hm : mg c = some (.ref C)) (O : OexC K C) (iC : findIn K (.ref C) "__init__" = some (some (.ref fI))) (tI : typeIn K (.ref fI) = some (.type "function"))
    (lk : K.lookup fI = some ⟨oc, od, .func (ksFn "__init__" qual params [.Expr (.Call (.Attribute (.Call (.Name "super" p0) [] [] p1) "__init__" p2) [.Name v q1, .Name u q6] [] p3) p4, .Assign [.Attribute (.Name "self" q2) f q3] (.Name v q4) q5, .Assign [.Attribute (.Name "self" q7) g q8] (.Name u q9) q10] sc .none kV doc pm an (.ref cda) ct cc), osl⟩)
    (hcd : codeIn K (.ref cda) qual = true) (S : SupScope ["self", v, u] ["self", v, u] sc) (hp : (params.posonlyargs ++ params.args).head? = some ar) (h0 : ar.arg = "self")
    (hcode : K.lookup cda = some ⟨ccl, cdd, .fields vs2, ccs⟩) (hvs : vs2[2]? = some (.str file tf)) (hfile : ((P.main.file : Str) == file) = true) (hcell : K.lookup cc = some ⟨ocl, cld, .cell (some (.ref C)), csl⟩) (hsup : mg "super" = none)
    (htop : (P.main.scope.names.lookup ("super" : Str)).isSome = false) (hth : nsIn K cStatics "thirdparty.any" = some none) (hsi : ks_superIn K C C "__init__" = some (some (.builtin "ValueError.__init__"))) (hve : subIn K (.ref C) (.type "ValueError") = some true)
    (hmr : mroIn K C (.ref C) = some true) (hno : findIn K (.ref C) f = some none) (hno2 : findIn K (.ref C) g = some none) (hfg : f ≠ g) (hd3 : (u == ("__debug__" : Str)) = false) (hd4 : (u == ("__classdict__" : Str)) = false) (hd : (v == ("__debug__" : Str)) = false) (hd2 : (v == ("__classdict__" : Str)) = false)
    (hb : ∀ us : List Value, us.length = 3 → bindArgs (ksFn "__init__" qual params [.Expr (.Call (.Attribute (.Call (.Name "super" p0) [] [] p1) "__init__" p2) [.Name v q1, .Name u q6] [] p3) p4, .Assign [.Attribute (.Name "self" q2) f q3] (.Name v q4) q5, .Assign [.Attribute (.Name "self" q7) g q8] (.Name u q9) q10] sc .none kV doc pm an (.ref cda) ct cc) ⟨us, []⟩ = pure ((["self", v, u] : List Str).zip us))
    {pl : Addr → Sem Bool} (hev : ∀ L : Addr, eval (.Call (.Attribute (.Call (.Name "super" p0) [] [] p1) "__init__" p2) (.Name v q1 :: [.Name u q6]) [] p3) (ksEnv qual sc L fI (.ref cda) cc) = (do
      let sv ← attributeBase (.Call (.Name "super" p0) [] [] p1) "__init__" (ksEnv qual sc L fI (.ref cda) cc) (eval (.Call (.Name "super" p0) [] [] p1) (ksEnv qual sc L fI (.ref cda) cc))
      standAt p2.atName
      let (g, fst) ← holding [sv] (getMethod sv "__init__" (pl L))
      callWith p3 g fst (backTo p3 (starEach (.Name v q1 :: [.Name u q6]) (ksEnv qual sc L fI (.ref cda) cc))) [])) :
    ErrC P w K mg base c [f, g] :=
  ⟨by simp [hfg], by show 2 ≤ 900; omega, C, fI, _, ["self", v, u], hm, O, iC, tI, errF2 O lk hcd S hp h0 hcode hvs hfile hcell hsup htop hth hsi hve hmr hno hno2 hfg hd3 hd4 hd hd2 hev, .all fun us h => hb us h⟩
end
end DL
namespace DL
open PySem L2
section
variable {X : Cx} {np : Nat} {e o ix : Expr} {m mi : M D} {pos pos' : Pos}
def sPut (i : Nat) (mi m : M D) : S := fun ρ => match m ρ with
  | .ok d ρ1 => (match ρ1[i]? with
    | some (.own _) => (match mi ρ1 with
      | .ok (.int k) ρ2 => (match ρ2[i]? with
        | some (.own l) => (match ixN l.length k with
          | some j => .nx (ρ2.set i (.own (l.set j d)))
          | none => .bad)
        | _ => .bad)
      | .exc er ρ2 => .exc er ρ2
      | _ => .bad)
    | _ => .bad)
  | .exc er ρ1 => .exc er ρ1
  | .bad => .bad
theorem ds_put {i : Nat} (ho : PE X o (tVar i)) (hix : DE X ix mi) (h : DE X e m) (hp : ∀ ti : TE, PE X ix ti → PG X (.Subscript o ix pos') (gSub (tVar i) ti rSetL)) (hs : swapsWithSole [.Subscript o ix pos'] e pos.line X.env = pure false := by rfl)
    (hw : swappedStores [.Subscript o ix pos'] e X.env = pure none := by rfl) (h1 : (assignEach [.Subscript o ix pos'] X.env).map (·.2) = [assign (.Subscript o ix pos') X.env] := by rfl) : DS X np (.Assign [.Subscript o ix pos'] e pos) (sPut i mi m) := fun W tk =>
  ps_imp (ps_asg (h W tk) (hp _ (hix W tk)) hs hw h1) fun E σ H q => by
    obtain ⟨w, A, ρ, hn, R, q⟩ := tS_iff.mp q
    refine ⟨w, A, ρ, R, ?_⟩
    unfold sPut at q
    cases hm : m ρ with
    | bad => rw [hm] at q; exact q.elim
    | exc er ρ1 => rw [hm] at q; exact fun c dd H' ex R' z => q A σ H' c dd ex.off R' z
    | ok d ρ1 =>
      rw [hm] at q
      dsimp only at q
      intro v H1 ex1 R1 r1
      cases hs1 : ρ1[i]? with
      | none => rw [hs1] at q; exact q.elim
      | some s1 =>
        rw [hs1] at q
        cases s1 with
        | own l1 =>
          dsimp only at q
          obtain ⟨u, hu⟩ := R1.has hs1 rfl
          refine ⟨u, hu, w, A, ρ1, R1, ?_⟩
          cases hk : mi ρ1 with
          | bad => rw [hk] at q; exact q.elim
          | exc er ρ2 => rw [hk] at q; exact fun c dd H' ex R' z => q A σ H' c dd (ex1.trans ex).off R' z
          | ok kd ρ2 =>
            rw [hk] at q
            intro iv H2 ex2 R2 r2
            cases kd with
            | int k =>
              dsimp only at q
              cases hs2 : ρ2[i]? with
              | none => rw [hs2] at q; exact q.elim
              | some s2 =>
                rw [hs2] at q
                cases s2 with
                | own l =>
                  dsimp only at q
                  cases hj : ixN l.length k with
                  | none => rw [hj] at q; exact q.elim
                  | some j =>
                    rw [hj] at q
                    obtain ⟨p, vs, e1, hA, hh, rr⟩ := R2.slots i _ _ hs2 hu
                    cases e1
                    have rd : Rep X.K X.mg (off A H2) d v := r1.mono ex2.off
                    have R3 := (R2.put (vs := vs) (vs' := vs.set j v) (l' := l.set j d) hs2 hu (rr.set j rd)).2
                    refine ⟨p, vs, k, j, rfl, r2, hh, by rw [← rr.length]; exact hj, ?_⟩
                    refine q A σ _ ?_ R3
                    rw [off_in hA]
                    exact (ex1.trans ex2).off
                | _ => exact q.elim
            | _ => exact q.elim
        | _ => exact q.elim
end
end DL
namespace DL
open PySem L2
def Slot.isEx : Slot → Bool
  | .ex _ => true
  | _ => false
def noEx (ρ : Ev) : Bool := ρ.all fun s => !s.isEx
/-- all but the i-th -/
def noExBut (i : Nat) (ρ : Ev) : Bool := noEx (ρ.set i .no)
section
variable {K : PySem.W.Frag} {mg : Str → Option Value} {w : Wd} {A : List Addr} {ρ : Ev} {σ : L2.St} {H : Hp}
theorem noEx_at {ρ : Ev} (h : noEx ρ = true) {j : Nat} {s : Slot} (hj : ρ[j]? = some s) : s.isEx = false := by
  have := List.all_eq_true.mp h s (List.mem_of_getElem? hj)
  simpa using this
theorem SlotR.xx {xx xx' : Addr × Option Addr × Value} : ∀ {s : Slot} {o : Option V}, s.isEx = false → SlotR K mg xx A H s o → SlotR K mg xx' A H s o
  | .no, _, _, _ => trivial
  | .val _, _, _, h => h
  | .own _, _, _, h => h
  | .dic _ _, _, _, h => h
  | .inst _ _ _, _, _, h => h
  | .ex _, _, e, _ => by cases e
/-- the i-th name holds another thing, none of one's own; another error may be the caught one -/
theorem SR.reslot {i : Nat} {s0 t : Slot} {o : Option V} {y : Addr × Option Addr × Value} (R : SR K mg w A ρ σ H) (h : ρ[i]? = some s0) (ho : s0.isOwn = false) (ht : t.isOwn = false) (ne : noExBut i ρ = true) (r : SlotR K mg y A H t o) :
    SR K mg { w with xx := y } A (ρ.set i t) (σ.set i o) H := by
  have li : i < ρ.length := (List.getElem?_eq_some_iff.mp h).1
  have oth : ∀ {j : Nat} {s : Slot}, (ρ.set i t)[j]? = some s → s.isOwn = true → j ≠ i ∧ ρ[j]? = some s := fun {j s} h1 o1 => by
    by_cases hj : j = i
    · subst hj
      rw [List.getElem?_set_self li] at h1
      cases h1
      rw [ht] at o1
      cases o1
    · rw [List.getElem?_set_ne (Ne.symm hj)] at h1
      exact ⟨hj, h1⟩
  refine { len := by rw [List.length_set, List.length_set, R.len], slots := fun j s o' h1 h2 => ?_, dist := fun j k s u a h1 h2 o1 o2 e1 e2 => ?_, sub := R.sub, trk := R.trk, frame := R.frame, mine := fun j s a h1 o1 e1 => ?_, opB := R.opB, par := fun p hp => ?_ }
  · by_cases hj : j = i
    · subst hj
      rw [List.getElem?_set_self li] at h1
      rw [List.getElem?_set_self (by rw [← R.len]; exact li)] at h2
      cases h1; cases h2
      exact r
    · have nx : s.isEx = false := noEx_at ne (j := j) (s := s) (by rw [List.getElem?_set_ne (Ne.symm hj)] at h1 ⊢; exact h1)
      rw [List.getElem?_set_ne (Ne.symm hj)] at h1 h2
      exact (R.slots j s o' h1 h2).xx nx
  · obtain ⟨n1, g1⟩ := oth h1 o1
    obtain ⟨n2, g2⟩ := oth h2 o2
    rw [List.getElem?_set_ne (Ne.symm n1)] at e1
    rw [List.getElem?_set_ne (Ne.symm n2)] at e2
    exact R.dist j k s u a g1 g2 o1 o2 e1 e2
  · obtain ⟨n1, g1⟩ := oth h1 o1
    rw [List.getElem?_set_ne (Ne.symm n1)] at e1
    exact R.mine j s a g1 o1 e1
  · obtain ⟨p1, p2, s, p3, p4⟩ := R.par p hp
    have n1 : p.1 ≠ i := fun z => by
      rw [z, h] at p3
      cases p3
      rw [ho] at p4
      cases p4
    exact ⟨p1, by rw [List.getElem?_set_ne (Ne.symm n1)]; exact p2, s, by rw [List.getElem?_set_ne (Ne.symm n1)]; exact p3, p4⟩
end
/-- try: body; except .. as the i-th name: suite. known: the classes that may come; tbl: which are caught -/
def sTry (known : List Str) (tbl : Str → Bool) (i : Nat) (body suite : S) : S := fun ρ => match body ρ with
  | .exc e ρ1 => if known.contains e.c then (if tbl e.c then (match ρ1[i]? with
    | some s0 => if s0.isOwn = false ∧ noExBut i ρ1 = true then (match suite (ρ1.set i (.ex e)) with
      | .nx ρ2 => (match ρ2[i]? with
        | some s2 => if s2.isOwn = false ∧ noExBut i ρ2 = true then .nx (ρ2.set i .no) else .bad
        | none => .bad)
      | .rt d ρ2 => (match ρ2[i]? with
        | some s2 => if s2.isOwn = false ∧ noExBut i ρ2 = true then .rt d (ρ2.set i .no) else .bad
        | none => .bad)
      | .bk ρ2 => (match ρ2[i]? with
        | some s2 => if s2.isOwn = false ∧ noExBut i ρ2 = true then .bk (ρ2.set i .no) else .bad
        | none => .bad)
      | .ct ρ2 => (match ρ2[i]? with
        | some s2 => if s2.isOwn = false ∧ noExBut i ρ2 = true then .ct (ρ2.set i .no) else .bad
        | none => .bad)
      | _ => .bad) else .bad
    | none => .bad) else .exc e ρ1) else .bad
  | o => o
section
variable {X : Cx} {x n : Str} {c : Value} {i np : Nat} {body suite : List Stmt} {b0 : Stmt} {npp pos pos' : Pos} {sb ss : S} {known : List Str} {tbl : Str → Bool}
theorem ds_try_as (hc0 : X.calm = true) (hs : X.stack = X.env :: X.outer) (hf : X.env.frame = some X.env.locals) (hN : X.N.Nodup) (hi : X.N[i]? = some n) (hln : X.env.kindOf n = some .local) (hc : Names X x c)
    (htb : ∀ e ∈ known, ∀ C, X.mg e = some (.ref C) → PySem.W.exmOne X.K (.ref C) c = some (tbl e))
    (hb : ∀ (pn : List (Addr × Obj)) (xe : Value → Shared → Prop), PassesOwn (model X.prog X.w) X.A X.env xe → DSs (X.tr pn xe) np body sb)
    (hsu : ∀ (a : Addr) (oe : Obj) (cls : Value) (d : Option Addr) (pn : List (Addr × Obj)), Zc cls d oe → (∃ vs, oe.data = .fields vs) → DSs (X.suite a ((a, oe) :: pn)) np (b0 :: suite) ss) :
    DS X np (.Try body [.ExceptHandler (some (.Name x npp)) (some n) (b0 :: suite) pos'] [] [] pos) (sTry known tbl i sb ss) := fun W tk => by
  refine ps_imp (ps_try_as (i := i) (c := c) (Wout := W.x) (tb := fun W1 => tS X.K X.mg np ⟨W1, W.Z⟩ sb) (ts := fun a cls d => tS X.K X.mg np ⟨fun _ _ _ _ => False, fun w => w.xx = (a, d, cls)⟩ ss) hs hf hN hi hln hc tk.t
    (fun W1 pn xe t1 p1 => hb pn xe p1 ⟨W1, W.Z⟩ ⟨t1, fun h => ?_⟩) (fun a oe cls d pn hz hv => hsu a oe cls d pn hz hv ⟨fun _ _ _ _ => False, fun w => w.xx = (a, d, cls)⟩ ⟨?_, fun _ w hw => ?_⟩)) fun E σ H q => ?_
  · have z : X.calm = false := h
    rw [hc0] at z
    cases z
  · exact takes0
  · exact ⟨oe, by rw [hw]; rfl, by rw [hw]; exact hz.1, by rw [hw]; exact hz.2⟩
  · obtain ⟨w, A, ρ, hn, R, q⟩ := tS_iff.mp q
    refine tS_iff.mpr ⟨⟨w.1, w.2⟩, A, ρ, hn, R, ?_⟩
    unfold sTry at q
    cases hb0 : sb ρ with
    | nx ρ1 => rw [hb0] at q; exact q
    | rt d ρ1 => rw [hb0] at q; exact q
    | bk ρ1 => rw [hb0] at q; exact q
    | ct ρ1 => rw [hb0] at q; exact q
    | bad => rw [hb0] at q; exact q
    | exc e ρ1 =>
      rw [hb0] at q
      dsimp only at q
      intro A1 σ1 H1 cl dd sm1 R1 x1
      have x1' := x1
      obtain ⟨C, e1, mC, _⟩ := x1'
      by_cases hk : known.contains e.c = true
      · rw [if_pos hk] at q
        refine ⟨tbl e.c, by rw [e1]; exact htb e.c (by simpa using hk) C mC, fun hy a ha => ?_, fun hno => ?_⟩
        · rw [if_pos hy] at q
          cases h0 : ρ1[i]? with
          | none => rw [h0] at q; exact q.elim
          | some s0 =>
            rw [h0] at q
            dsimp only at q
            by_cases hg : s0.isOwn = false ∧ noExBut i ρ1 = true
            · rw [if_pos hg] at q
              have R2 : SR X.K X.mg { w.1 with xx := (a, dd, cl) } A1 (ρ1.set i (.ex e)) (σ1.set i (some (.ref a))) H1 := R1.reslot h0 hg.1 rfl hg.2 ⟨rfl, x1⟩
              refine tS_iff.mpr ⟨⟨{ w.1 with xx := (a, dd, cl) }, rfl⟩, A1, _, hn, R2, ?_⟩
              have back : ∀ {A2 : List Addr} {ρ2 : Ev} {σ2 : L2.St} {H2 : Hp} {s2 : Slot}, SR X.K X.mg { w.1 with xx := (a, dd, cl) } A2 ρ2 σ2 H2 → ρ2[i]? = some s2 → s2.isOwn = false → noExBut i ρ2 = true → SR X.K X.mg w.1 A2 (ρ2.set i .no) (σ2.set i none) H2 :=
                fun r h1 h2 h3 => r.reslot (y := w.1.xx) h1 h2 rfl h3 trivial
              cases hss : ss (ρ1.set i (.ex e)) with
              | nx ρ2 =>
                rw [hss] at q
                dsimp only at q
                cases h2 : ρ2[i]? with
                | none => rw [h2] at q; exact q.elim
                | some s2 =>
                  rw [h2] at q
                  dsimp only at q
                  by_cases hg2 : s2.isOwn = false ∧ noExBut i ρ2 = true
                  · rw [if_pos hg2] at q
                    exact fun A2 σ2 H2 sm2 r2 => q A2 _ H2 (sm1.trans sm2) (back r2 h2 hg2.1 hg2.2)
                  · rw [if_neg hg2] at q; exact q.elim
              | rt d ρ2 =>
                rw [hss] at q
                dsimp only at q
                cases h2 : ρ2[i]? with
                | none => rw [h2] at q; exact q.elim
                | some s2 =>
                  rw [h2] at q
                  dsimp only at q
                  by_cases hg2 : s2.isOwn = false ∧ noExBut i ρ2 = true
                  · rw [if_pos hg2] at q
                    exact fun A2 σ2 H2 v r2 rv => q A2 _ H2 v (back r2 h2 hg2.1 hg2.2) rv
                  · rw [if_neg hg2] at q; exact q.elim
              | bk ρ2 =>
                rw [hss] at q
                dsimp only at q
                cases h2 : ρ2[i]? with
                | none => rw [h2] at q; exact q.elim
                | some s2 =>
                  rw [h2] at q
                  dsimp only at q
                  by_cases hg2 : s2.isOwn = false ∧ noExBut i ρ2 = true
                  · rw [if_pos hg2] at q
                    exact fun A2 σ2 H2 sm2 r2 => q A2 _ H2 (sm1.trans sm2) (back r2 h2 hg2.1 hg2.2)
                  · rw [if_neg hg2] at q; exact q.elim
              | ct ρ2 =>
                rw [hss] at q
                dsimp only at q
                cases h2 : ρ2[i]? with
                | none => rw [h2] at q; exact q.elim
                | some s2 =>
                  rw [h2] at q
                  dsimp only at q
                  by_cases hg2 : s2.isOwn = false ∧ noExBut i ρ2 = true
                  · rw [if_pos hg2] at q
                    exact fun A2 σ2 H2 sm2 r2 => q A2 _ H2 (sm1.trans sm2) (back r2 h2 hg2.1 hg2.2)
                  · rw [if_neg hg2] at q; exact q.elim
              | exc e2 ρ2 => rw [hss] at q; exact q.elim
              | bad => rw [hss] at q; exact q.elim
            · rw [if_neg hg] at q; exact q.elim
        · rw [if_neg (by rw [hno]; decide)] at q
          exact q A1 σ1 H1 cl dd sm1 R1 x1
      · rw [if_neg hk] at q; exact q.elim
def exF (i : Nat) (c f : Str) : M D := fun ρ => match ρ[i]? with
  | some (.ex e) => if e.c = c then (match (e.ns.zip e.l).lookup f with
    | some d => .ok d ρ
    | none => .bad) else .bad
  | _ => .bad
theorem zip_lookI {f : Str} {d : D} : ∀ {ns : List Str} {l : List D}, (ns.zip l).lookup f = some d → ∃ j : Nat, ns[j]? = some f ∧ l[j]? = some d
  | [], _, h => by simp at h
  | _ :: _, [], h => by simp at h
  | n :: ns, x :: l, h => by
    rw [List.zip_cons_cons] at h
    by_cases e : f = n
    · subst e
      simp [List.lookup] at h
      exact ⟨0, rfl, by simp [h]⟩
    · have e' : (f == n) = false := by simpa using e
      simp only [List.lookup, e'] at h
      obtain ⟨j, h1, h2⟩ := zip_lookI h
      exact ⟨j + 1, by simpa using h1, by simpa using h2⟩
theorem de_xf {a C : Addr} {oe : Obj} {cls : Value} {d : Option Addr} {pn : List (Addr × Obj)} {e : Expr} {nm f : Str} (T : XfC X.K C) (hno : PySem.W.findIn X.K (.ref C) f = some none) (hm : X.mg nm = some (.ref C)) (hz : Zc cls d oe) (hv : ∃ vs, oe.data = .fields vs)
    (ho : PE (X.suite a ((a, oe) :: pn)) e (tVar i)) (hb : attributeBase e f X.env (eval e X.env) = eval e X.env := by rfl) : DE (X.suite a ((a, oe) :: pn)) (.Attribute e f pos) (exF i nm f) := fun W tk => pe_imp (pe_xf T hno hz hv ho hb) fun σ H Q ⟨w, A, ρ, R, q⟩ => by
  unfold exF at q
  cases hs : ρ[i]? with
  | none => rw [hs] at q; exact q.elim
  | some s0 =>
    rw [hs] at q
    cases s0 with
    | ex er =>
      dsimp only at q
      by_cases hc : er.c = nm
      · rw [if_pos hc] at q
        cases hl : (er.ns.zip er.l).lookup f with
        | none => rw [hl] at q; exact q.elim
        | some dv =>
          rw [hl] at q
          obtain ⟨o, ho', so, C', e1, e2, z⟩ := R.at' hs
          obtain ⟨oe', g1, g2, g3⟩ := tk.z rfl w.1 w.2
          obtain ⟨ga, go⟩ : a = w.1.xx.1 ∧ oe = oe' := by
            have g1' : some (a, oe) = some (w.1.xx.1, oe') := g1
            cases g1'
            exact ⟨rfl, rfl⟩
          subst go
          obtain ⟨j, j1, j2⟩ := zip_lookI hl
          refine ⟨.ref a, by rw [ho', so, ga], rfl, ?_, ?_⟩
          · rw [← hz.1, g2, e1]
            have m2 : X.mg er.c = some (.ref C') := e2
            rw [hc, hm] at m2
            cases m2
            rfl
          · rcases z with z | ⟨d', fs, y1, y2, y3, y4⟩
            · rw [z.1] at j1; simp at j1
            · obtain ⟨v, v1, v2⟩ := y4 j f dv j1 j2
              exact ⟨d', fs, v, by rw [← hz.2, g3, y1], y2, v1, q v H Ext.refl R v2⟩
      · rw [if_neg hc] at q; exact q.elim
    | _ => exact q.elim
end
end DL
namespace DL
open PySem L2
theorem un64 {k : Nat} {A : Around} (r : Room k A) : A.units + 64 < cLine := by have := r.un; omega
theorem un65 {k : Nat} {A : Around} (r : Room k A) : A.units + 65 < cLine := by have := r.un; omega
section
variable {X : Cx} {np : Nat} {e o a b : Expr} {m : M D} {as : List Arg} {pos pos' : Pos}
/-- a module's constant -/
theorem de_glob {x : Str} {d : D} {v : V} {u : Value} (hg : Gl X x) (hm : X.mg x = some u) (r : RelV v u) (hr : ∀ F, Rep X.K X.mg F d v) (hd : (x == ("__debug__" : Str)) = false := by decide) : DE X (.Name x pos) (M.ret d) := de_ret (pe_glob hg hm r hd) hr
theorem de_gint {x : Str} {i : Int} {tk : Tok} (hm : X.mg x = some (.int i tk)) (hg : Gl X x := by rfl) (hd : (x == ("__debug__" : Str)) = false := by decide) : DE X (.Name x pos) (M.ret (.int i)) := de_glob (v := .int i) hg hm ⟨tk, rfl⟩ (fun _ => rfl) hd
/-- a, b = e, e' -/
def sPar (i j : Nat) (as : List Arg) : S := fun ρ => match evs as ρ with
  | .ok xs ρ' => (match dvs xs with
    | some [d1, d2] => (match (gN i d1 ρ').bind (gN j d2) with
      | some ρ2 => .nx ρ2
      | none => .bad)
    | _ => .bad)
  | .exc er ρ' => .exc er ρ'
  | .bad => .bad
theorem gN_slot {i : Nat} {d : D} {ρ ρ1 : Ev} (h : gN i d ρ = some ρ1) : ∃ s, ρ[i]? = some s ∧ s.isOwn = false ∧ ρ1 = ρ.set i (.val d) := by
  unfold gN at h
  cases hs : ρ[i]? with
  | none => rw [hs] at h; cases h
  | some s =>
    rw [hs] at h
    cases ho : s.isOwn with
    | true => simp [ho] at h
    | false =>
      simp [ho] at h
      exact ⟨s, rfl, ho, h.symm⟩
theorem ds_par {i j : Nat} {x y : Str} {px py pt : Pos} {kt k2 pt2} (hc : X.calm = true) (hN : X.N.Nodup) (hi : X.N[i]? = some x) (hj : X.N[j]? = some y) (hij : i ≠ j) (hx : X.env.scope.names.lookup x = some .local) (hy : X.env.scope.names.lookup y = some .local) (ha : DA X [a, b] as)
    (hw : swappedStores [.Tuple [.Name x px, .Name y py] kt pt] (.Tuple [a, b] k2 pt2) X.env = pure (some [x, y]) := by rfl) (hs : swapsWithSole [.Tuple [.Name x px, .Name y py] kt pt] (.Tuple [a, b] k2 pt2) pos.line X.env = pure false := by rfl) :
    DS X np (.Assign [.Tuple [.Name x px, .Name y py] kt pt] (.Tuple [a, b] k2 pt2) pos) (sPar i j as) := fun W tk => ps_imp (ps_par hc hN hi hj hij hx hy (ha W tk) hw hs) fun E σ H q => by
  obtain ⟨w, A, ρ, hn, R, q⟩ := tS_iff.mp q
  refine ⟨w, A, ρ, R, ?_⟩
  unfold sPar at q
  cases hev : evs as ρ with
  | bad => rw [hev] at q; exact q.elim
  | exc er ρ1 => rw [hev] at q; exact fun c dd H' ex R' z => q A σ H' c dd ex.off R' z
  | ok xs ρ1 =>
    rw [hev] at q
    intro vs H1 ex R1 r1
    dsimp only at q
    cases hd : dvs xs with
    | none => rw [hd] at q; exact q.elim
    | some ds =>
      rw [hd] at q
      match ds, hd, q with
      | [d1, d2], hd, q =>
        dsimp only at q
        obtain ⟨v1, r', e1, rd1, v2, r'', e2, rd2, e3⟩ := dvs_rep r1 hd
        subst e1 e2
        rw [show r'' = [] from e3]
        cases hb : (gN i d1 ρ1).bind (gN j d2) with
        | none => rw [hb] at q; exact q.elim
        | some ρ3 =>
          rw [hb] at q
          obtain ⟨ρ2, g1, g2⟩ := Option.bind_eq_some_iff.mp hb
          obtain ⟨s1, k1, k2, rfl⟩ := gN_slot g1
          obtain ⟨s2, k3, k4, rfl⟩ := gN_slot g2
          exact ⟨v1, v2, rfl, q A _ H1 ex.off ((R1.set k1 k2 rd1).set k3 k4 rd2)⟩
      | [], hd, q => exact q.elim
      | [_], hd, q => exact q.elim
      | _ :: _ :: _ :: _, hd, q => exact q.elim
def putN (f : Str) : List Str → List Str
  | [] => [f]
  | n :: r => if n = f then f :: r else n :: putN f r
def putL {α : Type} (f : Str) (d : α) : List Str → List α → List α
  | [], _ => [d]
  | n :: r, x :: xs => if n = f then d :: xs else x :: putL f d r xs
  | _ :: _, [] => []
theorem put_zip {f : Str} {v : V} : ∀ {ns : List Str} {fvs : List V}, ns.length = fvs.length → putF f v (ns.zip fvs) = (putN f ns).zip (putL f v ns fvs) ∧ (putN f ns).length = (putL f v ns fvs).length
  | [], [], _ => ⟨rfl, rfl⟩
  | n :: r, x :: xs, h => by
    have h' : r.length = xs.length := by simpa using h
    rw [List.zip_cons_cons]
    unfold putF putN putL
    by_cases e : n = f
    · subst e; rw [if_pos rfl, if_pos rfl, if_pos rfl]; exact ⟨rfl, by simp [h']⟩
    · rw [if_neg e, if_neg e, if_neg e]
      obtain ⟨h1, h2⟩ := put_zip (f := f) (v := v) h'
      exact ⟨by rw [h1]; rfl, by simp [h2]⟩
theorem put_reps {K : PySem.W.Frag} {mg : Str → Option Value} {F : Hp} {f : Str} {d : D} {v : V} (hr : Rep K mg F d v) : ∀ {ns : List Str} {l : List D} {fvs : List V}, ns.length = fvs.length → Reps K mg F l fvs → Reps K mg F (putL f d ns l) (putL f v ns fvs)
  | [], _, _, _, _ => .cons hr .nil
  | n :: r, x :: l, fv :: fvs, h, ⟨u, us, e, r1, r2⟩ => by
    cases e
    unfold putL
    by_cases e : n = f
    · rw [if_pos e, if_pos e]; exact .cons hr r2
    · rw [if_neg e, if_neg e]; exact .cons r1 (put_reps hr (by simpa using h) r2)
  | n :: r, [], fvs, h, e => by rw [show fvs = [] from e] at h; simp at h
  | n :: r, x :: l, [], h, ⟨_, _, e, _⟩ => by cases e
def sFldSet (i : Nat) (c f : Str) (m : M D) : S := fun ρ => match m ρ with
  | .ok d ρ' => (match ρ'[i]? with
    | some (.inst c' ns l) => if c' = c ∧ ns.length < 1000 then .nx (ρ'.set i (.inst c (putN f ns) (putL f d ns l))) else .bad
    | _ => .bad)
  | .exc er ρ' => .exc er ρ'
  | .bad => .bad
theorem ds_fldset {i : Nat} {c f : Str} (ok : FldOk X.K X.mg c f) (ho : PE X o (tVar i)) (h : DE X e m) (hs : swapsWith e (some (.Attribute o f pos')) pos.line X.env = pure false := by rfl) : DS X np (.Assign [.Attribute o f pos'] e pos) (sFldSet i c f m) := fun W tk =>
  ps_imp (ps_fld ho (h W tk) hs) fun E σ H q => by
    obtain ⟨w, A, ρ, hn, R, q⟩ := tS_iff.mp q
    refine ⟨w, A, ρ, R, ?_⟩
    unfold sFldSet at q
    cases hm : m ρ with
    | bad => rw [hm] at q; exact q.elim
    | exc er ρ1 => rw [hm] at q; exact fun c dd H' ex R' z => q A σ H' c dd ex.off R' z
    | ok d ρ1 =>
      rw [hm] at q
      dsimp only at q
      intro v H1 ex1 R1 r1
      cases hs1 : ρ1[i]? with
      | none => rw [hs1] at q; exact q.elim
      | some s1 =>
        rw [hs1] at q
        cases s1 with
        | inst c' ns l =>
          dsimp only at q
          by_cases hc : c' = c ∧ ns.length < 1000
          · rw [if_pos hc] at q
            obtain ⟨hc, hlen⟩ := hc
            subst hc
            obtain ⟨ou, hu, p, C, dx, fvs, e1, hA, mC, hh, hl, rr⟩ := R1.at' hs1
            subst e1
            obtain ⟨K1, K2⟩ := ok C mC
            obtain ⟨z1, z2⟩ := put_zip (f := f) (v := v) hl
            have eo : off A (upd H1 p (.ins C dx (putF f v (ns.zip fvs)))) = off A H1 := off_in hA
            refine ⟨.ref p, hu, p, C, dx, _, rfl, hh, K1, K2, by simp; omega, q A σ _ (by rw [eo]; exact ex1.off) ?_⟩
            refine R1.upds (ps := [(i, _)]) (fun b u hb nb => ?_) fun j t hj => ?_
            · rw [upd_ne fun y => nb i _ List.mem_cons_self (by rw [y]; exact hu)]; exact hb
            · obtain ⟨rfl, rfl⟩ : j = i ∧ t = _ := by simpa using hj
              exact ⟨⟨_, hs1, rfl⟩, rfl, .ref p, hu, p, C, dx, _, rfl, hA, mC, by rw [upd_same, z1], z2, by rw [eo]; exact put_reps r1 hl rr⟩
          · rw [if_neg hc] at q; exact q.elim
        | _ => exact q.elim
end
end DL
namespace DL
open PySem L2
section
variable (P : Program) (w : World) (K : PySem.W.Frag) (mg : Str → Option Value) (base : Heap)
def DefOk (x : Str) (k : Nat) (φ : Fn) : Prop :=
  ∃ (f : Addr) (fd : FuncData) (ps : List Str), mg x = some (.ref f) ∧ PySem.W.keepIn K (.ref f) = true ∧ Binds K fd ps [] ∧ FnOk P w K mg base (L2.CX P w) k f fd ps (spD K mg φ)
def MethOk (c m : Str) (k : Nat) (φ : Fn) : Prop :=
  ∃ (C f : Addr) (fd : FuncData) (ps : List Str), mg c = some (.ref C) ∧ Cls K C ∧ Meth K C m f ∧ Binds K fd ps [] ∧ FnOk P w K mg base (L2.CX P w) k f fd ps (spD K mg φ)
def MakeOk (c : Str) (k : Nat) (φ : Fn) : Prop :=
  ∃ (C f : Addr) (fd : FuncData) (ps : List Str), mg c = some (.ref C) ∧ Mk K C f ∧ Binds K fd ps [] ∧ FnOk P w K mg base (L2.CX P w) k f fd ps (spD K mg φ)
end
section
variable {X : Cx} {k : Nat} {φ : Fn} {x m : Str} {p pos apos : Pos} {e o : Expr} {es : List Expr} {as : List Arg} {mo : M D}
theorem de_callD (D : DefOk X.prog X.w X.K X.mg X.base x k φ) (hr : Room k X.A) (ha : DA X (e :: es) as) (hg : Gl X x := by rfl) (hdb : (x == ("__debug__" : Str)) = false := by decide) (he : starEach (e :: es) X.env = (false, eval e X.env) :: starEach es X.env := by rfl)
    (hpl : (backTo pos (starEach es X.env)).any (·.1) = false := by rfl) : DE X (.Call (.Name x p) (e :: es) [] pos) (callF φ as) := by
  obtain ⟨f, fd, ps, hm, hk, hb, F⟩ := D
  exact de_call F hr hg hm hk hb ha hdb he hpl
theorem de_makeD (D : MakeOk X.prog X.w X.K X.mg X.base x k φ) (hr : Room (k + 1) X.A) (ha : DA X (e :: es) as) (hg : Gl X x := by rfl) (hdb : (x == ("__debug__" : Str)) = false := by decide) (he : starEach (e :: es) X.env = (false, eval e X.env) :: starEach es X.env := by rfl)
    (hpl : (backTo pos (starEach es X.env)).any (·.1) = false := by rfl) : DE X (.Call (.Name x p) (e :: es) [] pos) (makeF x φ as) := by
  obtain ⟨C, f, fd, ps, hC, M', hb, F⟩ := D
  exact de_make hC M' F hr hg hb ha hdb he hpl
theorem de_methD {c : Str} {pl : Sem Bool} (D : MethOk X.prog X.w X.K X.mg X.base c m k φ) (hr : Room k X.A) (ho : DE X o mo) (ha : DA X (e :: es) as) (hst : starEach (e :: es) X.env = (false, eval e X.env) :: starEach es X.env := by rfl) (hpl : (backTo pos (starEach es X.env)).any (·.1) = false := by rfl)
    (ht : eval (.Call (.Attribute o m apos) (e :: es) [] pos) X.env = (do
      let q ← eval o X.env
      standAt apos.atName
      let (g, fst) ← holding [q] (getMethod q m pl)
      callWith pos g fst (backTo pos (starEach (e :: es) X.env)) (backToKw pos (keywordEach [] X.env))) := by rfl) :
    DE X (.Call (.Attribute o m apos) (e :: es) [] pos) (methF c m φ mo as) := by
  obtain ⟨C, f, fd, ps, hC, hc, hm, hb, F⟩ := D
  exact de_meth hC hc hm F hr hb ho ha hst hpl ht
theorem de_methD0 {c : Str} {pl : Sem Bool} (D : MethOk X.prog X.w X.K X.mg X.base c m k φ) (hr : Room k X.A) (ho : DE X o mo)
    (ht : eval (.Call (.Attribute o m apos) [] [] pos) X.env = (do
      let q ← eval o X.env
      standAt apos.atName
      let (g, fst) ← holding [q] (getMethod q m pl)
      callWith pos g fst (backTo pos (starEach [] X.env)) (backToKw pos (keywordEach [] X.env))) := by rfl) :
    DE X (.Call (.Attribute o m apos) [] [] pos) (methF c m φ mo []) := by
  obtain ⟨C, f, fd, ps, hC, hc, hm, hb, F⟩ := D
  exact de_meth0 hC hc hm F hr hb ho ht
end
section
variable {P : Program} {w : World} {K : PySem.W.Frag} {mg : Str → Option Value} {base : Heap} {x c qual : Str} {st : Stmt} {f C : Addr} {fd : FuncData} {N ps : List Str} {k loc : Nat} {m : S}
theorem def_ok (F : Fun K x qual st f fd) (hm : mg x = some (.ref f)) (hb : Binds K fd ps []) (Sc : FnScope N ps (defScope st)) (hN : N.length = ps.length + loc)
    (hbody : ∀ (cdv : Value) (A : Around) (outer : List Env) (s : Shared) (H : Hp) (E : XK), Room k (A.deeper (PyProof.Rows.envOfC qual (defScope st) s.heap.objs.size f cdv)) →
      DSs (cxOf (L2.CX P w) P w K mg base N qual (defScope st) f cdv A outer s H E) ps.length (defBody st) m) : DefOk P w K mg base x (k + 1) (fnF ps.length loc m) :=
  ⟨f, fd, ps, hm, F.kp, hb, fn_ok F Sc hN hbody⟩
theorem meth_ok (F : Fun K x qual st f fd) (hC : mg c = some (.ref C)) (hc : Cls K C) (hm : Meth K C x f) (hb : Binds K fd ps []) (Sc : FnScope N ps (defScope st)) (hN : N.length = ps.length + loc)
    (hbody : ∀ (cdv : Value) (A : Around) (outer : List Env) (s : Shared) (H : Hp) (E : XK), Room k (A.deeper (PyProof.Rows.envOfC qual (defScope st) s.heap.objs.size f cdv)) →
      DSs (cxOf (L2.CX P w) P w K mg base N qual (defScope st) f cdv A outer s H E) ps.length (defBody st) m) : MethOk P w K mg base c x (k + 1) (fnF ps.length loc m) :=
  ⟨C, f, fd, ps, hC, hc, hm, hb, fn_ok F Sc hN hbody⟩
theorem make_ok (F : Fun K "__init__" qual st f fd) (hC : mg c = some (.ref C)) (hm : Mk K C f) (hb : Binds K fd ps []) (Sc : FnScope N ps (defScope st)) (hN : N.length = ps.length + loc)
    (hbody : ∀ (cdv : Value) (A : Around) (outer : List Env) (s : Shared) (H : Hp) (E : XK), Room k (A.deeper (PyProof.Rows.envOfC qual (defScope st) s.heap.objs.size f cdv)) →
      DSs (cxOf (L2.CX P w) P w K mg base N qual (defScope st) f cdv A outer s H E) ps.length (defBody st) m) : MakeOk P w K mg base c (k + 1) (fnF ps.length loc m) :=
  ⟨C, f, fd, ps, hC, hm, hb, fn_ok F Sc hN hbody⟩
theorem def_bad (F : Fun K x qual st f fd) (hm : mg x = some (.ref f)) (hb : Binds K fd ps []) : DefOk P w K mg base x k (fun _ => .bad) :=
  ⟨f, fd, ps, hm, F.kp, hb, ⟨fun vs H Q E h => by obtain ⟨B, as, a, q⟩ := h; exact q.elim, fun A outer s H args us vs Q E hr e0 hbi r h => by obtain ⟨B, as, a, q⟩ := h; exact q.elim⟩⟩
end
end DL
namespace DL
open PySem L2
abbrev addI : D → D → Option D := fun x y => match x, y with | .int i, .int j => some (.int (i + j)) | _, _ => none
theorem un64m {k : Nat} {A : Around} {v : Option Value} (r : Room k A) : (A.mark v).units + 64 < cLine := (show A.units + 64 < cLine from un64 r)
theorem un65m {k : Nat} {A : Around} {v : Option Value} (r : Room k A) : (A.mark v).units + 65 < cLine := (show A.units + 65 < cLine from un65 r)
theorem bt_int : bootBuiltins "int" = some (.type Ty.int.nm) := by decide +kernel
theorem bt_bool : bootBuiltins "bool" = some (.type Ty.bool.nm) := by decide +kernel
theorem bt_str : bootBuiltins "str" = some (.type Ty.str.nm) := by decide +kernel
theorem bt_list : bootBuiltins "list" = some (.type Ty.list.nm) := by decide +kernel
theorem bt_tuple : bootBuiltins "tuple" = some (.type Ty.tuple.nm) := by decide +kernel
section
variable {X : Cx}
theorem dgn (i : Nat) {x : Str} {pos : Pos} (hN : X.N.Nodup) (hi : X.N[i]? = some x := by rfl) (hx : Loc X.env.scope x := by first | exact Or.inl rfl | exact Or.inr rfl) (hf : X.fn x = true ∨ X.env.scope.names.lookup x = some .local := by first | exact .inl rfl | exact .inr rfl) : DG X (.Name x pos) [i] (gN i) :=
  dg_name (pg_name hN hi hx hf)
end
def isiC (c : Str) : D → Option D
  | .obj c' _ _ => if c' = c then some (.bl true) else none
  | d => d.tn.map fun _ => .bl false
structure InsF (K : PySem.W.Frag) (C : Addr) : Prop where
  cl : Cls K C
  ha : PySem.W.findIn K (.ref C) "__class__" = some (some (.builtin "object.__class__"))
  hn : PySem.W.specialIn K (.builtin "object.__class__") "__get__" = some (some (.builtin "getset_descriptor.__get__"))
  ht : PySem.W.takesIn K (.builtin "object.__class__") = some true
  hm : PySem.W.mroIn K C (.type "object") = some true
def tyNames : List String := ["NoneType", "bool", "int", "str", "list", "tuple"]
def IsCls (K : PySem.W.Frag) (mg : Str → Option Value) (c : Str) : Prop := ∃ C : Addr, mg c = some (.ref C) ∧ InsF K C ∧ tyNames.all (fun n => decide (PySem.W.kitOne K (.type n) (.ref C) = some false)) = true
section
variable {X : Cx} {a : Expr} {x : Arg} {p p2 pos : Pos}
theorem tn_mem {d : D} {n : String} (h : d.tn = some n) : n ∈ tyNames := by
  cases d <;> first | (cases (Option.some.inj h); decide) | cases h
theorem de_isiC {nm : Str} (hg : Gl X "isinstance") (hm : X.mg "isinstance" = none) (hg2 : Gl X nm) (T : IsCls X.K X.mg nm) (ha : DO X a x) (hdb : (nm == ("__debug__" : Str)) = false := by decide)
    (hs : starEach [a, .Name nm p2] X.env = (false, eval a X.env) :: starEach [.Name nm p2] X.env := by rfl) (hs2 : starEach [.Name nm p2] X.env = (false, eval (.Name nm p2) X.env) :: starEach [] X.env := by rfl)
    (hpl : (backTo pos (starEach [.Name nm p2] X.env)).any (·.1) = false := by rfl) : DE X (.Call (.Name "isinstance" p) [a, .Name nm p2] [] pos) (op1 (isiC nm) x) := by
  obtain ⟨C, mC, I, hk⟩ := T
  refine de_one (r := fun v H Q => rIsi X.K [v, .ref C] H Q) (fun ta h => pe_imp (pe_callB call_isi hg hm PyProof.Rows.boot_isinstance (pa_cons h (pa_cons (pe_glob (v := .ref C) hg2 mC rfl hdb) pa_nil hs2) hs) (he := hs) (hpl := hpl)) fun σ H Q q => q) ?_ ha
  intro A H d0 d v Q tk rx e q
  have no : ∀ n, d0.tn = some n → TyX X.K H v (.type n) → d = .bl false → rIsi X.K [v, .ref C] H Q := fun n hn ty e => by
    have k := of_decide_eq_true (List.all_eq_true.mp hk n (tn_mem hn))
    exact ⟨v, .ref C, .type n, .ref C, false, rfl, .own C, ty, k, q _ _ (Same.refl _) (by rw [e]; rfl)⟩
  cases d0 with
  | obj c' ns l =>
    have e : (if c' = nm then some (D.bl true) else none) = some d := e
    by_cases hc : c' = nm
    · rw [if_pos hc] at e
      cases (Option.some.inj e)
      obtain ⟨b, C', dx, fvs, rfl, m, hh, _⟩ := rx
      have m' : X.mg c' = some (.ref C') := m
      rw [hc, mC] at m'
      cases m'
      exact ⟨.ref b, .ref C, .ref C, .ref C, true, rfl, .own C, .base (.ins hh I.cl I.ha I.hn I.ht I.hm), by unfold PySem.W.kitOne; rw [if_pos (by simp)], q _ _ (Same.refl _) rfl⟩
    · rw [if_neg hc] at e; cases e
  | fn _ => cases e
  | non => cases (Option.some.inj e); exact no _ rfl (tyx_of rx rfl) rfl
  | bl _ => cases (Option.some.inj e); exact no _ rfl (tyx_of rx rfl) rfl
  | int _ => cases (Option.some.inj e); exact no _ rfl (tyx_of rx rfl) rfl
  | str _ => cases (Option.some.inj e); exact no _ rfl (tyx_of rx rfl) rfl
  | tup _ => cases (Option.some.inj e); exact no _ rfl (tyx_of rx rfl) rfl
  | lst _ => cases (Option.some.inj e); exact no _ rfl (tyx_of rx rfl) rfl
  | scr _ => cases (Option.some.inj e); exact no _ rfl (tyx_of rx rfl) rfl
end
/-- c is an error class that is caught with its fields fs; tbl: which of the known classes it catches -/
def ExcT (K : PySem.W.Frag) (mg : Str → Option Value) (known : List Str) (tbl : Str → Bool) (c : Str) (fs : List Str) : Prop :=
  ∃ C : Addr, mg c = some (.ref C) ∧ XfC K C ∧ (∀ f ∈ fs, PySem.W.findIn K (.ref C) f = some none) ∧ ∀ e ∈ known, ∀ C', mg e = some (.ref C') → PySem.W.exmOne K (.ref C') (.ref C) = some (tbl e)
section
variable {X : Cx} {x n : Str} {i np : Nat} {body suite : List Stmt} {b0 : Stmt} {npp pos pos' : Pos} {sb ss : S} {known : List Str} {tbl : Str → Bool} {fs : List Str}
theorem ds_tryT (T : ExcT X.K X.mg known tbl x fs) (hc0 : X.calm = true) (hs : X.stack = X.env :: X.outer) (hf : X.env.frame = some X.env.locals) (hN : X.N.Nodup) (hi : X.N[i]? = some n) (hln : X.env.kindOf n = some .local) (hg : Gl X x)
    (hb : ∀ (pn : List (Addr × Obj)) (xe : Value → Shared → Prop), PassesOwn (model X.prog X.w) X.A X.env xe → DSs (X.tr pn xe) np body sb)
    (hsu : ∀ (a : Addr) (oe : Obj) (cls : Value) (d : Option Addr) (pn : List (Addr × Obj)), Zc cls d oe → (∃ vs, oe.data = .fields vs) → DSs (X.suite a ((a, oe) :: pn)) np (b0 :: suite) ss) (hdb : (x == ("__debug__" : Str)) = false := by decide) :
    DS X np (.Try body [.ExceptHandler (some (.Name x npp)) (some n) (b0 :: suite) pos'] [] [] pos) (sTry known tbl i sb ss) := by
  obtain ⟨C, mC, _, _, h4⟩ := T
  exact ds_try_as (c := .ref C) hc0 hs hf hN hi hln ⟨hg, hdb, .inl mC⟩ h4 hb hsu
theorem de_xfT {a : Addr} {oe : Obj} {cls : Value} {d : Option Addr} {pn : List (Addr × Obj)} {e : Expr} {f : Str} (T : ExcT X.K X.mg known tbl x fs) (hff : f ∈ fs) (hz : Zc cls d oe) (hv : ∃ vs, oe.data = .fields vs)
    (ho : PE (X.suite a ((a, oe) :: pn)) e (tVar i)) (hb : attributeBase e f X.env (eval e X.env) = eval e X.env := by rfl) : DE (X.suite a ((a, oe) :: pn)) (.Attribute e f pos) (exF i x f) := by
  obtain ⟨C, mC, h2, h3, _⟩ := T
  exact de_xf h2 (h3 f hff) mC hz hv ho hb
end
end DL
namespace DL
open PySem L2
/-- what a name shall hold: a value, a new list of its own -/
inductive Y where
  | d (d : D) | o (l : List D)
section
variable {K : PySem.W.Frag} {mg : Str → Option Value} {w : Wd} {A A' : List Addr} {ρ ρ' : Ev} {σ σ' : L2.St} {H H' : Hp}
def YR (K : PySem.W.Frag) (mg : Str → Option Value) (w : Wd) (A : List Addr) (ρ : Ev) (σ : L2.St) (H : Hp) : Y → V → Prop
  | .d d, v => Rep K mg (off A H) d v
  | .o l, v => ∃ p vs, v = .ref p ∧ p ∈ A ∧ H p = some (.lst vs) ∧ Reps K mg (off A H) l vs ∧ (∀ (j : Nat) s, ρ[j]? = some s → s.isOwn = true → σ[j]? ≠ some (some (.ref p))) ∧ w.G p = none ∧ p ∉ w.B
inductive YRs (K : PySem.W.Frag) (mg : Str → Option Value) (w : Wd) (A : List Addr) (ρ : Ev) (σ : L2.St) (H : Hp) : List Y → List V → Prop
  | nil : YRs K mg w A ρ σ H [] []
  | cons {y v ys vs} : YR K mg w A ρ σ H y v → YRs K mg w A ρ σ H ys vs → (∀ l l' (k : Nat), y = .o l → ys[k]? = some (.o l') → vs[k]? ≠ some v) → YRs K mg w A ρ σ H (y :: ys) (v :: vs)
structure Grw (A : List Addr) (H : Hp) (A' : List Addr) (H' : Hp) : Prop where
  s : Same H H'
  f : Same (off A H) (off A' H')
  i : ∀ a ∈ A, a ∈ A'
theorem Grw.refl : Grw A H A H := ⟨Same.refl _, Same.refl _, fun _ h => h⟩
theorem Grw.trans {A2 : List Addr} {H2 : Hp} (a : Grw A H A' H') (b : Grw A' H' A2 H2) : Grw A H A2 H2 := ⟨a.s.trans b.s, a.f.trans b.f, fun x h => b.i x (a.i x h)⟩
theorem YR.grw (g : Grw A H A' H') : ∀ {y : Y} {v : V}, YR K mg w A ρ σ H y v → YR K mg w A' ρ σ H' y v
  | .d d, v, r => Rep.mono g.f d v r
  | .o l, v, ⟨p, vs, e, m, h, r, n1, n2, n3⟩ => ⟨p, vs, e, g.i p m, g.s _ _ h, r.mono g.f, n1, n2, n3⟩
def setAll : L2.St → List Nat → List V → L2.St
  | σ, i :: is, v :: vs => setAll (σ.set i (some v)) is vs
  | σ, _, _ => σ
def storeQ (np : Nat) : List Nat → List Y → Ev → Option Ev
  | [], [], ρ => some ρ
  | i :: is, .d d :: ys, ρ => (gN i d ρ).bind (storeQ np is ys)
  | i :: is, .o l :: ys, ρ => match ρ[i]? with
    | some _ => if np ≤ i then storeQ np is ys (ρ.set i (.own l)) else none
    | none => none
  | _, _, _ => none
theorem yrs_slot {i : Nat} {t : Slot} {u : V} : ∀ {ys : List Y} {vs : List V}, (t.isOwn = true → ∀ (k : Nat) l, ys[k]? = some (.o l) → vs[k]? ≠ some u) → YRs K mg w A ρ σ H ys vs → YRs K mg w A (ρ.set i t) (σ.set i (some u)) H ys vs
  | _, _, _, .nil => .nil
  | y :: ys, v :: vs, ht, .cons r t' d => by
    refine .cons ?_ (yrs_slot (fun o k l hk => by simpa using ht o (k + 1) l (by simpa using hk)) t') d
    cases y with
    | d x => exact r
    | o l =>
      obtain ⟨p, ws, e, m, h, rr, n1, n2, n3⟩ := r
      refine ⟨p, ws, e, m, h, rr, fun j s h1 o1 z => ?_, n2, n3⟩
      by_cases hj : j = i
      · subst hj
        by_cases lj : j < ρ.length
        · rw [List.getElem?_set_self lj] at h1
          cases h1
          by_cases ls : j < σ.length
          · rw [List.getElem?_set_self ls] at z
            cases z
            exact ht o1 0 l (by simp) (by simp [e])
          · rw [List.getElem?_eq_none (by simpa using ls)] at z; cases z
        · rw [List.getElem?_eq_none (by simpa using lj)] at h1; cases h1
      · rw [List.getElem?_set_ne (Ne.symm hj)] at h1 z
        exact n1 j s h1 o1 z
theorem store_all {np : Nat} (hn : w.np = np) : ∀ {is : List Nat} {ys : List Y} {vs : List V} {ρ ρ' : Ev} {σ : L2.St}, SR K mg w A ρ σ H → YRs K mg w A ρ σ H ys vs → storeQ np is ys ρ = some ρ' → SR K mg w A ρ' (setAll σ is vs) H
  | [], [], _, ρ, ρ', σ, R, .nil, e => by cases (Option.some.inj e); exact R
  | [], _ :: _, _, ρ, ρ', σ, R, _, e => by cases e
  | _ :: _, [], _, ρ, ρ', σ, R, _, e => by cases e
  | i :: is, .d d :: ys, v :: vs, ρ, ρ', σ, R, .cons r t di, e => by
    have e : (gN i d ρ).bind (storeQ np is ys) = some ρ' := e
    obtain ⟨ρ1, e1, e2⟩ := Option.bind_eq_some_iff.mp e
    obtain ⟨s, k1, k2, rfl⟩ := gN_slot e1
    show SR K mg w A ρ' (setAll (σ.set i (some v)) is vs) H
    exact store_all hn (R.set k1 k2 r) (yrs_slot (t := .val d) (fun o => Bool.noConfusion o) t) e2
  | i :: is, .o l :: ys, v :: vs, ρ, ρ', σ, R, .cons r t di, e => by
    have e : (match ρ[i]? with
      | some _ => if np ≤ i then storeQ np is ys (ρ.set i (.own l)) else none
      | none => none) = some ρ' := e
    cases hs : ρ[i]? with
    | none => rw [hs] at e; cases e
    | some s0 =>
      rw [hs] at e
      dsimp only at e
      by_cases hi : np ≤ i
      · rw [if_pos hi] at e
        obtain ⟨p, ws, rfl, m, h, rr, n1, n2, n3⟩ := r
        show SR K mg w A ρ' (setAll (σ.set i (some (.ref p))) is vs) H
        exact store_all hn (R.hold hs (by omega) h m rr n1 n2 n3) (yrs_slot (fun _ k l' hk => di l l' k rfl hk) t) e
      · rw [if_neg hi] at e; cases e
end
inductive QA where
  | k (d : D) | x (i : Nat) | n (ds : List D) | l (ds : List D)
def QA.ev (ρ : Ev) : QA → Option Y
  | .k d => some (.d d)
  | .x i => match ρ[i]? with
    | some (.val d) => some (.d d)
    | _ => none
  | .n ds => if ds.length ≤ sizeLine then some (.o ds) else none
  | .l ds => if ds.length ≤ sizeLine then some (.d (.lst ds)) else none
def evQ (ρ : Ev) : List QA → Option (List Y)
  | [] => some []
  | q :: qs => (q.ev ρ).bind fun y => (evQ ρ qs).map fun ys => y :: ys
/-- the reading of a quiet row -/
def tQ (K : PySem.W.Frag) (mg : Str → Option Value) (qs : List QA) : TA := fun σ H Q => ∃ w A ρ, SR K mg w A ρ σ H ∧ match evQ ρ qs with
  | some ys => ∀ vs A' H', Grw A H A' H' → SR K mg w A' ρ σ H' → YRs K mg w A' ρ σ H' ys vs → (∀ (k : Nat) l v, ys[k]? = some (.o l) → vs[k]? = some v → ∃ p, v = .ref p ∧ H p = none) → Q vs H'
  | none => False
def DQ (X : Cx) (es : List Expr) (qs : List QA) : Prop := PA X es (tQ X.K X.mg qs)
section
variable {X : Cx} {e : Expr} {es : List Expr} {qs : List QA} {pos : Pos}
theorem dq_nil : DQ X [] [] := pa_imp pa_nil fun σ H Q ⟨w, A, ρ, R, q⟩ => q [] A H .refl R .nil (fun k l v h => by simp at h)
/-- a value that is there -/
theorem dq_v {q : QA} {te : TE} {y : D} (he : PE X e te) (t : DQ X es qs) (hev : ∀ ρ y, q.ev ρ = some y → ∃ d, y = .d d)
    (hr : ∀ w A ρ σ H (Q : VK) d, SR X.K X.mg w A ρ σ H → q.ev ρ = some (.d d) → (∀ v, Rep X.K X.mg (off A H) d v → Q v H) → te σ H Q) (hs : starEach (e :: es) X.env = (false, eval e X.env) :: starEach es X.env := by rfl) : DQ X (e :: es) (q :: qs) :=
  pa_imp (pa_cons he t hs) fun σ H Q ⟨w, A, ρ, R, z⟩ => by
    have e0 : evQ ρ (q :: qs) = (q.ev ρ).bind fun y => (evQ ρ qs).map fun ys => y :: ys := rfl
    rw [e0] at z
    cases h1 : q.ev ρ with
    | none => rw [h1] at z; exact z.elim
    | some y =>
      rw [h1] at z
      obtain ⟨d, rfl⟩ := hev ρ y h1
      refine hr w A ρ σ H _ d R h1 fun v rv => ⟨w, A, ρ, R, ?_⟩
      cases h2 : evQ ρ qs with
      | none => rw [h2] at z; exact z.elim
      | some ys =>
        rw [h2] at z
        intro vs A' H' g R' rs fr
        refine z (v :: vs) A' H' g R' (.cons (Rep.mono g.f d v rv) rs fun l l' k e => by cases e) fun k l u hk hu => ?_
        cases k with
        | zero => simp at hk
        | succ k => exact fr k l u (by simpa using hk) (by simpa using hu)
theorem dq_k {d : D} {v : V} (he : PE X e (tC v)) (hd : ∀ F, Rep X.K X.mg F d v) (t : DQ X es qs) (hs : starEach (e :: es) X.env = (false, eval e X.env) :: starEach es X.env := by rfl) : DQ X (e :: es) (.k d :: qs) :=
  dq_v (y := d) he t (fun ρ y h => ⟨d, (Option.some.inj h).symm⟩) (fun w A ρ σ H Q d' R h q => by cases (Option.some.inj h); exact q v (hd _)) hs
theorem dq_int {i : Int} {j} (t : DQ X es qs) (hs : starEach (.Constant (.int i) j pos :: es) X.env = (false, eval (.Constant (.int i) j pos) X.env) :: starEach es X.env := by rfl) : DQ X (.Constant (.int i) j pos :: es) (.k (.int i) :: qs) := dq_k pe_int (fun _ => rfl) t hs
theorem dq_bl {i : Bool} {j} (t : DQ X es qs) (hs : starEach (.Constant (.bool i) j pos :: es) X.env = (false, eval (.Constant (.bool i) j pos) X.env) :: starEach es X.env := by rfl) : DQ X (.Constant (.bool i) j pos :: es) (.k (.bl i) :: qs) := dq_k pe_bl (fun _ => rfl) t hs
theorem dq_non {j} (t : DQ X es qs) (hs : starEach (.Constant .none j pos :: es) X.env = (false, eval (.Constant .none j pos) X.env) :: starEach es X.env := by rfl) : DQ X (.Constant .none j pos :: es) (.k .non :: qs) := dq_k pe_non (fun _ => rfl) t hs
theorem dq_var {i : Nat} (he : PE X e (tVar i)) (t : DQ X es qs) (hs : starEach (e :: es) X.env = (false, eval e X.env) :: starEach es X.env := by rfl) : DQ X (e :: es) (.x i :: qs) :=
  dq_v (y := .non) he t (fun ρ y h => by
    have h : (match ρ[i]? with
      | some (.val d) => some (Y.d d)
      | _ => none) = some y := h
    split at h
    · rename_i d hd; exact ⟨d, (Option.some.inj h).symm⟩
    · cases h) (fun w A ρ σ H Q d' R h q => by
    have h : (match ρ[i]? with
      | some (.val d) => some (Y.d d)
      | _ => none) = some (.d d') := h
    split at h
    · rename_i d hd
      cases (Option.some.inj h)
      obtain ⟨v, h1, h2⟩ := R.val hd
      exact ⟨v, h1, q v h2⟩
    · cases h) hs
/-- a new list of constants -/
inductive Cs (X : Cx) : List Expr → List D → Prop
  | nil : Cs X [] []
  | cons {e es d ds v} : PE X e (tC v) → (∀ F, Rep X.K X.mg F d v) → starEach (e :: es) X.env = (false, eval e X.env) :: starEach es X.env → Cs X es ds → Cs X (e :: es) (d :: ds)
theorem Cs.pa {es : List Expr} {ds : List D} (c : Cs X es ds) : ∃ vs, PA X es (fun _ H Q => Q vs H) ∧ ∀ F, Reps X.K X.mg F ds vs := by
  induction c with
  | nil => exact ⟨[], pa_nil, fun _ => rfl⟩
  | @cons e es d ds v he hd hs _ ih =>
    obtain ⟨vs, h1, h2⟩ := ih
    exact ⟨v :: vs, pa_imp (pa_cons he h1 hs) fun σ H Q q => q, fun F => .cons (hd F) (h2 F)⟩
theorem dq_new {es0 : List Expr} {ds : List D} (c : Cs X es0 ds) (t : DQ X es qs) (hs : starEach (.List es0 pos :: es) X.env = (false, eval (.List es0 pos) X.env) :: starEach es X.env := by rfl) : DQ X (.List es0 pos :: es) (.n ds :: qs) := by
  obtain ⟨ws, h1, h2⟩ := c.pa
  refine pa_imp (pa_cons (pe_lst h1) t hs) fun σ H Q ⟨w, A, ρ, R, z⟩ => ?_
  have e0 : evQ ρ (.n ds :: qs) = (if ds.length ≤ sizeLine then some (Y.o ds) else none).bind fun y => (evQ ρ qs).map fun ys => y :: ys := rfl
  rw [e0] at z
  by_cases hl : ds.length ≤ sizeLine
  · rw [if_pos hl] at z
    refine ⟨by rw [← (h2 (fun _ => none)).length]; exact hl, fun p hp => ?_⟩
    have nB : p ∉ w.B := fun y => R.trk p (R.sub p y) hp
    have R1 : SR X.K X.mg w (p :: A) ρ σ (upd H p (.lst ws)) := R.growA hp
    have g1 : Grw A H (p :: A) (upd H p (.lst ws)) := ⟨same_upd hp, by rw [off_cons hp]; exact Same.refl _, fun a ha => List.mem_cons_of_mem _ ha⟩
    refine ⟨w, p :: A, ρ, R1, ?_⟩
    cases h3 : evQ ρ qs with
    | none => rw [h3] at z; exact z.elim
    | some ys =>
      rw [h3] at z
      intro vs A' H' g R' rs fr
      have y1 : YR X.K X.mg w (p :: A) ρ σ (upd H p (.lst ws)) (.o ds) (.ref p) := ⟨p, ws, rfl, List.mem_cons_self, upd_same, h2 _, R.stood hp, R.noG hp, nB⟩
      refine z (.ref p :: vs) A' H' (g1.trans g) R' (.cons (y1.grw g) rs fun l l' k e1 hk hv => ?_) fun k l v hk hv => ?_
      · obtain ⟨p', e2, n2⟩ := fr k l' _ hk hv
        cases e2
        rw [upd_same] at n2
        cases n2
      · cases k with
        | zero => simp at hv; exact ⟨p, hv.symm, hp⟩
        | succ k =>
          obtain ⟨p', e2, n2⟩ := fr k l v (by simpa using hk) (by simpa using hv)
          refine ⟨p', e2, ?_⟩
          by_cases hq : p' = p
          · rw [hq]; exact hp
          · rwa [upd_ne hq] at n2
  · rw [if_neg hl] at z; exact z.elim
/-- a new list, as a value -/
theorem dq_lst {es0 : List Expr} {ds : List D} (c : Cs X es0 ds) (t : DQ X es qs) (hs : starEach (.List es0 pos :: es) X.env = (false, eval (.List es0 pos) X.env) :: starEach es X.env := by rfl) : DQ X (.List es0 pos :: es) (.l ds :: qs) := by
  obtain ⟨ws, h1, h2⟩ := c.pa
  refine pa_imp (pa_cons (pe_lst h1) t hs) fun σ H Q ⟨w, A, ρ, R, z⟩ => ?_
  have e0 : evQ ρ (.l ds :: qs) = (if ds.length ≤ sizeLine then some (Y.d (.lst ds)) else none).bind fun y => (evQ ρ qs).map fun ys => y :: ys := rfl
  rw [e0] at z
  by_cases hl : ds.length ≤ sizeLine
  · rw [if_pos hl] at z
    refine ⟨by rw [← (h2 (fun _ => none)).length]; exact hl, fun p hp => ?_⟩
    have R1 : SR X.K X.mg w A ρ σ (upd H p (.lst ws)) := R.new hp
    have g1 : Grw A H A (upd H p (.lst ws)) := ⟨same_upd hp, off_Same (same_upd hp), fun a ha => ha⟩
    refine ⟨w, A, ρ, R1, ?_⟩
    cases h3 : evQ ρ qs with
    | none => rw [h3] at z; exact z.elim
    | some ys =>
      rw [h3] at z
      intro vs A' H' g R' rs fr
      have y1 : YR X.K X.mg w A ρ σ (upd H p (.lst ws)) (.d (.lst ds)) (.ref p) := ⟨p, ws, rfl, off_at upd_same (R.notA hp), h2 _⟩
      refine z (.ref p :: vs) A' H' (g1.trans g) R' (.cons (y1.grw g) rs fun l l' k e1 => by cases e1) fun k l v hk hv => ?_
      cases k with
      | zero => simp at hk
      | succ k =>
        obtain ⟨p', e2, n2⟩ := fr k l v (by simpa using hk) (by simpa using hv)
        refine ⟨p', e2, ?_⟩
        by_cases hq : p' = p
        · rw [hq]; exact hp
        · rwa [upd_ne hq] at n2
  · rw [if_neg hl] at z; exact z.elim
def oneQ (m : Option (M D)) (qs : List QA) : M (List Y) := fun ρ => match m with
  | none => (match evQ ρ qs with
    | some ys => .ok ys ρ
    | none => .bad)
  | some m => (match m ρ with
    | .ok d ρ' => (match evQ ρ' qs with
      | some ys => .ok (.d d :: ys) ρ'
      | none => .bad)
    | .exc e ρ' => .exc e ρ'
    | .bad => .bad)
def tR (K : PySem.W.Frag) (mg : Str → Option Value) (W : WZ) (m : Option (M D)) (qs : List QA) : TA := fun σ H Q => ∃ (w : WS W) (A : List Addr) (ρ : Ev), SR K mg w A ρ σ H ∧ match oneQ m qs ρ with
  | .ok ys ρ' => ∀ vs A' H', Same (off A H) (off A' H') → SR K mg w A' ρ' σ H' → YRs K mg w A' ρ' σ H' ys vs → Q vs H'
  | .exc e ρ' => ∀ c dd H', Ext A H H' → SR K mg w A ρ' σ H' → ExR K mg A H' e c dd → W c dd σ H'
  | .bad => False
def DR (X : Cx) (es : List Expr) (m : Option (M D)) (qs : List QA) : Prop := ∀ W : WZ, TakesZ X W → PA X es (tR X.K X.mg W m qs)
theorem dr_q (h : DQ X es qs) : DR X es none qs := fun W tk => pa_imp h fun σ H Q ⟨w, A, ρ, R, z⟩ => by
  refine ⟨w, A, ρ, R, ?_⟩
  unfold oneQ at z
  dsimp only at z
  cases h1 : evQ ρ qs with
  | none => rw [h1] at z; exact z.elim
  | some ys => rw [h1] at z; exact fun vs A' H' g R' rs _ => z vs A' H' g.f R' rs
theorem dr_v {m : M D} (he : DE X e m) (h : DQ X es qs) (hs : starEach (e :: es) X.env = (false, eval e X.env) :: starEach es X.env := by rfl) : DR X (e :: es) (some m) qs := fun W tk => pa_imp (pa_cons (he W tk) h hs) fun σ H Q ⟨w, A, ρ, R, z⟩ => by
  refine ⟨w, A, ρ, R, ?_⟩
  unfold oneQ at z
  dsimp only at z
  cases h1 : m ρ with
  | bad => rw [h1] at z; exact z.elim
  | exc er ρ1 => rw [h1] at z; exact z
  | ok d ρ1 =>
    rw [h1] at z
    dsimp only at z
    intro v H1 ex1 R1 r1
    refine ⟨w, A, ρ1, R1, ?_⟩
    cases h2 : evQ ρ1 qs with
    | none => rw [h2] at z; exact z.elim
    | some ys => rw [h2] at z; exact fun vs A' H' g R' rs _ => z (v :: vs) A' H' (ex1.off.trans g.f) R' (.cons (Rep.mono g.f d v r1) rs fun l l' k e => by cases e)
def sRow (np : Nat) (is : List Nat) (m : Option (M D)) (qs : List QA) : S := fun ρ => match oneQ m qs ρ with
  | .ok ys ρ' => (match storeQ np is ys ρ' with
    | some ρ2 => .nx ρ2
    | none => .bad)
  | .exc e ρ' => .exc e ρ'
  | .bad => .bad
theorem yrs_len {K : PySem.W.Frag} {mg : Str → Option Value} {w : Wd} {A : List Addr} {ρ : Ev} {σ : L2.St} {H : Hp} : ∀ {ys : List Y} {vs : List V}, YRs K mg w A ρ σ H ys vs → ys.length = vs.length
  | _, _, .nil => rfl
  | _, _, .cons _ t _ => by simp [yrs_len t]
theorem storeQ_len {np : Nat} : ∀ {is : List Nat} {ys : List Y} {ρ ρ' : Ev}, storeQ np is ys ρ = some ρ' → is.length = ys.length
  | [], [], _, _, _ => rfl
  | [], _ :: _, _, _, h => by cases h
  | _ :: _, [], _, _, h => by cases h
  | i :: is, .d d :: ys, ρ, ρ', h => by
    have h : (gN i d ρ).bind (storeQ np is ys) = some ρ' := h
    obtain ⟨ρ1, _, e2⟩ := Option.bind_eq_some_iff.mp h
    simp [storeQ_len e2]
  | i :: is, .o l :: ys, ρ, ρ', h => by
    have h : (match ρ[i]? with
      | some _ => if np ≤ i then storeQ np is ys (ρ.set i (.own l)) else none
      | none => none) = some ρ' := h
    cases hs : ρ[i]? with
    | none => rw [hs] at h; cases h
    | some s0 =>
      rw [hs] at h
      dsimp only at h
      split at h
      · simp [storeQ_len h]
      · cases h
theorem row_end {W : WZ} {E : Ends} {np : Nat} {is : List Nat} {m : Option (M D)} {σ : L2.St} {H : Hp} {G : List V → Hp → Prop} (q : tS X.K X.mg np W (sRow np is m qs) E σ H) (hG : ∀ vs H1, vs.length = is.length → E.nx (setAll σ is vs) H1 → G vs H1) : tR X.K X.mg W m qs σ H G := by
  obtain ⟨w, A, ρ, hn, R, q⟩ := tS_iff.mp q
  refine ⟨w, A, ρ, R, ?_⟩
  unfold sRow at q
  cases h1 : oneQ m qs ρ with
  | bad => rw [h1] at q; exact q.elim
  | exc e ρ1 => rw [h1] at q; exact fun c dd H' ex R' z => q A σ H' c dd ex.off R' z
  | ok ys ρ1 =>
    rw [h1] at q
    dsimp only at q
    intro vs A1 H1 sm R1 rs
    cases h2 : storeQ np is ys ρ1 with
    | none => rw [h2] at q; exact q.elim
    | some ρ2 =>
      rw [h2] at q
      exact hG vs H1 (by rw [← yrs_len rs, storeQ_len h2]) (q A1 _ H1 sm (store_all hn R1 rs h2))
theorem ds_row2 {np i j : Nat} {x y : Str} {a b : Expr} {px py pt : Pos} {kt k2 pt2} {m : Option (M D)} (hc : X.calm = true) (hN : X.N.Nodup) (hi : X.N[i]? = some x) (hj : X.N[j]? = some y) (hij : i ≠ j) (hx : X.env.scope.names.lookup x = some .local) (hy : X.env.scope.names.lookup y = some .local) (ha : DR X [a, b] m qs)
    (hw : swappedStores [.Tuple [.Name x px, .Name y py] kt pt] (.Tuple [a, b] k2 pt2) X.env = pure (some [x, y]) := by rfl) (hs : swapsWithSole [.Tuple [.Name x px, .Name y py] kt pt] (.Tuple [a, b] k2 pt2) pos.line X.env = pure false := by rfl) :
    DS X np (.Assign [.Tuple [.Name x px, .Name y py] kt pt] (.Tuple [a, b] k2 pt2) pos) (sRow np [i, j] m qs) := fun W tk => ps_imp (ps_par hc hN hi hj hij hx hy (ha W tk) hw hs) fun E σ H q => row_end q fun vs H1 hl q => by
  match vs, hl, q with
  | [v, u], _, q => exact ⟨v, u, rfl, q⟩
theorem ds_row3 {np i j l : Nat} {x y z : Str} {a b c : Expr} {px py pz pt : Pos} {kt k2 pt2} {m : Option (M D)} (hc : X.calm = true) (hN : X.N.Nodup) (hi : X.N[i]? = some x) (hj : X.N[j]? = some y) (hl : X.N[l]? = some z) (hij : i ≠ j) (hil : i ≠ l) (hjl : j ≠ l) (hx : X.env.scope.names.lookup x = some .local)
    (hy : X.env.scope.names.lookup y = some .local) (hz : X.env.scope.names.lookup z = some .local) (ha : DR X [a, b, c] m qs)
    (hw : swappedStores [.Tuple [.Name x px, .Name y py, .Name z pz] kt pt] (.Tuple [a, b, c] k2 pt2) X.env = pure (some [x, y, z]) := by rfl) (hs : swapsWithSole [.Tuple [.Name x px, .Name y py, .Name z pz] kt pt] (.Tuple [a, b, c] k2 pt2) pos.line X.env = pure false := by rfl) :
    DS X np (.Assign [.Tuple [.Name x px, .Name y py, .Name z pz] kt pt] (.Tuple [a, b, c] k2 pt2) pos) (sRow np [i, j, l] m qs) := fun W tk => ps_imp (ps_par3 hc hN hi hj hl hij hil hjl hx hy hz (ha W tk) hw hs) fun E σ H q => row_end q fun vs H1 hl q => by
  match vs, hl, q with
  | [u, v, t], _, q => exact ⟨u, v, t, rfl, q⟩
/-- names in a row as targets -/
def gAll : List Nat → TGs
  | [] => gNil
  | i :: is => gCons (gName i) (gAll is)
theorem gAll_run {Q : L2.St → Hp → Prop} {H : Hp} : ∀ {is : List Nat} {vs : List V} {σ : L2.St}, vs.length = is.length → Q (setAll σ is vs) H → gAll is vs σ H Q
  | [], [], _, _, q => ⟨rfl, q⟩
  | [], _ :: _, _, h, _ => by simp at h
  | _ :: _, [], _, h, _ => by simp at h
  | i :: is, v :: vs, σ, h, q => ⟨v, vs, rfl, gAll_run (by simpa using h) q⟩
theorem ds_rowN {np : Nat} {is : List Nat} {ts es : List Expr} {pt : Pos} {kt k2 pt2} {m : Option (M D)} (hc : X.calm = true) (ht : PGs X ts (gAll is)) (hl : is.length ≤ sizeLine) (ha : DR X es m qs) (hn : (assignEach ts X.env).length = is.length := by rfl) (hst : (assignEach ts X.env).findIdx? (·.1) = none := by rfl)
    (hs : swapsWithSole [.Tuple ts kt pt] (.Tuple es k2 pt2) pos.line X.env = pure false := by rfl) (hw : swappedStores [.Tuple ts kt pt] (.Tuple es k2 pt2) X.env = pure none := by rfl) (h1 : (assignEach [.Tuple ts kt pt] X.env).map (·.2) = [assign (.Tuple ts kt pt) X.env] := by rfl) :
    DS X np (.Assign [.Tuple ts kt pt] (.Tuple es k2 pt2) pos) (sRow np is m qs) := fun W tk => by
  refine ⟨fun pins s σ H E I q => (ps_asg (pe_tup (ha W tk)) (pg_tup hc ht hn hst) hs hw h1).run pins s σ H E I ?_⟩
  obtain ⟨w, A, ρ, hnp, R, q⟩ := tS_iff.mp q
  refine ⟨w, A, ρ, R, ?_⟩
  unfold sRow at q
  cases h1 : oneQ m qs ρ with
  | bad => rw [h1] at q; exact q.elim
  | exc e ρ1 => rw [h1] at q; exact fun c dd H' ex R' z => q A σ H' c dd ex.off R' z
  | ok ys ρ1 =>
    rw [h1] at q
    dsimp only at q
    intro vs A1 H1 sm R1 rs
    cases h2 : storeQ np is ys ρ1 with
    | none => rw [h2] at q; exact q.elim
    | some ρ2 =>
      rw [h2] at q
      have hvl : vs.length = is.length := by rw [← yrs_len rs, storeQ_len h2]
      refine ⟨by omega, fun p hp => ⟨p, vs, rfl, .inl (.inl upd_same), hvl, gAll_run hvl ?_⟩⟩
      refine q A1 _ _ (sm.trans (off_Same (same_upd hp))) ?_
      exact (store_all hnp R1 rs h2).new hp
end
end DL
namespace DL
open PySem L2
section
open PySem.W PySem.Calls PyProof.Rows Builtin
variable {prog : Program} {w : World} {A : Around} {E : Value → Shared → Prop} {s : Shared} {K : Frag} {h₀ : Heap} {L x C f : Addr} {m : Str → Option Value} {ox : Obj} {od : Option Obj} {b tb : Value}
/-- a slot of object, by an instance -/
theorem slot_bound {id name : String} {args : List Value} {Q : Option Value → Shared → Prop} (X : K.In s.heap) (I : InstAt s.heap x ox C od) (hs : findIn K (.ref C) name = some (some (.builtin id))) (S : PySem.Slot "object" name id)
    (go : wpAny (model prog w) A (call (.builtin id) (.ref x :: args)) (fun v => Q (some v)) E s) : wpAny (model prog w) A (callSpecialIfBound? (.ref x) name args) Q E s := by
  simp only [callSpecialIfBound?, bindSpecialIfBound?]
  refine wpAny_holding (wpAny_bind (wpAny_bind (wpAny_bind (I.type.here ((looks_findIn X hs).here ?_)))))
  simp only [S.bind]
  have fin : wpAny (model prog w) A (call (.builtin id) ([.ref x] ++ args) >>= fun v => pure (some v)) Q E s := wpAny_bind (wpAny_mono go (fun v s' q => wpAny_pure q) fun _ _ q => q)
  refine wpAny_bind (wpAny_askSetting (wpAny_ite ?_))
  split
  · exact wpAny_bind (wpAny_pure (wpAny_pure fin))
  · exact wpAny_tryCatch (wpAny_bind (wpAny_pure (wpAny_pure fin)))
/-- object.__ne__ asks __eq__ -/
theorem call_ne {Q : Value → Shared → Prop} (X : K.In s.heap) (I : InstAt s.heap x ox C od) (ho : mroIn K C (.type "object") = some true) (hs : findIn K (.ref C) "__eq__" = some (some (.ref f))) (hf : isFn K (.ref f) = true) (hu : A.units + 1 < cLine)
    (go : wpAny (model prog w) A.in1 (call (.ref f) [.ref x, b]) (fun v s' => ∃ k, v = .bool k ∧ Q (.bool (!k)) s') E s) : wpAny (model prog w) A (call (.builtin "object.__ne__") [.ref x, b]) Q E s := by
  have sub : Looks (model prog w) s.heap (isInstance (.ref x) (.type "object")) true := I.type.andThen (looks_mroIn X ho)
  refine wpAny_call (codeAny_call_builtin F.cmp_object.ne.plain F.cmpEntry_ne (@check_slot (model prog w) _ _ s "object.__ne__" "object" "__ne__" (.ref x) [b] [] _ F.cmpKind_ne F.cmpSplit_ne sub (F.cmpArgs_ne _ _) ?_))
  unfold Builtin.«object.__ne__»
  repeat (first
    | with_reducible refine wpAny_cRoomFor (show A.in1.units < cLine from hu) ?_
    | (refine wpAny_bind (m := callSpecialIfBound? (.ref x) (Str.ofString "__eq__") [b]) (ifBound_K X I hs hf (wpAny_mono go (fun v s' q => by
          obtain ⟨k, rfl, q⟩ := q
          repeat (first | exact q | exact wpAny_pure q | exact wpAny_truthy_bool q | (refine wpAny_bind (m := truthy (.bool _)) (wpAny_truthy_bool ?_)) | wp_step)) fun _ _ e => e)))
    | wp_step)
theorem cmp_ne {Q : Value → Shared → Prop} (hu : A.units + 1 < cLine) (F : Fr h₀ L s.heap m) (X₀ : K.In h₀) (I : InstAt s.heap x ox C od) (hb : Looks (model prog w) s.heap (typeOf b) tb) (hn : notFirst K C tb = true) (ho : mroIn K C (.type "object") = some true)
    (hne : findIn K (.ref C) "__ne__" = some (some (.builtin "object.__ne__"))) (hs : findIn K (.ref C) "__eq__" = some (some (.ref f))) (hf : isFn K (.ref f) = true)
    (go : wpAny (model prog w) A.in1 (call (.ref f) [.ref x, b]) (fun v s' => ∃ k, v = .bool k ∧ Q (.bool (!k)) s') E s) : wpAny (model prog w) A (richCompare .NotEq (.ref x) b) Q E s := by
  have X := X₀.keeps F.keep
  have one : wpAny (model prog w) A (tryCompare (.ref x) "__ne__" b) (fun r s' => ∃ k, r = some (.bool k) ∧ Q (.bool k) s') E s := by
    unfold tryCompare
    refine wpAny_bind (slot_bound X I hne PySem.F.cmp_object.ne (call_ne X I ho hs hf hu (wpAny_mono go (fun v s' q => ?_) fun _ _ e => e)))
    obtain ⟨k, rfl, q⟩ := q
    exact ⟨k, rfl, wpAny_pure ⟨_, rfl, q⟩⟩
  unfold richCompare
  simp only [oneThing_ref]
  refine wpAny_holding (wpAny_bind (wpAny_cRoomFor (by omega) ?_))
  refine wpAny_bind (I.type.here (wpAny_bind (hb.here ?_)))
  have z : subIn K tb (.ref C) = some false ∨ tb = .ref C := by
    rcases Bool.or_eq_true_iff.mp hn with e | e
    · exact .inr (beq_iff_eq.mp e)
    · exact .inl (beq_iff_eq.mp e)
  split
  · rename_i q
    rcases z with z | z
    · refine wpAny_bind ((looks_subIn X z).here ?_)
      simp only [Bool.false_eq_true, if_false]
      refine wpAny_bind (wpAny_mono one (fun r s' y => ?_) fun _ _ e => e)
      obtain ⟨k, rfl, y⟩ := y
      exact wpAny_pure y
    · rw [z] at q; simp at q
  · refine wpAny_bind (wpAny_pure ?_)
    simp only [Bool.false_eq_true, if_false]
    refine wpAny_bind (wpAny_mono one (fun r s' y => ?_) fun _ _ e => e)
    obtain ⟨k, rfl, y⟩ := y
    exact wpAny_pure y
end
end DL
namespace DL
open PySem L2
/-- c's own __eq__ keeps φ -/
def EqOk (P : Program) (w : World) (K : PySem.W.Frag) (mg : Str → Option Value) (base : Heap) (c : Str) (k : Nat) (φ : Fn) : Prop :=
  ∃ (C f : Addr) (fd : FuncData) (ps : List Str), mg c = some (.ref C) ∧ InsF K C ∧ PySem.W.findIn K (.ref C) "__eq__" = some (some (.ref f)) ∧ PySem.W.isFn K (.ref f) = true ∧ PySem.W.findIn K (.ref C) "__ne__" = some (some (.builtin "object.__ne__")) ∧
    tyNames.all (fun n => PySem.W.notFirst K C (.type n)) = true ∧ Binds K fd ps [] ∧ FnOk P w K mg base (L2.CX P w) k f fd ps (spD K mg φ)
def cmpO (c : Str) (φ : Fn) (neg : Bool) : D → D → Option D
  | .obj c' ns l, y => if c' = c then (match φ [.val (.obj c' ns l), .val y] with
    | .ok (.bl k) _ => (match y with
      | .obj c2 _ _ => if c2 = c then some (.bl (if neg then !k else k)) else none
      | .fn _ => none
      | _ => some (.bl (if neg then !k else k)))
    | _ => none) else none
  | _, _ => none
theorem Rep1.rep {K : PySem.W.Frag} {mg : Str → Option Value} {A : List Addr} {H : Hp} : ∀ {d : D} {v : V}, Rep1 K mg A H d v → Rep K mg (off [] H) d v := by
  have e : off [] H = H := by funext b; unfold off; simp
  intro d v r
  rw [e]
  cases d with
  | lst l => obtain ⟨a, xs, h1, h2, h3⟩ := r; exact ⟨a, xs, h1, h2, h3.mono off_le⟩
  | obj c ns l => obtain ⟨a, C, dx, fvs, h1, h2, h3, h4, h5⟩ := r; exact ⟨a, C, dx, fvs, h1, h2, h3, h4, h5.mono off_le⟩
  | non => exact r
  | bl _ => exact r
  | int _ => exact r
  | str _ => exact r
  | fn _ => exact r
  | tup l => exact Rep.mono off_le _ _ r
  | scr l => exact Rep.mono off_le _ _ r
/-- what is asked of the two -/
def rOwn (K : PySem.W.Frag) (mg : Str → Option Value) (C : Addr) (φ : Fn) (neg : Bool) : R2 := fun x y H Q => ∃ (a dx : Addr) (fs : List (Str × V)) (t : Value), x = .ref a ∧ H a = some (.ins C dx fs) ∧ TyX K H y t ∧ PySem.W.notFirst K C t = true ∧
  spD K mg φ [x, y] H (fun v H' => ∃ k, v = .bl k ∧ Q (.bl (if neg then !k else k)) H') (fun _ _ _ => False)
section
variable {X : Cx} {C f : Addr} {fd : FuncData} {ps : List Str} {k : Nat} {φ : Fn}
theorem op_own (I0 : InsF X.K C) (hs : PySem.W.findIn X.K (.ref C) "__eq__" = some (some (.ref f))) (hf : PySem.W.isFn X.K (.ref f) = true) (hb : Binds X.K fd ps []) (F : FnOk X.prog X.w X.K X.mg X.base (L2.CX X.prog X.w) k f fd ps (spD X.K X.mg φ)) (hr : Room k X.A) :
    OpR X (compareOp .Eq) (rOwn X.K X.mg C φ false) := by
  intro pins s σ H x y v u Q I rx ry ⟨a, dx, fs, t, e1, ha, ty, nf, sp⟩
  subst e1
  cases rx
  obtain ⟨P0, kx, kp, _⟩ := kit_of I ry ty
  obtain ⟨mA, J, _⟩ := ins_get I.hok ha
  obtain ⟨od, J, _⟩ := J.look
  obtain ⟨m, hF⟩ := I.fr
  show wpAny (model X.prog X.w) X.A (richCompare .Eq (.ref a) u) (EP X pins σ Q) X.xe s
  refine PySem.W.cmp_K (op := .Eq) (tb := t) (by have := hr.un; omega) hF I.ok.mod.kin J (kx.ty _ _ I.kIn kp) nf hs hf ?_
  refine wpAny_mono (run_fnSD (us := [.ref a, u]) (vs := [.ref a, y]) (dvs := []) (E := WE fun _ _ _ _ => False) F hr hb .nil (passAt takes0 σ) I (.cons rfl (.cons ry .nil)) sp) (fun r s' ⟨z, H', I', rz, k', ez, q⟩ => ?_) fun _ _ e => e
  subst ez
  obtain rfl : r = .bool k' := rz
  exact ⟨.bl k', H', I', rfl, q⟩
theorem op_ownNe (I0 : InsF X.K C) (hs : PySem.W.findIn X.K (.ref C) "__eq__" = some (some (.ref f))) (hf : PySem.W.isFn X.K (.ref f) = true) (hne : PySem.W.findIn X.K (.ref C) "__ne__" = some (some (.builtin "object.__ne__"))) (hb : Binds X.K fd ps [])
    (F : FnOk X.prog X.w X.K X.mg X.base (L2.CX X.prog X.w) k f fd ps (spD X.K X.mg φ)) (hr : Room (k + 1) X.A) : OpR X (compareOp .NotEq) (rOwn X.K X.mg C φ true) := by
  intro pins s σ H x y v u Q I rx ry ⟨a, dx, fs, t, e1, ha, ty, nf, sp⟩
  subst e1
  cases rx
  obtain ⟨P0, kx, kp, _⟩ := kit_of I ry ty
  obtain ⟨mA, J, _⟩ := ins_get I.hok ha
  obtain ⟨od, J, _⟩ := J.look
  obtain ⟨m, hF⟩ := I.fr
  show wpAny (model X.prog X.w) X.A (richCompare .NotEq (.ref a) u) (EP X pins σ Q) X.xe s
  refine cmp_ne (tb := t) (by have := hr.un; omega) hF I.ok.mod.kin J (kx.ty _ _ I.kIn kp) nf I0.hm hne hs hf ?_
  have r2 : Vals [V.ref a, y] [Value.ref a, u] := .cons rfl (.cons ry .nil)
  have hl : ([Value.ref a, u] ++ []).length = ps.length := by rw [List.append_nil, ← r2.length]; exact F.len _ _ _ _ sp
  refine wpAny_call (codeAny_mono (F.run X.A.in1 X.stack s H ⟨[.ref a, u], []⟩ [.ref a, u] [.ref a, y] _ (fun _ _ _ => False) hr.in1 I.env0.in1 (by simpa using hb s [.ref a, u] I.kIn hl) r2 sp) fun r s' hq => ?_)
  cases r with
  | error e => exact passAt (takes0 (X := X)) σ pins H s e s' I hq
  | ok fl =>
    cases fl with
    | ret z =>
      obtain ⟨w', H', I', rz, k', ez, q⟩ := I.after hq
      subst ez
      obtain rfl : z = .bool k' := rz
      exact ⟨k', rfl, .bl (!k'), H', I', rfl, q⟩
    | next => exact False.elim hq
    | brk => exact False.elim hq
    | cont => exact False.elim hq
theorem snd_own {K : PySem.W.Frag} {mg : Str → Option Value} {c : Str} {neg : Bool} (mC : mg c = some (.ref C)) (I0 : InsF K C) (hn : tyNames.all (fun n => PySem.W.notFirst K C (.type n)) = true) : Snd2 K mg (rOwn K mg C φ neg) (cmpO c φ neg) := by
  intro A H x y d v u Q tk rx ry e q
  cases x with
  | obj c' ns l =>
    have e : (if c' = c then (match φ [.val (.obj c' ns l), .val y] with
      | .ok (.bl k) _ => (match y with
        | .obj c2 _ _ => if c2 = c then some (D.bl (if neg then !k else k)) else none
        | .fn _ => none
        | _ => some (.bl (if neg then !k else k)))
      | _ => none) else none) = some d := e
    by_cases hc : c' = c
    · rw [if_pos hc] at e
      subst hc
      cases hf : φ [.val (.obj c' ns l), .val y] with
      | bad => rw [hf] at e; cases e
      | exc _ _ => rw [hf] at e; cases e
      | ok r os =>
        rw [hf] at e
        cases r with
        | bl k =>
          dsimp only at e
          have rx0 : Rep K mg (off [] H) (.obj c' ns l) v := Rep1.rep rx
          have ry0 : Rep K mg (off [] H) y u := Rep1.rep ry
          obtain ⟨a, C', dx, fvs, rfl, m, hh, _⟩ := rx
          have m' : mg c' = some (.ref C') := m
          rw [mC] at m'
          cases m'
          have sp : spD K mg φ [.ref a, u] H (fun v H' => ∃ k, v = .bl k ∧ Q (.bl (if neg then !k else k)) H') (fun _ _ _ => False) := by
            refine ⟨[], [.val (.obj c' ns l), .val y], ⟨rfl, fun i s w h1 h2 => ?_, fun i j s t b h1 h2 o1 o2 => ?_, fun b hb => by cases hb⟩, ?_⟩
            · match i, h1, h2 with
              | 0, h1, h2 => cases (Option.some.inj h1); cases (Option.some.inj h2); exact ⟨_, rfl, rx0⟩
              | 1, h1, h2 => cases (Option.some.inj h1); cases (Option.some.inj h2); exact ⟨_, rfl, ry0⟩
              | i + 2, h1, h2 => simp at h1
            · match i, h1 with
              | 0, h1 => cases (Option.some.inj h1); cases o1
              | 1, h1 => cases (Option.some.inj h1); cases o1
              | i + 2, h1 => simp at h1
            · rw [hf]
              intro v' H' p rv
              cases rv
              refine ⟨k, rfl, q _ H' (fun b o hb => p.keep b o hb fun i s h1 o1 => ?_) ?_⟩
              · match i, h1 with
                | 0, h1 => cases (Option.some.inj h1); cases o1
                | 1, h1 => cases (Option.some.inj h1); cases o1
                | i + 2, h1 => simp at h1
              · have ed : d = .bl (if neg then !k else k) := by
                  cases y with
                  | obj c2 ns2 l2 =>
                    have e : (if c2 = c' then some (D.bl (if neg then !k else k)) else none) = some d := e
                    by_cases h2 : c2 = c'
                    · rw [if_pos h2] at e; exact (Option.some.inj e).symm
                    · rw [if_neg h2] at e; cases e
                  | fn _ => cases e
                  | _ => exact (Option.some.inj e).symm
                rw [ed]
                exact rfl
          have fin : ∀ n, y.tn = some n → rOwn K mg C φ neg (.ref a) u H Q := fun n hn' => ⟨a, dx, _, .type n, rfl, hh, tyx_of ry hn', List.all_eq_true.mp hn n (tn_mem hn'), sp⟩
          cases y with
          | obj c2 ns2 l2 =>
            dsimp only at e
            by_cases h2 : c2 = c'
            · subst h2
              obtain ⟨b, C2, dx2, fvs2, rfl, m2, hh2, _⟩ := ry
              have m2' : mg c2 = some (.ref C2) := m2
              rw [mC] at m2'
              cases m2'
              exact ⟨a, dx, _, .ref C, rfl, hh, .base (.ins hh2 I0.cl I0.ha I0.hn I0.ht I0.hm), by simp [PySem.W.notFirst], sp⟩
            · rw [if_neg h2] at e; cases e
          | fn _ => cases e
          | non => exact fin _ rfl
          | bl _ => exact fin _ rfl
          | int _ => exact fin _ rfl
          | str _ => exact fin _ rfl
          | tup _ => exact fin _ rfl
          | lst _ => exact fin _ rfl
          | scr _ => exact fin _ rfl
        | _ => cases e
    · rw [if_neg hc] at e; cases e
  | _ => cases e
variable {a b : Expr} {x y : Arg} {pos : Pos} {c : Str}
theorem de_eqO (T : EqOk X.prog X.w X.K X.mg X.base c k φ) (hr : Room (k + 1) X.A) (ha : DO X a x) (hb : DO X b y) : DE X (.Compare a [.Eq] [b] pos) (op2 (cmpO c φ false) x y) := by
  obtain ⟨C, f, fd, ps, mC, I0, hs, hf, _, hn, hbi, F⟩ := T
  exact de_cmp (op_own I0 hs hf hbi F (hr.mono (Nat.le_succ k))) (snd_own mC I0 hn) (nomark _) ha hb
theorem de_neO (T : EqOk X.prog X.w X.K X.mg X.base c k φ) (hr : Room (k + 1) X.A) (ha : DO X a x) (hb : DO X b y) : DE X (.Compare a [.NotEq] [b] pos) (op2 (cmpO c φ true) x y) := by
  obtain ⟨C, f, fd, ps, mC, I0, hs, hf, hne, hn, hbi, F⟩ := T
  exact de_cmp (op_ownNe I0 hs hf hne hbi F hr) (snd_own mC I0 hn) (nomark _) ha hb
theorem dt_eqO (T : EqOk X.prog X.w X.K X.mg X.base c k φ) (hr : Room (k + 1) X.A) (ha : DO X a x) (hb : DO X b y) : DT X (.Compare a [.Eq] [b] pos) (asTest (op2 (cmpO c φ false) x y)) := by
  obtain ⟨C, f, fd, ps, mC, I0, hs, hf, _, hn, hbi, F⟩ := T
  exact dt_cmp (op_own I0 hs hf hbi F (hr.mono (Nat.le_succ k))) (snd_own mC I0 hn) (nomark _) ha hb
theorem dt_neO (T : EqOk X.prog X.w X.K X.mg X.base c k φ) (hr : Room (k + 1) X.A) (ha : DO X a x) (hb : DO X b y) : DT X (.Compare a [.NotEq] [b] pos) (asTest (op2 (cmpO c φ true) x y)) := by
  obtain ⟨C, f, fd, ps, mC, I0, hs, hf, hne, hn, hbi, F⟩ := T
  exact dt_cmp (op_ownNe I0 hs hf hne hbi F hr) (snd_own mC I0 hn) (nomark _) ha hb
end
end DL
namespace DL
open PySem L2
def DK (X : Cx) (kws : List Keyword) (as : List Arg) : Prop := ∀ W : WZ, TakesZ X W → PK X kws (tA X.K X.mg W as)
def MakeKwOk (P : Program) (w : World) (K : PySem.W.Frag) (mg : Str → Option Value) (base : Heap) (c : Str) (ks : List Str) (k : Nat) (φ : Fn) : Prop :=
  ∃ (C f : Addr) (fd : FuncData) (ps : List Str), mg c = some (.ref C) ∧ Mk K C f ∧ KBn K fd ps 1 ks (fun us ws => us ++ ws) (fun us ws => us ++ ws) ∧ FnOk P w K mg base (L2.CX P w) k f fd ps (spD K mg φ)
/-- C(k = v, ..): no error may come of it -/
def makeKF (c : Str) (φ : Fn) (as : List Arg) : M D := M.bnd (evs as) fun xs => match dvs xs with
  | some ds => fun ρ => match makeV c φ ds ρ with
    | .ok d ρ' => .ok d ρ'
    | _ => .bad
  | none => fun _ => .bad
section
variable {X : Cx} {kws : List Keyword} {as : List Arg} {e : Expr} {kpos p pos : Pos} {nm : Option Str} {x : Arg}
theorem pk_imp {t t' : TA} (h : PK X kws t) (q : ∀ σ H Q, t' σ H Q → t σ H Q) : PK X kws t' := ⟨fun pos pins s σ H Q I hw => h.run pos pins s σ H Q I (q σ H Q hw)⟩
theorem dk_nil : DK X [] [] := fun W _ => pk_imp pk_nil fun σ H Q ⟨w, A, ρ, R, q⟩ => q [] H Ext.refl R rfl
theorem dk_cons (h : DO X e x) (t : DK X kws as) : DK X (⟨nm, e, kpos⟩ :: kws) (x :: as) := fun W tk => pk_imp (pk_cons (h W tk) (t W tk)) fun σ H Q ⟨w, A, ρ, R, q⟩ => by
  refine ⟨w, A, ρ, R, ?_⟩
  have e0 : evs (x :: as) ρ = M.bnd x.ev (fun v => M.bnd (evs as) fun vs => M.ret (v :: vs)) ρ := rfl
  rw [e0] at q
  cases hx : x.ev ρ with
  | exc er ρ1 => rw [bnd_exc hx] at q; exact q
  | bad => rw [bnd_bad hx] at q; exact q
  | ok v0 ρ1 =>
    rw [bnd_ok hx] at q
    intro v H1 ex1 R1 r1
    refine ⟨w, A, ρ1, R1, ?_⟩
    cases hv : evs as ρ1 with
    | exc er ρ2 => rw [bnd_exc hv] at q; exact fun c dd H2 ex2 R2 z => q c dd H2 (ex1.trans ex2) R2 z
    | bad => rw [bnd_bad hv] at q; exact q
    | ok vs0 ρ2 =>
      rw [bnd_ok hv] at q
      exact fun vs H2 ex2 R2 r2 => q (v :: vs) H2 (ex1.trans ex2) R2 ⟨v, vs, rfl, r1.ext ex2, r2⟩
theorem de_makeK {c : Str} {ks : List Str} {k : Nat} {φ : Fn} (T : MakeKwOk X.prog X.w X.K X.mg X.base c ks k φ) (hr : Room (k + 1) X.A) (ha : DK X kws as) (hl : as.length = ks.length) (hg : Gl X c := by rfl)
    (hall : (backToKw pos (keywordEach kws X.env)).all (·.1.isSome) = true := by rfl) (hks : (backToKw pos (keywordEach kws X.env)).filterMap (·.1) = ks := by rfl) (hdb : (c == ("__debug__" : Str)) = false := by decide)
    (hpl : ((backTo pos (starEach [] X.env)).any (·.1) || (backToKw pos (keywordEach kws X.env)).any (·.1.isNone)) = false := by rfl) : DE X (.Call (.Name c p) [] kws pos) (makeKF c φ as) := fun W tk => by
  obtain ⟨C, f, fd, ps, mC, M', hb, F⟩ := T
  refine pe_imp (pe_makeK0 (E := fun _ _ _ => False) M' F hr hg mC hb (fun pins σ H s e s' I c => passAt (takes0 (X := X)) σ pins H s e s' I c) (ha W tk) hall hks hdb hpl) fun σ H Q ⟨w, A, ρ, R, q⟩ => ?_
  refine ⟨w, A, ρ, R, ?_⟩
  unfold makeKF at q
  cases hx : evs as ρ with
  | exc e ρ1 => rw [bnd_exc hx] at q; exact q
  | bad => rw [bnd_bad hx] at q; exact q
  | ok xs ρ1 =>
    rw [bnd_ok hx] at q
    intro vs H1 ex1 R1 r1
    cases hd : dvs xs with
    | none => rw [hd] at q; exact q.elim
    | some ds =>
      rw [hd] at q
      dsimp only at q
      have r2 := dvs_rep r1 hd
      have lx : ∀ {as : List Arg} {ρ ρ' : Ev} {xs : List AV}, evs as ρ = .ok xs ρ' → xs.length = as.length := by
        intro as
        induction as with
        | nil => intro ρ ρ' xs h; cases h; rfl
        | cons a as ih =>
          intro ρ ρ' xs h
          have e0 : evs (a :: as) ρ = M.bnd a.ev (fun v => M.bnd (evs as) fun vs => M.ret (v :: vs)) ρ := rfl
          rw [e0] at h
          cases h1 : a.ev ρ with
          | exc _ _ => rw [bnd_exc h1] at h; cases h
          | bad => rw [bnd_bad h1] at h; cases h
          | ok v ρ1 =>
            rw [bnd_ok h1] at h
            cases h2 : evs as ρ1 with
            | exc _ _ => rw [bnd_exc h2] at h; cases h
            | bad => rw [bnd_bad h2] at h; cases h
            | ok vs ρ2 => rw [bnd_ok h2] at h; cases h; simp [ih h2]
      refine ⟨rfl, by rw [← avrs_len r1, lx hx, hl], fun y dy ny nd ne => ?_⟩
      refine make_end (W := WF) mC R1 r2 ?_ y dy ny nd ne
      cases hm : makeV c φ ds ρ1 with
      | bad => rw [hm] at q; exact q.elim
      | exc e ρ2 => rw [hm] at q; exact q.elim
      | ok d ρ2 => rw [hm] at q; exact fun v H' ex R' r => q v H' (ex1.trans ex) R' r
def D.repr : List D → Option D
  | [.int i] => if i.natAbs.log2 < 1920 then some (.str (toString i)) else none
  | [.bl b] => some (.str (if b then "True" else "False"))
  | _ => none
theorem call_repr_bl : CallR X (.builtin "repr") (fun xs H Q => ∃ b : Bool, xs = [.bl b] ∧ Q (.str (if b then "True" else "False")) H) := by
  intro pins s σ H xs us Q I r h
  obtain ⟨b, rfl, q⟩ := h
  obtain ⟨u, rfl, r1⟩ := vals1 r
  obtain rfl : u = .bool b := r1
  exact PySem.P.repr_of_bool ⟨.str _, H, I.tok _, ⟨_, rfl⟩, q⟩
theorem de_repr {es : List Expr} (hg : Gl X "repr") (hm : X.mg "repr" = none) (ha : DA X (e :: es) as) (he : starEach (e :: es) X.env = (false, eval e X.env) :: starEach es X.env := by rfl) (hpl : (backTo pos (starEach es X.env)).any (·.1) = false := by rfl) :
    DE X (.Call (.Name "repr" p) (e :: es) [] pos) (opN D.repr as) :=
  de_callB ((SkE.call_repr_int).or call_repr_bl) (by
    intro A H xs d vs Q tk rx e q
    match xs, rx, e with
    | [.int i], .cons r .nil, e =>
      have e : (if i.natAbs.log2 < 1920 then some (D.str (toString i)) else none) = some d := e
      cases r
      by_cases hz : i.natAbs.log2 < 1920
      · rw [if_pos hz] at e
        cases (Option.some.inj e)
        exact .inl ⟨i, rfl, hz, q _ _ (Same.refl _) rfl⟩
      · rw [if_neg hz] at e; cases e
    | [.bl b], .cons r .nil, e =>
      cases r
      cases (Option.some.inj e)
      exact .inr ⟨b, rfl, q _ _ (Same.refl _) rfl⟩) (by decide +kernel) (by decide) (by decide) hg hm ha he hpl
end
end DL
namespace DL
open PySem L2
def supB (N ps : List Str) (sc : Scope) : Bool :=
  (match sc.kind with | .function => true | _ => false) && !sc.isCoroutine && !sc.isGenerator && decide N.Nodup && decide (N.take ps.length = ps) && ps.all (fun x => decide (sc.names.lookup x = some .local)) &&
  sc.names.all (fun y => !decide (y.2 = .cell)) && sc.names.all (fun y => !decide (y.2 = .free) || decide (y.1 = "__class__")) && decide (sc.names.lookup ("super" : Str) = some .globalImplicit) && decide (sc.names.lookup ("__class__" : Str) = some .free)
theorem sup_by {N ps : List Str} {sc : Scope} (h : supB N ps sc = true) : SupScope N ps sc := by
  unfold supB at h
  simp only [Bool.and_eq_true, Bool.not_eq_true', decide_eq_true_eq, List.all_eq_true, Bool.or_eq_true, decide_eq_false_iff_not] at h
  obtain ⟨⟨⟨⟨⟨⟨⟨⟨⟨h1, h2⟩, h3⟩, h4⟩, h5⟩, h6⟩, h7⟩, h8⟩, h9⟩, h10⟩ := h
  refine ⟨?_, h2, h3, h4, h5, h6, h7, fun x hx => ?_, h9, h10⟩
  · split at h1
    · assumption
    · cases h1
  · rcases h8 _ (PySem.mem_of_lookup hx) with z | z
    · exact absurd rfl z
    · exact z
theorem fun_kbn {K : PySem.W.Frag} {x qual : Str} {st : Stmt} {f : Addr} {fd : FuncData} {ps ks : List Str} (F : Fun K x qual st f fd)
    (h : ∀ (kV doc pm : Value) (an : Option Addr) (cdv ct : Value) (us ws : List Value), us.length = 1 → ws.length = ks.length → bindArgs (PySem.W.fnOf x qual (defArgs st) (defBody st) (defScope st) .none kV doc pm an cdv ct) ⟨us, ks.zip ws⟩ = pure (ps.zip (us ++ ws))) :
    KBn K fd ps 1 ks (fun us ws => us ++ ws) (fun us ws => us ++ ws) := by
  obtain ⟨oc, od, kV, doc, pm, an, cdv, ct, osl, rfl, lk, hcd⟩ := F.ex
  exact ⟨fun s us ws _ h1 h2 => .of_eq (h kV doc pm an cdv ct us ws h1 h2), fun r1 r2 => r1.append r2⟩
theorem fld_ok {K : PySem.W.Frag} {mg : Str → Option Value} {c f : Str} {C : Addr} (hm : mg c = some (.ref C)) (c1 : Cls K C) (n : NoAttr K C f) : FldOk K mg c f := fun C' h => by
  rw [hm] at h
  cases h
  exact ⟨c1, n⟩
/-- what the law is promised -/
def spScript (K : PySem.W.Frag) : Sp := fun vs H Q _ => ∃ (a : Addr) (ns : List Int), vs = [.ref a] ∧ SqL K H a (ns.map V.int) ∧ ns.length ≤ 63 ∧ ∀ H', Q (.bl true) H'
theorem script_sp {K : PySem.W.Frag} {mg : Str → Option Value} {φ : Fn} (h : ∀ ns : List Int, ns.length ≤ 63 → ∃ os, φ [.val (.scr (ns.map D.int))] = .ok (.bl true) os) (vs : List V) (H : Hp) (Q : VK) (E : XK) (q : spScript K vs H Q E) : spD K mg φ vs H Q E := by
  obtain ⟨a, ns, rfl, hs, hl, q⟩ := q
  obtain ⟨os, e⟩ := h ns hl
  have eo : off [] H = H := by funext b; unfold off; simp
  have reps : ∀ (ns : List Int), Reps K mg (off [] H) (ns.map D.int) (ns.map V.int) := fun ns => by
    induction ns with
    | nil => exact rfl
    | cons n ns ih => exact .cons rfl ih
  refine ⟨[], [.val (.scr (ns.map D.int))], ⟨rfl, fun i s v h1 h2 => ?_, fun i j s t b h1 h2 o1 o2 => ?_, fun b hb => by cases hb⟩, ?_⟩
  · match i, h1, h2 with
    | 0, h1, h2 => cases (Option.some.inj h1); cases (Option.some.inj h2); exact ⟨_, rfl, a, _, rfl, by rw [eo]; exact hs, reps ns⟩
    | i + 1, h1, h2 => simp at h1
  · match i, h1 with
    | 0, h1 => cases (Option.some.inj h1); cases o1
    | i + 1, h1 => simp at h1
  · rw [e]
    intro v H' p rv
    cases rv
    exact q H'
theorem walk_script {l : PySem.W.OpenLaw} {k : Nat} {q : Program} {loose : List Str} {XP : (Str → Option Value) → Heap → Prop} {YP : World → Heap → Prop} {d : DefRec} {K : Params → PySem.W.Frag} (hn : l.most = some 63) (hdf : d.params.defaults = []) (hr : Room k callerA)
    (hY : ∀ (w : World) (h : Heap), YP w h → (K w.params).In h)
    (F : ∀ (w : World) (mg : Str → Option Value) (fa : Addr) (h : Heap), (K w.params).In h → h.Ns mainGlobals mg → mg d.name = some (.ref fa) →
      ∃ fd : FuncData, (∀ (s : Shared) (u : Value), BindsTo s fd ⟨[u], []⟩ [("script", u)]) ∧ ∀ base : Heap, (K w.params).In base → base.Ns mainGlobals mg → FnOk l.prog w (K w.params) mg base (L2.CX l.prog w) k fa fd ["script"] (spScript (K w.params))) :
    PySem.W.WalkO q loose XP YP l.row.toRowW d [] (fun f vs => PySem.call f vs) :=
  L2.walk_of (n := 63) (k := k) (x := "script") (CX := fun w => L2.CX l.prog w) (sp := fun w => spScript (K w.params)) hn (by decide) hdf hr hY F (fun _ _ a ns hl _ hS => ⟨a, ns, rfl, hS, hl, fun _ => rfl⟩) fun _ _ _ _ _ z => by
    obtain ⟨_, _, _, _, _, _, _, _, _, _, _, _, z⟩ := z
    exact z
/-- an error class is caught with its fields -/
theorem excT_mk {K : PySem.W.Frag} {mg : Str → Option Value} {known : List Str} {tbl : Str → Bool} {c : Str} {fs : List Str} {C : Addr} (hm : mg c = some (.ref C)) (x : XfC K C) (hf : ∀ f ∈ fs, PySem.W.findIn K (.ref C) f = some none)
    (hk : ∀ e ∈ known, ∃ Ce : Addr, mg e = some (.ref Ce) ∧ PySem.W.exmOne K (.ref Ce) (.ref C) = some (tbl e)) : ExcT K mg known tbl c fs :=
  ⟨C, hm, x, hf, fun e he C' h => by
    obtain ⟨Ce, h1, h2⟩ := hk e he
    rw [h1] at h
    cases h
    exact h2⟩
end DL
namespace DL
open PySem L2
/-- an own error class without an __init__ of its own -/
def ErrN (K : PySem.W.Frag) (mg : Str → Option Value) (c : Str) : Prop :=
  ∃ C : Addr, mg c = some (.ref C) ∧ PySem.W.excIn K C [.type "ValueError", .type "Exception", .type "BaseException", .type "object"] "ValueError.__new__" = true ∧ PySem.W.keepIn K (.ref C) = true ∧
    PySem.W.subIn K (.ref C) (.type "BaseException") = some true ∧ PySem.W.typeIn K (.ref C) = some (.type "type")
section
variable {X : Cx} {x : Str} {p pos pos' : Pos} {np : Nat}
open PyProof.Rows PySem.Spec in
theorem pmk_own0 {C : Addr} {zs : List Value} {B n1 n2 : String} (F : ExcBaseFacts B n1 n2 zs) (q : PySem.W.excIn X.K C zs n1 = true) (gC : X.mg x = some (.ref C)) (kC : PySem.W.keepIn X.K (.ref C) = true) (r : Raises X (.ref C)) (hg : Gl X x) (hdb : (x == ("__debug__" : Str)) = false) :
    PMk X (.Call (.Name x p) [] [] pos) (fun _ H Q => Q (.ref C) none H) := fun pins s σ H Q I h => by
  refine wpAny_Call_Name_kw (ld_glob I hg gC (PySem.W.callWith_K0 (first := []) I.kIn kC ?_) hdb)
  have ex := exc_obj I.kIn q
  obtain ⟨_, _, _, _, _, _, _, _, _, _, _, _, _, _, _, _, _, hC, hN, hni, T⟩ := ex
  exact wpAny_call_exc_subT F T hC hN hni (fun h' e hm => mk_of I hm r h (I.hok.gone hm.new)) (Nat.zero_le _)
theorem ds_raise0 (hc : X.calm = true) (T : ErrN X.K X.mg x) (hg : Gl X x) (hdb : (x == ("__debug__" : Str)) = false := by decide) :
    DS X np (.Raise (some (.Call (.Name x p) [] [] pos)) none pos') (sRaise x [] []) := fun W tk => by
  obtain ⟨C, hm, hq, hk, hb, ht⟩ := T
  refine ps_imp (ps_raise hc tk.t (pmk_own0 PySem.F.excBase_ValueError hq hm hk (raises_own hb ht) hg hdb)) fun E σ H ⟨w, A, ρ, hnp, R, q⟩ => ?_
  exact q A σ H _ _ (Same.refl _) R ⟨C, rfl, hm, .inl ⟨rfl, rfl⟩⟩
end
/-- the classes that a caught error may have; which of them the asked one is above of -/
def isX (kn : List Str) (tb : Str → Bool) (i : Nat) : M D := fun ρ => match ρ[i]? with
  | some (.ex e) => if kn.contains e.c = true then .ok (.bl (tb e.c)) ρ else .bad
  | _ => .bad
/-- v: the class that is asked -/
def IsX (K : PySem.W.Frag) (mg : Str → Option Value) (kn : List Str) (tb : Str → Bool) (v : Value) : Prop :=
  ∀ e ∈ kn, ∀ D, mg e = some (.ref D) → L2.ExcC K D ∧ PySem.W.kitOne K (.ref D) v = some (tb e)
def rIsX (K : PySem.W.Frag) (a : Addr) (cls : Value) (d : Option Addr) : List V → Hp → VK → Prop := fun xs H Q => ∃ (D : Addr) (c : V) (cv : Value) (b : Bool), xs = [.ref a, c] ∧ cls = .ref D ∧ L2.ExcC K D ∧ (∀ u, RelV c u → u = cv) ∧ PySem.W.kitOne K (.ref D) cv = some b ∧
  (d = none ∨ ∃ dd fs, d = some dd ∧ H dd = some (.xd fs)) ∧ Q (.bl b) H
section
variable {X : Cx} {a : Addr} {oe : Obj} {cls : Value} {d : Option Addr} {pn : List (Addr × Obj)}
open PyProof.Rows PySem.Spec in
theorem call_isX (hz : Zc cls d oe) (hf : ∃ vs, oe.data = .fields vs) : CallR (X.suite a ((a, oe) :: pn)) (.builtin "isinstance") (rIsX X.K a cls d) := fun pins s σ H xs us Q I r h => by
  obtain ⟨D, c, cv, b, rfl, rfl, C, hcv, e, hd, q⟩ := h
  match us, r with
  | [_, _], .cons rx (.cons rt .nil) =>
    cases rx
    cases hcv _ rt
    obtain ⟨vs, hv⟩ := hf
    have hget := (I.pin (a, oe) (List.mem_append_left _ List.mem_cons_self)).1
    have hno : PySem.W.notCls oe = true := by
      unfold PySem.W.notCls
      rw [hv]
    obtain ⟨od, J⟩ : ∃ od, PySem.W.InstAt s.heap a oe D od := by
      rcases hd with hd | ⟨dd, fs, hd, ea⟩
      · exact ⟨none, hget, hz.1, hno, by rw [hz.2, hd]; trivial⟩
      · have hx : ObjOk X.prog X.w H s.heap dd (.xd fs) := I.hok dd _ ea
        obtain ⟨mA, hns, hr⟩ := hx
        obtain ⟨od, ho, hl⟩ := lookIn_ns hns
        exact ⟨some od, hget, hz.1, hno, by rw [hz.2, hd]; exact ho⟩
    have hcl : (PySem.W.clsIn X.K D).isSome = true := by
      obtain ⟨cd, hc, _⟩ := PySem.W.any_some C.hd
      rw [hc]
      rfl
    exact PySem.W.kia_one (PySem.W.kitx_exc hcl C.hg C.hk C.hs C.ha C.hn C.ht C.hm) I.kIn J e (fun z => nomatch z) fun tk => ⟨.bl b, H, I.kept (t' := tk) fun _ _ z => z, rfl, q⟩
end
section
variable {X : Cx} {a : Addr} {oe : Obj} {cls : Value} {d : Option Addr} {pn : List (Addr × Obj)} {en : Expr} {ce : Expr} {p pos : Pos} {i : Nat} {kn : List Str} {tb : Str → Bool} {cV : V} {cv : Value}
theorem de_isX (T : IsX X.K X.mg kn tb cv) (hcv : ∀ u, RelV cV u → u = cv) (hz : Zc cls d oe) (hv : ∃ vs, oe.data = .fields vs) (hg : Gl (X.suite a ((a, oe) :: pn)) "isinstance") (hm : X.mg "isinstance" = none)
    (ho : PE (X.suite a ((a, oe) :: pn)) en (tVar i)) (hc : PE (X.suite a ((a, oe) :: pn)) ce (fun _ H Q => Q cV H))
    (hs : starEach [en, ce] X.env = (false, eval en X.env) :: starEach [ce] X.env := by rfl) (hs2 : starEach [ce] X.env = (false, eval ce X.env) :: starEach [] X.env := by rfl)
    (hpl : (backTo pos (starEach [ce] X.env)).any (·.1) = false := by rfl) : DE (X.suite a ((a, oe) :: pn)) (.Call (.Name "isinstance" p) [en, ce] [] pos) (isX kn tb i) := fun W tk =>
  pe_imp (pe_callB (call_isX hz hv) hg hm PyProof.Rows.boot_isinstance (pa_cons ho (pa_cons hc pa_nil hs2) hs) (he := hs) (hpl := hpl)) fun σ H Q ⟨w, A, ρ, R, q⟩ => by
    unfold isX at q
    cases hs : ρ[i]? with
    | none => rw [hs] at q; exact q.elim
    | some s0 =>
      rw [hs] at q
      cases s0 with
      | ex er =>
        dsimp only at q
        by_cases hk : kn.contains er.c = true
        · rw [if_pos hk] at q
          obtain ⟨o, ho', so, D, e1, e2, z⟩ := R.at' hs
          obtain ⟨oe', g1, g2, g3⟩ := tk.z rfl w.1 w.2
          obtain ⟨ga, go⟩ : a = w.1.xx.1 ∧ oe = oe' := by
            have g1' : some (a, oe) = some (w.1.xx.1, oe') := g1
            cases g1'
            exact ⟨rfl, rfl⟩
          subst go
          obtain ⟨t1, t2⟩ := T er.c (by simpa using hk) D e2
          refine ⟨.ref a, by rw [ho', so, ga], D, cV, cv, tb er.c, rfl, by rw [← hz.1, g2, e1], t1, hcv, t2, ?_, q _ H Ext.refl R rfl⟩
          rcases z with z | ⟨d', fs, y1, y2, _, _⟩
          · exact .inl (by rw [← hz.2, g3, z.2])
          · exact .inr ⟨d', fs, by rw [← hz.2, g3, y1], y2⟩
        · rw [if_neg hk] at q; exact q.elim
      | _ => exact q.elim
end
end DL
namespace DL
section
open PySem PySem.W PySem.Calls PyProof.Rows PySem.HandSPX PySem.Spec
variable {prog : Program} {w : World} {A : Around} {E : Value → Shared → Prop} {R : Result → Shared → Prop} {h : Heap} {g : Array GenState} {d : Drawn} {t : Nat} {os : OsState} {nm qn : Str} {C N fI : Addr} {bs bm bmB sub : List Value} {b1 ab : Bool} {sn : List Str}
  {col : Option Bool} {dd : Option Addr} {k0 k1 k2 k3 k5 : Option Value} {B n1 n2 : String} {kws : List (Str × Value)}
theorem kw_check (F : ExcBaseFacts B n1 n2 bmB) (hT : ∀ Y : String, bm.contains (.type Y) = bmB.contains (.type Y)) {Q : Unit → Shared → Prop} (hC : h.get? C = some (excClassObj nm qn C N bs bm b1 sn sub ab col dd k0 k1 k2 k3 k5 n1))
    (hq : Q () ⟨h, g, d, t, os⟩) : wpAny (model prog w) A (checkBuiltinCall n1 ⟨[.ref C], kws⟩) Q E ⟨h, g, d, t, os⟩ := by
  have has : (Value.ref C :: bm).contains (.type B) = true := by
    rw [List.contains_cons, hT, F.hasB, Bool.or_true]
  have _hs := F.noStar
  simp only [checkBuiltinCall, F.newKind, F.newSplit, F.newRow]
  repeat (first
    | refine wpAny_loadPart_at hC ?_
    | (refine wpAny_isSubtype_exc hC ?_
       rw [has])
    | refine wpAny_staticBase_exc hC ?_
    | refine wpAny_madeBy_exc hC ?_
    | simp only [bne_self_eq_false, Bool.false_eq_true, if_false]
    | wp_step)
  exact hq
theorem kw_new (F : ExcBaseFacts B n1 n2 bmB) (hT : ∀ Y : String, bm.contains (.type Y) = bmB.contains (.type Y)) (hC : h.get? C = some (excClassObj nm qn C N bs bm b1 sn sub ab col dd k0 k1 k2 k3 k5 n1))
    (hq : R (.ok (.ret (.ref (h.objs.size + 1)))) ⟨(h.push (kdv_tup [])).push (excO C h.objs.size), g, d, t, os⟩) : codeAny (model prog w) A (.builtin n1 ⟨[.ref C], kws⟩) R ⟨h, g, d, t, os⟩ := by
  have _he := F.ends
  have has : (Value.ref C :: bm).contains (.type B) = true := by
    rw [List.contains_cons, hT, F.hasB, Bool.or_true]
  have no1 : (Value.ref C :: bm).contains (.type "AttributeError") = false := by
    rw [List.contains_cons, hT, F.noAttr]
    rfl
  have no2 : (Value.ref C :: bm).contains (.type "NameError") = false := by
    rw [List.contains_cons, hT, F.noName]
    rfl
  have hz : ([] : List Value).length ≤ sizeLine := Nat.zero_le _
  refine codeAny_builtinAt F.entry ?here
  case here =>
  unfold Builtin.«BaseException.__new__»
  refine PySem.wpAt_bind ?here
  case here =>
  show PySem.wpAt _ _ _ (stack >>= _) _ _ _
  refine PySem.wpAt_bind (PySem.wpAt_stack fun q below => PySem.wpAt_of_wpAny ?here)
  case here =>
  wp_walk
  refine (PySem.wpAt_of_wpAny ?here)
  case here =>
  rw [F.owner]
  repeat (first
    | with_reducible refine wpAny_madeHere_exc F.canon hC ?_
    | with_reducible refine wpAny_loadPart_at hC ?_
    | (with_reducible refine wpAny_isSubtype_exc hC ?_
       first
       | rw [has]
       | rw [no1]
       | rw [no2])
    | wp_step)
  show R _ _
  rw [Heap.size_push]
  exact hq
theorem kw_type (F : ExcBaseFacts B n1 n2 bmB) (hT : ∀ Y : String, bm.contains (.type Y) = bmB.contains (.type Y)) {Q : Fin → Shared → Prop} (hC : h.get? C = some (excClassObj nm qn C N bs bm b1 sn sub ab col dd k0 k1 k2 k3 k5 n1))
    (hi : Looks (model prog w) h (typeLookup (.ref C) "__init__") (some (.ref fI))) (hb : ∀ self, Looks (model prog w) h (bindSpecial (.ref fI) self) (.ref fI, [self]))
    (hq : codeAny (model prog w) A (.call (.ref fI) ⟨[.ref (h.objs.size + 1)], kws⟩) (fun r s' => match r with | .ok (.ret v) => v = .none ∧ Q (.done (.ret (.ref (h.objs.size + 1)))) s' | .ok _ => False | .error e => E e s') ⟨(h.push (kdv_tup [])).push (excO C h.objs.size), g, d, t, os⟩) :
    wpAny (model prog w) A (Builtin.«type.__call__» ⟨[.ref C], kws⟩) Q E ⟨h, g, d, t, os⟩ := by
  repeat (first
    | with_reducible refine wpAny_loadPart_at hC ?_
    | with_reducible refine wpAny_madeBy_exc hC ?_
    | wp_step)
  refine codeAny_call_builtin_code (Code.quiet_builtin _ F.quiet) (kw_check F hT hC (kw_new F hT hC (?_ : wpAny _ _ _ _ _ _)))
  have k : ∀ b o, h.get? b = some o → ((h.push (kdv_tup [])).push (excO C h.objs.size)).get? b = some o := fun b o e => Heap.get?_push_of_some _ (Heap.get?_push_of_some _ e)
  have hC1 := k _ _ hC
  have me : ((h.push (kdv_tup [])).push (excO C h.objs.size)).get? (h.objs.size + 1) = some (excO C h.objs.size) := by heap_get
  have mine : (Value.ref C :: bm).contains (.ref C) = true := by simp
  have i1 := hi.keeps k
  have c1 := (hb (.ref (h.objs.size + 1))).keeps k
  unfold isInstance
  repeat (first
    | with_reducible refine wpAny_loadPart_at me ?_
    | (with_reducible refine wpAny_isSubtype_exc hC1 ?_
       rw [mine])
    | wp_step)
  show wpAny _ _ (typeLookup (.ref C) _) _ _ _
  refine i1.at (wpAny_holding (wpAny_bind (c1.at (wpAny_bind (wpAny_call (codeAny_mono hq fun r s' z => ?_))))))
  rcases r with e | (v | _ | _ | _) <;> first
    | exact z
    | exact z.elim
    | skip
  obtain ⟨rfl, z⟩ := z
  first
    | exact wpAny_pure (wpAny_pure z)
    | (wp_walk
       exact z)
theorem kw_call (F : ExcBaseFacts B n1 n2 bmB) (hT : ∀ Y : String, bm.contains (.type Y) = bmB.contains (.type Y)) (hC : h.get? C = some (excClassObj nm qn C N bs bm b1 sn sub ab col dd k0 k1 k2 k3 k5 n1))
    (hi : Looks (model prog w) h (typeLookup (.ref C) "__init__") (some (.ref fI))) (hb : ∀ self, Looks (model prog w) h (bindSpecial (.ref fI) self) (.ref fI, [self]))
    (hq : codeAny (model prog w) (A.under (.builtin "type.__call__" ⟨[.ref C], kws⟩)) (.call (.ref fI) ⟨[.ref (h.objs.size + 1)], kws⟩) (InitBack (h.objs.size + 1) R) ⟨(h.push (kdv_tup [])).push (excO C h.objs.size), g, d, t, os⟩) :
    codeAny (model prog w) A (.call (.ref C) ⟨[], kws⟩) R ⟨h, g, d, t, os⟩ := by
  have _f1 := tc_lookup
  have _f2 := tc_bind (.ref C)
  have _ty : (⟨h, g, d, t, os⟩ : Shared).TypeIs (.ref C) "type" := ⟨_, hC, rfl⟩
  refine codeAny_of_tree (?_ : wpAny _ _ (callAny (.ref C) _) _ _ _)
  repeat (any_goals (first
    | assumption
    | with_reducible refine wpAny_loadPart_at hC ?_
    | wp_step))
  refine ⟨rfl, codeAny_call_builtin_at (Code.quiet_builtin _ (by decide +kernel)) entry_typeCall (wpAny_check_type_call_sub hC (kw_type F hT hC hi hb (codeAny_mono hq fun r s' z => ?_)))⟩
  rcases r with e | (v | _ | _ | _) <;> exact z
end
end DL
namespace DL
open PySem L2
section
variable {X : Cx} {CX : CXT} {x n : Str} {C fI : Addr} {k : Nat} {fd : FuncData} {ps ns ks : List Str} {sp : Sp} {g : List Value → List Value → List Value} {gV : List V → List V → List V} {kws : List Keyword} {tk : TA} {p pos apos : Pos} {e : Expr} {te : TE}
open PyProof.Rows PySem.Spec in
theorem pe_oexK (T : OexC X.K C) (iC : PySem.W.findIn X.K (.ref C) "__init__" = some (some (.ref fI))) (tI : PySem.W.typeIn X.K (.ref fI) = some (.type "function")) (F : FnOk X.prog X.w X.K X.mg X.base CX k fI fd ps sp) (hr : Room (k + 1) X.A) (hb : KBn X.K fd ps 1 ks g gV) (hx : Passes CX X (fun _ _ _ => False)) (hg : Gl X x) (hm : X.mg x = some (.ref C)) (hkw : PK X kws tk)
    (hall : (backToKw pos (keywordEach kws X.env)).all (·.1.isSome) = true) (hks : (backToKw pos (keywordEach kws X.env)).filterMap (·.1) = ks) (hdb : (x == ("__debug__" : Str)) = false) (hpl : ((backTo pos (starEach [] X.env)).any (·.1) || (backToKw pos (keywordEach kws X.env)).any (·.1.isNone)) = false) :
    PE X (.Call (.Name x p) [] kws pos) (fun σ H Q => tk σ H fun zs H1 => zs.length = ks.length ∧ ∀ a, H1 a = none → sp (gV [.ref a] zs) (upd H1 a (exo a C none)) (fun v H2 => v = .non ∧ Q (.ref a) H2) (fun _ _ _ => False)) := ⟨fun pins s σ H Q I h => by
  have cl := T.cls
  obtain ⟨nm, q, N, bs, bm, sn, sub, ab, col, dd, k0, k1, k2, k3, k5, hC, hbm⟩ := cl
  refine wpAny_Call_Name_kw (ld_glob I hg hm (PySem.W.callWith_KW0 (h₀ := X.base) I.ok.mod.kin T.kC hall ?_ hpl) hdb)
  refine thn (hkw.run pos pins s σ H _ I h) fun ws s2 ⟨zs, H1, I1, rz, l2, q2⟩ => ⟨I1.kIn, ?_⟩
  rw [hks]
  show wpAny _ _ (call (.ref C) [] (ks.zip ws)) _ _ _
  obtain ⟨hp, gs, dr, tk, os⟩ := s2
  have up : hp.objs.size ≤ hp.objs.size + 1 := Nat.le_succ _
  have hq := q2 (hp.objs.size + 1) (I1.hok.fresh up)
  have kk : ∀ b o, hp.get? b = some o → ((hp.push (PySem.W.kdv_tup [])).push (PySem.HandSPX.excO C hp.objs.size)).get? b = some o := fun b o z => Heap.get?_push_of_some _ (Heap.get?_push_of_some _ z)
  have me : ((hp.push (PySem.W.kdv_tup [])).push (PySem.HandSPX.excO C hp.objs.size)).get? (hp.objs.size + 1) = some (PySem.HandSPX.excO C hp.objs.size) := by heap_get
  have I2 : Inv X pins σ (upd H1 (hp.objs.size + 1) (exo (hp.objs.size + 1) C none)) ⟨(hp.push (PySem.W.kdv_tup [])).push (PySem.HandSPX.excO C hp.objs.size), gs, dr, tk, os⟩ := I1.laid (t' := tk) (a := hp.objs.size + 1) (o := exo (hp.objs.size + 1) C none) kk up (exo_ok me)
  have one : Vals [V.ref (hp.objs.size + 1)] [Value.ref (hp.objs.size + 1)] := .cons rfl .nil
  refine wpAny_call (kw_call PySem.F.excBase_ValueError (fun Y => PySem.HandSPX.refsVE_contains Y bm hbm) (I1.kIn _ _ hC) (PySem.W.looks_findIn I1.kIn iC) (fun self => PySem.W.bind_fn I1.kIn self tI)
    (codeAny_mono (F.run _ X.stack _ _ ⟨[Value.ref (hp.objs.size + 1)], ks.zip ws⟩ (g [Value.ref (hp.objs.size + 1)] ws) _ _ (fun _ _ _ => False) (hr.make C [] (ks.zip ws)) (I2.env0.make C [] (ks.zip ws)) (hb.to _ _ ws I2.kIn rfl (rz.length.symm.trans l2)) (hb.rel one rz) hq) fun r s' hq' => ?_))
  match r, hq' with
  | .error er, hq' => exact hx pins σ _ _ er s' I2 hq'
  | .ok (.ret u), hq' =>
    obtain ⟨v, H', I3, rv, ev, q3⟩ := I2.after hq'
    subst ev
    exact ⟨rv, V.ref (hp.objs.size + 1), H', I3, rfl, q3⟩
  | .ok .next, hq' => exact hq'.elim
  | .ok .brk, hq' => exact hq'.elim
  | .ok .cont, hq' => exact hq'.elim⟩
open PyProof.Rows PySem.Spec in
theorem pe_oxf (T : XfC X.K C) (hno : PySem.W.findIn X.K (.ref C) n = some none) (he : PE X e te) (hb : attributeBase e n X.env (eval e X.env) = eval e X.env) :
    PE X (.Attribute e n pos) (fun σ H Q => te σ H fun y H1 => ∃ (a d : Addr) (fs : List (Str × V)) (v : V), y = .ref a ∧ H1 a = some (exo a C (some d)) ∧ H1 d = some (exd d fs) ∧ fs.lookup n = some v ∧ Q v H1) := ⟨fun pins s σ H Q I h => by
  refine attr_of hb (thn (he.run pins s σ H _ I h) fun u s1 hh => ?_)
  obtain ⟨y, H1, I1, ry, a, d, fs, v, rfl, ea, ed, l, q⟩ := hh
  obtain rfl : u = Value.ref a := ry
  have oa := exo_at I1.hok ea
  have od := exd_at I1.hok ed
  obtain ⟨t1, ha⟩ := oa
  obtain ⟨mA, hns, hr⟩ := od
  have lk := lookIn_ns hns
  obtain ⟨od, ho, hl⟩ := lk
  have so := RelO.some_of (v := v) (o := mA n) (by rw [← l]; exact hr n)
  obtain ⟨u, hu, ru⟩ := so
  have J : PySem.W.InstAt s1.heap a _ C (some od) := ⟨ha, rfl, rfl, ho⟩
  exact HandSPX.exc_get I1.kIn J T.ga T.gg T.exC (PySem.W.findObj_own T.hdC hno rfl (by rw [hl, hu])) (handed_of ru) ⟨v, H1, I1.tok _, ru, q⟩⟩
end
/-- an error made by keywords ks, of which the j-th becomes the field f -/
def ErrK (P : Program) (w : World) (K : PySem.W.Frag) (mg : Str → Option Value) (base : Heap) (c f : Str) (ks : List Str) (j : Nat) : Prop :=
  ∃ (ns : List Str) (C fI : Addr) (fd : FuncData) (ps : List Str) (g : List Value → List Value → List Value) (gV : List V → List V → List V), mg c = some (.ref C) ∧ OexC K C ∧ PySem.W.findIn K (.ref C) "__init__" = some (some (.ref fI)) ∧ PySem.W.typeIn K (.ref fI) = some (.type "function") ∧
    FnOk P w K mg base CX0 1 fI fd ps (spI C ns) ∧ KBn K fd ps 1 ks g gV ∧ XfC K C ∧ PySem.W.findIn K (.ref C) f = some none ∧
    ∀ (a : Addr) (zs : List V), zs.length = ks.length → ∃ ys : List V, gV [.ref a] zs = .ref a :: ys ∧ ys.length = ns.length ∧ ∀ v, zs[j]? = some v → (ns.zip ys).reverse.lookup f = some v
def errF (as : List Arg) (m j : Nat) : M D := M.bnd (evs as) fun xs ρ => match allD xs with
  | some ds => if ds.length = m then (match ds[j]? with
    | some d => .ok d ρ
    | none => .bad) else .bad
  | none => .bad
section
variable {X : Cx} {x f : Str} {ks : List Str} {j : Nat} {kws : List Keyword} {as : List Arg} {p pos apos : Pos}
theorem de_errF {m : Nat} (T : ErrK X.prog X.w X.K X.mg X.base x f ks j) (hr : Room 2 X.A) (ha : DK X kws as) (hg : Gl X x := by rfl) (hlm : ks.length = m := by rfl)
    (hall : (backToKw pos (keywordEach kws X.env)).all (·.1.isSome) = true := by rfl) (hks : (backToKw pos (keywordEach kws X.env)).filterMap (·.1) = ks := by rfl) (hdb : (x == ("__debug__" : Str)) = false := by decide)
    (hpl : ((backTo pos (starEach [] X.env)).any (·.1) || (backToKw pos (keywordEach kws X.env)).any (·.1.isNone)) = false := by rfl)
    (hbase : attributeBase (.Call (.Name x p) [] kws pos) f X.env (eval (.Call (.Name x p) [] kws pos) X.env) = eval (.Call (.Name x p) [] kws pos) X.env := by rfl) : DE X (.Attribute (.Call (.Name x p) [] kws pos) f apos) (errF as m j) := fun W tk => by
  subst hlm
  obtain ⟨ns, C, fI, fd, ps, g, gV, hm, O, iC, tI, F, hb, Xf, hno, hp⟩ := T
  refine pe_imp (pe_oxf Xf hno (pe_oexK O iC tI F hr hb passes0 hg hm (ha W tk) hall hks hdb hpl) hbase) fun σ H Q ⟨w, A, ρ, R, q⟩ => ?_
  refine ⟨w, A, ρ, R, ?_⟩
  unfold errF at q
  cases hx : evs as ρ with
  | bad => rw [bnd_bad hx] at q; exact q.elim
  | exc er ρ1 => rw [bnd_exc hx] at q; exact q
  | ok xs ρ1 =>
    rw [bnd_ok hx] at q
    intro zs H1 ex1 R1 r1
    cases hd : allD xs with
    | none => rw [hd] at q; exact q.elim
    | some ds =>
      rw [hd] at q
      dsimp only at q
      by_cases hl : ds.length = ks.length
      · rw [if_pos hl] at q
        cases hj : ds[j]? with
        | none => rw [hj] at q; exact q.elim
        | some dv =>
          rw [hj] at q
          have r2 := allD_rep r1 hd
          obtain ⟨v, hv, rv⟩ := r2.get hj
          have hz : zs.length = ks.length := by rw [← r2.length, hl]
          refine ⟨hz, fun a na => ?_⟩
          obtain ⟨ys, y1, y2, y3⟩ := hp a zs hz
          rw [y1]
          refine ⟨a, ys, rfl, y2, upd_same, fun dx H2 nx ne h1 h2 h3 => ⟨rfl, a, dx, _, v, rfl, h1, h2, y3 v hv, ?_⟩⟩
          have nx' : H1 dx = none := by rwa [upd_ne ne] at nx
          have sm : Same H1 H2 := fun b o hb => by
            have b1 : b ≠ a := ne_of_none hb na
            rw [h3 b b1 (ne_of_none hb nx'), upd_ne b1]
            exact hb
          exact q v H2 (ex1.trans (Ext.of sm)) (R1.same sm) (rv.mono (off_Same sm))
      · rw [if_neg hl] at q; exact q.elim
end
def exG (kn : List Str) (i : Nat) (f : Str) : M D := fun ρ => match ρ[i]? with
  | some (.ex e) => if kn.contains e.c = true then (match (e.ns.zip e.l).lookup f with
    | some d => .ok d ρ
    | none => .bad) else .bad
  | _ => .bad
def XfG (K : PySem.W.Frag) (mg : Str → Option Value) (kn : List Str) (f : Str) : Prop := ∀ e ∈ kn, ∀ D, mg e = some (.ref D) → XfC K D ∧ PySem.W.findIn K (.ref D) f = some none
section
variable {X : Cx} {a : Addr} {oe : Obj} {cls : Value} {d : Option Addr} {pn : List (Addr × Obj)} {e : Expr} {te : TE} {pos : Pos} {f : Str} {kn : List Str} {i : Nat}
open PyProof.Rows PySem.Spec in
theorem pe_xfG (hz : Zc cls d oe) (hv : ∃ vs, oe.data = .fields vs) (he : PE (X.suite a ((a, oe) :: pn)) e te) (hb : attributeBase e f X.env (eval e X.env) = eval e X.env) :
    PE (X.suite a ((a, oe) :: pn)) (.Attribute e f pos) (fun σ H Q => te σ H fun y H1 => y = .ref a ∧ ∃ (C dd : Addr) (fs : List (Str × V)) (v : V), cls = .ref C ∧ XfC X.K C ∧ PySem.W.findIn X.K (.ref C) f = some none ∧ d = some dd ∧ H1 dd = some (.xd fs) ∧ fs.lookup f = some v ∧ Q v H1) := ⟨fun pins s σ H Q I h => by
  refine attr_of hb (thn (he.run pins s σ H _ I h) fun u s1 hh => ?_)
  obtain ⟨y, H1, I1, ry, rfl, C, dd, fs, v, rfl, T, hno, rfl, ea, l, q⟩ := hh
  obtain rfl : u = Value.ref a := ry
  have pin := I1.pin (a, oe) (List.mem_append_left _ List.mem_cons_self)
  have hx : ObjOk X.prog X.w H1 s1.heap dd (.xd fs) := I1.hok dd _ ea
  obtain ⟨vs, hd⟩ := hv
  obtain ⟨mA, hns, hr⟩ := hx
  have lk := lookIn_ns hns
  obtain ⟨od, ho, hl⟩ := lk
  have so := RelO.some_of (v := v) (o := mA f) (by rw [← l]; exact hr f)
  obtain ⟨u, hu, ru⟩ := so
  have no : PySem.W.notCls oe = true := by
    unfold PySem.W.notCls
    rw [hd]
  have J : PySem.W.InstAt s1.heap a oe C (some od) := ⟨pin.1, hz.1, no, by rw [hz.2]; exact ho⟩
  exact HandSPX.exc_get I1.kIn J T.ga T.gg T.exC (PySem.W.findObj_own T.hdC hno rfl (by rw [hl, hu])) (handed_of ru) ⟨v, H1, I1.tok _, ru, q⟩⟩
theorem de_xfG (T : XfG X.K X.mg kn f) (hz : Zc cls d oe) (hv : ∃ vs, oe.data = .fields vs) (ho : PE (X.suite a ((a, oe) :: pn)) e (tVar i)) (hb : attributeBase e f X.env (eval e X.env) = eval e X.env := by rfl) : DE (X.suite a ((a, oe) :: pn)) (.Attribute e f pos) (exG kn i f) := fun W tk =>
  pe_imp (pe_xfG hz hv ho hb) fun σ H Q ⟨w, A, ρ, R, q⟩ => by
    unfold exG at q
    cases hs : ρ[i]? with
    | none => rw [hs] at q; exact q.elim
    | some s0 =>
      rw [hs] at q
      cases s0 with
      | ex er =>
        dsimp only at q
        by_cases hk : kn.contains er.c = true
        · rw [if_pos hk] at q
          cases hl : (er.ns.zip er.l).lookup f with
          | none => rw [hl] at q; exact q.elim
          | some dv =>
            rw [hl] at q
            obtain ⟨o, ho', so, D, e1, e2, z⟩ := R.at' hs
            obtain ⟨oe', g1, g2, g3⟩ := tk.z rfl w.1 w.2
            obtain ⟨ga, go⟩ : a = w.1.xx.1 ∧ oe = oe' := by
              have g1' : some (a, oe) = some (w.1.xx.1, oe') := g1
              cases g1'
              exact ⟨rfl, rfl⟩
            subst go
            obtain ⟨j, j1, j2⟩ := zip_lookI hl
            obtain ⟨t1, t2⟩ := T er.c (by simpa using hk) D e2
            rcases z with z | ⟨d', fs, y1, y2, y3, y4⟩
            · rw [z.1] at j1; simp at j1
            · obtain ⟨v, v1, v2⟩ := y4 j f dv j1 j2
              exact ⟨.ref a, by rw [ho', so, ga], rfl, D, d', fs, v, by rw [← hz.1, g2, e1], t1, t2, by rw [← hz.2, g3, y1], y2, v1, q v H Ext.refl R v2⟩
        · rw [if_neg hk] at q; exact q.elim
      | _ => exact q.elim
end
section
variable {K : PySem.W.Frag} {mg : Str → Option Value} {kn : List Str} {tb : Str → Bool} {v : Value} {f : Str}
theorem isX_mk (h : ∀ e ∈ kn, ∃ C : Addr, mg e = some (.ref C) ∧ L2.ExcC K C ∧ PySem.W.kitOne K (.ref C) v = some (tb e)) : IsX K mg kn tb v := fun e he D hD => by
  obtain ⟨C, h1, h2, h3⟩ := h e he
  rw [h1] at hD
  cases hD
  exact ⟨h2, h3⟩
theorem xfG_mk (h : ∀ e ∈ kn, ∃ C : Addr, mg e = some (.ref C) ∧ XfC K C ∧ PySem.W.findIn K (.ref C) f = some none) : XfG K mg kn f := fun e he D hD => by
  obtain ⟨C, h1, h2, h3⟩ := h e he
  rw [h1] at hD
  cases hD
  exact ⟨h2, h3⟩
end
end DL
namespace DL
open PySem L2
section
variable {P : Program} {w : World} {K : PySem.W.Frag} {mg : Str → Option Value} {base : Heap} {c f g v u : Str} {C fI : Addr} {fd : FuncData}
theorem errK1 (hm : mg c = some (.ref C)) (O : OexC K C) (iC : PySem.W.findIn K (.ref C) "__init__" = some (some (.ref fI))) (tI : PySem.W.typeIn K (.ref fI) = some (.type "function")) (F : FnOk P w K mg base CX0 1 fI fd ["self", v] (spI C [f])) (Xf : XfC K C) (hno : PySem.W.findIn K (.ref C) f = some none)
    (hb : ∀ us ws : List Value, us.length = 1 → ws.length = 1 → bindArgs fd ⟨us, [v].zip ws⟩ = pure ((["self", v] : List Str).zip (us ++ ws))) : ErrK P w K mg base c f [v] 0 :=
  ⟨[f], C, fI, fd, ["self", v], fun us ws => us ++ ws, fun us ws => us ++ ws, hm, O, iC, tI, F, ⟨fun s us ws _ h1 h2 => .of_eq (hb us ws h1 h2), fun r1 r2 => r1.append r2⟩, Xf, hno, fun a zs hz => by
    match zs, hz with
    | [z], _ => exact ⟨[z], rfl, rfl, fun v hv => by simp at hv; subst hv; simp⟩⟩
theorem errK2a (hm : mg c = some (.ref C)) (O : OexC K C) (iC : PySem.W.findIn K (.ref C) "__init__" = some (some (.ref fI))) (tI : PySem.W.typeIn K (.ref fI) = some (.type "function")) (F : FnOk P w K mg base CX0 1 fI fd ["self", v, u] (spI C [f, g])) (Xf : XfC K C) (hno : PySem.W.findIn K (.ref C) g = some none)
    (hb : ∀ us ws : List Value, us.length = 1 → ws.length = 2 → bindArgs fd ⟨us, [v, u].zip ws⟩ = pure ((["self", v, u] : List Str).zip (us ++ ws))) : ErrK P w K mg base c g [v, u] 1 :=
  ⟨[f, g], C, fI, fd, ["self", v, u], fun us ws => us ++ ws, fun us ws => us ++ ws, hm, O, iC, tI, F, ⟨fun s us ws _ h1 h2 => .of_eq (hb us ws h1 h2), fun r1 r2 => r1.append r2⟩, Xf, hno, fun a zs hz => by
    match zs, hz with
    | [z, y], _ => exact ⟨[z, y], rfl, rfl, fun v hv => by simp at hv; subst hv; simp⟩⟩
theorem Vals.rev2 {zs : List V} {ws : List Value} (r : Vals zs ws) : Vals zs.reverse ws.reverse := by
  induction r with
  | nil => exact .nil
  | cons h t ih =>
    rw [List.reverse_cons, List.reverse_cons]
    exact L2.Vals.append ih (.cons h .nil)
theorem errK2b (hm : mg c = some (.ref C)) (O : OexC K C) (iC : PySem.W.findIn K (.ref C) "__init__" = some (some (.ref fI))) (tI : PySem.W.typeIn K (.ref fI) = some (.type "function")) (F : FnOk P w K mg base CX0 1 fI fd ["self", v, u] (spI C [f, g])) (Xf : XfC K C) (hno : PySem.W.findIn K (.ref C) f = some none) (hfg : f ≠ g)
    (hb : ∀ us ws : List Value, us.length = 1 → ws.length = 2 → bindArgs fd ⟨us, [u, v].zip ws⟩ = pure ((["self", v, u] : List Str).zip (us ++ ws.reverse))) : ErrK P w K mg base c f [u, v] 1 :=
  ⟨[f, g], C, fI, fd, ["self", v, u], fun us ws => us ++ ws.reverse, fun us ws => us ++ ws.reverse, hm, O, iC, tI, F, ⟨fun s us ws _ h1 h2 => .of_eq (hb us ws h1 h2), fun r1 r2 => r1.append (Vals.rev2 r2)⟩, Xf, hno, fun a zs hz => by
    match zs, hz with
    | [z, y], _ => exact ⟨[y, z], rfl, rfl, fun v hv => by
        have e : (f == g) = false := by simpa using hfg
        simp at hv
        subst hv
        simp [List.lookup, e]⟩⟩
end
section
variable {X : Cx} {a : Addr} {oe : Obj} {cls : Value} {d : Option Addr} {pn : List (Addr × Obj)} {en : Expr} {nm : Str} {p p2 pos : Pos} {i : Nat} {kn : List Str} {tb : Str → Bool}
theorem de_isXC (T : ∃ C : Addr, X.mg nm = some (.ref C) ∧ IsX X.K X.mg kn tb (.ref C)) (hz : Zc cls d oe) (hv : ∃ vs, oe.data = .fields vs) (hg : Gl (X.suite a ((a, oe) :: pn)) "isinstance") (hm : X.mg "isinstance" = none) (ho : PE (X.suite a ((a, oe) :: pn)) en (tVar i)) (hg2 : Gl (X.suite a ((a, oe) :: pn)) nm) (hdb : (nm == ("__debug__" : Str)) = false := by decide)
    (hs : starEach [en, .Name nm p2] X.env = (false, eval en X.env) :: starEach [.Name nm p2] X.env := by rfl) (hs2 : starEach [.Name nm p2] X.env = (false, eval (.Name nm p2) X.env) :: starEach [] X.env := by rfl)
    (hpl : (backTo pos (starEach [.Name nm p2] X.env)).any (·.1) = false := by rfl) : DE (X.suite a ((a, oe) :: pn)) (.Call (.Name "isinstance" p) [en, .Name nm p2] [] pos) (isX kn tb i) := by
  obtain ⟨C, h1, h2⟩ := T
  exact de_isX (cV := .ref C) (cv := .ref C) h2 (fun u r => r) hz hv hg hm ho (pe_glob (v := .ref C) hg2 h1 rfl hdb) hs hs2 hpl
theorem de_isXB {t : String} (T : IsX X.K X.mg kn tb (.type t)) (hn0 : X.mg nm = none) (hb : bootBuiltins nm = some (.type t)) (hz : Zc cls d oe) (hv : ∃ vs, oe.data = .fields vs) (hg : Gl (X.suite a ((a, oe) :: pn)) "isinstance") (hm : X.mg "isinstance" = none) (ho : PE (X.suite a ((a, oe) :: pn)) en (tVar i)) (hg2 : Gl (X.suite a ((a, oe) :: pn)) nm) (hn : nm ≠ "__name__" := by decide) (hdb : (nm == ("__debug__" : Str)) = false := by decide)
    (hs : starEach [en, .Name nm p2] X.env = (false, eval en X.env) :: starEach [.Name nm p2] X.env := by rfl) (hs2 : starEach [.Name nm p2] X.env = (false, eval (.Name nm p2) X.env) :: starEach [] X.env := by rfl)
    (hpl : (backTo pos (starEach [.Name nm p2] X.env)).any (·.1) = false := by rfl) : DE (X.suite a ((a, oe) :: pn)) (.Call (.Name "isinstance" p) [en, .Name nm p2] [] pos) (isX kn tb i) :=
  de_isX (cV := .ty t) (cv := .type t) T (fun u r => r) hz hv hg hm ho (pe_bltn (v := .ty t) hg2 hn0 hb rfl hn hdb) hs hs2 hpl
end
end DL
namespace DL
open PySem L2
theorem merge_self : ∀ {a b : Ev}, a.length = b.length → (∀ (j : Nat) s, a[j]? = some s → s.isOwn = true → b[j]? = some s) → mergeE a b = some a
  | [], [], _, _ => rfl
  | [], _ :: _, h, _ => by simp at h
  | _ :: _, [], h, _ => by simp at h
  | x :: a, y :: b, h, q => by
    have h' : a.length = b.length := by simpa using h
    have r := merge_self h' fun j s h1 h2 => by simpa using q (j + 1) s (by simpa using h1) h2
    unfold mergeE
    rw [r]
    cases ho : x.isOwn with
    | false => rfl
    | true =>
      have e := q 0 x rfl ho
      simp at e
      subst e
      simp [ho]
theorem merge_wipe {vs : List Nat} {ρ : Ev} (h : ownAt vs ρ = false) : mergeE ρ (wipeE ρ vs) = some ρ := by
  refine merge_self (wipeE_len vs ρ).symm fun j s h1 h2 => ?_
  rw [wipeE_get]
  by_cases hj : j ∈ vs
  · have := ownAt_no h j hj s h1
    rw [this] at h2
    cases h2
  · rw [if_neg hj]; exact h1
theorem lcL_pure {vs : List Nat} {t : D → Ev → Option Ev} {tt : M Bool} {te : M D} {ρ : Ev} (p : D → Bool) (f : D → D) : ∀ {ds : List D} {acc : List D},
    (∀ d ∈ ds, ∃ ρ1, t d ρ = some ρ1 ∧ tt ρ1 = .ok (p d) ρ1 ∧ (p d = true → te ρ1 = .ok (f d) ρ1) ∧ ownAt vs ρ1 = false ∧ wipeE ρ1 vs = ρ) → lcL vs t tt te ds ρ acc = .ok (acc ++ (ds.filter p).map f) ρ
  | [], acc, _ => by simp [lcL]
  | d :: ds, acc, h => by
    obtain ⟨ρ1, h1, h2, h3, h4, h5⟩ := h d List.mem_cons_self
    have ih := fun acc' => lcL_pure (acc := acc') p f fun x hx => h x (List.mem_cons_of_mem _ hx)
    unfold lcL
    rw [h1]
    dsimp only
    rw [h2]
    cases hp : p d with
    | false =>
      dsimp only
      rw [h4, h5]
      simp [ih, hp]
    | true =>
      dsimp only
      rw [h3 hp]
      dsimp only
      rw [h4, h5]
      simp [ih, hp]
theorem comp_pure {vs : List Nat} {src : M (List D)} {t : D → Ev → Option Ev} {tt : M Bool} {te : M D} {ρ ρ0 : Ev} {ds : List D} (p : D → Bool) (f : D → D) (hs : src ρ0 = .ok ds ρ) (ho : ownAt vs ρ = false)
    (h : ∀ d ∈ ds, ∃ ρ1, t d (wipeE ρ vs) = some ρ1 ∧ tt ρ1 = .ok (p d) ρ1 ∧ (p d = true → te ρ1 = .ok (f d) ρ1) ∧ ownAt vs ρ1 = false ∧ wipeE ρ1 vs = wipeE ρ vs) : compM vs src t tt te ρ0 = .ok (.lst ((ds.filter p).map f)) ρ := by
  unfold compM
  rw [bnd_ok hs, ho]
  simp only [Bool.false_eq_true, if_false]
  rw [lcL_pure p f h]
  dsimp only
  rw [merge_wipe ho]
  simp
theorem set_self {ρ : Ev} {i : Nat} {s : Slot} (h : ρ[i]? = some s) : ρ.set i s = ρ := by
  have hi := (List.getElem?_eq_some_iff.mp h).1
  have e := (List.getElem?_eq_some_iff.mp h).2
  rw [← e]
  exact List.set_getElem_self hi
/-- a loop that looks for the first item with c -/
theorem find_loop {i : Nat} {B : S} (c : D → Bool) (r : D → D) : ∀ {ds : List D} {ρ : Ev} {s0 : Slot}, ρ[i]? = some s0 → s0.isOwn = false → (∀ d ∈ ds, B (ρ.set i (.val d)) = if c d = true then .rt (r d) (ρ.set i (.val d)) else .nx (ρ.set i (.val d))) →
    (∃ d, ds.find? c = some d ∧ forL (gN i) B ds ρ = .rt (r d) (ρ.set i (.val d))) ∨ (ds.find? c = none ∧ ∃ s, s.isOwn = false ∧ forL (gN i) B ds ρ = .nx (ρ.set i s))
  | [], ρ, s0, h0, ho, _ => .inr ⟨rfl, s0, ho, by rw [set_self h0]; rfl⟩
  | d :: ds, ρ, s0, h0, ho, hB => by
    have li : i < ρ.length := (List.getElem?_eq_some_iff.mp h0).1
    have hg : gN i d ρ = some (ρ.set i (.val d)) := by unfold gN; rw [h0]; simp [ho]
    have e1 : forL (gN i) B (d :: ds) ρ = match B (ρ.set i (.val d)) with
      | .nx ρ' => forL (gN i) B ds ρ'
      | .ct ρ' => forL (gN i) B ds ρ'
      | .bk ρ' => .nx ρ'
      | .rt x ρ' => .rt x ρ' | .exc e ρ' => .exc e ρ' | .bad => .bad := by
      show (match gN i d ρ with
        | none => SOut.bad
        | some ρ1 => _) = _
      rw [hg]
      try dsimp only
      all_goals (cases B (ρ.set i (.val d)) <;> rfl)
    have hb := hB d List.mem_cons_self
    by_cases hc : c d = true
    · rw [if_pos hc] at hb
      exact .inl ⟨d, by simp [hc], by rw [e1, hb]⟩
    · rw [if_neg hc] at hb
      rcases find_loop c r (ds := ds) (ρ := ρ.set i (.val d)) (s0 := .val d) (by rw [List.getElem?_set_self li]) rfl (fun x hx => by rw [List.set_set]; exact hB x (List.mem_cons_of_mem _ hx)) with ⟨y, h1, h2⟩ | ⟨h1, s, h2, h3⟩
      · exact .inl ⟨y, by rw [List.find?_cons_of_neg hc]; exact h1, by rw [e1, hb]; dsimp only; rw [h2, List.set_set]⟩
      · exact .inr ⟨by rw [List.find?_cons_of_neg hc]; exact h1, s, h2, by rw [e1, hb]; dsimp only; rw [h3, List.set_set]⟩
theorem rng_nat (lo hi : Int) : rng lo hi = ((List.range (hi - lo).toNat).map fun k : Nat => lo + (k : Int)).map D.int := by
  unfold rng
  rw [List.map_map]
  rfl
theorem callV_1 {φ : Fn} {a : D} {ρ : Ev} : callV φ [.d a] ρ = match φ [.val a] with
    | .ok d (_ :: _) => .ok d ρ
    | .exc e (_ :: _) => .exc e ρ
    | _ => .bad := by
  unfold callV
  simp only [slotsOf, ownIx, Option.map_some, List.nodup_nil, if_true]
  cases φ [.val a] with
  | ok d os => cases os <;> simp [upsOf, updE]
  | exc e os => cases os <;> simp [upsOf, updE]
  | bad => rfl
theorem callV_2 {φ : Fn} {a b : D} {ρ : Ev} : callV φ [.d a, .d b] ρ = match φ [.val a, .val b] with
    | .ok d (_ :: _ :: _) => .ok d ρ
    | .exc e (_ :: _ :: _) => .exc e ρ
    | _ => .bad := by
  unfold callV
  simp only [slotsOf, ownIx, Option.map_some, List.nodup_nil, if_true]
  cases φ [.val a, .val b] with
  | ok d os => rcases os with _ | ⟨_, _ | ⟨_, _⟩⟩ <;> simp [upsOf, updE]
  | exc e os => rcases os with _ | ⟨_, _ | ⟨_, _⟩⟩ <;> simp [upsOf, updE]
  | bad => rfl
theorem callV_3 {φ : Fn} {a b c : D} {ρ : Ev} : callV φ [.d a, .d b, .d c] ρ = match φ [.val a, .val b, .val c] with
    | .ok d (_ :: _ :: _ :: _) => .ok d ρ
    | .exc e (_ :: _ :: _ :: _) => .exc e ρ
    | _ => .bad := by
  unfold callV
  simp only [slotsOf, ownIx, Option.map_some, List.nodup_nil, if_true]
  cases φ [.val a, .val b, .val c] with
  | ok d os => rcases os with _ | ⟨_, _ | ⟨_, _ | ⟨_, _⟩⟩⟩ <;> simp [upsOf, updE]
  | exc e os => rcases os with _ | ⟨_, _ | ⟨_, _ | ⟨_, _⟩⟩⟩ <;> simp [upsOf, updE]
  | bad => rfl
theorem callV_4 {φ : Fn} {a b c g : D} {ρ : Ev} : callV φ [.d a, .d b, .d c, .d g] ρ = match φ [.val a, .val b, .val c, .val g] with
    | .ok d (_ :: _ :: _ :: _ :: _) => .ok d ρ
    | .exc e (_ :: _ :: _ :: _ :: _) => .exc e ρ
    | _ => .bad := by
  unfold callV
  simp only [slotsOf, ownIx, Option.map_some, List.nodup_nil, if_true]
  cases φ [.val a, .val b, .val c, .val g] with
  | ok d os => rcases os with _ | ⟨_, _ | ⟨_, _ | ⟨_, _ | ⟨_, _⟩⟩⟩⟩ <;> simp [upsOf, updE]
  | exc e os => rcases os with _ | ⟨_, _ | ⟨_, _ | ⟨_, _ | ⟨_, _⟩⟩⟩⟩ <;> simp [upsOf, updE]
  | bad => rfl
theorem sz1 : (1 ≤ sizeLine) = True := by rw [sizeLine_eq]; decide
theorem sz2 : (2 ≤ sizeLine) = True := by rw [sizeLine_eq]; decide
theorem sz3 : (3 ≤ sizeLine) = True := by rw [sizeLine_eq]; decide
theorem sz4 : (4 ≤ sizeLine) = True := by rw [sizeLine_eq]; decide
theorem sz5 : (5 ≤ sizeLine) = True := by rw [sizeLine_eq]; decide
theorem sz6 : (6 ≤ sizeLine) = True := by rw [sizeLine_eq]; decide
theorem sz7 : (7 ≤ sizeLine) = True := by rw [sizeLine_eq]; decide
theorem sz8 : (8 ≤ sizeLine) = True := by rw [sizeLine_eq]; decide
theorem sz9 : (9 ≤ sizeLine) = True := by rw [sizeLine_eq]; decide
theorem sz10 : (10 ≤ sizeLine) = True := by rw [sizeLine_eq]; decide
theorem sz11 : (11 ≤ sizeLine) = True := by rw [sizeLine_eq]; decide
theorem sz12 : (12 ≤ sizeLine) = True := by rw [sizeLine_eq]; decide
end DL
namespace DL
open PySem L2
def top (i : Nat) : Stmt := PySem.Challenge.pw_gateskept_k14_errors.main.body.getD i (.Pass ⟨0, 0, 0, 0⟩)
abbrev s_ulaw_taken : Stmt := top 13
abbrev s_ulaw_pick : Stmt := top 14
abbrev s_ulaw_alike : Stmt := top 15
abbrev s_ulaw_raised : Stmt := top 16
abbrev s_law : Stmt := top 17
def known : List Str := ["BadEvent", "BadItem", "BadName", "BadNote", "BadNumber", "NothingToUndo", "Refused", "Taken", "TooMany", "Unknown"]
def caught (c e : Str) : Bool := e == c || c == "GateError"
def tb_BadEvent : Str → Bool := fun e => e == "BadEvent"
def tb_BadItem : Str → Bool := fun e => e == "BadItem"
def tb_BadName : Str → Bool := fun e => e == "BadName"
def tb_BadNote : Str → Bool := fun e => e == "BadNote"
def tb_BadNumber : Str → Bool := fun e => e == "BadNumber"
def tb_LookupError : Str → Bool := fun _ => false
def tb_NothingToUndo : Str → Bool := fun e => e == "NothingToUndo"
def tb_Refused : Str → Bool := fun e => e == "Refused"
def tb_RuntimeError : Str → Bool := fun _ => false
def tb_Taken : Str → Bool := fun e => e == "Taken"
def tb_TooMany : Str → Bool := fun e => e == "TooMany"
def tb_Unknown : Str → Bool := fun e => e == "Unknown"
def tb_ValueError : Str → Bool := fun _ => true
def kn_index : List Str := ["BadItem"]
def kn_limit : List Str := ["TooMany"]
def kn_line : List Str := ["BadNote"]
def kn_names : List Str := ["Refused"]
def kn_reason : List Str := ["Refused"]
def kn_value : List Str := ["BadEvent", "BadName", "BadNumber", "Taken", "Unknown"]
def m_ulaw_taken : S := sSeq (sIf (asTest (op2 D.gt (.v (op2 D.ix (.o 0) (.v (M.ret (.int 3))))) (.v (M.ret (.int 0))))) (sSeq (sAsg (op2 D.mod (.v (opN D.toI [(.v (op2 D.ix (.o 0) (.v (M.ret (.int 3)))))])) (.o 1)) (gN 3)) (sSeq (sPut 0 (M.ret (.int 3)) (op2 D.fdiv (.v (op2 D.ix (.o 0) (.v (M.ret (.int 3))))) (.o 1))) (sV (var 3) fun d ρ => .rt d ρ))) (sNx)) (sSeq (sPut 0 (M.ret (.int 1)) (op2 D.add (.v (op2 D.ix (.o 0) (.v (M.ret (.int 1))))) (.v (M.ret (.int 1))))) (sSeq (sIf (asTest (op2 D.gt (.v (op2 D.ix (.o 0) (.v (M.ret (.int 1))))) (.v (opN D.len [(.v (op2 D.ix (.o 0) (.v (M.ret (.int 0)))))])))) (sSeq (sPut 0 (M.ret (.int 2)) (op2 D.mod (.v (opN D.toI [(.v (op2 D.add (.v (op2 D.mul (.v (op2 D.ix (.o 0) (.v (M.ret (.int 2))))) (.v (M.ret (.int 48271))))) (.v (M.ret (.int 11)))))])) (.v (M.ret (.int 2147483647))))) (sV (op2 D.mod (.v (opN D.toI [(.v (op2 D.fdiv (.v (op2 D.ix (.o 0) (.v (M.ret (.int 2))))) (.v (M.ret (.int 7)))))])) (.o 1)) fun d ρ => .rt d ρ)) (sNx)) (sSeq (sAsg (op2 D.ix (.v (op2 D.ix (.o 0) (.v (M.ret (.int 0))))) (.v (op2 D.sub (.v (op2 D.ix (.o 0) (.v (M.ret (.int 1))))) (.v (M.ret (.int 1)))))) (gN 2)) (sSeq (sPut 0 (M.ret (.int 2)) (op2 D.mod (.v (opN D.toI [(.v (op2 D.add (.v (op2 D.add (.v (op2 D.mul (.v (op2 D.ix (.o 0) (.v (M.ret (.int 2))))) (.v (M.ret (.int 48271))))) (.o 2))) (.v (M.ret (.int 11)))))])) (.v (M.ret (.int 2147483647))))) (sSeq (sIf (asTest (op2 D.ge (.o 2) (.v (op2 D.pow (.v (M.ret (.int 10))) (.v (M.ret (.int 18))))))) (sPut 0 (M.ret (.int 3)) (op2 D.fdiv (.o 2) (.o 1))) (sNx)) (sV (op2 D.mod (.v (opN D.toI [(.o 2)])) (.o 1)) fun d ρ => .rt d ρ))))))
def f_ulaw_taken : Fn := fnF 2 2 m_ulaw_taken
def m_ulaw_pick : S := sV (op2 D.ix (.o 1) (.v (callF f_ulaw_taken [(.o 0), .v (opN D.len [(.o 1)])]))) fun d ρ => .rt d ρ
def f_ulaw_pick : Fn := fnF 2 0 m_ulaw_pick
def k0_ulaw_alike (rec : Fn) : M D := compM [2] (srcN D.rng1 [.v (opN D.len [(.o 1)])]) (gN 2) (bNot (asTest (callF rec [.v (op2 D.ix (.o 0) (.o 2)), .v (op2 D.ix (.o 1) (.o 2))]))) (var 2)
def m_ulaw_alike (rec : Fn) : S := sSeq (sIf (asTest (op1 (isi2 .tuple .list) (.o 1))) (sSeq (sIf (bOr (bNot (asTest (op1 (isi2 .tuple .list) (.o 0)))) (asTest (op2 D.ne (.v (op1 (isiB .list) (.o 0))) (.v (op1 (isiB .list) (.o 1)))))) (sV (M.ret (.bl false)) fun d ρ => .rt d ρ) (sNx)) (sSeq (sIf (asTest (op2 D.ne (.v (opN D.len [(.o 0)])) (.v (opN D.len [(.o 1)])))) (sV (M.ret (.bl false)) fun d ρ => .rt d ρ) (sNx)) (sV (op2 D.eq (.v (k0_ulaw_alike rec)) (.v (opV D.mkL []))) fun d ρ => .rt d ρ))) (sNx)) (sSeq (sIf (bOr (asTest (op2 D.isN (.o 1) (.v (M.ret .non)))) (asTest (op1 (isiB .str) (.o 1)))) (sV (vAnd (op2 D.eq (.o 0) (.o 1)) (op2 D.eq (.v (op1 (isiB .str) (.o 0))) (.v (op1 (isiB .str) (.o 1))))) fun d ρ => .rt d ρ) (sNx)) (sV (vAnd (op1 (isiB .int) (.o 0)) (vAnd (op2 D.eq (.v (op1 (isiB .bool) (.o 0))) (.v (op1 (isiB .bool) (.o 1)))) (op2 D.eq (.o 0) (.o 1)))) fun d ρ => .rt d ρ))
def f_ulaw_alike : Nat → Fn
  | 0 => fun _ => .bad
  | n + 1 => fnF 2 1 (m_ulaw_alike (f_ulaw_alike n))
def m_ulaw_raised : S := sTry known (caught "GateError") 3 (sSeq (sIf (asTest (op2 D.eq (.o 0) (.v (M.ret (.int 0))))) (sRaise "BadNumber" ["value"] [.v (var 1)]) (sNx)) (sSeq (sIf (asTest (op2 D.eq (.o 0) (.v (M.ret (.int 1))))) (sRaise "BadName" ["value"] [.v (var 1)]) (sNx)) (sSeq (sIf (asTest (op2 D.eq (.o 0) (.v (M.ret (.int 2))))) (sRaise "BadItem" ["index"] [.v (var 1)]) (sNx)) (sSeq (sIf (asTest (op2 D.eq (.o 0) (.v (M.ret (.int 3))))) (sRaise "BadEvent" ["value"] [.v (var 1)]) (sNx)) (sSeq (sIf (asTest (op2 D.eq (.o 0) (.v (M.ret (.int 4))))) (sRaise "BadNote" ["line"] [.v (var 1)]) (sNx)) (sSeq (sIf (asTest (op2 D.eq (.o 0) (.v (M.ret (.int 5))))) (sRaise "TooMany" ["limit"] [.v (var 1)]) (sNx)) (sSeq (sIf (asTest (op2 D.eq (.o 0) (.v (M.ret (.int 6))))) (sRaise "Unknown" ["value"] [.v (var 1)]) (sNx)) (sSeq (sIf (asTest (op2 D.eq (.o 0) (.v (M.ret (.int 7))))) (sRaise "Taken" ["value"] [.v (var 1)]) (sNx)) (sSeq (sIf (asTest (op2 D.eq (.o 0) (.v (M.ret (.int 8))))) (sRaise "Refused" ["reason", "names"] [.v (var 1), .v (var 2)]) (sNx)) (sRaise "NothingToUndo" [] [])))))))))) (sSeq (sAsg (opV D.mkL [.v (isX known tb_BadNumber 3), .v (isX known tb_BadName 3), .v (isX known tb_BadItem 3), .v (isX known tb_BadEvent 3), .v (isX known tb_BadNote 3)]) (gN 4)) (sSeq (sAsg (op2 D.add (.o 4) (.v (opV D.mkL [.v (isX known tb_TooMany 3), .v (isX known tb_Unknown 3), .v (isX known tb_Taken 3), .v (isX known tb_Refused 3), .v (isX known tb_NothingToUndo 3)]))) (gN 4)) (sSeq (sIf (bOr (bNot (asTest (isX known tb_ValueError 3))) (bOr (asTest (isX known tb_LookupError 3)) (asTest (isX known tb_RuntimeError 3)))) (sV (M.ret .non) fun d ρ => .rt d ρ) (sNx)) (sSeq (sAsg (M.ret .non) (gN 5)) (sSeq (sIf (asTest (op2 D.mem (.o 0) (.v (opV D.mkL [.v (M.ret (.int 0)), .v (M.ret (.int 1)), .v (M.ret (.int 3)), .v (M.ret (.int 6)), .v (M.ret (.int 7))])))) (sAsg (exG kn_value 3 "value") (gN 5)) (sNx)) (sSeq (sIf (asTest (op2 D.eq (.o 0) (.v (M.ret (.int 2))))) (sAsg (exG kn_index 3 "index") (gN 5)) (sNx)) (sSeq (sIf (asTest (op2 D.eq (.o 0) (.v (M.ret (.int 4))))) (sAsg (exG kn_line 3 "line") (gN 5)) (sNx)) (sSeq (sIf (asTest (op2 D.eq (.o 0) (.v (M.ret (.int 5))))) (sAsg (exG kn_limit 3 "limit") (gN 5)) (sNx)) (sSeq (sIf (asTest (op2 D.eq (.o 0) (.v (M.ret (.int 8))))) (sAsg (opV D.mkT [.v (exG kn_reason 3 "reason"), .v (exG kn_names 3 "names")]) (gN 5)) (sNx)) (sV (opV D.mkT [.v (var 4), .v (var 5)]) fun d ρ => .rt d ρ))))))))))
def f_ulaw_raised : Fn := fnF 3 3 m_ulaw_raised
def x0_law : S := sOwn 1 1 [.v (var 0), .v (M.ret (.int 0)), .v (M.ret (.int 73)), .v (M.ret (.int 0))]
def c1_law : M D := op2 D.eq (.o 8) (.o 2)
def k2_law : M D := compM [8] (srcN D.rng1 [.v (M.ret (.int 10))]) (gN 8) (noTest) (c1_law)
def b3_law : S := sSeq (sAsg (callF f_ulaw_pick [(.o 1), .v (opV D.mkL [.v (M.ret .non), .v (M.ret (.int 7)), .v (M.ret (.str "x")), .v (opV D.mkT [.v (M.ret (.int 1)), .v (M.ret (.int 2))]), .v (M.ret (.bl true)), .v (callF f_ulaw_taken [(.o 1), .v (op2 D.pow (.v (M.ret (.int 10))) (.v (M.ret (.int 9))))])])]) (gN 4)) (sSeq (sAsg (callF f_ulaw_pick [(.o 1), .v (opV D.mkL [.v (opV D.mkT []), .v (opV D.mkT [.v (M.ret (.str "a"))])])]) (gN 5)) (sSeq (sAsg (callF f_ulaw_raised [.v (var 2), .v (var 4), .v (var 5)]) (gN 6)) (sSeq (sIf (bOr (asTest (op2 D.isN (.o 6) (.v (M.ret .non)))) (asTest (op2 D.ne (.v (op2 D.ix (.o 6) (.v (M.ret (.int 0))))) (.v (k2_law))))) (sV (M.ret (.bl false)) fun d ρ => .rt d ρ) (sNx)) (sSeq (sAsg (var 4) (gN 7)) (sSeq (sIf (asTest (op2 D.eq (.o 2) (.v (M.ret (.int 8))))) (sAsg (opV D.mkT [.v (var 4), .v (var 5)]) (gN 7)) (sNx)) (sIf (bAnd (asTest (op2 D.lt (.o 2) (.v (M.ret (.int 9))))) (bOr (asTest (op2 D.ne (.v (op2 D.ix (.o 6) (.v (M.ret (.int 1))))) (.o 7))) (asTest (op2 D.ne (.v (op1 (isiB .bool) (.v (op2 D.ix (.o 6) (.v (M.ret (.int 1))))))) (.v (op1 (isiB .bool) (.o 7))))))) (sV (M.ret (.bl false)) fun d ρ => .rt d ρ) (sNx)))))))
def l4_law : S := sFor (srcN D.rng1 [.v (M.ret (.int 10))]) (gN 2) (b3_law)
def x5_law : S := sAsg (opV D.mkL [.v (errF [.v (M.ret (.int 1))] 1 0), .v (errF [.v (M.ret (.str "a"))] 1 0), .v (errF [.v (M.ret (.int 4))] 1 0), .v (errF [.v (M.ret (.int 5))] 1 0), .v (errF [.v (M.ret (.int 6))] 1 0)]) (gN 3)
def x6_law : S := sAsg (op2 D.add (.o 3) (.v (opV D.mkL [.v (errF [.v (M.ret (.int 7))] 1 0), .v (errF [.v (M.ret (.int 8))] 1 0), .v (errF [.v (M.ret (.int 9))] 1 0), .v (errF [.v (M.ret (.str "r")), .v (M.ret (.int 11))] 2 1), .v (errF [.v (M.ret (.int 1)), .v (M.ret (.str "s"))] 2 1)]))) (gN 3)
def x7_law : S := sV (callF (f_ulaw_alike 8) [.v (var 3), .v (opV D.mkL [.v (M.ret (.int 1)), .v (M.ret (.str "a")), .v (M.ret (.int 4)), .v (M.ret (.int 5)), .v (M.ret (.int 6)), .v (M.ret (.int 7)), .v (M.ret (.int 8)), .v (M.ret (.int 9)), .v (M.ret (.int 11)), .v (M.ret (.str "s"))])]) fun d ρ => .rt d ρ
def m_law : S := sSeq (x0_law) (sSeq (l4_law) (sSeq (x5_law) (sSeq (x6_law) (x7_law))))
def f_law : Fn := fnF 1 8 m_law
structure Txt (P : Program) (w : World) (K : PySem.W.Frag) (mg : Str → Option Value) (base : Heap) : Prop where
  e_BadEvent : ErrC P w K mg base "BadEvent" ["value"]
  e_BadItem : ErrC P w K mg base "BadItem" ["index"]
  e_BadName : ErrC P w K mg base "BadName" ["value"]
  e_BadNote : ErrC P w K mg base "BadNote" ["line"]
  e_BadNumber : ErrC P w K mg base "BadNumber" ["value"]
  e_Refused : ErrC P w K mg base "Refused" ["reason", "names"]
  e_Taken : ErrC P w K mg base "Taken" ["value"]
  e_TooMany : ErrC P w K mg base "TooMany" ["limit"]
  e_Unknown : ErrC P w K mg base "Unknown" ["value"]
  r_NothingToUndo : ErrN K mg "NothingToUndo"
  k_BadEvent_value : ErrK P w K mg base "BadEvent" "value" ["value"] 0
  k_BadItem_index : ErrK P w K mg base "BadItem" "index" ["index"] 0
  k_BadName_value : ErrK P w K mg base "BadName" "value" ["value"] 0
  k_BadNote_line : ErrK P w K mg base "BadNote" "line" ["line"] 0
  k_BadNumber_value : ErrK P w K mg base "BadNumber" "value" ["value"] 0
  k_Refused_names : ErrK P w K mg base "Refused" "names" ["reason", "names"] 1
  k_Refused_reason : ErrK P w K mg base "Refused" "reason" ["names", "reason"] 1
  k_Taken_value : ErrK P w K mg base "Taken" "value" ["value"] 0
  k_TooMany_limit : ErrK P w K mg base "TooMany" "limit" ["limit"] 0
  k_Unknown_value : ErrK P w K mg base "Unknown" "value" ["value"] 0
  is_BadEvent : ∃ C : Addr, mg "BadEvent" = some (.ref C) ∧ IsX K mg known tb_BadEvent (.ref C)
  is_BadItem : ∃ C : Addr, mg "BadItem" = some (.ref C) ∧ IsX K mg known tb_BadItem (.ref C)
  is_BadName : ∃ C : Addr, mg "BadName" = some (.ref C) ∧ IsX K mg known tb_BadName (.ref C)
  is_BadNote : ∃ C : Addr, mg "BadNote" = some (.ref C) ∧ IsX K mg known tb_BadNote (.ref C)
  is_BadNumber : ∃ C : Addr, mg "BadNumber" = some (.ref C) ∧ IsX K mg known tb_BadNumber (.ref C)
  is_LookupError : IsX K mg known tb_LookupError (.type "LookupError")
  is_NothingToUndo : ∃ C : Addr, mg "NothingToUndo" = some (.ref C) ∧ IsX K mg known tb_NothingToUndo (.ref C)
  is_Refused : ∃ C : Addr, mg "Refused" = some (.ref C) ∧ IsX K mg known tb_Refused (.ref C)
  is_RuntimeError : IsX K mg known tb_RuntimeError (.type "RuntimeError")
  is_Taken : ∃ C : Addr, mg "Taken" = some (.ref C) ∧ IsX K mg known tb_Taken (.ref C)
  is_TooMany : ∃ C : Addr, mg "TooMany" = some (.ref C) ∧ IsX K mg known tb_TooMany (.ref C)
  is_Unknown : ∃ C : Addr, mg "Unknown" = some (.ref C) ∧ IsX K mg known tb_Unknown (.ref C)
  is_ValueError : IsX K mg known tb_ValueError (.type "ValueError")
  n_LookupError : mg "LookupError" = none
  n_RuntimeError : mg "RuntimeError" = none
  n_ValueError : mg "ValueError" = none
  n_bool : mg "bool" = none
  n_int : mg "int" = none
  n_isinstance : mg "isinstance" = none
  n_len : mg "len" = none
  n_list : mg "list" = none
  n_range : mg "range" = none
  n_str : mg "str" = none
  n_tuple : mg "tuple" = none
  x_GateError : ExcT K mg known (caught "GateError") "GateError" []
  xg_index : XfG K mg kn_index "index"
  xg_limit : XfG K mg kn_limit "limit"
  xg_line : XfG K mg kn_line "line"
  xg_names : XfG K mg kn_names "names"
  xg_reason : XfG K mg kn_reason "reason"
  xg_value : XfG K mg kn_value "value"
  ok : True
section
variable {P : Program} {w : World} {K : PySem.W.Frag} {mg : Str → Option Value} {base : Heap}
theorem sc_ulaw_taken : FnScope ["row", "many", "cell", "found"] ["row", "many"] (defScope s_ulaw_taken) := ⟨rfl, rfl, rfl, by decide +kernel, rfl, by decide +kernel, by decide +kernel⟩
theorem nd_ulaw_taken : (["row", "many", "cell", "found"] : List Str).Nodup := by decide +kernel
theorem ok_ulaw_taken {f : Addr} {fd : FuncData} (T : Txt P w K mg base) (F : Fun K "_law_taken" "_law_taken" s_ulaw_taken f fd) (hm : mg "_law_taken" = some (.ref f)) : DefOk P w K mg base "_law_taken" 1 f_ulaw_taken :=
  def_ok (N := ["row", "many", "cell", "found"]) (ps := ["row", "many"]) (loc := 2) F hm (F.binds (ps := ["row", "many"]) fun _ _ _ _ _ _ us hl => match us, hl with | [_, _], _ => rfl) sc_ulaw_taken rfl <| fun cdv A outer s H E hr => by
    have hN := nd_ulaw_taken
    have hp : PassesOwn (model P w) (A.deeper (PyProof.Rows.envOfC "_law_taken" (defScope s_ulaw_taken) s.heap.objs.size f cdv)) (PyProof.Rows.envOfC "_law_taken" (defScope s_ulaw_taken) s.heap.objs.size f cdv) (cxOf (L2.CX P w) P w K mg base ["row", "many", "cell", "found"] "_law_taken" (defScope s_ulaw_taken) f cdv A outer s H E).xe := passes_of rfl
    exact dss_cons (ds_if (dt_gt (do_v (de_ix (do_o (pv 0)) (do_v (de_int)))) (do_v (de_int))) (dss_cons (ds_set hN (by rfl) (by first | exact .inl rfl | exact .inr rfl) (de_mod (do_v (de_intc (by rfl) T.n_int (da_cons ((do_v (de_ix (do_o (pv 0)) (do_v (de_int))))) (da_nil)))) (do_o (pv 1)))) (dss_cons (ds_put (pv 0) (de_int) (de_fdiv (do_v (de_ix (do_o (pv 0)) (do_v (de_int)))) (do_o (pv 1))) (fun _ h => pg_sub (pv 0) h set_list)) (dss_one (ds_ret (de_var (pv 3)))))) (dss_nil)) (dss_cons (ds_put (pv 0) (de_int) (de_add (do_v (de_ix (do_o (pv 0)) (do_v (de_int)))) (do_v (de_int))) (fun _ h => pg_sub (pv 0) h set_list)) (dss_cons (ds_if (dt_gt (do_v (de_ix (do_o (pv 0)) (do_v (de_int)))) (do_v (de_len (by rfl) T.n_len (da_cons ((do_v (de_ix (do_o (pv 0)) (do_v (de_int))))) (da_nil))))) (dss_cons (ds_put (pv 0) (de_int) (de_mod (do_v (de_intc (by rfl) T.n_int (da_cons ((do_v (de_add (do_v (de_mul (do_v (de_ix (do_o (pv 0)) (do_v (de_int)))) (do_v (de_int)))) (do_v (de_int))))) (da_nil)))) (do_v (de_int))) (fun _ h => pg_sub (pv 0) h set_list)) (dss_one (ds_ret (de_mod (do_v (de_intc (by rfl) T.n_int (da_cons ((do_v (de_fdiv (do_v (de_ix (do_o (pv 0)) (do_v (de_int)))) (do_v (de_int))))) (da_nil)))) (do_o (pv 1)))))) (dss_nil)) (dss_cons (ds_set hN (by rfl) (by first | exact .inl rfl | exact .inr rfl) (de_ix (do_v (de_ix (do_o (pv 0)) (do_v (de_int)))) (do_v (de_sub (do_v (de_ix (do_o (pv 0)) (do_v (de_int)))) (do_v (de_int)))))) (dss_cons (ds_put (pv 0) (de_int) (de_mod (do_v (de_intc (by rfl) T.n_int (da_cons ((do_v (de_add (do_v (de_add (do_v (de_mul (do_v (de_ix (do_o (pv 0)) (do_v (de_int)))) (do_v (de_int)))) (do_o (pv 2)))) (do_v (de_int))))) (da_nil)))) (do_v (de_int))) (fun _ h => pg_sub (pv 0) h set_list)) (dss_cons (ds_if (dt_ge (do_o (pv 2)) (do_v (de_pow (do_v (de_int)) (do_v (de_int))))) (dss_one (ds_put (pv 0) (de_int) (de_fdiv (do_o (pv 2)) (do_o (pv 1))) (fun _ h => pg_sub (pv 0) h set_list))) (dss_nil)) (dss_one (ds_ret (de_mod (do_v (de_intc (by rfl) T.n_int (da_cons ((do_o (pv 2))) (da_nil)))) (do_o (pv 1))))))))))
theorem sc_ulaw_pick : FnScope ["row", "kinds"] ["row", "kinds"] (defScope s_ulaw_pick) := ⟨rfl, rfl, rfl, by decide +kernel, rfl, by decide +kernel, by decide +kernel⟩
theorem nd_ulaw_pick : (["row", "kinds"] : List Str).Nodup := by decide +kernel
theorem ok_ulaw_pick {f : Addr} {fd : FuncData} (T : Txt P w K mg base) (F : Fun K "_law_pick" "_law_pick" s_ulaw_pick f fd) (hm : mg "_law_pick" = some (.ref f)) (D_ulaw_taken : DefOk P w K mg base "_law_taken" 1 f_ulaw_taken) : DefOk P w K mg base "_law_pick" 2 f_ulaw_pick :=
  def_ok (N := ["row", "kinds"]) (ps := ["row", "kinds"]) (loc := 0) F hm (F.binds (ps := ["row", "kinds"]) fun _ _ _ _ _ _ us hl => match us, hl with | [_, _], _ => rfl) sc_ulaw_pick rfl <| fun cdv A outer s H E hr => by
    have hN := nd_ulaw_pick
    have hp : PassesOwn (model P w) (A.deeper (PyProof.Rows.envOfC "_law_pick" (defScope s_ulaw_pick) s.heap.objs.size f cdv)) (PyProof.Rows.envOfC "_law_pick" (defScope s_ulaw_pick) s.heap.objs.size f cdv) (cxOf (L2.CX P w) P w K mg base ["row", "kinds"] "_law_pick" (defScope s_ulaw_pick) f cdv A outer s H E).xe := passes_of rfl
    exact dss_one (ds_ret (de_ix (do_o (pv 1)) (do_v (de_callD D_ulaw_taken (hr.mono (by decide)) (da_cons ((do_o (pv 0))) (da_cons (do_v (de_len (by rfl) T.n_len (da_cons ((do_o (pv 1))) (da_nil)))) (da_nil)))))))
theorem sc_ulaw_alike : FnScope ["found", "due", "k"] ["found", "due"] (defScope s_ulaw_alike) := ⟨rfl, rfl, rfl, by decide +kernel, rfl, by decide +kernel, by decide +kernel⟩
theorem nd_ulaw_alike : (["found", "due", "k"] : List Str).Nodup := by decide +kernel
theorem ok_ulaw_alike {f : Addr} {fd : FuncData} (T : Txt P w K mg base) (F : Fun K "_law_alike" "_law_alike" s_ulaw_alike f fd) (hm : mg "_law_alike" = some (.ref f)) : ∀ n, DefOk P w K mg base "_law_alike" (1 + n) (f_ulaw_alike n)
  | 0 => def_bad (ps := ["found", "due"]) F hm (F.binds (ps := ["found", "due"]) fun _ _ _ _ _ _ us hl => match us, hl with | [_, _], _ => rfl)
  | n + 1 => by
    have D_rec := ok_ulaw_alike T F hm n
    exact def_ok (N := ["found", "due", "k"]) (ps := ["found", "due"]) (loc := 1) (k := 1 + n) F hm (F.binds (ps := ["found", "due"]) fun _ _ _ _ _ _ us hl => match us, hl with | [_, _], _ => rfl) sc_ulaw_alike rfl <| fun cdv A outer s H E hr => by
        have hN := nd_ulaw_alike
        have hp : PassesOwn (model P w) (A.deeper (PyProof.Rows.envOfC "_law_alike" (defScope s_ulaw_alike) s.heap.objs.size f cdv)) (PyProof.Rows.envOfC "_law_alike" (defScope s_ulaw_alike) s.heap.objs.size f cdv) (cxOf (L2.CX P w) P w K mg base ["found", "due", "k"] "_law_alike" (defScope s_ulaw_alike) f cdv A outer s H E).xe := passes_of rfl
        exact dss_cons (ds_if (dt_val (de_isi2 .tuple .list (by rfl) T.n_isinstance (by rfl) T.n_tuple bt_tuple (by rfl) T.n_list bt_list (do_o (pv 1)))) (dss_cons (ds_if (dt_w (dw_or (dt_not (dt_val (de_isi2 .tuple .list (by rfl) T.n_isinstance (by rfl) T.n_tuple bt_tuple (by rfl) T.n_list bt_list (do_o (pv 0))))) (dw_or1 (dt_ne (un64 hr) (do_v (de_isi .list (by rfl) T.n_isinstance (by rfl) T.n_list bt_list (do_o (pv 0)))) (do_v (de_isi .list (by rfl) T.n_isinstance (by rfl) T.n_list bt_list (do_o (pv 1)))))))) (dss_one (ds_ret (de_bl))) (dss_nil)) (dss_cons (ds_if (dt_ne (un64 hr) (do_v (de_len (by rfl) T.n_len (da_cons ((do_o (pv 0))) (da_nil)))) (do_v (de_len (by rfl) T.n_len (da_cons ((do_o (pv 1))) (da_nil))))) (dss_one (ds_ret (de_bl))) (dss_nil)) (dss_one (ds_ret (de_eq (un64 hr) (do_v (de_lc (own := [("k", 2)]) (by rfl) hN (di_range1 (by rfl) T.n_range (da_cons (do_v (de_len (by rfl) T.n_len (da_cons ((do_o (pv 1))) (da_nil)))) (da_nil))) (by rfl) (fun _ _ _ _ _ => dgn 2 hN) (fun _ _ _ _ _ => dts_one (dt_not (dt_val (de_callD D_rec (hr.mono (Nat.le_refl _)) (da_cons (do_v (de_ix (do_o (pv 0)) (do_o (pv 2)))) (da_cons (do_v (de_ix (do_o (pv 1)) (do_o (pv 2)))) (da_nil))))))) (fun _ _ _ _ _ => de_var (pv 2)))) (do_v (de_lst (da_nil)))))))) (dss_nil)) (dss_cons (ds_if (dt_w (dw_or (dt_isN (do_o (pv 1)) (do_v (de_non))) (dw_or1 (dt_val (de_isi .str (by rfl) T.n_isinstance (by rfl) T.n_str bt_str (do_o (pv 1))))))) (dss_one (ds_ret (de_and (de_eq (un64 hr) (do_o (pv 0)) (do_o (pv 1))) (de_one1 (de_eq (un64 hr) (do_v (de_isi .str (by rfl) T.n_isinstance (by rfl) T.n_str bt_str (do_o (pv 0)))) (do_v (de_isi .str (by rfl) T.n_isinstance (by rfl) T.n_str bt_str (do_o (pv 1))))))))) (dss_nil)) (dss_one (ds_ret (de_and (de_isi .int (by rfl) T.n_isinstance (by rfl) T.n_int bt_int (do_o (pv 0))) (de_and (de_eq (un64 hr) (do_v (de_isi .bool (by rfl) T.n_isinstance (by rfl) T.n_bool bt_bool (do_o (pv 0)))) (do_v (de_isi .bool (by rfl) T.n_isinstance (by rfl) T.n_bool bt_bool (do_o (pv 1))))) (de_one1 (de_eq (un64 hr) (do_o (pv 0)) (do_o (pv 1)))))))))
theorem sc_ulaw_raised : FnScope ["number", "value", "named", "e", "kinds", "field"] ["number", "value", "named"] (defScope s_ulaw_raised) := ⟨rfl, rfl, rfl, by decide +kernel, rfl, by decide +kernel, by decide +kernel⟩
theorem nd_ulaw_raised : (["number", "value", "named", "e", "kinds", "field"] : List Str).Nodup := by decide +kernel
theorem ok_ulaw_raised {f : Addr} {fd : FuncData} (T : Txt P w K mg base) (F : Fun K "_law_raised" "_law_raised" s_ulaw_raised f fd) (hm : mg "_law_raised" = some (.ref f)) : DefOk P w K mg base "_law_raised" 3 f_ulaw_raised :=
  def_ok (N := ["number", "value", "named", "e", "kinds", "field"]) (ps := ["number", "value", "named"]) (loc := 3) F hm (F.binds (ps := ["number", "value", "named"]) fun _ _ _ _ _ _ us hl => match us, hl with | [_, _, _], _ => rfl) sc_ulaw_raised rfl <| fun cdv A outer s H E hr => by
    have hN := nd_ulaw_raised
    have hp : PassesOwn (model P w) (A.deeper (PyProof.Rows.envOfC "_law_raised" (defScope s_ulaw_raised) s.heap.objs.size f cdv)) (PyProof.Rows.envOfC "_law_raised" (defScope s_ulaw_raised) s.heap.objs.size f cdv) (cxOf (L2.CX P w) P w K mg base ["number", "value", "named", "e", "kinds", "field"] "_law_raised" (defScope s_ulaw_raised) f cdv A outer s H E).xe := passes_of rfl
    exact dss_one (ds_tryT T.x_GateError (by rfl) (by rfl) (by rfl) hN (by rfl) (by rfl) (by rfl) (fun pn xe hp => dss_cons (ds_if (dt_eq (un64 hr) (do_o (pv 0)) (do_v (de_int))) (dss_one (ds_raise (by rfl) T.e_BadNumber (hr.mono (by decide)) (by rfl) (da_cons (do_v (de_var (pv 1))) (da_nil)))) (dss_nil)) (dss_cons (ds_if (dt_eq (un64 hr) (do_o (pv 0)) (do_v (de_int))) (dss_one (ds_raise (by rfl) T.e_BadName (hr.mono (by decide)) (by rfl) (da_cons (do_v (de_var (pv 1))) (da_nil)))) (dss_nil)) (dss_cons (ds_if (dt_eq (un64 hr) (do_o (pv 0)) (do_v (de_int))) (dss_one (ds_raise (by rfl) T.e_BadItem (hr.mono (by decide)) (by rfl) (da_cons (do_v (de_var (pv 1))) (da_nil)))) (dss_nil)) (dss_cons (ds_if (dt_eq (un64 hr) (do_o (pv 0)) (do_v (de_int))) (dss_one (ds_raise (by rfl) T.e_BadEvent (hr.mono (by decide)) (by rfl) (da_cons (do_v (de_var (pv 1))) (da_nil)))) (dss_nil)) (dss_cons (ds_if (dt_eq (un64 hr) (do_o (pv 0)) (do_v (de_int))) (dss_one (ds_raise (by rfl) T.e_BadNote (hr.mono (by decide)) (by rfl) (da_cons (do_v (de_var (pv 1))) (da_nil)))) (dss_nil)) (dss_cons (ds_if (dt_eq (un64 hr) (do_o (pv 0)) (do_v (de_int))) (dss_one (ds_raise (by rfl) T.e_TooMany (hr.mono (by decide)) (by rfl) (da_cons (do_v (de_var (pv 1))) (da_nil)))) (dss_nil)) (dss_cons (ds_if (dt_eq (un64 hr) (do_o (pv 0)) (do_v (de_int))) (dss_one (ds_raise (by rfl) T.e_Unknown (hr.mono (by decide)) (by rfl) (da_cons (do_v (de_var (pv 1))) (da_nil)))) (dss_nil)) (dss_cons (ds_if (dt_eq (un64 hr) (do_o (pv 0)) (do_v (de_int))) (dss_one (ds_raise (by rfl) T.e_Taken (hr.mono (by decide)) (by rfl) (da_cons (do_v (de_var (pv 1))) (da_nil)))) (dss_nil)) (dss_cons (ds_if (dt_eq (un64 hr) (do_o (pv 0)) (do_v (de_int))) (dss_one (ds_raise (by rfl) T.e_Refused (hr.mono (by decide)) (by rfl) (da_cons (do_v (de_var (pv 1))) (da_cons (do_v (de_var (pv 2))) (da_nil))))) (dss_nil)) (dss_one (ds_raise0 (by rfl) T.r_NothingToUndo (by rfl)))))))))))) (fun a oe cls d pn hz hv => dss_cons (ds_set hN (by rfl) (by first | exact .inl rfl | exact .inr rfl) (de_lst (da_cons (do_v (de_isXC T.is_BadNumber hz hv (by rfl) T.n_isinstance (pv 3) (by rfl))) (da_cons (do_v (de_isXC T.is_BadName hz hv (by rfl) T.n_isinstance (pv 3) (by rfl))) (da_cons (do_v (de_isXC T.is_BadItem hz hv (by rfl) T.n_isinstance (pv 3) (by rfl))) (da_cons (do_v (de_isXC T.is_BadEvent hz hv (by rfl) T.n_isinstance (pv 3) (by rfl))) (da_cons (do_v (de_isXC T.is_BadNote hz hv (by rfl) T.n_isinstance (pv 3) (by rfl))) (da_nil)))))))) (dss_cons (ds_set hN (by rfl) (by first | exact .inl rfl | exact .inr rfl) (de_add (do_o (pv 4)) (do_v (de_lst (da_cons (do_v (de_isXC T.is_TooMany hz hv (by rfl) T.n_isinstance (pv 3) (by rfl))) (da_cons (do_v (de_isXC T.is_Unknown hz hv (by rfl) T.n_isinstance (pv 3) (by rfl))) (da_cons (do_v (de_isXC T.is_Taken hz hv (by rfl) T.n_isinstance (pv 3) (by rfl))) (da_cons (do_v (de_isXC T.is_Refused hz hv (by rfl) T.n_isinstance (pv 3) (by rfl))) (da_cons (do_v (de_isXC T.is_NothingToUndo hz hv (by rfl) T.n_isinstance (pv 3) (by rfl))) (da_nil)))))))))) (dss_cons (ds_if (dt_w (dw_or (dt_not (dt_val (de_isXB T.is_ValueError T.n_ValueError (by decide +kernel) hz hv (by rfl) T.n_isinstance (pv 3) (by rfl)))) (dw_or (dt_val (de_isXB T.is_LookupError T.n_LookupError (by decide +kernel) hz hv (by rfl) T.n_isinstance (pv 3) (by rfl))) (dw_or1 (dt_val (de_isXB T.is_RuntimeError T.n_RuntimeError (by decide +kernel) hz hv (by rfl) T.n_isinstance (pv 3) (by rfl))))))) (dss_one (ds_ret (de_non))) (dss_nil)) (dss_cons (ds_set hN (by rfl) (by first | exact .inl rfl | exact .inr rfl) (de_non)) (dss_cons (ds_if (dt_in (un65m hr) (do_o (pv 0)) (do_v (de_lst (da_cons (do_v (de_int)) (da_cons (do_v (de_int)) (da_cons (do_v (de_int)) (da_cons (do_v (de_int)) (da_cons (do_v (de_int)) (da_nil))))))))) (dss_one (ds_set hN (by rfl) (by first | exact .inl rfl | exact .inr rfl) (de_xfG T.xg_value hz hv (pv 3)))) (dss_nil)) (dss_cons (ds_if (dt_eq (un64m hr) (do_o (pv 0)) (do_v (de_int))) (dss_one (ds_set hN (by rfl) (by first | exact .inl rfl | exact .inr rfl) (de_xfG T.xg_index hz hv (pv 3)))) (dss_nil)) (dss_cons (ds_if (dt_eq (un64m hr) (do_o (pv 0)) (do_v (de_int))) (dss_one (ds_set hN (by rfl) (by first | exact .inl rfl | exact .inr rfl) (de_xfG T.xg_line hz hv (pv 3)))) (dss_nil)) (dss_cons (ds_if (dt_eq (un64m hr) (do_o (pv 0)) (do_v (de_int))) (dss_one (ds_set hN (by rfl) (by first | exact .inl rfl | exact .inr rfl) (de_xfG T.xg_limit hz hv (pv 3)))) (dss_nil)) (dss_cons (ds_if (dt_eq (un64m hr) (do_o (pv 0)) (do_v (de_int))) (dss_one (ds_set hN (by rfl) (by first | exact .inl rfl | exact .inr rfl) (de_tup (da_cons (do_v (de_xfG T.xg_reason hz hv (pv 3))) (da_cons (do_v (de_xfG T.xg_names hz hv (pv 3))) (da_nil)))))) (dss_nil)) (dss_one (ds_ret (de_tup (da_cons (do_v (de_var (pv 4))) (da_cons (do_v (de_var (pv 5))) (da_nil))))))))))))))))
theorem sc_law : FnScope ["script", "row", "number", "made", "value", "named", "told", "due", "k"] ["script"] (defScope s_law) := ⟨rfl, rfl, rfl, by decide +kernel, rfl, by decide +kernel, by decide +kernel⟩
theorem nd_law : (["script", "row", "number", "made", "value", "named", "told", "due", "k"] : List Str).Nodup := by decide +kernel
theorem ok_law {f : Addr} {fd : FuncData} (T : Txt P w K mg base) (F : Fun K "law" "law" s_law f fd) (D_ulaw_taken : DefOk P w K mg base "_law_taken" 1 f_ulaw_taken) (D_ulaw_pick : DefOk P w K mg base "_law_pick" 2 f_ulaw_pick) (D_ulaw_raised : DefOk P w K mg base "_law_raised" 3 f_ulaw_raised) (D_ulaw_alike : DefOk P w K mg base "_law_alike" 9 (f_ulaw_alike 8)) : FnOk P w K mg base (L2.CX P w) 10 f fd ["script"] (spD K mg f_law) :=
  fn_ok (N := ["script", "row", "number", "made", "value", "named", "told", "due", "k"]) (ps := ["script"]) (loc := 8) F sc_law rfl <| fun cdv A outer s H E hr => by
    have hN := nd_law
    have hp : PassesOwn (model P w) (A.deeper (PyProof.Rows.envOfC "law" (defScope s_law) s.heap.objs.size f cdv)) (PyProof.Rows.envOfC "law" (defScope s_law) s.heap.objs.size f cdv) (cxOf (L2.CX P w) P w K mg base ["script", "row", "number", "made", "value", "named", "told", "due", "k"] "law" (defScope s_law) f cdv A outer s H E).xe := passes_of rfl
    exact dss_cons (ds_own hN (by rfl) (by first | exact .inl rfl | exact .inr rfl) (da_cons (do_v (de_var (pv 0))) (da_cons (do_v (de_int)) (da_cons (do_v (de_int)) (da_cons (do_v (de_int)) (da_nil)))))) (dss_cons (ds_for hp (by rfl) (di_range1 (by rfl) T.n_range (da_cons (do_v (de_int)) (da_nil))) (dgn 2 hN) (dss_cons (ds_set hN (by rfl) (by first | exact .inl rfl | exact .inr rfl) (de_callD D_ulaw_pick (hr.mono (by decide)) (da_cons ((do_o (pv 1))) (da_cons (do_v (de_lst (da_cons (do_v (de_non)) (da_cons (do_v (de_int)) (da_cons (do_v (de_str)) (da_cons (do_v (de_tup (da_cons (do_v (de_int)) (da_cons (do_v (de_int)) (da_nil))))) (da_cons (do_v (de_bl)) (da_cons (do_v (de_callD D_ulaw_taken (hr.mono (by decide)) (da_cons ((do_o (pv 1))) (da_cons (do_v (de_pow (do_v (de_int)) (do_v (de_int)))) (da_nil))))) (da_nil))))))))) (da_nil))))) (dss_cons (ds_set hN (by rfl) (by first | exact .inl rfl | exact .inr rfl) (de_callD D_ulaw_pick (hr.mono (by decide)) (da_cons ((do_o (pv 1))) (da_cons (do_v (de_lst (da_cons (do_v (de_tup (da_nil))) (da_cons (do_v (de_tup (da_cons (do_v (de_str)) (da_nil)))) (da_nil))))) (da_nil))))) (dss_cons (ds_set hN (by rfl) (by first | exact .inl rfl | exact .inr rfl) (de_callD D_ulaw_raised (hr.mono (by decide)) (da_cons (do_v (de_var (pv 2))) (da_cons (do_v (de_var (pv 4))) (da_cons (do_v (de_var (pv 5))) (da_nil)))))) (dss_cons (ds_if (dt_w (dw_or (dt_isN (do_o (pv 6)) (do_v (de_non))) (dw_or1 (dt_ne (un64 hr) (do_v (de_ix (do_o (pv 6)) (do_v (de_int)))) (do_v (de_lc (own := [("k", 8)]) (by rfl) hN (di_range1 (by rfl) T.n_range (da_cons (do_v (de_int)) (da_nil))) (by rfl) (fun _ _ _ _ _ => dgn 8 hN) (fun _ _ _ _ _ => dts_nil) (fun _ _ _ _ _ => de_eq (un64 hr) (do_o (pv 8)) (do_o (pv 2))))))))) (dss_one (ds_ret (de_bl))) (dss_nil)) (dss_cons (ds_set hN (by rfl) (by first | exact .inl rfl | exact .inr rfl) (de_var (pv 4))) (dss_cons (ds_if (dt_eq (un64 hr) (do_o (pv 2)) (do_v (de_int))) (dss_one (ds_set hN (by rfl) (by first | exact .inl rfl | exact .inr rfl) (de_tup (da_cons (do_v (de_var (pv 4))) (da_cons (do_v (de_var (pv 5))) (da_nil)))))) (dss_nil)) (dss_one (ds_if (dt_w (dw_and (dt_lt (do_o (pv 2)) (do_v (de_int))) (dw_and1 (dt_w (dw_or (dt_ne (un64 hr) (do_v (de_ix (do_o (pv 6)) (do_v (de_int)))) (do_o (pv 7))) (dw_or1 (dt_ne (un64 hr) (do_v (de_isi .bool (by rfl) T.n_isinstance (by rfl) T.n_bool bt_bool (do_v (de_ix (do_o (pv 6)) (do_v (de_int)))))) (do_v (de_isi .bool (by rfl) T.n_isinstance (by rfl) T.n_bool bt_bool (do_o (pv 7))))))))))) (dss_one (ds_ret (de_bl))) (dss_nil)))))))))) (dss_cons (ds_set hN (by rfl) (by first | exact .inl rfl | exact .inr rfl) (de_lst (da_cons (do_v (de_errF T.k_BadNumber_value (hr.mono (by decide)) (dk_cons (do_v (de_int)) (dk_nil)))) (da_cons (do_v (de_errF T.k_BadName_value (hr.mono (by decide)) (dk_cons (do_v (de_str)) (dk_nil)))) (da_cons (do_v (de_errF T.k_BadItem_index (hr.mono (by decide)) (dk_cons (do_v (de_int)) (dk_nil)))) (da_cons (do_v (de_errF T.k_BadEvent_value (hr.mono (by decide)) (dk_cons (do_v (de_int)) (dk_nil)))) (da_cons (do_v (de_errF T.k_BadNote_line (hr.mono (by decide)) (dk_cons (do_v (de_int)) (dk_nil)))) (da_nil)))))))) (dss_cons (ds_set hN (by rfl) (by first | exact .inl rfl | exact .inr rfl) (de_add (do_o (pv 3)) (do_v (de_lst (da_cons (do_v (de_errF T.k_TooMany_limit (hr.mono (by decide)) (dk_cons (do_v (de_int)) (dk_nil)))) (da_cons (do_v (de_errF T.k_Unknown_value (hr.mono (by decide)) (dk_cons (do_v (de_int)) (dk_nil)))) (da_cons (do_v (de_errF T.k_Taken_value (hr.mono (by decide)) (dk_cons (do_v (de_int)) (dk_nil)))) (da_cons (do_v (de_errF T.k_Refused_names (hr.mono (by decide)) (dk_cons (do_v (de_str)) (dk_cons (do_v (de_int)) (dk_nil))))) (da_cons (do_v (de_errF T.k_Refused_reason (hr.mono (by decide)) (dk_cons (do_v (de_int)) (dk_cons (do_v (de_str)) (dk_nil))))) (da_nil)))))))))) (dss_one (ds_ret (de_callD D_ulaw_alike (hr.mono (by decide)) (da_cons (do_v (de_var (pv 3))) (da_cons (do_v (de_lst (da_cons (do_v (de_int)) (da_cons (do_v (de_str)) (da_cons (do_v (de_int)) (da_cons (do_v (de_int)) (da_cons (do_v (de_int)) (da_cons (do_v (de_int)) (da_cons (do_v (de_int)) (da_cons (do_v (de_int)) (da_cons (do_v (de_int)) (da_cons (do_v (de_str)) (da_nil))))))))))))) (da_nil)))))))))
end
end DL
namespace DL
open PySem L2
def Row (l : List Int) (a b c : Int) : List D := [.scr (l.map D.int), .int a, .int b, .int c]
theorem taken_c {l : List Int} {a b c m : Int} (hc : 0 < c) (hm : 0 < m) (hm2 : m < 1073741824) :
    f_ulaw_taken [.own (Row l a b c), .val (.int m)] = .ok (.int (c % m)) [.own (Row l a b (c / m)), .val (.int m)] := by
  simp [f_ulaw_taken, m_ulaw_taken, Row, hc, hm, hm2, fnF, sSeq, sIf, asTest, op1, op2, opN, opV, M.bnd, M.ret, M.opt, Arg.ev, rs, rss, Slot.rd, Slot.arg, Slot.has, evs, sV, sAsg, sNx, var, gN, gTu, gCo, gNi, Slot.isOwn, vAnd, vOr, vNot, vIf, bAnd, bOr, bNot, chain, chC, chL, callF, callV_1, callV_2, callV_3, callV_4, sz1, sz2, sz3, sz4, sz5, sz6, sz7, sz8, sz9, sz10, sz11, sz12, dvs, D.ix, L2.atI, ixN, D.cmpI, D.toI, D.mod, D.fdiv, D.add, D.sub, D.mul, D.pow, D.neg, D.len, D.mkL, D.mkT, D.isN, D.notN, isiB, isi2, D.is, D.tn, D.eq, D.ne, D.sc, D.eqb, sPut, sFor, forL, seqM, srcN, D.rng1, D.rng2, D.enum]
theorem taken_e {l : List Int} {a b c m : Int} (hc : ¬ 0 < c) (ha : (l.length : Int) < a + 1) (hb : 0 ≤ b) (hb2 : b < 2147483647) (hm : 0 < m) :
    f_ulaw_taken [.own (Row l a b c), .val (.int m)] = .ok (.int ((b * 48271 + 11) % 2147483647 / 7 % m)) [.own (Row l (a + 1) ((b * 48271 + 11) % 2147483647) c), .val (.int m)] := by
  have h1 : -18446744073709551616 < b := by omega
  have h2 : b < 18446744073709551616 := by omega
  simp [f_ulaw_taken, m_ulaw_taken, Row, hc, hm, ha, h1, h2, fnF, sSeq, sIf, asTest, op1, op2, opN, opV, M.bnd, M.ret, M.opt, Arg.ev, rs, rss, Slot.rd, Slot.arg, Slot.has, evs, sV, sAsg, sNx, var, gN, gTu, gCo, gNi, Slot.isOwn, vAnd, vOr, vNot, vIf, bAnd, bOr, bNot, chain, chC, chL, callF, callV_1, callV_2, callV_3, callV_4, sz1, sz2, sz3, sz4, sz5, sz6, sz7, sz8, sz9, sz10, sz11, sz12, dvs, D.ix, L2.atI, ixN, D.cmpI, D.toI, D.mod, D.fdiv, D.add, D.sub, D.mul, D.pow, D.neg, D.len, D.mkL, D.mkT, D.isN, D.notN, isiB, isi2, D.is, D.tn, D.eq, D.ne, D.sc, D.eqb, sPut, sFor, forL, seqM, srcN, D.rng1, D.rng2, D.enum]
theorem taken_n {l : List Int} {a b c m z : Int} {k : Nat} (hc : ¬ 0 < c) (ha : a = k) (hz : l[k]? = some z) (hb : 0 ≤ b) (hb2 : b < 2147483647) (hm : 0 < m) (hm2 : m < 1073741824) :
    f_ulaw_taken [.own (Row l a b c), .val (.int m)] = .ok (.int (z % m)) [.own (Row l (a + 1) ((b * 48271 + z + 11) % 2147483647) (if 1000000000000000000 ≤ z then z / m else c)), .val (.int m)] := by
  have h1 : -18446744073709551616 < b := by omega
  have h2 : b < 18446744073709551616 := by omega
  have hk : k < l.length := (List.getElem?_eq_some_iff.mp hz).1
  have hz' : l[k] = z := (List.getElem?_eq_some_iff.mp hz).2
  have ha2 : ¬ (l.length : Int) < a + 1 := by omega
  subst ha
  have ha3 : ¬ (l.length < k + 1) := by omega
  have e1 : ((k : Int) + 1 - 1) = k := by omega
  have e2 : (0 : Int) ≤ k := by omega
  by_cases hz1 : 1000000000000000000 ≤ z
  · simp [f_ulaw_taken, m_ulaw_taken, Row, hc, hm, hm2, ha2, ha3, h1, h2, e1, e2, hk, hz', hz, hz1, fnF, sSeq, sIf, asTest, op1, op2, opN, opV, M.bnd, M.ret, M.opt, Arg.ev, rs, rss, Slot.rd, Slot.arg, Slot.has, evs, sV, sAsg, sNx, var, gN, gTu, gCo, gNi, Slot.isOwn, vAnd, vOr, vNot, vIf, bAnd, bOr, bNot, chain, chC, chL, callF, callV_1, callV_2, callV_3, callV_4, sz1, sz2, sz3, sz4, sz5, sz6, sz7, sz8, sz9, sz10, sz11, sz12, dvs, D.ix, L2.atI, ixN, D.cmpI, D.toI, D.mod, D.fdiv, D.add, D.sub, D.mul, D.pow, D.neg, D.len, D.mkL, D.mkT, D.isN, D.notN, isiB, isi2, D.is, D.tn, D.eq, D.ne, D.sc, D.eqb, sPut, sFor, forL, seqM, srcN, D.rng1, D.rng2, D.enum]
  · simp [f_ulaw_taken, m_ulaw_taken, Row, hc, hm, hm2, ha2, ha3, h1, h2, e1, e2, hk, hz', hz, hz1, fnF, sSeq, sIf, asTest, op1, op2, opN, opV, M.bnd, M.ret, M.opt, Arg.ev, rs, rss, Slot.rd, Slot.arg, Slot.has, evs, sV, sAsg, sNx, var, gN, gTu, gCo, gNi, Slot.isOwn, vAnd, vOr, vNot, vIf, bAnd, bOr, bNot, chain, chC, chL, callF, callV_1, callV_2, callV_3, callV_4, sz1, sz2, sz3, sz4, sz5, sz6, sz7, sz8, sz9, sz10, sz11, sz12, dvs, D.ix, L2.atI, ixN, D.cmpI, D.toI, D.mod, D.fdiv, D.add, D.sub, D.mul, D.pow, D.neg, D.len, D.mkL, D.mkT, D.isN, D.notN, isiB, isi2, D.is, D.tn, D.eq, D.ne, D.sc, D.eqb, sPut, sFor, forL, seqM, srcN, D.rng1, D.rng2, D.enum]
def RowOk (d : List D) : Prop := ∃ l a b c, d = Row l a b c ∧ 0 ≤ a ∧ 0 ≤ b ∧ b < 2147483647
theorem taken_ok {d : List D} {m : Int} (h : RowOk d) (hm : 0 < m) (hm2 : m < 1073741824) : ∃ r d', f_ulaw_taken [.own d, .val (.int m)] = .ok (.int r) [.own d', .val (.int m)] ∧ 0 ≤ r ∧ r < m ∧ RowOk d' := by
  obtain ⟨l, a, b, c, rfl, ha, hb, hb2⟩ := h
  by_cases hc : 0 < c
  · exact ⟨_, _, taken_c hc hm hm2, Int.emod_nonneg _ (by omega), Int.emod_lt_of_pos _ hm, l, a, b, _, rfl, ha, hb, hb2⟩
  · by_cases hl : (l.length : Int) < a + 1
    · exact ⟨_, _, taken_e hc hl hb hb2 hm, Int.emod_nonneg _ (by omega), Int.emod_lt_of_pos _ hm, l, _, _, _, rfl, by omega, Int.emod_nonneg _ (by omega), Int.emod_lt_of_pos _ (by omega)⟩
    · obtain ⟨k, rfl⟩ := Int.eq_ofNat_of_zero_le ha
      have hk : k < l.length := by omega
      exact ⟨_, _, taken_n hc rfl (by simp [hk] : l[k]? = some l[k]) hb hb2 hm hm2, Int.emod_nonneg _ (by omega), Int.emod_lt_of_pos _ hm, l, _, _, _, rfl, by omega, Int.emod_nonneg _ (by omega), Int.emod_lt_of_pos _ (by omega)⟩
def RowD (d : D) (l : List D) : Prop := d = .lst l ∨ d = .tup l
inductive All2 {α β : Type} (R : α → β → Prop) : List α → List β → Prop
  | nil : All2 R [] []
  | cons {a b as bs} : R a b → All2 R as bs → All2 R (a :: as) (b :: bs)
def okD : Nat → D → Bool
  | n + 1, .int _ => true
  | n + 1, .bl _ => true
  | n + 1, .non => true
  | n + 1, .str _ => true
  | n + 1, .tup l => l.all (okD n) && decide (l.length ≤ sizeLine)
  | n + 1, .lst l => l.all (okD n) && decide (l.length ≤ sizeLine)
  | _, _ => false
theorem sh_nil : (D.lst []).sh = true := rfl
theorem eqbs_nil : D.eqbs [] [] = true := rfl
theorem rngOk_nat {n : Nat} (h : n ≤ 16777216) : D.rngOk 0 (n : Int) = true := by
  unfold D.rngOk
  simp
  omega
theorem rng1_len {l : List D} {ρ : Ev} (hl : l.length ≤ sizeLine) : D.rng1 [.int (l.length : Int)] = some (rng 0 l.length) := by
  have h1 := rngOk_nat (n := l.length) (Nat.le_trans hl (Nat.le_of_eq sizeLine_eq))
  have h2 : ((l.length : Int) - 0).toNat = l.length := by simp
  show (if D.rngOk 0 (l.length : Int) = true ∧ ((l.length : Int) - 0).toNat ≤ sizeLine then some (rng 0 (l.length : Int)) else none) = _
  exact if_pos ⟨h1, by rw [h2]; exact hl⟩
theorem src1 {f : List D → Option (List D)} {m : M D} {ρ : Ev} {d : D} {ds : List D} (hm : m ρ = .ok d ρ) (hf : f [d] = some ds) : srcN f [.v m] ρ = .ok ds ρ := by
  have he : evs [.v m] ρ = .ok [.d d] ρ := by
    show M.bnd (M.bnd m fun d => M.ret (AV.d d)) (fun x => M.bnd (M.ret []) fun xs => M.ret (x :: xs)) ρ = _
    rw [bnd_ok (a := AV.d d) (ρ' := ρ) (by rw [bnd_ok hm]; rfl)]
    rfl
  unfold srcN
  rw [bnd_ok he]
  show (match (some [d]).bind f with
    | some r => Out.ok r ρ
    | none => Out.bad) = _
  rw [show (some [d]).bind f = some ds from hf]
theorem alike_row {n : Nat} {d : D} {l : List D} (hd : RowD d l) (hl : l.length ≤ sizeLine) (ih : ∀ x ∈ l, f_ulaw_alike n [.val x, .val x] = .ok (.bl true) [.val x, .val x]) :
    k0_ulaw_alike (f_ulaw_alike n) [.val d, .val d, .no] = .ok (.lst []) [.val d, .val d, .no] := by
  have hf : (rng 0 l.length).filter (fun _ => false) = [] := by simp
  have : k0_ulaw_alike (f_ulaw_alike n) [.val d, .val d, .no] = .ok (.lst (((rng 0 l.length).filter fun _ => false).map id)) [.val d, .val d, .no] := by
    unfold k0_ulaw_alike
    refine comp_pure (ds := rng 0 l.length) (fun _ => false) id ?_ (by simp [ownAt, Slot.isOwn]) fun x hx => ?_
    · have e1 := rng1_len (ρ := []) hl
      clear hl ih hf
      refine src1 (d := .int (l.length : Int)) ?_ e1
      clear e1
      rcases hd with rfl | rfl <;> simp [fnF, sSeq, sIf, asTest, op1, op2, opN, opV, M.bnd, M.ret, M.opt, Arg.ev, rs, rss, Slot.rd, Slot.arg, Slot.has, evs, sV, sAsg, sNx, var, gN, gTu, gCo, gNi, Slot.isOwn, vAnd, vOr, vNot, vIf, bAnd, bOr, bNot, chain, chC, chL, callF, callV_1, callV_2, callV_3, callV_4, sz1, sz2, sz3, sz4, sz5, sz6, sz7, sz8, sz9, sz10, sz11, sz12, dvs, D.ix, L2.atI, ixN, D.cmpI, D.toI, D.mod, D.fdiv, D.add, D.sub, D.mul, D.pow, D.neg, D.len, D.mkL, D.mkT, D.isN, D.notN, isiB, isi2, D.is, D.tn, D.eq, D.ne, D.sc, D.eqb, sPut, sFor, forL, seqM, srcN, D.rng1, D.rng2, D.enum]
    · clear hl hf
      rw [rng_nat] at hx
      obtain ⟨y, hy, rfl⟩ := List.mem_map.mp hx
      obtain ⟨k, hk, rfl⟩ := List.mem_map.mp hy
      have hk' : k < l.length := by have := List.mem_range.mp hk; omega
      have h1 := ih l[k] (List.getElem_mem hk')
      refine ⟨[.val d, .val d, .val (.int (0 + (k : Int)))], by simp [wipeE, fnF, sSeq, sIf, asTest, op1, op2, opN, opV, M.bnd, M.ret, M.opt, Arg.ev, rs, rss, Slot.rd, Slot.arg, Slot.has, evs, sV, sAsg, sNx, var, gN, gTu, gCo, gNi, Slot.isOwn, vAnd, vOr, vNot, vIf, bAnd, bOr, bNot, chain, chC, chL, callF, callV_1, callV_2, callV_3, callV_4, sz1, sz2, sz3, sz4, sz5, sz6, sz7, sz8, sz9, sz10, sz11, sz12, dvs, D.ix, L2.atI, ixN, D.cmpI, D.toI, D.mod, D.fdiv, D.add, D.sub, D.mul, D.pow, D.neg, D.len, D.mkL, D.mkT, D.isN, D.notN, isiB, isi2, D.is, D.tn, D.eq, D.ne, D.sc, D.eqb, sPut, sFor, forL, seqM, srcN, D.rng1, D.rng2, D.enum], ?_, fun h => (by cases h), by simp [ownAt, Slot.isOwn], by simp [wipeE]⟩
      rcases hd with rfl | rfl <;> simp [hk', h1, fnF, sSeq, sIf, asTest, op1, op2, opN, opV, M.bnd, M.ret, M.opt, Arg.ev, rs, rss, Slot.rd, Slot.arg, Slot.has, evs, sV, sAsg, sNx, var, gN, gTu, gCo, gNi, Slot.isOwn, vAnd, vOr, vNot, vIf, bAnd, bOr, bNot, chain, chC, chL, callF, callV_1, callV_2, callV_3, callV_4, sz1, sz2, sz3, sz4, sz5, sz6, sz7, sz8, sz9, sz10, sz11, sz12, dvs, D.ix, L2.atI, ixN, D.cmpI, D.toI, D.mod, D.fdiv, D.add, D.sub, D.mul, D.pow, D.neg, D.len, D.mkL, D.mkT, D.isN, D.notN, isiB, isi2, D.is, D.tn, D.eq, D.ne, D.sc, D.eqb, sPut, sFor, forL, seqM, srcN, D.rng1, D.rng2, D.enum]
  rw [this, hf]
  rfl
theorem eq_nil : D.eq (.lst []) (.lst []) = some (.bl true) := rfl
theorem alike_seq {n : Nat} {d : D} {l : List D} (hd : RowD d l) (hk : k0_ulaw_alike (f_ulaw_alike n) [.val d, .val d, .no] = .ok (.lst []) [.val d, .val d, .no]) : m_ulaw_alike (f_ulaw_alike n) [.val d, .val d, .no] = .rt (.bl true) [.val d, .val d, .no] := by
  have t1 : asTest (op1 (isi2 .tuple .list) (.o 1)) [.val d, .val d, .no] = .ok true [.val d, .val d, .no] := by
    clear hk
    rcases hd with rfl | rfl <;> simp [fnF, sSeq, sIf, asTest, op1, op2, opN, opV, M.bnd, M.ret, M.opt, Arg.ev, rs, rss, Slot.rd, Slot.arg, Slot.has, evs, sV, sAsg, sNx, var, gN, gTu, gCo, gNi, Slot.isOwn, vAnd, vOr, vNot, vIf, bAnd, bOr, bNot, chain, chC, chL, callF, callV_1, callV_2, callV_3, callV_4, sz1, sz2, sz3, sz4, sz5, sz6, sz7, sz8, sz9, sz10, sz11, sz12, dvs, D.ix, L2.atI, ixN, D.cmpI, D.toI, D.mod, D.fdiv, D.add, D.sub, D.mul, D.pow, D.neg, D.len, D.mkL, D.mkT, D.isN, D.notN, isiB, isi2, D.is, D.tn, D.eq, D.ne, D.sc, D.eqb, sPut, sFor, forL, seqM, srcN, D.rng1, D.rng2, D.enum]
  have t2 : bOr (bNot (asTest (op1 (isi2 .tuple .list) (.o 0)))) (asTest (op2 D.ne (.v (op1 (isiB .list) (.o 0))) (.v (op1 (isiB .list) (.o 1))))) [.val d, .val d, .no] = .ok false [.val d, .val d, .no] := by
    clear hk
    rcases hd with rfl | rfl <;> simp [fnF, sSeq, sIf, asTest, op1, op2, opN, opV, M.bnd, M.ret, M.opt, Arg.ev, rs, rss, Slot.rd, Slot.arg, Slot.has, evs, sV, sAsg, sNx, var, gN, gTu, gCo, gNi, Slot.isOwn, vAnd, vOr, vNot, vIf, bAnd, bOr, bNot, chain, chC, chL, callF, callV_1, callV_2, callV_3, callV_4, sz1, sz2, sz3, sz4, sz5, sz6, sz7, sz8, sz9, sz10, sz11, sz12, dvs, D.ix, L2.atI, ixN, D.cmpI, D.toI, D.mod, D.fdiv, D.add, D.sub, D.mul, D.pow, D.neg, D.len, D.mkL, D.mkT, D.isN, D.notN, isiB, isi2, D.is, D.tn, D.eq, D.ne, D.sc, D.eqb, sPut, sFor, forL, seqM, srcN, D.rng1, D.rng2, D.enum]
  have t3 : asTest (op2 D.ne (.v (opN D.len [(.o 0)])) (.v (opN D.len [(.o 1)]))) [.val d, .val d, .no] = .ok false [.val d, .val d, .no] := by
    clear hk
    rcases hd with rfl | rfl <;> simp [fnF, sSeq, sIf, asTest, op1, op2, opN, opV, M.bnd, M.ret, M.opt, Arg.ev, rs, rss, Slot.rd, Slot.arg, Slot.has, evs, sV, sAsg, sNx, var, gN, gTu, gCo, gNi, Slot.isOwn, vAnd, vOr, vNot, vIf, bAnd, bOr, bNot, chain, chC, chL, callF, callV_1, callV_2, callV_3, callV_4, sz1, sz2, sz3, sz4, sz5, sz6, sz7, sz8, sz9, sz10, sz11, sz12, dvs, D.ix, L2.atI, ixN, D.cmpI, D.toI, D.mod, D.fdiv, D.add, D.sub, D.mul, D.pow, D.neg, D.len, D.mkL, D.mkT, D.isN, D.notN, isiB, isi2, D.is, D.tn, D.eq, D.ne, D.sc, D.eqb, sPut, sFor, forL, seqM, srcN, D.rng1, D.rng2, D.enum]
  have t4 : op2 D.eq (.v (k0_ulaw_alike (f_ulaw_alike n))) (.v (opV D.mkL [])) [.val d, .val d, .no] = .ok (.bl true) [.val d, .val d, .no] := by
    have e1 : (Arg.v (k0_ulaw_alike (f_ulaw_alike n))).ev [.val d, .val d, .no] = .ok (.d (.lst [])) [.val d, .val d, .no] := by
      show M.bnd (k0_ulaw_alike (f_ulaw_alike n)) (fun d => M.ret (AV.d d)) _ = _
      rw [bnd_ok hk]
      rfl
    have e2 : (Arg.v (opV D.mkL [])).ev [.val d, .val d, .no] = .ok (.d (.lst [])) [.val d, .val d, .no] := rfl
    unfold op2
    rw [bnd_ok e1, bnd_ok e2]
    rfl
  unfold m_ulaw_alike
  simp only [sSeq, sIf, t1, t2, t3, sNx, sV, t4]
theorem alike_self : ∀ (n : Nat) (d : D), okD n d = true → f_ulaw_alike n [.val d, .val d] = .ok (.bl true) [.val d, .val d] := by
  intro n
  induction n with
  | zero => intro d h; cases d <;> cases h
  | succ n ih =>
    intro d h
    have e0 : f_ulaw_alike (n + 1) = fnF 2 1 (m_ulaw_alike (f_ulaw_alike n)) := rfl
    have fin : m_ulaw_alike (f_ulaw_alike n) [.val d, .val d, .no] = .rt (.bl true) [.val d, .val d, .no] → f_ulaw_alike (n + 1) [.val d, .val d] = .ok (.bl true) [.val d, .val d] := fun q => by
      rw [e0]
      unfold fnF
      rw [if_pos ⟨rfl, rfl⟩]
      show (match m_ulaw_alike (f_ulaw_alike n) [.val d, .val d, .no] with
        | .rt d ρ => FOut.ok d (ρ.take 2)
        | .nx ρ => .ok .non (ρ.take 2)
        | .exc e ρ => .exc e (ρ.take 2)
        | _ => .bad) = _
      rw [q]
      rfl
    apply fin
    cases d with
    | int i => simp [m_ulaw_alike, fnF, sSeq, sIf, asTest, op1, op2, opN, opV, M.bnd, M.ret, M.opt, Arg.ev, rs, rss, Slot.rd, Slot.arg, Slot.has, evs, sV, sAsg, sNx, var, gN, gTu, gCo, gNi, Slot.isOwn, vAnd, vOr, vNot, vIf, bAnd, bOr, bNot, chain, chC, chL, callF, callV_1, callV_2, callV_3, callV_4, sz1, sz2, sz3, sz4, sz5, sz6, sz7, sz8, sz9, sz10, sz11, sz12, dvs, D.ix, L2.atI, ixN, D.cmpI, D.toI, D.mod, D.fdiv, D.add, D.sub, D.mul, D.pow, D.neg, D.len, D.mkL, D.mkT, D.isN, D.notN, isiB, isi2, D.is, D.tn, D.eq, D.ne, D.sc, D.eqb, sPut, sFor, forL, seqM, srcN, D.rng1, D.rng2, D.enum]
    | bl i => cases i <;> simp [m_ulaw_alike, fnF, sSeq, sIf, asTest, op1, op2, opN, opV, M.bnd, M.ret, M.opt, Arg.ev, rs, rss, Slot.rd, Slot.arg, Slot.has, evs, sV, sAsg, sNx, var, gN, gTu, gCo, gNi, Slot.isOwn, vAnd, vOr, vNot, vIf, bAnd, bOr, bNot, chain, chC, chL, callF, callV_1, callV_2, callV_3, callV_4, sz1, sz2, sz3, sz4, sz5, sz6, sz7, sz8, sz9, sz10, sz11, sz12, dvs, D.ix, L2.atI, ixN, D.cmpI, D.toI, D.mod, D.fdiv, D.add, D.sub, D.mul, D.pow, D.neg, D.len, D.mkL, D.mkT, D.isN, D.notN, isiB, isi2, D.is, D.tn, D.eq, D.ne, D.sc, D.eqb, sPut, sFor, forL, seqM, srcN, D.rng1, D.rng2, D.enum]
    | non => simp [m_ulaw_alike, fnF, sSeq, sIf, asTest, op1, op2, opN, opV, M.bnd, M.ret, M.opt, Arg.ev, rs, rss, Slot.rd, Slot.arg, Slot.has, evs, sV, sAsg, sNx, var, gN, gTu, gCo, gNi, Slot.isOwn, vAnd, vOr, vNot, vIf, bAnd, bOr, bNot, chain, chC, chL, callF, callV_1, callV_2, callV_3, callV_4, sz1, sz2, sz3, sz4, sz5, sz6, sz7, sz8, sz9, sz10, sz11, sz12, dvs, D.ix, L2.atI, ixN, D.cmpI, D.toI, D.mod, D.fdiv, D.add, D.sub, D.mul, D.pow, D.neg, D.len, D.mkL, D.mkT, D.isN, D.notN, isiB, isi2, D.is, D.tn, D.eq, D.ne, D.sc, D.eqb, sPut, sFor, forL, seqM, srcN, D.rng1, D.rng2, D.enum]
    | str s => simp [m_ulaw_alike, fnF, sSeq, sIf, asTest, op1, op2, opN, opV, M.bnd, M.ret, M.opt, Arg.ev, rs, rss, Slot.rd, Slot.arg, Slot.has, evs, sV, sAsg, sNx, var, gN, gTu, gCo, gNi, Slot.isOwn, vAnd, vOr, vNot, vIf, bAnd, bOr, bNot, chain, chC, chL, callF, callV_1, callV_2, callV_3, callV_4, sz1, sz2, sz3, sz4, sz5, sz6, sz7, sz8, sz9, sz10, sz11, sz12, dvs, D.ix, L2.atI, ixN, D.cmpI, D.toI, D.mod, D.fdiv, D.add, D.sub, D.mul, D.pow, D.neg, D.len, D.mkL, D.mkT, D.isN, D.notN, isiB, isi2, D.is, D.tn, D.eq, D.ne, D.sc, D.eqb, sPut, sFor, forL, seqM, srcN, D.rng1, D.rng2, D.enum]
    | tup l =>
      obtain ⟨h1, h2⟩ := Bool.and_eq_true_iff.mp (show (l.all (okD n) && decide (l.length ≤ sizeLine)) = true from h)
      exact alike_seq (.inr rfl) (alike_row (.inr rfl) (of_decide_eq_true h2) fun x hx => ih x (List.all_eq_true.mp h1 x hx))
    | lst l =>
      obtain ⟨h1, h2⟩ := Bool.and_eq_true_iff.mp (show (l.all (okD n) && decide (l.length ≤ sizeLine)) = true from h)
      exact alike_seq (.inl rfl) (alike_row (.inl rfl) (of_decide_eq_true h2) fun x hx => ih x (List.all_eq_true.mp h1 x hx))
    | obj c ns l => cases h
    | fn c => cases h
    | scr l => cases h
theorem callV_o1 {φ : Fn} {i : Nat} {a : D} {ρ : Ev} {l : List D} (h : ρ[i]? = some (.own l)) : callV φ [.o i, .d a] ρ = match φ [.own l, .val a] with
    | .ok d (t :: _ :: _) => if t.isOwn = true then .ok d (ρ.set i t) else .bad
    | .exc e (t :: _ :: _) => if t.isOwn = true then .exc e (ρ.set i t) else .bad
    | _ => .bad := by
  unfold callV
  have io : (Slot.own l).isOwn = true := rfl
  have e1 : slotsOf [.o i, .d a] ρ = some [.own l, .val a] := by simp [slotsOf, h, Slot.arg]
  have e2 : ownIx [.o i, .d a] ρ = [i] := by simp [ownIx, h, Slot.isOwn]
  rw [e1, e2]
  dsimp only
  rw [if_pos (by simp)]
  have e3 : ∀ (t u : Slot) (os : List Slot), upsOf [.o i, .d a] (t :: u :: os) ρ = if t.isOwn = true then some [(i, t)] else none := fun t u os => by
    cases ht : t.isOwn <;> simp [upsOf, h, io, ht]
  cases φ [.own l, .val a] with
  | bad => rfl
  | ok d os =>
    rcases os with _ | ⟨t, _ | ⟨u, os⟩⟩
    · simp [upsOf]
    · cases ht : t.isOwn <;> simp [upsOf, h, io, ht]
    · dsimp only
      rw [e3]
      cases ht : t.isOwn <;> simp [updE]
  | exc e os =>
    rcases os with _ | ⟨t, _ | ⟨u, os⟩⟩
    · simp [upsOf]
    · cases ht : t.isOwn <;> simp [upsOf, h, io, ht]
    · dsimp only
      rw [e3]
      cases ht : t.isOwn <;> simp [updE]
theorem evs_o1 {i : Nat} {m : M D} {a : D} {ρ : Ev} {l : List D} (h : ρ[i]? = some (.own l)) (hm : m ρ = .ok a ρ) : evs [.o i, .v m] ρ = .ok [.o i, .d a] ρ := by
  have e1 : (Arg.o i).ev ρ = .ok (.o i) ρ := by
    show (match ρ[i]? with
      | some s => if s.has then Out.ok (AV.o i) ρ else .bad
      | none => .bad) = _
    rw [h]
    rfl
  have e2 : evs [.v m] ρ = .ok [.d a] ρ := by
    show M.bnd (M.bnd m fun d => M.ret (AV.d d)) (fun x => M.bnd (M.ret []) fun xs => M.ret (x :: xs)) ρ = _
    rw [bnd_ok (a := AV.d a) (ρ' := ρ) (by rw [bnd_ok hm]; rfl)]
    rfl
  show M.bnd (Arg.o i).ev (fun x => M.bnd (evs [.v m]) fun xs => M.ret (x :: xs)) ρ = _
  rw [bnd_ok e1, bnd_ok e2]
  rfl
theorem op2_vv {f : D → D → Option D} {m1 m2 : M D} {a b c : D} {ρ ρ1 ρ2 : Ev} (ha : m1 ρ = .ok a ρ1) (hb : m2 ρ1 = .ok b ρ2) (hf : f a b = some c) : op2 f (.v m1) (.v m2) ρ = .ok c ρ2 := by
  have e1 : (Arg.v m1).ev ρ = .ok (.d a) ρ1 := by
    show M.bnd m1 (fun d => M.ret (AV.d d)) ρ = _
    rw [bnd_ok ha]
    rfl
  have e2 : (Arg.v m2).ev ρ1 = .ok (.d b) ρ2 := by
    show M.bnd m2 (fun d => M.ret (AV.d d)) ρ1 = _
    rw [bnd_ok hb]
    rfl
  unfold op2
  rw [bnd_ok e1, bnd_ok e2]
  show (match f a b with
    | some r => Out.ok r ρ2
    | none => .bad) = _
  rw [hf]
theorem op2_ov {f : D → D → Option D} {m : M D} {i : Nat} {s : Slot} {a b c : D} {ρ ρ1 : Ev} (h : ρ[i]? = some s) (hh : s.has = true) (hb : m ρ = .ok b ρ1) (ha : rs (.o i) ρ1 = some a) (hf : f a b = some c) : op2 f (.o i) (.v m) ρ = .ok c ρ1 := by
  have e1 : (Arg.o i).ev ρ = .ok (.o i) ρ := by
    show (match ρ[i]? with
      | some s => if s.has then Out.ok (AV.o i) ρ else .bad
      | none => .bad) = _
    rw [h]
    dsimp only
    rw [if_pos hh]
  have e2 : (Arg.v m).ev ρ = .ok (.d b) ρ1 := by
    show M.bnd m (fun d => M.ret (AV.d d)) ρ = _
    rw [bnd_ok hb]
    rfl
  unfold op2
  rw [bnd_ok e1, bnd_ok e2]
  show (match (rs (.o i) ρ1).bind fun p => (some b).bind fun q => f p q with
    | some r => Out.ok r ρ1
    | none => .bad) = _
  rw [ha]
  show (match f a b with
    | some r => Out.ok r ρ1
    | none => .bad) = _
  rw [hf]
theorem fn_rt {n loc : Nat} {m : S} {as : List Slot} {d : D} {ρ : Ev} {os : List Slot} (h1 : as.length = n) (h2 : as.all Slot.arg = true) (hm : m (as ++ List.replicate loc .no) = .rt d ρ) (ho : ρ.take n = os) : fnF n loc m as = .ok d os := by
  unfold fnF
  rw [if_pos ⟨h1, h2⟩, hm, ← ho]
theorem seq_nx {a b : S} {ρ ρ1 : Ev} (h : a ρ = .nx ρ1) : sSeq a b ρ = b ρ1 := by
  unfold sSeq
  rw [h]
theorem for_ok {src : M (List D)} {t : D → Ev → Option Ev} {b : S} {ρ ρ1 : Ev} {ds : List D} (h : src ρ = .ok ds ρ1) : sFor src t b ρ = forL t b ds ρ1 := by
  unfold sFor
  rw [h]
theorem rng1_nat {n : Nat} (hz : n ≤ 16777216) : D.rng1 [.int (n : Int)] = some ((List.range' 0 n).map fun x : Nat => D.int x) := by
  have e1 := rngOk_nat (n := n) hz
  have h2 : ((n : Int) - 0).toNat = n := by simp
  have e2 : rng 0 (n : Int) = (List.range' 0 n).map fun x : Nat => D.int x := by
    unfold rng
    rw [List.range_eq_range']
    simp
  have hs : n ≤ sizeLine := Nat.le_trans hz (Nat.le_of_eq sizeLine_eq.symm)
  rw [← e2]
  show (if D.rngOk 0 (n : Int) = true ∧ ((n : Int) - 0).toNat ≤ sizeLine then some (rng 0 (n : Int)) else none) = _
  exact if_pos ⟨e1, by rw [h2]; exact hs⟩
def tkV (d : List D) (m : Int) : Int := match f_ulaw_taken [.own d, .val (.int m)] with
  | .ok (.int r) _ => r
  | _ => 0
def tkN (d : List D) (m : Int) : List D := match f_ulaw_taken [.own d, .val (.int m)] with
  | .ok _ (.own d' :: _) => d'
  | _ => []
theorem tk_all {d : List D} {m : Int} (h : RowOk d) (hm : 0 < m) (hm2 : m < 1073741824) : f_ulaw_taken [.own d, .val (.int m)] = .ok (.int (tkV d m)) [.own (tkN d m), .val (.int m)] ∧ 0 ≤ tkV d m ∧ tkV d m < m ∧ RowOk (tkN d m) := by
  obtain ⟨r, d', e, h1, h2, h3⟩ := taken_ok h hm hm2
  have e1 : tkV d m = r := by unfold tkV; rw [e]
  have e2 : tkN d m = d' := by unfold tkN; rw [e]
  rw [e1, e2]
  exact ⟨e, h1, h2, h3⟩
theorem tk_eq {d : List D} {m : Int} (h : RowOk d) (hm : 0 < m) (hm2 : m < 1073741824) : f_ulaw_taken [.own d, .val (.int m)] = .ok (.int (tkV d m)) [.own (tkN d m), .val (.int m)] := (tk_all h hm hm2).1
theorem tkN_ok {d : List D} {m : Int} (h : RowOk d) (hm : 0 < m) (hm2 : m < 1073741824) : RowOk (tkN d m) := (tk_all h hm hm2).2.2.2
theorem tkV_lo {d : List D} {m : Int} (h : RowOk d) (hm : 0 < m) (hm2 : m < 1073741824) : 0 ≤ tkV d m := (tk_all h hm hm2).2.1
theorem tkV_hi {d : List D} {m : Int} (h : RowOk d) (hm : 0 < m) (hm2 : m < 1073741824) : tkV d m < m := (tk_all h hm hm2).2.2.1
theorem add_ii (i j : Int) : D.add (.int i) (.int j) = some (.int (i + j)) := rfl
theorem so_no : Slot.isOwn .no = false := rfl
theorem so_val {d : D} : Slot.isOwn (.val d) = false := rfl
theorem so_own {l : List D} : Slot.isOwn (.own l) = true := rfl
theorem so_dic {l m : List D} : Slot.isOwn (.dic l m) = true := rfl
theorem so_inst {c : Str} {ns : List Str} {l : List D} : Slot.isOwn (.inst c ns l) = true := rfl
theorem so_ex {e : Ex} : Slot.isOwn (.ex e) = false := rfl
theorem sh_no : Slot.has .no = false := rfl
theorem sh_val {d : D} : Slot.has (.val d) = true := rfl
theorem sh_own {l : List D} : Slot.has (.own l) = true := rfl
theorem sh_dic {l m : List D} : Slot.has (.dic l m) = true := rfl
theorem sh_inst {c : Str} {ns : List Str} {l : List D} : Slot.has (.inst c ns l) = true := rfl
theorem sh_ex {e : Ex} : Slot.has (.ex e) = true := rfl
theorem sa_no : Slot.arg .no = false := rfl
theorem sa_val {d : D} : Slot.arg (.val d) = true := rfl
theorem sa_own {l : List D} : Slot.arg (.own l) = true := rfl
theorem sa_dic {l m : List D} : Slot.arg (.dic l m) = true := rfl
theorem sa_inst {c : Str} {ns : List Str} {l : List D} : Slot.arg (.inst c ns l) = true := rfl
theorem sa_ex {e : Ex} : Slot.arg (.ex e) = false := rfl
theorem callV_o1g {φ : Fn} {i : Nat} {a : D} {ρ : Ev} : callV φ [.o i, .d a] ρ = match ρ[i]? with
    | none => .bad
    | some s => if s.arg = true then (match φ [s, .val a] with
      | .ok d (t :: _ :: _) => if s.isOwn = true then (if t.isOwn = true then .ok d (ρ.set i t) else .bad) else .ok d ρ
      | .exc e (t :: _ :: _) => if s.isOwn = true then (if t.isOwn = true then .exc e (ρ.set i t) else .bad) else .exc e ρ
      | _ => .bad) else .bad := by
  unfold callV
  cases h : ρ[i]? with
  | none => simp [slotsOf, h]
  | some s =>
    cases ha : s.arg with
    | false => simp [slotsOf, h, ha]
    | true =>
      have e1 : slotsOf [.o i, .d a] ρ = some [s, .val a] := by simp [slotsOf, h, ha]
      rw [e1]
      cases ho : s.isOwn with
      | false =>
        have e2 : ownIx [.o i, .d a] ρ = [] := by simp [ownIx, h, ho]
        rw [e2]
        dsimp only
        rw [if_pos (by simp)]
        cases φ [s, .val a] with
        | bad => simp [ha]
        | ok d os => rcases os with _ | ⟨t, _ | ⟨u, os⟩⟩ <;> simp [upsOf, h, ho, ha, updE]
        | exc e os => rcases os with _ | ⟨t, _ | ⟨u, os⟩⟩ <;> simp [upsOf, h, ho, ha, updE]
      | true =>
        have e2 : ownIx [.o i, .d a] ρ = [i] := by simp [ownIx, h, ho]
        rw [e2]
        dsimp only
        rw [if_pos (by simp)]
        cases φ [s, .val a] with
        | bad => simp [ha]
        | ok d os => rcases os with _ | ⟨t, _ | ⟨u, os⟩⟩ <;> (try cases ht : t.isOwn) <;> simp [upsOf, h, ho, ha, updE, *]
        | exc e os => rcases os with _ | ⟨t, _ | ⟨u, os⟩⟩ <;> (try cases ht : t.isOwn) <;> simp [upsOf, h, ho, ha, updE, *]
theorem pick_eq {l ks : List D} (hl : RowOk l) (h0 : 0 < ks.length) (h1 : ks.length < 1000) : ∃ x, ks[(tkV l ks.length).toNat]? = some x ∧ f_ulaw_pick [.own l, .val (.lst ks)] = .ok x [.own (tkN l ks.length), .val (.lst ks)] := by
  have g0 : (0 : Int) < (ks.length : Int) := by omega
  have g1 : (ks.length : Int) < 1073741824 := by omega
  have e := tk_eq hl g0 g1
  have lo := tkV_lo hl g0 g1
  have hi := tkV_hi hl g0 g1
  have hn : (tkV l ks.length).toNat < ks.length := by omega
  have e2 : (((tkV l ks.length).toNat : Nat) : Int) = tkV l ks.length := by omega
  refine ⟨ks[(tkV l ks.length).toNat], List.getElem?_eq_getElem hn, ?_⟩
  have e3 : callF f_ulaw_taken [.o 0, .v (opN D.len [.o 1])] [.own l, .val (.lst ks)] = .ok (.int (tkV l ks.length)) [.own (tkN l ks.length), .val (.lst ks)] := by
    unfold callF
    rw [bnd_ok (evs_o1 (i := 0) (m := opN D.len [.o 1]) (ρ := [.own l, .val (.lst ks)]) (l := l) (a := .int (ks.length : Int)) rfl (by clear e lo hi hn e2; simp [fnF, sSeq, sIf, asTest, op1, op2, opN, opV, M.bnd, M.ret, M.opt, Arg.ev, rs, rss, Slot.rd, Slot.arg, Slot.has, evs, sV, sAsg, sNx, var, gN, gTu, gCo, gNi, Slot.isOwn, vAnd, vOr, vNot, vIf, bAnd, bOr, bNot, chain, chC, chL, callF, callV_1, callV_2, callV_3, callV_4, sz1, sz2, sz3, sz4, sz5, sz6, sz7, sz8, sz9, sz10, sz11, sz12, dvs, D.ix, L2.atI, ixN, D.cmpI, D.toI, D.mod, D.fdiv, D.add, D.sub, D.mul, D.pow, D.neg, D.len, D.mkL, D.mkT, D.isN, D.notN, isiB, isi2, D.is, D.tn, D.eq, D.ne, D.sc, D.eqb, sPut])), callV_o1 (l := l) rfl, e]
    rfl
  have e4 : D.ix (.lst ks) (.int (tkV l ks.length)) = some ks[(tkV l ks.length).toNat] := by
    clear e e3
    generalize tkV l ks.length = v at *
    obtain ⟨k, rfl⟩ := Int.eq_ofNat_of_zero_le lo
    have hn' : k < ks.length := by simpa using hn
    simp [D.ix, L2.atI, ixN, hn']
  have e5 := op2_ov (i := 1) (s := .val (.lst ks)) (ρ := [.own l, .val (.lst ks)]) (f := D.ix) (a := .lst ks) rfl rfl e3 rfl e4
  unfold f_ulaw_pick m_ulaw_pick fnF
  rw [if_pos ⟨rfl, rfl⟩]
  unfold sV
  simp only [List.replicate, List.append_nil]
  rw [e5]
  rfl
theorem gN_set {i : Nat} {d : D} {ρ : Ev} {s : Slot} (h : ρ[i]? = some s) (ho : s.isOwn = false) : gN i d ρ = some (ρ.set i (.val d)) := by
  unfold gN
  rw [h]
  simp [ho]
theorem for_cons {t : D → Ev → Option Ev} {b : S} {d : D} {ds : List D} {ρ ρ1 ρ2 : Ev} (h1 : t d ρ = some ρ1) (h2 : b ρ1 = .nx ρ2) : forL t b (d :: ds) ρ = forL t b ds ρ2 := by
  conv => lhs; unfold forL
  rw [h1]
  dsimp only
  rw [h2]
def Pl (s : Slot) : Prop := s.isOwn = false ∧ s.isEx = false
theorem Pl.val (d : D) : Pl (.val d) := ⟨rfl, rfl⟩
theorem Pl.no : Pl .no := ⟨rfl, rfl⟩
end DL
namespace DL
open PySem L2
def kindsB (k : Nat) : List D := (List.range' 0 10).map fun x : Nat => D.bl (decide ((x : Int) = (k : Int)))
def fldB (k : Nat) (v nm : D) : D := if k = 8 then .tup [v, nm] else if k = 9 then .non else v
def toldB (k : Nat) (v nm : D) : D := .tup [.lst (kindsB k), fldB k v nm]
theorem raised_ok (v nm : D) : ∀ k : Nat, k < 10 → f_ulaw_raised [.val (.int k), .val v, .val nm] = .ok (toldB k v nm) [.val (.int k), .val v, .val nm]
  | 0, _ => by kernel_rfl
  | 1, _ => by kernel_rfl
  | 2, _ => by kernel_rfl
  | 3, _ => by kernel_rfl
  | 4, _ => by kernel_rfl
  | 5, _ => by kernel_rfl
  | 6, _ => by kernel_rfl
  | 7, _ => by kernel_rfl
  | 8, _ => by kernel_rfl
  | 9, _ => by kernel_rfl
  | k + 10, h => by omega
def kinds6 (v : Int) : List D := [.non, .int 7, .str "x", .tup [.int 1, .int 2], .bl true, .int v]
def kinds2 : List D := [.tup [], .tup [.str "a"]]
def va14 : S := sAsg (callF f_ulaw_pick [(.o 1), .v (opV D.mkL [.v (M.ret .non), .v (M.ret (.int 7)), .v (M.ret (.str "x")), .v (opV D.mkT [.v (M.ret (.int 1)), .v (M.ret (.int 2))]), .v (M.ret (.bl true)), .v (callF f_ulaw_taken [(.o 1), .v (op2 D.pow (.v (M.ret (.int 10))) (.v (M.ret (.int 9))))])])]) (gN 4)
def vb14 : S := sAsg (callF f_ulaw_pick [(.o 1), .v (opV D.mkL [.v (opV D.mkT []), .v (opV D.mkT [.v (M.ret (.str "a"))])])]) (gN 5)
def rest14 : S := sSeq (sAsg (callF f_ulaw_raised [.v (var 2), .v (var 4), .v (var 5)]) (gN 6)) (sSeq (sIf (bOr (asTest (op2 D.isN (.o 6) (.v (M.ret .non)))) (asTest (op2 D.ne (.v (op2 D.ix (.o 6) (.v (M.ret (.int 0))))) (.v (k2_law))))) (sV (M.ret (.bl false)) fun d ρ => .rt d ρ) (sNx)) (sSeq (sAsg (var 4) (gN 7)) (sSeq (sIf (asTest (op2 D.eq (.o 2) (.v (M.ret (.int 8))))) (sAsg (opV D.mkT [.v (var 4), .v (var 5)]) (gN 7)) (sNx)) (sIf (bAnd (asTest (op2 D.lt (.o 2) (.v (M.ret (.int 9))))) (bOr (asTest (op2 D.ne (.v (op2 D.ix (.o 6) (.v (M.ret (.int 1))))) (.o 7))) (asTest (op2 D.ne (.v (op1 (isiB .bool) (.v (op2 D.ix (.o 6) (.v (M.ret (.int 1))))))) (.v (op1 (isiB .bool) (.o 7))))))) (sV (M.ret (.bl false)) fun d ρ => .rt d ρ) (sNx)))))
theorem b3_eq : b3_law = sSeq va14 (sSeq vb14 rest14) := rfl
theorem ne_same (x : D) (h : x.sh = true) (h2 : D.eqb x x = true) : D.ne x x = some (.bl false) := by
  unfold D.ne
  rw [h, h2]
  cases D.sc x x <;> rfl
theorem sh6 {v : D} {vi : Int} (hv : v ∈ kinds6 vi) : D.ne v v = some (.bl false) ∧ ∃ b, isiB .bool v = some (.bl b) := by
  simp only [kinds6, List.mem_cons, List.not_mem_nil, or_false] at hv
  rcases hv with rfl | rfl | rfl | rfl | rfl | rfl
  · exact ⟨ne_same _ (by kernel_rfl) (by kernel_rfl), _, rfl⟩
  · exact ⟨ne_same _ (by kernel_rfl) (by kernel_rfl), _, rfl⟩
  · exact ⟨ne_same _ (by kernel_rfl) (by kernel_rfl), _, rfl⟩
  · exact ⟨ne_same _ (by kernel_rfl) (by kernel_rfl), _, rfl⟩
  · exact ⟨ne_same _ (by kernel_rfl) (by kernel_rfl), _, rfl⟩
  · exact ⟨ne_same _ (by kernel_rfl) (by simp [D.eqb]), _, rfl⟩
theorem sh62 {v nm : D} {vi : Int} (hv : v ∈ kinds6 vi) (hn : nm ∈ kinds2) : D.ne (.tup [v, nm]) (.tup [v, nm]) = some (.bl false) := by
  simp only [kinds6, kinds2, List.mem_cons, List.not_mem_nil, or_false] at hv hn
  rcases hn with rfl | rfl <;> rcases hv with rfl | rfl | rfl | rfl | rfl | rfl
  · exact ne_same _ (by kernel_rfl) (by kernel_rfl)
  · exact ne_same _ (by kernel_rfl) (by kernel_rfl)
  · exact ne_same _ (by kernel_rfl) (by kernel_rfl)
  · exact ne_same _ (by kernel_rfl) (by kernel_rfl)
  · exact ne_same _ (by kernel_rfl) (by kernel_rfl)
  · exact ne_same _ (by kernel_rfl) (by simp [D.eqb, D.eqbs])
  · exact ne_same _ (by kernel_rfl) (by kernel_rfl)
  · exact ne_same _ (by kernel_rfl) (by kernel_rfl)
  · exact ne_same _ (by kernel_rfl) (by kernel_rfl)
  · exact ne_same _ (by kernel_rfl) (by kernel_rfl)
  · exact ne_same _ (by kernel_rfl) (by kernel_rfl)
  · exact ne_same _ (by kernel_rfl) (by simp [D.eqb, D.eqbs])
theorem kinds_ne : ∀ k : Nat, k < 10 → D.ne (.lst (kindsB k)) (.lst (kindsB k)) = some (.bl false)
  | 0, _ => by kernel_rfl
  | 1, _ => by kernel_rfl
  | 2, _ => by kernel_rfl
  | 3, _ => by kernel_rfl
  | 4, _ => by kernel_rfl
  | 5, _ => by kernel_rfl
  | 6, _ => by kernel_rfl
  | 7, _ => by kernel_rfl
  | 8, _ => by kernel_rfl
  | 9, _ => by kernel_rfl
  | k + 10, h => by omega
def D.i : D → Int
  | .int i => i
  | _ => 0
theorem k2_src {ρ : Ev} {n : Int} {L : List D} (hr : D.rng1 [.int n] = some L) : srcN D.rng1 [.v (M.ret (.int n))] ρ = .ok L ρ := by
  simp [hr, srcN, fnF, sSeq, sIf, asTest, op1, op2, opN, opV, M.bnd, M.ret, M.opt, Arg.ev, rs, rss, Slot.rd, evs, sV, sAsg, sNx, var, gN, gTu, gCo, gNi, so_no, so_val, so_own, so_dic, so_inst, so_ex, sh_no, sh_val, sh_own, sh_dic, sh_inst, sh_ex, sa_no, sa_val, sa_own, sa_dic, sa_inst, sa_ex, vAnd, vOr, vNot, vIf, bAnd, bOr, bNot, chain, chC, chL, callF, callV_1, callV_2, callV_3, callV_4, sz1, sz2, sz3, sz4, sz5, sz6, sz7, sz8, sz9, sz10, sz11, sz12, dvs, D.ix, L2.atI, ixN, D.cmpI, D.toI, D.mod, D.fdiv, add_ii, D.sub, D.mul, D.pow, D.neg, D.len, D.mkL, D.mkT, D.isN, D.notN, isiB, isi2, D.is, D.tn, D.eq, D.ne, D.sc, D.eqb, sPut, callV_o1g]
theorem k2_ok {s0 s1 s3 s4 s5 s6 s7 : Slot} (k : Nat) : k2_law [s0, s1, .val (.int k), s3, s4, s5, s6, s7, .no] = .ok (.lst (kindsB k)) [s0, s1, .val (.int k), s3, s4, s5, s6, s7, .no] := by
  have hr := rng1_nat (n := 10) (by omega)
  have hs := k2_src (ρ := [s0, s1, .val (.int k), s3, s4, s5, s6, s7, .no]) hr
  have e : kindsB k = ((((List.range' 0 10).map fun x : Nat => D.int x).filter fun _ => true).map fun x => D.bl (decide (x.i = (k : Int)))) := by
    unfold kindsB
    rw [List.filter_eq_self.mpr (by simp), List.map_map]
    rfl
  have hL : ∀ x ∈ (List.range' 0 10).map (fun x : Nat => D.int x), ∃ y : Int, x = .int y := fun x hx => let ⟨y, _, z⟩ := List.mem_map.mp hx; ⟨y, z.symm⟩
  rw [e]
  clear e hr
  generalize (List.range' 0 10).map (fun x : Nat => D.int x) = L at hs hL
  generalize (k : Int) = kk at *
  refine comp_pure (fun _ => true) (fun x => .bl (decide (x.i = kk))) hs (by simp [ownAt, so_no]) fun x hx => ?_
  obtain ⟨y, rfl⟩ := hL x hx
  refine ⟨[s0, s1, .val (.int kk), s3, s4, s5, s6, s7, .val (.int y)], by simp [wipeE, fnF, sSeq, sIf, asTest, op1, op2, opN, opV, M.bnd, M.ret, M.opt, Arg.ev, rs, rss, Slot.rd, evs, sV, sAsg, sNx, var, gN, gTu, gCo, gNi, so_no, so_val, so_own, so_dic, so_inst, so_ex, sh_no, sh_val, sh_own, sh_dic, sh_inst, sh_ex, sa_no, sa_val, sa_own, sa_dic, sa_inst, sa_ex, vAnd, vOr, vNot, vIf, bAnd, bOr, bNot, chain, chC, chL, callF, callV_1, callV_2, callV_3, callV_4, sz1, sz2, sz3, sz4, sz5, sz6, sz7, sz8, sz9, sz10, sz11, sz12, dvs, D.ix, L2.atI, ixN, D.cmpI, D.toI, D.mod, D.fdiv, add_ii, D.sub, D.mul, D.pow, D.neg, D.len, D.mkL, D.mkT, D.isN, D.notN, isiB, isi2, D.is, D.tn, D.eq, D.ne, D.sc, D.eqb, sPut, callV_o1g], rfl, fun _ => ?_, by simp [ownAt, fnF, sSeq, sIf, asTest, op1, op2, opN, opV, M.bnd, M.ret, M.opt, Arg.ev, rs, rss, Slot.rd, evs, sV, sAsg, sNx, var, gN, gTu, gCo, gNi, so_no, so_val, so_own, so_dic, so_inst, so_ex, sh_no, sh_val, sh_own, sh_dic, sh_inst, sh_ex, sa_no, sa_val, sa_own, sa_dic, sa_inst, sa_ex, vAnd, vOr, vNot, vIf, bAnd, bOr, bNot, chain, chC, chL, callF, callV_1, callV_2, callV_3, callV_4, sz1, sz2, sz3, sz4, sz5, sz6, sz7, sz8, sz9, sz10, sz11, sz12, dvs, D.ix, L2.atI, ixN, D.cmpI, D.toI, D.mod, D.fdiv, add_ii, D.sub, D.mul, D.pow, D.neg, D.len, D.mkL, D.mkT, D.isN, D.notN, isiB, isi2, D.is, D.tn, D.eq, D.ne, D.sc, D.eqb, sPut, callV_o1g], by simp [wipeE]⟩
  by_cases h : y = kk <;> simp [c1_law, D.i, h, fnF, sSeq, sIf, asTest, op1, op2, opN, opV, M.bnd, M.ret, M.opt, Arg.ev, rs, rss, Slot.rd, evs, sV, sAsg, sNx, var, gN, gTu, gCo, gNi, so_no, so_val, so_own, so_dic, so_inst, so_ex, sh_no, sh_val, sh_own, sh_dic, sh_inst, sh_ex, sa_no, sa_val, sa_own, sa_dic, sa_inst, sa_ex, vAnd, vOr, vNot, vIf, bAnd, bOr, bNot, chain, chC, chL, callF, callV_1, callV_2, callV_3, callV_4, sz1, sz2, sz3, sz4, sz5, sz6, sz7, sz8, sz9, sz10, sz11, sz12, dvs, D.ix, L2.atI, ixN, D.cmpI, D.toI, D.mod, D.fdiv, add_ii, D.sub, D.mul, D.pow, D.neg, D.len, D.mkL, D.mkT, D.isN, D.notN, isiB, isi2, D.is, D.tn, D.eq, D.ne, D.sc, D.eqb, sPut, callV_o1g]
/-- a turn behind the draws -/
theorem rest_ok {s0 s1 s3 s6 s7 : Slot} (h6 : s6.isOwn = false) (h7 : s7.isOwn = false) {v nm : D} {vi : Int} (hv : v ∈ kinds6 vi) (hn : nm ∈ kinds2) (k : Nat) (hk : k < 10) :
    ∃ x6 x7, rest14 [s0, s1, .val (.int k), s3, .val v, .val nm, s6, s7, .no] = .nx [s0, s1, .val (.int k), s3, .val v, .val nm, .val x6, .val x7, .no] := by
  have e1 := raised_ok v nm k hk
  have e2 := kinds_ne k hk
  have e3 := fun s0 s1 s3 s4 s5 s6 s7 => k2_ok (s0 := s0) (s1 := s1) (s3 := s3) (s4 := s4) (s5 := s5) (s6 := s6) (s7 := s7) k
  have i0 : D.ix (toldB k v nm) (.int 0) = some (.lst (kindsB k)) := rfl
  have i1 : D.ix (toldB k v nm) (.int 1) = some (fldB k v nm) := rfl
  have n0 : D.isN (toldB k v nm) .non = some (.bl false) := rfl
  obtain ⟨c1, b, b1⟩ := sh6 hv
  have c2 := sh62 hv hn
  have c3 : D.ne (.bl b) (.bl b) = some (.bl false) := by cases b <;> rfl
  have m2 : D.mkT [v, nm] = some (.tup [v, nm]) := if_pos (Eq.mpr sz2 trivial)
  have q8 : D.eq (.int k) (.int 8) = some (.bl (decide (k = 8))) := by
    by_cases h : k = 8
    · subst h; rfl
    · have : ¬ ((k : Int) = 8) := by omega
      simp [D.eq, D.sc, D.eqb, h]
      omega
  have l9 : D.lt (.int k) (.int 9) = some (.bl (decide (k < 9))) := by
    show some (D.bl (decide ((k : Int) < 9))) = _
    congr 2
    by_cases h : k < 9
    · rw [decide_eq_true h, decide_eq_true (by omega)]
    · rw [decide_eq_false h, decide_eq_false (by omega)]
  have b2 : isiB .bool (.tup [v, nm]) = some (.bl false) := rfl
  have c4 : D.ne (.bl false) (.bl false) = some (.bl false) := rfl
  rcases Nat.lt_or_ge k 8 with h8 | h8
  · have hf : fldB k v nm = v := by unfold fldB; rw [if_neg (by omega), if_neg (by omega)]
    rw [hf] at i1
    rw [decide_eq_false (by omega)] at q8
    rw [decide_eq_true (by omega)] at l9
    generalize toldB k v nm = T at *
    generalize D.lst (kindsB k) = K0 at *
    generalize (k : Int) = kk at *
    refine ⟨T, v, ?_⟩
    simp [rest14, e1, e2, e3, i0, i1, n0, c1, b1, c3, q8, l9, h6, h7, fnF, sSeq, sIf, asTest, op1, op2, opN, opV, M.bnd, M.ret, M.opt, Arg.ev, rs, rss, Slot.rd, evs, sV, sAsg, sNx, var, gN, gTu, gCo, gNi, so_no, so_val, so_own, so_dic, so_inst, so_ex, sh_no, sh_val, sh_own, sh_dic, sh_inst, sh_ex, sa_no, sa_val, sa_own, sa_dic, sa_inst, sa_ex, vAnd, vOr, vNot, vIf, bAnd, bOr, bNot, chain, chC, chL, callF, callV_1, callV_2, callV_3, callV_4, sz1, sz2, sz3, sz4, sz5, sz6, sz7, sz8, sz9, sz10, sz11, sz12, dvs, D.toI, D.mod, D.fdiv, add_ii, D.sub, D.mul, D.pow, D.neg, D.len, D.notN, isi2, D.is, D.tn, sPut, callV_o1g]
  · rcases Nat.eq_or_lt_of_le h8 with h8 | h9
    · subst h8
      have hf : fldB 8 v nm = .tup [v, nm] := rfl
      rw [hf] at i1
      rw [decide_eq_true rfl] at q8
      rw [decide_eq_true (by omega)] at l9
      generalize toldB 8 v nm = T at *
      generalize D.lst (kindsB 8) = K0 at *
      generalize D.tup [v, nm] = U at *
      generalize ((8 : Nat) : Int) = kk at *
      refine ⟨T, U, ?_⟩
      simp [rest14, e1, e2, e3, i0, i1, n0, c2, b2, c4, q8, l9, m2, h6, h7, fnF, sSeq, sIf, asTest, op1, op2, opN, opV, M.bnd, M.ret, M.opt, Arg.ev, rs, rss, Slot.rd, evs, sV, sAsg, sNx, var, gN, gTu, gCo, gNi, so_no, so_val, so_own, so_dic, so_inst, so_ex, sh_no, sh_val, sh_own, sh_dic, sh_inst, sh_ex, sa_no, sa_val, sa_own, sa_dic, sa_inst, sa_ex, vAnd, vOr, vNot, vIf, bAnd, bOr, bNot, chain, chC, chL, callF, callV_1, callV_2, callV_3, callV_4, sz1, sz2, sz3, sz4, sz5, sz6, sz7, sz8, sz9, sz10, sz11, sz12, dvs, D.toI, D.mod, D.fdiv, add_ii, D.sub, D.mul, D.pow, D.neg, D.len, D.notN, isi2, D.is, D.tn, sPut, callV_o1g]
    · rw [decide_eq_false (by omega)] at q8
      rw [decide_eq_false (by omega)] at l9
      generalize toldB k v nm = T at *
      generalize D.lst (kindsB k) = K0 at *
      generalize (k : Int) = kk at *
      refine ⟨T, v, ?_⟩
      simp [rest14, e1, e2, e3, i0, i1, n0, q8, l9, h6, h7, fnF, sSeq, sIf, asTest, op1, op2, opN, opV, M.bnd, M.ret, M.opt, Arg.ev, rs, rss, Slot.rd, evs, sV, sAsg, sNx, var, gN, gTu, gCo, gNi, so_no, so_val, so_own, so_dic, so_inst, so_ex, sh_no, sh_val, sh_own, sh_dic, sh_inst, sh_ex, sa_no, sa_val, sa_own, sa_dic, sa_inst, sa_ex, vAnd, vOr, vNot, vIf, bAnd, bOr, bNot, chain, chC, chL, callF, callV_1, callV_2, callV_3, callV_4, sz1, sz2, sz3, sz4, sz5, sz6, sz7, sz8, sz9, sz10, sz11, sz12, dvs, D.toI, D.mod, D.fdiv, add_ii, D.sub, D.mul, D.pow, D.neg, D.len, D.notN, isi2, D.is, D.tn, sPut, callV_o1g]
end DL
namespace DL
open PySem L2
theorem evs_o1n {i : Nat} {m : M D} {a : D} {ρ ρ1 : Ev} {l : List D} (h : ρ[i]? = some (.own l)) (hm : m ρ = .ok a ρ1) : evs [.o i, .v m] ρ = .ok [.o i, .d a] ρ1 := by
  have e1 : (Arg.o i).ev ρ = .ok (.o i) ρ := by
    show (match ρ[i]? with
      | some s => if s.has then Out.ok (AV.o i) ρ else .bad
      | none => .bad) = _
    rw [h]
    rfl
  have e2 : evs [.v m] ρ = .ok [.d a] ρ1 := by
    show M.bnd (M.bnd m fun d => M.ret (AV.d d)) (fun x => M.bnd (M.ret []) fun xs => M.ret (x :: xs)) ρ = _
    rw [bnd_ok (a := AV.d a) (ρ' := ρ1) (by rw [bnd_ok hm]; rfl)]
    rfl
  show M.bnd (Arg.o i).ev (fun x => M.bnd (evs [.v m]) fun xs => M.ret (x :: xs)) ρ = _
  rw [bnd_ok e1, bnd_ok e2]
  rfl
theorem va_ok {s0 s2 s3 s4 s5 s6 s7 s8 : Slot} {d : List D} (hd : RowOk d) (h4 : s4.isOwn = false) : ∃ v d' vi, va14 [s0, .own d, s2, s3, s4, s5, s6, s7, s8] = .nx [s0, .own d', s2, s3, .val v, s5, s6, s7, s8] ∧ v ∈ kinds6 vi ∧ RowOk d' := by
  have e1 := tk_eq hd (m := 1000000000) (by omega) (by omega)
  have hd1 := tkN_ok hd (m := 1000000000) (by omega) (by omega)
  generalize tkN d 1000000000 = d1 at *
  generalize tkV d 1000000000 = vi at *
  have hlen : (kinds6 vi).length = 6 := rfl
  obtain ⟨x, k1, k2⟩ := pick_eq (ks := kinds6 vi) hd1 (by omega) (by omega)
  have hd2 := tkN_ok hd1 (m := ((kinds6 vi).length : Int)) (by omega) (by omega)
  refine ⟨x, _, vi, ?_, List.mem_of_getElem? k1, hd2⟩
  have e0 : D.pow (.int 10) (.int 9) = some (.int 1000000000) := by kernel_rfl
  unfold va14
  have hm : ∀ m : M D, m [s0, .own d, s2, s3, s4, s5, s6, s7, s8] = .ok (.lst (kinds6 vi)) [s0, .own d1, s2, s3, s4, s5, s6, s7, s8] → sAsg (callF f_ulaw_pick [(.o 1), .v m]) (gN 4) [s0, .own d, s2, s3, s4, s5, s6, s7, s8] = .nx [s0, .own (tkN d1 ((kinds6 vi).length : Int)), s2, s3, .val x, s5, s6, s7, s8] := fun m hm => by
    unfold sAsg sV callF
    rw [bnd_ok (evs_o1n (i := 1) (l := d) rfl hm), callV_o1 (l := d1) rfl, k2]
    simp [gN, h4, so_own]
  refine hm _ ?_
  clear hm k1 k2 hd hd1 hd2
  simp [kinds6, e1, e0, fnF, sSeq, sIf, asTest, op1, op2, opN, opV, M.bnd, M.ret, M.opt, Arg.ev, rs, rss, Slot.rd, evs, sV, sAsg, sNx, var, gN, gTu, gCo, gNi, so_no, so_val, so_own, so_dic, so_inst, so_ex, sh_no, sh_val, sh_own, sh_dic, sh_inst, sh_ex, sa_no, sa_val, sa_own, sa_dic, sa_inst, sa_ex, vAnd, vOr, vNot, vIf, bAnd, bOr, bNot, chain, chC, chL, callF, callV_1, callV_2, callV_3, callV_4, sz1, sz2, sz3, sz4, sz5, sz6, sz7, sz8, sz9, sz10, sz11, sz12, dvs, D.ix, L2.atI, ixN, D.cmpI, D.toI, D.mod, D.fdiv, add_ii, D.sub, D.mul, D.neg, D.len, D.mkL, D.mkT, D.isN, D.notN, isiB, isi2, D.is, D.tn, D.eq, D.ne, D.sc, D.eqb, sPut, callV_o1g]
theorem vb_ok {s0 s2 s3 s4 s5 s6 s7 s8 : Slot} {d : List D} (hd : RowOk d) (h5 : s5.isOwn = false) : ∃ v d', vb14 [s0, .own d, s2, s3, s4, s5, s6, s7, s8] = .nx [s0, .own d', s2, s3, s4, .val v, s6, s7, s8] ∧ v ∈ kinds2 ∧ RowOk d' := by
  obtain ⟨x, k1, k2⟩ := pick_eq (ks := kinds2) hd (by decide) (by decide)
  have hd2 := tkN_ok hd (m := (kinds2.length : Int)) (by decide) (by decide)
  refine ⟨x, _, ?_, List.mem_of_getElem? k1, hd2⟩
  unfold vb14
  have hm : ∀ m : M D, m [s0, .own d, s2, s3, s4, s5, s6, s7, s8] = .ok (.lst kinds2) [s0, .own d, s2, s3, s4, s5, s6, s7, s8] → sAsg (callF f_ulaw_pick [(.o 1), .v m]) (gN 5) [s0, .own d, s2, s3, s4, s5, s6, s7, s8] = .nx [s0, .own (tkN d (kinds2.length : Int)), s2, s3, s4, .val x, s6, s7, s8] := fun m hm => by
    unfold sAsg sV callF
    rw [bnd_ok (evs_o1n (i := 1) (l := d) rfl hm), callV_o1 (l := d) rfl, k2]
    simp [gN, h5, so_own]
  refine hm _ ?_
  clear hm k1 k2 hd hd2
  simp [kinds2, fnF, sSeq, sIf, asTest, op1, op2, opN, opV, M.bnd, M.ret, M.opt, Arg.ev, rs, rss, Slot.rd, evs, sV, sAsg, sNx, var, gN, gTu, gCo, gNi, so_no, so_val, so_own, so_dic, so_inst, so_ex, sh_no, sh_val, sh_own, sh_dic, sh_inst, sh_ex, sa_no, sa_val, sa_own, sa_dic, sa_inst, sa_ex, vAnd, vOr, vNot, vIf, bAnd, bOr, bNot, chain, chC, chL, callF, callV_1, callV_2, callV_3, callV_4, sz1, sz2, sz3, sz4, sz5, sz6, sz7, sz8, sz9, sz10, sz11, sz12, dvs, D.ix, L2.atI, ixN, D.cmpI, D.toI, D.mod, D.fdiv, add_ii, D.sub, D.mul, D.neg, D.len, D.mkL, D.mkT, D.isN, D.notN, isiB, isi2, D.is, D.tn, D.eq, D.ne, D.sc, D.eqb, sPut, callV_o1g]
theorem turn_ok {s0 s3 s4 s5 s6 s7 : Slot} {d : List D} (hd : RowOk d) (h4 : s4.isOwn = false) (h5 : s5.isOwn = false) (h6 : s6.isOwn = false) (h7 : s7.isOwn = false) (k : Nat) (hk : k < 10) :
    ∃ d' x4 x5 x6 x7, b3_law [s0, .own d, .val (.int k), s3, s4, s5, s6, s7, .no] = .nx [s0, .own d', .val (.int k), s3, .val x4, .val x5, .val x6, .val x7, .no] ∧ RowOk d' := by
  obtain ⟨v, d1, vi, k1, k2, hd1⟩ := va_ok (s0 := s0) (s2 := .val (.int k)) (s3 := s3) (s5 := s5) (s6 := s6) (s7 := s7) (s8 := .no) hd h4
  obtain ⟨nm, d2, k3, k4, hd2⟩ := vb_ok (s0 := s0) (s2 := .val (.int k)) (s3 := s3) (s4 := .val v) (s6 := s6) (s7 := s7) (s8 := .no) hd1 h5
  obtain ⟨x6, x7, k5⟩ := rest_ok (s0 := s0) (s1 := .own d2) (s3 := s3) h6 h7 k2 k4 k hk
  refine ⟨d2, v, nm, x6, x7, ?_, hd2⟩
  rw [b3_eq, seq_nx k1, seq_nx k3, k5]
theorem loop14 {s0 s3 : Slot} : ∀ (n j : Nat) (d : List D) (s2 s4 s5 s6 s7 : Slot), RowOk d → j + n ≤ 10 → s2.isOwn = false → s4.isOwn = false → s5.isOwn = false → s6.isOwn = false → s7.isOwn = false →
    ∃ d' t2 t4 t5 t6 t7, forL (gN 2) b3_law ((List.range' j n).map fun x : Nat => D.int x) [s0, .own d, s2, s3, s4, s5, s6, s7, .no] = .nx [s0, .own d', t2, s3, t4, t5, t6, t7, .no]
  | 0, j, d, s2, s4, s5, s6, s7, hd, hj, h2, h4, h5, h6, h7 => ⟨d, s2, s4, s5, s6, s7, rfl⟩
  | n + 1, j, d, s2, s4, s5, s6, s7, hd, hj, h2, h4, h5, h6, h7 => by
    obtain ⟨d1, x4, x5, x6, x7, k1, hd1⟩ := turn_ok (s0 := s0) (s3 := s3) hd h4 h5 h6 h7 j (by omega)
    obtain ⟨d', t2, t4, t5, t6, t7, k2⟩ := loop14 (s0 := s0) (s3 := s3) n (j + 1) d1 (.val (.int j)) (.val x4) (.val x5) (.val x6) (.val x7) hd1 (by omega) rfl rfl rfl rfl rfl
    refine ⟨d', t2, t4, t5, t6, t7, ?_⟩
    rw [List.range'_succ, List.map_cons]
    exact (for_cons (gN_set (s := s2) rfl h2) k1).trans k2
theorem l4_ok {S : D} {d : List D} (hd : RowOk d) : ∃ d' t2 t4 t5 t6 t7, l4_law [.val S, .own d, .no, .no, .no, .no, .no, .no, .no] = .nx [.val S, .own d', t2, .no, t4, t5, t6, t7, .no] := by
  have hr := rng1_nat (n := 10) (by omega)
  have hs := k2_src (ρ := [.val S, .own d, .no, .no, .no, .no, .no, .no, .no]) hr
  obtain ⟨d', t2, t4, t5, t6, t7, k1⟩ := loop14 (s0 := .val S) (s3 := .no) 10 0 d .no .no .no .no .no hd (by omega) rfl rfl rfl rfl rfl
  clear hr
  generalize (List.range' 0 10).map (fun x : Nat => D.int x) = L at hs k1
  have hf := for_ok (t := gN 2) (b := b3_law) hs
  exact ⟨d', t2, t4, t5, t6, t7, hf.trans k1⟩
def made5 : D := .lst [.int 1, .str "a", .int 4, .int 5, .int 6]
def made10 : D := .lst [.int 1, .str "a", .int 4, .int 5, .int 6, .int 7, .int 8, .int 9, .int 11, .str "s"]
theorem x5_ok (s0 s1 s2 s4 s5 s6 s7 s8 : Slot) : x5_law [s0, s1, s2, .no, s4, s5, s6, s7, s8] = .nx [s0, s1, s2, .val made5, s4, s5, s6, s7, s8] := by kernel_rfl
theorem x6_ok (s0 s1 s2 s4 s5 s6 s7 s8 : Slot) : x6_law [s0, s1, s2, .val made5, s4, s5, s6, s7, s8] = .nx [s0, s1, s2, .val made10, s4, s5, s6, s7, s8] := by kernel_rfl
theorem x7_ok (s0 s1 s2 s4 s5 s6 s7 s8 : Slot) : x7_law [s0, s1, s2, .val made10, s4, s5, s6, s7, s8] = .rt (.bl true) [s0, s1, s2, .val made10, s4, s5, s6, s7, s8] := by kernel_rfl
theorem x0_ok {S : D} : x0_law [.val S, .no, .no, .no, .no, .no, .no, .no, .no] = .nx [.val S, .own [S, .int 0, .int 73, .int 0], .no, .no, .no, .no, .no, .no, .no] := by
  simp [x0_law, sOwn, fnF, sSeq, sIf, asTest, op1, op2, opN, opV, M.bnd, M.ret, M.opt, Arg.ev, rs, rss, Slot.rd, evs, sV, sAsg, sNx, var, gN, gTu, gCo, gNi, so_no, so_val, so_own, so_dic, so_inst, so_ex, sh_no, sh_val, sh_own, sh_dic, sh_inst, sh_ex, sa_no, sa_val, sa_own, sa_dic, sa_inst, sa_ex, vAnd, vOr, vNot, vIf, bAnd, bOr, bNot, chain, chC, chL, callF, callV_1, callV_2, callV_3, callV_4, sz1, sz2, sz3, sz4, sz5, sz6, sz7, sz8, sz9, sz10, sz11, sz12, dvs, D.ix, L2.atI, ixN, D.cmpI, D.toI, D.mod, D.fdiv, add_ii, D.sub, D.mul, D.pow, D.neg, D.len, D.mkL, D.mkT, D.isN, D.notN, isiB, isi2, D.is, D.tn, D.eq, D.ne, D.sc, D.eqb, sPut, callV_o1g]
theorem law_plain : ∀ ns : List Int, ns.length ≤ 63 → ∃ os, f_law [.val (.scr (ns.map D.int))] = .ok (.bl true) os := fun ns _ => by
  have hd0 : RowOk [.scr (ns.map D.int), .int 0, .int 73, .int 0] := ⟨ns, 0, 73, 0, rfl, by omega, by omega, by omega⟩
  generalize D.scr (ns.map D.int) = S at *
  obtain ⟨d', t2, t4, t5, t6, t7, k1⟩ := l4_ok hd0
  have h : m_law [.val S, .no, .no, .no, .no, .no, .no, .no, .no] = .rt (.bl true) [.val S, .own d', t2, .val made10, t4, t5, t6, t7, .no] := by
    unfold m_law
    rw [seq_nx x0_ok, seq_nx k1, seq_nx (x5_ok _ _ _ _ _ _ _ _), seq_nx (x6_ok _ _ _ _ _ _ _ _), x7_ok]
  exact ⟨_, fn_rt (m := m_law) (loc := 8) rfl rfl h rfl⟩
end DL
namespace DL
open PySem L2
abbrev e_BadEvent : Stmt := inClass (top 5) 0
abbrev e_BadItem : Stmt := inClass (top 4) 0
abbrev e_BadName : Stmt := inClass (top 3) 0
abbrev e_BadNote : Stmt := inClass (top 6) 0
abbrev e_BadNumber : Stmt := inClass (top 2) 0
abbrev e_Refused : Stmt := inClass (top 10) 0
abbrev e_Taken : Stmt := inClass (top 9) 0
abbrev e_TooMany : Stmt := inClass (top 7) 0
abbrev e_Unknown : Stmt := inClass (top 8) 0
theorem all_mk {l : PySem.W.OpenLaw} {w : World} {K : PySem.W.Frag} {h : Heap} {mg : Str → Option Value} {fa : Addr} (X : K.In h) (G : h.Ns mainGlobals mg) (hfa : mg "law" = some (.ref fa))
    {C_GateError C_NothingToUndo C_BadEvent N_BadEvent fI_BadEvent cda_BadEvent cl_BadEvent C_BadItem N_BadItem fI_BadItem cda_BadItem cl_BadItem C_BadName N_BadName fI_BadName cda_BadName cl_BadName C_BadNote N_BadNote fI_BadNote cda_BadNote cl_BadNote C_BadNumber N_BadNumber fI_BadNumber cda_BadNumber cl_BadNumber C_Refused N_Refused fI_Refused cda_Refused cl_Refused C_Taken N_Taken fI_Taken cda_Taken cl_Taken C_TooMany N_TooMany fI_TooMany cda_TooMany cl_TooMany C_Unknown N_Unknown fI_Unknown cda_Unknown cl_Unknown f0 f1 f2 f3 f4 : Addr} {oc_BadEvent kV_BadEvent dc_BadEvent pm_BadEvent ct_BadEvent ccl_BadEvent ocl_BadEvent oc_BadItem kV_BadItem dc_BadItem pm_BadItem ct_BadItem ccl_BadItem ocl_BadItem oc_BadName kV_BadName dc_BadName pm_BadName ct_BadName ccl_BadName ocl_BadName oc_BadNote kV_BadNote dc_BadNote pm_BadNote ct_BadNote ccl_BadNote ocl_BadNote oc_BadNumber kV_BadNumber dc_BadNumber pm_BadNumber ct_BadNumber ccl_BadNumber ocl_BadNumber oc_Refused kV_Refused dc_Refused pm_Refused ct_Refused ccl_Refused ocl_Refused oc_Taken kV_Taken dc_Taken pm_Taken ct_Taken ccl_Taken ocl_Taken oc_TooMany kV_TooMany dc_TooMany pm_TooMany ct_TooMany ccl_TooMany ocl_TooMany oc_Unknown kV_Unknown dc_Unknown pm_Unknown ct_Unknown ccl_Unknown ocl_Unknown oc0 kV0 dc0 pm0 cd0 ct0 oc1 kV1 dc1 pm1 cd1 ct1 oc2 kV2 dc2 pm2 cd2 ct2 oc3 kV3 dc3 pm3 cd3 ct3 oc4 kV4 dc4 pm4 cd4 ct4 : Value} {dd_BadEvent od_BadEvent an_BadEvent cdd_BadEvent cld_BadEvent dd_BadItem od_BadItem an_BadItem cdd_BadItem cld_BadItem dd_BadName od_BadName an_BadName cdd_BadName cld_BadName dd_BadNote od_BadNote an_BadNote cdd_BadNote cld_BadNote dd_BadNumber od_BadNumber an_BadNumber cdd_BadNumber cld_BadNumber dd_Refused od_Refused an_Refused cdd_Refused cld_Refused dd_Taken od_Taken an_Taken cdd_Taken cld_Taken dd_TooMany od_TooMany an_TooMany cdd_TooMany cld_TooMany dd_Unknown od_Unknown an_Unknown cdd_Unknown cld_Unknown od0 an0 od1 an1 od2 an2 od3 an3 od4 an4 : Option Addr} {sl_BadEvent ccs_BadEvent csl_BadEvent sl_BadItem ccs_BadItem csl_BadItem sl_BadName ccs_BadName csl_BadName sl_BadNote ccs_BadNote csl_BadNote sl_BadNumber ccs_BadNumber csl_BadNumber sl_Refused ccs_Refused csl_Refused sl_Taken ccs_Taken csl_Taken sl_TooMany ccs_TooMany csl_TooMany sl_Unknown ccs_Unknown csl_Unknown sl0 sl1 sl2 sl3 sl4 : Array (Option Value)} {nm_BadEvent qn_BadEvent fil_BadEvent nm_BadItem qn_BadItem fil_BadItem nm_BadName qn_BadName fil_BadName nm_BadNote qn_BadNote fil_BadNote nm_BadNumber qn_BadNumber fil_BadNumber nm_Refused qn_Refused fil_Refused nm_Taken qn_Taken fil_Taken nm_TooMany qn_TooMany fil_TooMany nm_Unknown qn_Unknown fil_Unknown : Str} {bs_BadEvent bm_BadEvent sub_BadEvent bs_BadItem bm_BadItem sub_BadItem bs_BadName bm_BadName sub_BadName bs_BadNote bm_BadNote sub_BadNote bs_BadNumber bm_BadNumber sub_BadNumber bs_Refused bm_Refused sub_Refused bs_Taken bm_Taken sub_Taken bs_TooMany bm_TooMany sub_TooMany bs_Unknown bm_Unknown sub_Unknown : List Value} {sn_BadEvent sn_BadItem sn_BadName sn_BadNote sn_BadNumber sn_Refused sn_Taken sn_TooMany sn_Unknown : List Str} {ab_BadEvent ab_BadItem ab_BadName ab_BadNote ab_BadNumber ab_Refused ab_Taken ab_TooMany ab_Unknown : Bool} {col_BadEvent col_BadItem col_BadName col_BadNote col_BadNumber col_Refused col_Taken col_TooMany col_Unknown : Option Bool} {m0_BadEvent m1_BadEvent m2_BadEvent m3_BadEvent m5_BadEvent m0_BadItem m1_BadItem m2_BadItem m3_BadItem m5_BadItem m0_BadName m1_BadName m2_BadName m3_BadName m5_BadName m0_BadNote m1_BadNote m2_BadNote m3_BadNote m5_BadNote m0_BadNumber m1_BadNumber m2_BadNumber m3_BadNumber m5_BadNumber m0_Refused m1_Refused m2_Refused m3_Refused m5_Refused m0_Taken m1_Taken m2_Taken m3_Taken m5_Taken m0_TooMany m1_TooMany m2_TooMany m3_TooMany m5_TooMany m0_Unknown m1_Unknown m2_Unknown m3_Unknown m5_Unknown : Option Value} {vs_BadEvent vs_BadItem vs_BadName vs_BadNote vs_BadNumber vs_Refused vs_Taken vs_TooMany vs_Unknown : Array Value} {tf_BadEvent tf_BadItem tf_BadName tf_BadNote tf_BadNumber tf_Refused tf_Taken tf_TooMany tf_Unknown : Tok}
    (top0 : (l.prog.main.scope.names.lookup ("super" : Str)).isSome = false)
    (hn0 : PySem.W.specialIn K (.builtin "object.__class__") "__get__" = some (some (.builtin "getset_descriptor.__get__")))
    (ht0 : PySem.W.takesIn K (.builtin "object.__class__") = some true)
    (z_LookupError : PySem.W.nsIn K mainGlobals "LookupError" = some none)
    (z_RuntimeError : PySem.W.nsIn K mainGlobals "RuntimeError" = some none)
    (z_ValueError : PySem.W.nsIn K mainGlobals "ValueError" = some none)
    (z_bool : PySem.W.nsIn K mainGlobals "bool" = some none)
    (z_int : PySem.W.nsIn K mainGlobals "int" = some none)
    (z_isinstance : PySem.W.nsIn K mainGlobals "isinstance" = some none)
    (z_len : PySem.W.nsIn K mainGlobals "len" = some none)
    (z_list : PySem.W.nsIn K mainGlobals "list" = some none)
    (z_range : PySem.W.nsIn K mainGlobals "range" = some none)
    (z_str : PySem.W.nsIn K mainGlobals "str" = some none)
    (z_tuple : PySem.W.nsIn K mainGlobals "tuple" = some none)
    (z_super : PySem.W.nsIn K mainGlobals "super" = some none)
    (th : PySem.W.nsIn K cStatics "thirdparty.any" = some none)
    (g_GateError : PySem.W.nsIn K mainGlobals "GateError" = some (some (.ref C_GateError)))
    (ga_GateError : PySem.W.findIn K (.ref C_GateError) "__getattribute__" = some (some (.builtin "BaseException.__getattribute__")))
    (gg_GateError : PySem.W.findIn K (.ref C_GateError) "__getattr__" = some none)
    (hd_GateError : PySem.W.hasDictIn K C_GateError = true)
    (eC_GateError : PySem.W.subIn K (.ref C_GateError) (.type "BaseException") = some true)
    (g_NothingToUndo : PySem.W.nsIn K mainGlobals "NothingToUndo" = some (some (.ref C_NothingToUndo)))
    (ga_NothingToUndo : PySem.W.findIn K (.ref C_NothingToUndo) "__getattribute__" = some (some (.builtin "BaseException.__getattribute__")))
    (gg_NothingToUndo : PySem.W.findIn K (.ref C_NothingToUndo) "__getattr__" = some none)
    (hd_NothingToUndo : PySem.W.hasDictIn K C_NothingToUndo = true)
    (eC_NothingToUndo : PySem.W.subIn K (.ref C_NothingToUndo) (.type "BaseException") = some true)
    (q_NothingToUndo : PySem.W.excIn K C_NothingToUndo [.type "ValueError", .type "Exception", .type "BaseException", .type "object"] "ValueError.__new__" = true)
    (kC_NothingToUndo : PySem.W.keepIn K (.ref C_NothingToUndo) = true)
    (tC_NothingToUndo : PySem.W.typeIn K (.ref C_NothingToUndo) = some (.type "type"))
    (g_BadEvent : PySem.W.nsIn K mainGlobals "BadEvent" = some (some (.ref C_BadEvent)))
    (x_BadEvent : K.lookup C_BadEvent = some (excClassObj nm_BadEvent qn_BadEvent C_BadEvent N_BadEvent bs_BadEvent bm_BadEvent true sn_BadEvent sub_BadEvent ab_BadEvent col_BadEvent dd_BadEvent m0_BadEvent m1_BadEvent m2_BadEvent m3_BadEvent m5_BadEvent "ValueError.__new__"))
    (rv_BadEvent : PySem.HandSPX.refsVE bm_BadEvent = true)
    (sa_BadEvent : PySem.W.findIn K (.ref C_BadEvent) "__setattr__" = some (some (.builtin "object.__setattr__")))
    (eC_BadEvent : PySem.W.subIn K (.ref C_BadEvent) (.type "BaseException") = some true)
    (tC_BadEvent : PySem.W.typeIn K (.ref C_BadEvent) = some (.type "type"))
    (kC_BadEvent : PySem.W.keepIn K (.ref C_BadEvent) = true)
    (i_BadEvent : PySem.W.findIn K (.ref C_BadEvent) "__init__" = some (some (.ref fI_BadEvent)))
    (tI_BadEvent : PySem.W.typeIn K (.ref fI_BadEvent) = some (.type "function"))
    (l_BadEvent : K.lookup fI_BadEvent = some ⟨oc_BadEvent, od_BadEvent, .func (PySem.W.ksFn "__init__" "BadEvent.__init__" (defArgs e_BadEvent) (defBody e_BadEvent) (defScope e_BadEvent) .none kV_BadEvent dc_BadEvent pm_BadEvent an_BadEvent (.ref cda_BadEvent) ct_BadEvent cl_BadEvent), sl_BadEvent⟩)
    (c_BadEvent : PySem.W.codeIn K (.ref cda_BadEvent) "BadEvent.__init__" = true)
    (d_BadEvent : K.lookup cda_BadEvent = some ⟨ccl_BadEvent, cdd_BadEvent, .fields vs_BadEvent, ccs_BadEvent⟩)
    (f_BadEvent : vs_BadEvent[2]? = some (.str fil_BadEvent tf_BadEvent))
    (h_BadEvent : ((l.prog.main.file : Str) == fil_BadEvent) = true)
    (w_BadEvent : K.lookup cl_BadEvent = some ⟨ocl_BadEvent, cld_BadEvent, .cell (some (.ref C_BadEvent)), csl_BadEvent⟩)
    (s_BadEvent : PySem.W.ks_superIn K C_BadEvent C_BadEvent "__init__" = some (some (.builtin "ValueError.__init__")))
    (v_BadEvent : PySem.W.subIn K (.ref C_BadEvent) (.type "ValueError") = some true)
    (r_BadEvent : PySem.W.mroIn K C_BadEvent (.ref C_BadEvent) = some true)
    (n_BadEvent_value : PySem.W.findIn K (.ref C_BadEvent) "value" = some none)
    (ga_BadEvent : PySem.W.findIn K (.ref C_BadEvent) "__getattribute__" = some (some (.builtin "BaseException.__getattribute__")))
    (gg_BadEvent : PySem.W.findIn K (.ref C_BadEvent) "__getattr__" = some none)
    (hd_BadEvent : PySem.W.hasDictIn K C_BadEvent = true)
    (g_BadItem : PySem.W.nsIn K mainGlobals "BadItem" = some (some (.ref C_BadItem)))
    (x_BadItem : K.lookup C_BadItem = some (excClassObj nm_BadItem qn_BadItem C_BadItem N_BadItem bs_BadItem bm_BadItem true sn_BadItem sub_BadItem ab_BadItem col_BadItem dd_BadItem m0_BadItem m1_BadItem m2_BadItem m3_BadItem m5_BadItem "ValueError.__new__"))
    (rv_BadItem : PySem.HandSPX.refsVE bm_BadItem = true)
    (sa_BadItem : PySem.W.findIn K (.ref C_BadItem) "__setattr__" = some (some (.builtin "object.__setattr__")))
    (eC_BadItem : PySem.W.subIn K (.ref C_BadItem) (.type "BaseException") = some true)
    (tC_BadItem : PySem.W.typeIn K (.ref C_BadItem) = some (.type "type"))
    (kC_BadItem : PySem.W.keepIn K (.ref C_BadItem) = true)
    (i_BadItem : PySem.W.findIn K (.ref C_BadItem) "__init__" = some (some (.ref fI_BadItem)))
    (tI_BadItem : PySem.W.typeIn K (.ref fI_BadItem) = some (.type "function"))
    (l_BadItem : K.lookup fI_BadItem = some ⟨oc_BadItem, od_BadItem, .func (PySem.W.ksFn "__init__" "BadItem.__init__" (defArgs e_BadItem) (defBody e_BadItem) (defScope e_BadItem) .none kV_BadItem dc_BadItem pm_BadItem an_BadItem (.ref cda_BadItem) ct_BadItem cl_BadItem), sl_BadItem⟩)
    (c_BadItem : PySem.W.codeIn K (.ref cda_BadItem) "BadItem.__init__" = true)
    (d_BadItem : K.lookup cda_BadItem = some ⟨ccl_BadItem, cdd_BadItem, .fields vs_BadItem, ccs_BadItem⟩)
    (f_BadItem : vs_BadItem[2]? = some (.str fil_BadItem tf_BadItem))
    (h_BadItem : ((l.prog.main.file : Str) == fil_BadItem) = true)
    (w_BadItem : K.lookup cl_BadItem = some ⟨ocl_BadItem, cld_BadItem, .cell (some (.ref C_BadItem)), csl_BadItem⟩)
    (s_BadItem : PySem.W.ks_superIn K C_BadItem C_BadItem "__init__" = some (some (.builtin "ValueError.__init__")))
    (v_BadItem : PySem.W.subIn K (.ref C_BadItem) (.type "ValueError") = some true)
    (r_BadItem : PySem.W.mroIn K C_BadItem (.ref C_BadItem) = some true)
    (n_BadItem_index : PySem.W.findIn K (.ref C_BadItem) "index" = some none)
    (ga_BadItem : PySem.W.findIn K (.ref C_BadItem) "__getattribute__" = some (some (.builtin "BaseException.__getattribute__")))
    (gg_BadItem : PySem.W.findIn K (.ref C_BadItem) "__getattr__" = some none)
    (hd_BadItem : PySem.W.hasDictIn K C_BadItem = true)
    (g_BadName : PySem.W.nsIn K mainGlobals "BadName" = some (some (.ref C_BadName)))
    (x_BadName : K.lookup C_BadName = some (excClassObj nm_BadName qn_BadName C_BadName N_BadName bs_BadName bm_BadName true sn_BadName sub_BadName ab_BadName col_BadName dd_BadName m0_BadName m1_BadName m2_BadName m3_BadName m5_BadName "ValueError.__new__"))
    (rv_BadName : PySem.HandSPX.refsVE bm_BadName = true)
    (sa_BadName : PySem.W.findIn K (.ref C_BadName) "__setattr__" = some (some (.builtin "object.__setattr__")))
    (eC_BadName : PySem.W.subIn K (.ref C_BadName) (.type "BaseException") = some true)
    (tC_BadName : PySem.W.typeIn K (.ref C_BadName) = some (.type "type"))
    (kC_BadName : PySem.W.keepIn K (.ref C_BadName) = true)
    (i_BadName : PySem.W.findIn K (.ref C_BadName) "__init__" = some (some (.ref fI_BadName)))
    (tI_BadName : PySem.W.typeIn K (.ref fI_BadName) = some (.type "function"))
    (l_BadName : K.lookup fI_BadName = some ⟨oc_BadName, od_BadName, .func (PySem.W.ksFn "__init__" "BadName.__init__" (defArgs e_BadName) (defBody e_BadName) (defScope e_BadName) .none kV_BadName dc_BadName pm_BadName an_BadName (.ref cda_BadName) ct_BadName cl_BadName), sl_BadName⟩)
    (c_BadName : PySem.W.codeIn K (.ref cda_BadName) "BadName.__init__" = true)
    (d_BadName : K.lookup cda_BadName = some ⟨ccl_BadName, cdd_BadName, .fields vs_BadName, ccs_BadName⟩)
    (f_BadName : vs_BadName[2]? = some (.str fil_BadName tf_BadName))
    (h_BadName : ((l.prog.main.file : Str) == fil_BadName) = true)
    (w_BadName : K.lookup cl_BadName = some ⟨ocl_BadName, cld_BadName, .cell (some (.ref C_BadName)), csl_BadName⟩)
    (s_BadName : PySem.W.ks_superIn K C_BadName C_BadName "__init__" = some (some (.builtin "ValueError.__init__")))
    (v_BadName : PySem.W.subIn K (.ref C_BadName) (.type "ValueError") = some true)
    (r_BadName : PySem.W.mroIn K C_BadName (.ref C_BadName) = some true)
    (n_BadName_value : PySem.W.findIn K (.ref C_BadName) "value" = some none)
    (ga_BadName : PySem.W.findIn K (.ref C_BadName) "__getattribute__" = some (some (.builtin "BaseException.__getattribute__")))
    (gg_BadName : PySem.W.findIn K (.ref C_BadName) "__getattr__" = some none)
    (hd_BadName : PySem.W.hasDictIn K C_BadName = true)
    (g_BadNote : PySem.W.nsIn K mainGlobals "BadNote" = some (some (.ref C_BadNote)))
    (x_BadNote : K.lookup C_BadNote = some (excClassObj nm_BadNote qn_BadNote C_BadNote N_BadNote bs_BadNote bm_BadNote true sn_BadNote sub_BadNote ab_BadNote col_BadNote dd_BadNote m0_BadNote m1_BadNote m2_BadNote m3_BadNote m5_BadNote "ValueError.__new__"))
    (rv_BadNote : PySem.HandSPX.refsVE bm_BadNote = true)
    (sa_BadNote : PySem.W.findIn K (.ref C_BadNote) "__setattr__" = some (some (.builtin "object.__setattr__")))
    (eC_BadNote : PySem.W.subIn K (.ref C_BadNote) (.type "BaseException") = some true)
    (tC_BadNote : PySem.W.typeIn K (.ref C_BadNote) = some (.type "type"))
    (kC_BadNote : PySem.W.keepIn K (.ref C_BadNote) = true)
    (i_BadNote : PySem.W.findIn K (.ref C_BadNote) "__init__" = some (some (.ref fI_BadNote)))
    (tI_BadNote : PySem.W.typeIn K (.ref fI_BadNote) = some (.type "function"))
    (l_BadNote : K.lookup fI_BadNote = some ⟨oc_BadNote, od_BadNote, .func (PySem.W.ksFn "__init__" "BadNote.__init__" (defArgs e_BadNote) (defBody e_BadNote) (defScope e_BadNote) .none kV_BadNote dc_BadNote pm_BadNote an_BadNote (.ref cda_BadNote) ct_BadNote cl_BadNote), sl_BadNote⟩)
    (c_BadNote : PySem.W.codeIn K (.ref cda_BadNote) "BadNote.__init__" = true)
    (d_BadNote : K.lookup cda_BadNote = some ⟨ccl_BadNote, cdd_BadNote, .fields vs_BadNote, ccs_BadNote⟩)
    (f_BadNote : vs_BadNote[2]? = some (.str fil_BadNote tf_BadNote))
    (h_BadNote : ((l.prog.main.file : Str) == fil_BadNote) = true)
    (w_BadNote : K.lookup cl_BadNote = some ⟨ocl_BadNote, cld_BadNote, .cell (some (.ref C_BadNote)), csl_BadNote⟩)
    (s_BadNote : PySem.W.ks_superIn K C_BadNote C_BadNote "__init__" = some (some (.builtin "ValueError.__init__")))
    (v_BadNote : PySem.W.subIn K (.ref C_BadNote) (.type "ValueError") = some true)
    (r_BadNote : PySem.W.mroIn K C_BadNote (.ref C_BadNote) = some true)
    (n_BadNote_line : PySem.W.findIn K (.ref C_BadNote) "line" = some none)
    (ga_BadNote : PySem.W.findIn K (.ref C_BadNote) "__getattribute__" = some (some (.builtin "BaseException.__getattribute__")))
    (gg_BadNote : PySem.W.findIn K (.ref C_BadNote) "__getattr__" = some none)
    (hd_BadNote : PySem.W.hasDictIn K C_BadNote = true)
    (g_BadNumber : PySem.W.nsIn K mainGlobals "BadNumber" = some (some (.ref C_BadNumber)))
    (x_BadNumber : K.lookup C_BadNumber = some (excClassObj nm_BadNumber qn_BadNumber C_BadNumber N_BadNumber bs_BadNumber bm_BadNumber true sn_BadNumber sub_BadNumber ab_BadNumber col_BadNumber dd_BadNumber m0_BadNumber m1_BadNumber m2_BadNumber m3_BadNumber m5_BadNumber "ValueError.__new__"))
    (rv_BadNumber : PySem.HandSPX.refsVE bm_BadNumber = true)
    (sa_BadNumber : PySem.W.findIn K (.ref C_BadNumber) "__setattr__" = some (some (.builtin "object.__setattr__")))
    (eC_BadNumber : PySem.W.subIn K (.ref C_BadNumber) (.type "BaseException") = some true)
    (tC_BadNumber : PySem.W.typeIn K (.ref C_BadNumber) = some (.type "type"))
    (kC_BadNumber : PySem.W.keepIn K (.ref C_BadNumber) = true)
    (i_BadNumber : PySem.W.findIn K (.ref C_BadNumber) "__init__" = some (some (.ref fI_BadNumber)))
    (tI_BadNumber : PySem.W.typeIn K (.ref fI_BadNumber) = some (.type "function"))
    (l_BadNumber : K.lookup fI_BadNumber = some ⟨oc_BadNumber, od_BadNumber, .func (PySem.W.ksFn "__init__" "BadNumber.__init__" (defArgs e_BadNumber) (defBody e_BadNumber) (defScope e_BadNumber) .none kV_BadNumber dc_BadNumber pm_BadNumber an_BadNumber (.ref cda_BadNumber) ct_BadNumber cl_BadNumber), sl_BadNumber⟩)
    (c_BadNumber : PySem.W.codeIn K (.ref cda_BadNumber) "BadNumber.__init__" = true)
    (d_BadNumber : K.lookup cda_BadNumber = some ⟨ccl_BadNumber, cdd_BadNumber, .fields vs_BadNumber, ccs_BadNumber⟩)
    (f_BadNumber : vs_BadNumber[2]? = some (.str fil_BadNumber tf_BadNumber))
    (h_BadNumber : ((l.prog.main.file : Str) == fil_BadNumber) = true)
    (w_BadNumber : K.lookup cl_BadNumber = some ⟨ocl_BadNumber, cld_BadNumber, .cell (some (.ref C_BadNumber)), csl_BadNumber⟩)
    (s_BadNumber : PySem.W.ks_superIn K C_BadNumber C_BadNumber "__init__" = some (some (.builtin "ValueError.__init__")))
    (v_BadNumber : PySem.W.subIn K (.ref C_BadNumber) (.type "ValueError") = some true)
    (r_BadNumber : PySem.W.mroIn K C_BadNumber (.ref C_BadNumber) = some true)
    (n_BadNumber_value : PySem.W.findIn K (.ref C_BadNumber) "value" = some none)
    (ga_BadNumber : PySem.W.findIn K (.ref C_BadNumber) "__getattribute__" = some (some (.builtin "BaseException.__getattribute__")))
    (gg_BadNumber : PySem.W.findIn K (.ref C_BadNumber) "__getattr__" = some none)
    (hd_BadNumber : PySem.W.hasDictIn K C_BadNumber = true)
    (g_Refused : PySem.W.nsIn K mainGlobals "Refused" = some (some (.ref C_Refused)))
    (x_Refused : K.lookup C_Refused = some (excClassObj nm_Refused qn_Refused C_Refused N_Refused bs_Refused bm_Refused true sn_Refused sub_Refused ab_Refused col_Refused dd_Refused m0_Refused m1_Refused m2_Refused m3_Refused m5_Refused "ValueError.__new__"))
    (rv_Refused : PySem.HandSPX.refsVE bm_Refused = true)
    (sa_Refused : PySem.W.findIn K (.ref C_Refused) "__setattr__" = some (some (.builtin "object.__setattr__")))
    (eC_Refused : PySem.W.subIn K (.ref C_Refused) (.type "BaseException") = some true)
    (tC_Refused : PySem.W.typeIn K (.ref C_Refused) = some (.type "type"))
    (kC_Refused : PySem.W.keepIn K (.ref C_Refused) = true)
    (i_Refused : PySem.W.findIn K (.ref C_Refused) "__init__" = some (some (.ref fI_Refused)))
    (tI_Refused : PySem.W.typeIn K (.ref fI_Refused) = some (.type "function"))
    (l_Refused : K.lookup fI_Refused = some ⟨oc_Refused, od_Refused, .func (PySem.W.ksFn "__init__" "Refused.__init__" (defArgs e_Refused) (defBody e_Refused) (defScope e_Refused) .none kV_Refused dc_Refused pm_Refused an_Refused (.ref cda_Refused) ct_Refused cl_Refused), sl_Refused⟩)
    (c_Refused : PySem.W.codeIn K (.ref cda_Refused) "Refused.__init__" = true)
    (d_Refused : K.lookup cda_Refused = some ⟨ccl_Refused, cdd_Refused, .fields vs_Refused, ccs_Refused⟩)
    (f_Refused : vs_Refused[2]? = some (.str fil_Refused tf_Refused))
    (h_Refused : ((l.prog.main.file : Str) == fil_Refused) = true)
    (w_Refused : K.lookup cl_Refused = some ⟨ocl_Refused, cld_Refused, .cell (some (.ref C_Refused)), csl_Refused⟩)
    (s_Refused : PySem.W.ks_superIn K C_Refused C_Refused "__init__" = some (some (.builtin "ValueError.__init__")))
    (v_Refused : PySem.W.subIn K (.ref C_Refused) (.type "ValueError") = some true)
    (r_Refused : PySem.W.mroIn K C_Refused (.ref C_Refused) = some true)
    (n_Refused_reason : PySem.W.findIn K (.ref C_Refused) "reason" = some none)
    (n_Refused_names : PySem.W.findIn K (.ref C_Refused) "names" = some none)
    (ga_Refused : PySem.W.findIn K (.ref C_Refused) "__getattribute__" = some (some (.builtin "BaseException.__getattribute__")))
    (gg_Refused : PySem.W.findIn K (.ref C_Refused) "__getattr__" = some none)
    (hd_Refused : PySem.W.hasDictIn K C_Refused = true)
    (g_Taken : PySem.W.nsIn K mainGlobals "Taken" = some (some (.ref C_Taken)))
    (x_Taken : K.lookup C_Taken = some (excClassObj nm_Taken qn_Taken C_Taken N_Taken bs_Taken bm_Taken true sn_Taken sub_Taken ab_Taken col_Taken dd_Taken m0_Taken m1_Taken m2_Taken m3_Taken m5_Taken "ValueError.__new__"))
    (rv_Taken : PySem.HandSPX.refsVE bm_Taken = true)
    (sa_Taken : PySem.W.findIn K (.ref C_Taken) "__setattr__" = some (some (.builtin "object.__setattr__")))
    (eC_Taken : PySem.W.subIn K (.ref C_Taken) (.type "BaseException") = some true)
    (tC_Taken : PySem.W.typeIn K (.ref C_Taken) = some (.type "type"))
    (kC_Taken : PySem.W.keepIn K (.ref C_Taken) = true)
    (i_Taken : PySem.W.findIn K (.ref C_Taken) "__init__" = some (some (.ref fI_Taken)))
    (tI_Taken : PySem.W.typeIn K (.ref fI_Taken) = some (.type "function"))
    (l_Taken : K.lookup fI_Taken = some ⟨oc_Taken, od_Taken, .func (PySem.W.ksFn "__init__" "Taken.__init__" (defArgs e_Taken) (defBody e_Taken) (defScope e_Taken) .none kV_Taken dc_Taken pm_Taken an_Taken (.ref cda_Taken) ct_Taken cl_Taken), sl_Taken⟩)
    (c_Taken : PySem.W.codeIn K (.ref cda_Taken) "Taken.__init__" = true)
    (d_Taken : K.lookup cda_Taken = some ⟨ccl_Taken, cdd_Taken, .fields vs_Taken, ccs_Taken⟩)
    (f_Taken : vs_Taken[2]? = some (.str fil_Taken tf_Taken))
    (h_Taken : ((l.prog.main.file : Str) == fil_Taken) = true)
    (w_Taken : K.lookup cl_Taken = some ⟨ocl_Taken, cld_Taken, .cell (some (.ref C_Taken)), csl_Taken⟩)
    (s_Taken : PySem.W.ks_superIn K C_Taken C_Taken "__init__" = some (some (.builtin "ValueError.__init__")))
    (v_Taken : PySem.W.subIn K (.ref C_Taken) (.type "ValueError") = some true)
    (r_Taken : PySem.W.mroIn K C_Taken (.ref C_Taken) = some true)
    (n_Taken_value : PySem.W.findIn K (.ref C_Taken) "value" = some none)
    (ga_Taken : PySem.W.findIn K (.ref C_Taken) "__getattribute__" = some (some (.builtin "BaseException.__getattribute__")))
    (gg_Taken : PySem.W.findIn K (.ref C_Taken) "__getattr__" = some none)
    (hd_Taken : PySem.W.hasDictIn K C_Taken = true)
    (g_TooMany : PySem.W.nsIn K mainGlobals "TooMany" = some (some (.ref C_TooMany)))
    (x_TooMany : K.lookup C_TooMany = some (excClassObj nm_TooMany qn_TooMany C_TooMany N_TooMany bs_TooMany bm_TooMany true sn_TooMany sub_TooMany ab_TooMany col_TooMany dd_TooMany m0_TooMany m1_TooMany m2_TooMany m3_TooMany m5_TooMany "ValueError.__new__"))
    (rv_TooMany : PySem.HandSPX.refsVE bm_TooMany = true)
    (sa_TooMany : PySem.W.findIn K (.ref C_TooMany) "__setattr__" = some (some (.builtin "object.__setattr__")))
    (eC_TooMany : PySem.W.subIn K (.ref C_TooMany) (.type "BaseException") = some true)
    (tC_TooMany : PySem.W.typeIn K (.ref C_TooMany) = some (.type "type"))
    (kC_TooMany : PySem.W.keepIn K (.ref C_TooMany) = true)
    (i_TooMany : PySem.W.findIn K (.ref C_TooMany) "__init__" = some (some (.ref fI_TooMany)))
    (tI_TooMany : PySem.W.typeIn K (.ref fI_TooMany) = some (.type "function"))
    (l_TooMany : K.lookup fI_TooMany = some ⟨oc_TooMany, od_TooMany, .func (PySem.W.ksFn "__init__" "TooMany.__init__" (defArgs e_TooMany) (defBody e_TooMany) (defScope e_TooMany) .none kV_TooMany dc_TooMany pm_TooMany an_TooMany (.ref cda_TooMany) ct_TooMany cl_TooMany), sl_TooMany⟩)
    (c_TooMany : PySem.W.codeIn K (.ref cda_TooMany) "TooMany.__init__" = true)
    (d_TooMany : K.lookup cda_TooMany = some ⟨ccl_TooMany, cdd_TooMany, .fields vs_TooMany, ccs_TooMany⟩)
    (f_TooMany : vs_TooMany[2]? = some (.str fil_TooMany tf_TooMany))
    (h_TooMany : ((l.prog.main.file : Str) == fil_TooMany) = true)
    (w_TooMany : K.lookup cl_TooMany = some ⟨ocl_TooMany, cld_TooMany, .cell (some (.ref C_TooMany)), csl_TooMany⟩)
    (s_TooMany : PySem.W.ks_superIn K C_TooMany C_TooMany "__init__" = some (some (.builtin "ValueError.__init__")))
    (v_TooMany : PySem.W.subIn K (.ref C_TooMany) (.type "ValueError") = some true)
    (r_TooMany : PySem.W.mroIn K C_TooMany (.ref C_TooMany) = some true)
    (n_TooMany_limit : PySem.W.findIn K (.ref C_TooMany) "limit" = some none)
    (ga_TooMany : PySem.W.findIn K (.ref C_TooMany) "__getattribute__" = some (some (.builtin "BaseException.__getattribute__")))
    (gg_TooMany : PySem.W.findIn K (.ref C_TooMany) "__getattr__" = some none)
    (hd_TooMany : PySem.W.hasDictIn K C_TooMany = true)
    (g_Unknown : PySem.W.nsIn K mainGlobals "Unknown" = some (some (.ref C_Unknown)))
    (x_Unknown : K.lookup C_Unknown = some (excClassObj nm_Unknown qn_Unknown C_Unknown N_Unknown bs_Unknown bm_Unknown true sn_Unknown sub_Unknown ab_Unknown col_Unknown dd_Unknown m0_Unknown m1_Unknown m2_Unknown m3_Unknown m5_Unknown "ValueError.__new__"))
    (rv_Unknown : PySem.HandSPX.refsVE bm_Unknown = true)
    (sa_Unknown : PySem.W.findIn K (.ref C_Unknown) "__setattr__" = some (some (.builtin "object.__setattr__")))
    (eC_Unknown : PySem.W.subIn K (.ref C_Unknown) (.type "BaseException") = some true)
    (tC_Unknown : PySem.W.typeIn K (.ref C_Unknown) = some (.type "type"))
    (kC_Unknown : PySem.W.keepIn K (.ref C_Unknown) = true)
    (i_Unknown : PySem.W.findIn K (.ref C_Unknown) "__init__" = some (some (.ref fI_Unknown)))
    (tI_Unknown : PySem.W.typeIn K (.ref fI_Unknown) = some (.type "function"))
    (l_Unknown : K.lookup fI_Unknown = some ⟨oc_Unknown, od_Unknown, .func (PySem.W.ksFn "__init__" "Unknown.__init__" (defArgs e_Unknown) (defBody e_Unknown) (defScope e_Unknown) .none kV_Unknown dc_Unknown pm_Unknown an_Unknown (.ref cda_Unknown) ct_Unknown cl_Unknown), sl_Unknown⟩)
    (c_Unknown : PySem.W.codeIn K (.ref cda_Unknown) "Unknown.__init__" = true)
    (d_Unknown : K.lookup cda_Unknown = some ⟨ccl_Unknown, cdd_Unknown, .fields vs_Unknown, ccs_Unknown⟩)
    (f_Unknown : vs_Unknown[2]? = some (.str fil_Unknown tf_Unknown))
    (h_Unknown : ((l.prog.main.file : Str) == fil_Unknown) = true)
    (w_Unknown : K.lookup cl_Unknown = some ⟨ocl_Unknown, cld_Unknown, .cell (some (.ref C_Unknown)), csl_Unknown⟩)
    (s_Unknown : PySem.W.ks_superIn K C_Unknown C_Unknown "__init__" = some (some (.builtin "ValueError.__init__")))
    (v_Unknown : PySem.W.subIn K (.ref C_Unknown) (.type "ValueError") = some true)
    (r_Unknown : PySem.W.mroIn K C_Unknown (.ref C_Unknown) = some true)
    (n_Unknown_value : PySem.W.findIn K (.ref C_Unknown) "value" = some none)
    (ga_Unknown : PySem.W.findIn K (.ref C_Unknown) "__getattribute__" = some (some (.builtin "BaseException.__getattribute__")))
    (gg_Unknown : PySem.W.findIn K (.ref C_Unknown) "__getattr__" = some none)
    (hd_Unknown : PySem.W.hasDictIn K C_Unknown = true)
    (ex_BadEvent_GateError : PySem.W.exmOne K (.ref C_BadEvent) (.ref C_GateError) = some true)
    (ex_BadItem_GateError : PySem.W.exmOne K (.ref C_BadItem) (.ref C_GateError) = some true)
    (ex_BadName_GateError : PySem.W.exmOne K (.ref C_BadName) (.ref C_GateError) = some true)
    (ex_BadNote_GateError : PySem.W.exmOne K (.ref C_BadNote) (.ref C_GateError) = some true)
    (ex_BadNumber_GateError : PySem.W.exmOne K (.ref C_BadNumber) (.ref C_GateError) = some true)
    (ex_NothingToUndo_GateError : PySem.W.exmOne K (.ref C_NothingToUndo) (.ref C_GateError) = some true)
    (ex_Refused_GateError : PySem.W.exmOne K (.ref C_Refused) (.ref C_GateError) = some true)
    (ex_Taken_GateError : PySem.W.exmOne K (.ref C_Taken) (.ref C_GateError) = some true)
    (ex_TooMany_GateError : PySem.W.exmOne K (.ref C_TooMany) (.ref C_GateError) = some true)
    (ex_Unknown_GateError : PySem.W.exmOne K (.ref C_Unknown) (.ref C_GateError) = some true)
    (ha_BadEvent : PySem.W.findIn K (.ref C_BadEvent) "__class__" = some (some (.builtin "object.__class__")))
    (mo_BadEvent : PySem.W.mroIn K C_BadEvent (.type "object") = some true)
    (ha_BadItem : PySem.W.findIn K (.ref C_BadItem) "__class__" = some (some (.builtin "object.__class__")))
    (mo_BadItem : PySem.W.mroIn K C_BadItem (.type "object") = some true)
    (ha_BadName : PySem.W.findIn K (.ref C_BadName) "__class__" = some (some (.builtin "object.__class__")))
    (mo_BadName : PySem.W.mroIn K C_BadName (.type "object") = some true)
    (ha_BadNote : PySem.W.findIn K (.ref C_BadNote) "__class__" = some (some (.builtin "object.__class__")))
    (mo_BadNote : PySem.W.mroIn K C_BadNote (.type "object") = some true)
    (ha_BadNumber : PySem.W.findIn K (.ref C_BadNumber) "__class__" = some (some (.builtin "object.__class__")))
    (mo_BadNumber : PySem.W.mroIn K C_BadNumber (.type "object") = some true)
    (ha_NothingToUndo : PySem.W.findIn K (.ref C_NothingToUndo) "__class__" = some (some (.builtin "object.__class__")))
    (mo_NothingToUndo : PySem.W.mroIn K C_NothingToUndo (.type "object") = some true)
    (ha_Refused : PySem.W.findIn K (.ref C_Refused) "__class__" = some (some (.builtin "object.__class__")))
    (mo_Refused : PySem.W.mroIn K C_Refused (.type "object") = some true)
    (ha_Taken : PySem.W.findIn K (.ref C_Taken) "__class__" = some (some (.builtin "object.__class__")))
    (mo_Taken : PySem.W.mroIn K C_Taken (.type "object") = some true)
    (ha_TooMany : PySem.W.findIn K (.ref C_TooMany) "__class__" = some (some (.builtin "object.__class__")))
    (mo_TooMany : PySem.W.mroIn K C_TooMany (.type "object") = some true)
    (ha_Unknown : PySem.W.findIn K (.ref C_Unknown) "__class__" = some (some (.builtin "object.__class__")))
    (mo_Unknown : PySem.W.mroIn K C_Unknown (.type "object") = some true)
    (kt_BadEvent_BadEvent : PySem.W.kitOne K (.ref C_BadEvent) (.ref C_BadEvent) = some true)
    (kt_BadItem_BadEvent : PySem.W.kitOne K (.ref C_BadItem) (.ref C_BadEvent) = some false)
    (kt_BadName_BadEvent : PySem.W.kitOne K (.ref C_BadName) (.ref C_BadEvent) = some false)
    (kt_BadNote_BadEvent : PySem.W.kitOne K (.ref C_BadNote) (.ref C_BadEvent) = some false)
    (kt_BadNumber_BadEvent : PySem.W.kitOne K (.ref C_BadNumber) (.ref C_BadEvent) = some false)
    (kt_NothingToUndo_BadEvent : PySem.W.kitOne K (.ref C_NothingToUndo) (.ref C_BadEvent) = some false)
    (kt_Refused_BadEvent : PySem.W.kitOne K (.ref C_Refused) (.ref C_BadEvent) = some false)
    (kt_Taken_BadEvent : PySem.W.kitOne K (.ref C_Taken) (.ref C_BadEvent) = some false)
    (kt_TooMany_BadEvent : PySem.W.kitOne K (.ref C_TooMany) (.ref C_BadEvent) = some false)
    (kt_Unknown_BadEvent : PySem.W.kitOne K (.ref C_Unknown) (.ref C_BadEvent) = some false)
    (kt_BadEvent_BadItem : PySem.W.kitOne K (.ref C_BadEvent) (.ref C_BadItem) = some false)
    (kt_BadItem_BadItem : PySem.W.kitOne K (.ref C_BadItem) (.ref C_BadItem) = some true)
    (kt_BadName_BadItem : PySem.W.kitOne K (.ref C_BadName) (.ref C_BadItem) = some false)
    (kt_BadNote_BadItem : PySem.W.kitOne K (.ref C_BadNote) (.ref C_BadItem) = some false)
    (kt_BadNumber_BadItem : PySem.W.kitOne K (.ref C_BadNumber) (.ref C_BadItem) = some false)
    (kt_NothingToUndo_BadItem : PySem.W.kitOne K (.ref C_NothingToUndo) (.ref C_BadItem) = some false)
    (kt_Refused_BadItem : PySem.W.kitOne K (.ref C_Refused) (.ref C_BadItem) = some false)
    (kt_Taken_BadItem : PySem.W.kitOne K (.ref C_Taken) (.ref C_BadItem) = some false)
    (kt_TooMany_BadItem : PySem.W.kitOne K (.ref C_TooMany) (.ref C_BadItem) = some false)
    (kt_Unknown_BadItem : PySem.W.kitOne K (.ref C_Unknown) (.ref C_BadItem) = some false)
    (kt_BadEvent_BadName : PySem.W.kitOne K (.ref C_BadEvent) (.ref C_BadName) = some false)
    (kt_BadItem_BadName : PySem.W.kitOne K (.ref C_BadItem) (.ref C_BadName) = some false)
    (kt_BadName_BadName : PySem.W.kitOne K (.ref C_BadName) (.ref C_BadName) = some true)
    (kt_BadNote_BadName : PySem.W.kitOne K (.ref C_BadNote) (.ref C_BadName) = some false)
    (kt_BadNumber_BadName : PySem.W.kitOne K (.ref C_BadNumber) (.ref C_BadName) = some false)
    (kt_NothingToUndo_BadName : PySem.W.kitOne K (.ref C_NothingToUndo) (.ref C_BadName) = some false)
    (kt_Refused_BadName : PySem.W.kitOne K (.ref C_Refused) (.ref C_BadName) = some false)
    (kt_Taken_BadName : PySem.W.kitOne K (.ref C_Taken) (.ref C_BadName) = some false)
    (kt_TooMany_BadName : PySem.W.kitOne K (.ref C_TooMany) (.ref C_BadName) = some false)
    (kt_Unknown_BadName : PySem.W.kitOne K (.ref C_Unknown) (.ref C_BadName) = some false)
    (kt_BadEvent_BadNote : PySem.W.kitOne K (.ref C_BadEvent) (.ref C_BadNote) = some false)
    (kt_BadItem_BadNote : PySem.W.kitOne K (.ref C_BadItem) (.ref C_BadNote) = some false)
    (kt_BadName_BadNote : PySem.W.kitOne K (.ref C_BadName) (.ref C_BadNote) = some false)
    (kt_BadNote_BadNote : PySem.W.kitOne K (.ref C_BadNote) (.ref C_BadNote) = some true)
    (kt_BadNumber_BadNote : PySem.W.kitOne K (.ref C_BadNumber) (.ref C_BadNote) = some false)
    (kt_NothingToUndo_BadNote : PySem.W.kitOne K (.ref C_NothingToUndo) (.ref C_BadNote) = some false)
    (kt_Refused_BadNote : PySem.W.kitOne K (.ref C_Refused) (.ref C_BadNote) = some false)
    (kt_Taken_BadNote : PySem.W.kitOne K (.ref C_Taken) (.ref C_BadNote) = some false)
    (kt_TooMany_BadNote : PySem.W.kitOne K (.ref C_TooMany) (.ref C_BadNote) = some false)
    (kt_Unknown_BadNote : PySem.W.kitOne K (.ref C_Unknown) (.ref C_BadNote) = some false)
    (kt_BadEvent_BadNumber : PySem.W.kitOne K (.ref C_BadEvent) (.ref C_BadNumber) = some false)
    (kt_BadItem_BadNumber : PySem.W.kitOne K (.ref C_BadItem) (.ref C_BadNumber) = some false)
    (kt_BadName_BadNumber : PySem.W.kitOne K (.ref C_BadName) (.ref C_BadNumber) = some false)
    (kt_BadNote_BadNumber : PySem.W.kitOne K (.ref C_BadNote) (.ref C_BadNumber) = some false)
    (kt_BadNumber_BadNumber : PySem.W.kitOne K (.ref C_BadNumber) (.ref C_BadNumber) = some true)
    (kt_NothingToUndo_BadNumber : PySem.W.kitOne K (.ref C_NothingToUndo) (.ref C_BadNumber) = some false)
    (kt_Refused_BadNumber : PySem.W.kitOne K (.ref C_Refused) (.ref C_BadNumber) = some false)
    (kt_Taken_BadNumber : PySem.W.kitOne K (.ref C_Taken) (.ref C_BadNumber) = some false)
    (kt_TooMany_BadNumber : PySem.W.kitOne K (.ref C_TooMany) (.ref C_BadNumber) = some false)
    (kt_Unknown_BadNumber : PySem.W.kitOne K (.ref C_Unknown) (.ref C_BadNumber) = some false)
    (kt_BadEvent_LookupError : PySem.W.kitOne K (.ref C_BadEvent) (.type "LookupError") = some false)
    (kt_BadItem_LookupError : PySem.W.kitOne K (.ref C_BadItem) (.type "LookupError") = some false)
    (kt_BadName_LookupError : PySem.W.kitOne K (.ref C_BadName) (.type "LookupError") = some false)
    (kt_BadNote_LookupError : PySem.W.kitOne K (.ref C_BadNote) (.type "LookupError") = some false)
    (kt_BadNumber_LookupError : PySem.W.kitOne K (.ref C_BadNumber) (.type "LookupError") = some false)
    (kt_NothingToUndo_LookupError : PySem.W.kitOne K (.ref C_NothingToUndo) (.type "LookupError") = some false)
    (kt_Refused_LookupError : PySem.W.kitOne K (.ref C_Refused) (.type "LookupError") = some false)
    (kt_Taken_LookupError : PySem.W.kitOne K (.ref C_Taken) (.type "LookupError") = some false)
    (kt_TooMany_LookupError : PySem.W.kitOne K (.ref C_TooMany) (.type "LookupError") = some false)
    (kt_Unknown_LookupError : PySem.W.kitOne K (.ref C_Unknown) (.type "LookupError") = some false)
    (kt_BadEvent_NothingToUndo : PySem.W.kitOne K (.ref C_BadEvent) (.ref C_NothingToUndo) = some false)
    (kt_BadItem_NothingToUndo : PySem.W.kitOne K (.ref C_BadItem) (.ref C_NothingToUndo) = some false)
    (kt_BadName_NothingToUndo : PySem.W.kitOne K (.ref C_BadName) (.ref C_NothingToUndo) = some false)
    (kt_BadNote_NothingToUndo : PySem.W.kitOne K (.ref C_BadNote) (.ref C_NothingToUndo) = some false)
    (kt_BadNumber_NothingToUndo : PySem.W.kitOne K (.ref C_BadNumber) (.ref C_NothingToUndo) = some false)
    (kt_NothingToUndo_NothingToUndo : PySem.W.kitOne K (.ref C_NothingToUndo) (.ref C_NothingToUndo) = some true)
    (kt_Refused_NothingToUndo : PySem.W.kitOne K (.ref C_Refused) (.ref C_NothingToUndo) = some false)
    (kt_Taken_NothingToUndo : PySem.W.kitOne K (.ref C_Taken) (.ref C_NothingToUndo) = some false)
    (kt_TooMany_NothingToUndo : PySem.W.kitOne K (.ref C_TooMany) (.ref C_NothingToUndo) = some false)
    (kt_Unknown_NothingToUndo : PySem.W.kitOne K (.ref C_Unknown) (.ref C_NothingToUndo) = some false)
    (kt_BadEvent_Refused : PySem.W.kitOne K (.ref C_BadEvent) (.ref C_Refused) = some false)
    (kt_BadItem_Refused : PySem.W.kitOne K (.ref C_BadItem) (.ref C_Refused) = some false)
    (kt_BadName_Refused : PySem.W.kitOne K (.ref C_BadName) (.ref C_Refused) = some false)
    (kt_BadNote_Refused : PySem.W.kitOne K (.ref C_BadNote) (.ref C_Refused) = some false)
    (kt_BadNumber_Refused : PySem.W.kitOne K (.ref C_BadNumber) (.ref C_Refused) = some false)
    (kt_NothingToUndo_Refused : PySem.W.kitOne K (.ref C_NothingToUndo) (.ref C_Refused) = some false)
    (kt_Refused_Refused : PySem.W.kitOne K (.ref C_Refused) (.ref C_Refused) = some true)
    (kt_Taken_Refused : PySem.W.kitOne K (.ref C_Taken) (.ref C_Refused) = some false)
    (kt_TooMany_Refused : PySem.W.kitOne K (.ref C_TooMany) (.ref C_Refused) = some false)
    (kt_Unknown_Refused : PySem.W.kitOne K (.ref C_Unknown) (.ref C_Refused) = some false)
    (kt_BadEvent_RuntimeError : PySem.W.kitOne K (.ref C_BadEvent) (.type "RuntimeError") = some false)
    (kt_BadItem_RuntimeError : PySem.W.kitOne K (.ref C_BadItem) (.type "RuntimeError") = some false)
    (kt_BadName_RuntimeError : PySem.W.kitOne K (.ref C_BadName) (.type "RuntimeError") = some false)
    (kt_BadNote_RuntimeError : PySem.W.kitOne K (.ref C_BadNote) (.type "RuntimeError") = some false)
    (kt_BadNumber_RuntimeError : PySem.W.kitOne K (.ref C_BadNumber) (.type "RuntimeError") = some false)
    (kt_NothingToUndo_RuntimeError : PySem.W.kitOne K (.ref C_NothingToUndo) (.type "RuntimeError") = some false)
    (kt_Refused_RuntimeError : PySem.W.kitOne K (.ref C_Refused) (.type "RuntimeError") = some false)
    (kt_Taken_RuntimeError : PySem.W.kitOne K (.ref C_Taken) (.type "RuntimeError") = some false)
    (kt_TooMany_RuntimeError : PySem.W.kitOne K (.ref C_TooMany) (.type "RuntimeError") = some false)
    (kt_Unknown_RuntimeError : PySem.W.kitOne K (.ref C_Unknown) (.type "RuntimeError") = some false)
    (kt_BadEvent_Taken : PySem.W.kitOne K (.ref C_BadEvent) (.ref C_Taken) = some false)
    (kt_BadItem_Taken : PySem.W.kitOne K (.ref C_BadItem) (.ref C_Taken) = some false)
    (kt_BadName_Taken : PySem.W.kitOne K (.ref C_BadName) (.ref C_Taken) = some false)
    (kt_BadNote_Taken : PySem.W.kitOne K (.ref C_BadNote) (.ref C_Taken) = some false)
    (kt_BadNumber_Taken : PySem.W.kitOne K (.ref C_BadNumber) (.ref C_Taken) = some false)
    (kt_NothingToUndo_Taken : PySem.W.kitOne K (.ref C_NothingToUndo) (.ref C_Taken) = some false)
    (kt_Refused_Taken : PySem.W.kitOne K (.ref C_Refused) (.ref C_Taken) = some false)
    (kt_Taken_Taken : PySem.W.kitOne K (.ref C_Taken) (.ref C_Taken) = some true)
    (kt_TooMany_Taken : PySem.W.kitOne K (.ref C_TooMany) (.ref C_Taken) = some false)
    (kt_Unknown_Taken : PySem.W.kitOne K (.ref C_Unknown) (.ref C_Taken) = some false)
    (kt_BadEvent_TooMany : PySem.W.kitOne K (.ref C_BadEvent) (.ref C_TooMany) = some false)
    (kt_BadItem_TooMany : PySem.W.kitOne K (.ref C_BadItem) (.ref C_TooMany) = some false)
    (kt_BadName_TooMany : PySem.W.kitOne K (.ref C_BadName) (.ref C_TooMany) = some false)
    (kt_BadNote_TooMany : PySem.W.kitOne K (.ref C_BadNote) (.ref C_TooMany) = some false)
    (kt_BadNumber_TooMany : PySem.W.kitOne K (.ref C_BadNumber) (.ref C_TooMany) = some false)
    (kt_NothingToUndo_TooMany : PySem.W.kitOne K (.ref C_NothingToUndo) (.ref C_TooMany) = some false)
    (kt_Refused_TooMany : PySem.W.kitOne K (.ref C_Refused) (.ref C_TooMany) = some false)
    (kt_Taken_TooMany : PySem.W.kitOne K (.ref C_Taken) (.ref C_TooMany) = some false)
    (kt_TooMany_TooMany : PySem.W.kitOne K (.ref C_TooMany) (.ref C_TooMany) = some true)
    (kt_Unknown_TooMany : PySem.W.kitOne K (.ref C_Unknown) (.ref C_TooMany) = some false)
    (kt_BadEvent_Unknown : PySem.W.kitOne K (.ref C_BadEvent) (.ref C_Unknown) = some false)
    (kt_BadItem_Unknown : PySem.W.kitOne K (.ref C_BadItem) (.ref C_Unknown) = some false)
    (kt_BadName_Unknown : PySem.W.kitOne K (.ref C_BadName) (.ref C_Unknown) = some false)
    (kt_BadNote_Unknown : PySem.W.kitOne K (.ref C_BadNote) (.ref C_Unknown) = some false)
    (kt_BadNumber_Unknown : PySem.W.kitOne K (.ref C_BadNumber) (.ref C_Unknown) = some false)
    (kt_NothingToUndo_Unknown : PySem.W.kitOne K (.ref C_NothingToUndo) (.ref C_Unknown) = some false)
    (kt_Refused_Unknown : PySem.W.kitOne K (.ref C_Refused) (.ref C_Unknown) = some false)
    (kt_Taken_Unknown : PySem.W.kitOne K (.ref C_Taken) (.ref C_Unknown) = some false)
    (kt_TooMany_Unknown : PySem.W.kitOne K (.ref C_TooMany) (.ref C_Unknown) = some false)
    (kt_Unknown_Unknown : PySem.W.kitOne K (.ref C_Unknown) (.ref C_Unknown) = some true)
    (kt_BadEvent_ValueError : PySem.W.kitOne K (.ref C_BadEvent) (.type "ValueError") = some true)
    (kt_BadItem_ValueError : PySem.W.kitOne K (.ref C_BadItem) (.type "ValueError") = some true)
    (kt_BadName_ValueError : PySem.W.kitOne K (.ref C_BadName) (.type "ValueError") = some true)
    (kt_BadNote_ValueError : PySem.W.kitOne K (.ref C_BadNote) (.type "ValueError") = some true)
    (kt_BadNumber_ValueError : PySem.W.kitOne K (.ref C_BadNumber) (.type "ValueError") = some true)
    (kt_NothingToUndo_ValueError : PySem.W.kitOne K (.ref C_NothingToUndo) (.type "ValueError") = some true)
    (kt_Refused_ValueError : PySem.W.kitOne K (.ref C_Refused) (.type "ValueError") = some true)
    (kt_Taken_ValueError : PySem.W.kitOne K (.ref C_Taken) (.type "ValueError") = some true)
    (kt_TooMany_ValueError : PySem.W.kitOne K (.ref C_TooMany) (.type "ValueError") = some true)
    (kt_Unknown_ValueError : PySem.W.kitOne K (.ref C_Unknown) (.type "ValueError") = some true)
    (a_ulaw_taken : PySem.W.nsIn K mainGlobals "_law_taken" = some (some (.ref f0)))
    (l0 : K.lookup f0 = some ⟨oc0, od0, .func (PySem.W.fnOf "_law_taken" "_law_taken" (defArgs s_ulaw_taken) (defBody s_ulaw_taken) (defScope s_ulaw_taken) .none kV0 dc0 pm0 an0 cd0 ct0), sl0⟩)
    (c0 : PySem.W.codeIn K cd0 "_law_taken" = true)
    (k0 : PySem.W.keepIn K (.ref f0) = true)
    (a_ulaw_pick : PySem.W.nsIn K mainGlobals "_law_pick" = some (some (.ref f1)))
    (l1 : K.lookup f1 = some ⟨oc1, od1, .func (PySem.W.fnOf "_law_pick" "_law_pick" (defArgs s_ulaw_pick) (defBody s_ulaw_pick) (defScope s_ulaw_pick) .none kV1 dc1 pm1 an1 cd1 ct1), sl1⟩)
    (c1 : PySem.W.codeIn K cd1 "_law_pick" = true)
    (k1 : PySem.W.keepIn K (.ref f1) = true)
    (a_ulaw_alike : PySem.W.nsIn K mainGlobals "_law_alike" = some (some (.ref f2)))
    (l2 : K.lookup f2 = some ⟨oc2, od2, .func (PySem.W.fnOf "_law_alike" "_law_alike" (defArgs s_ulaw_alike) (defBody s_ulaw_alike) (defScope s_ulaw_alike) .none kV2 dc2 pm2 an2 cd2 ct2), sl2⟩)
    (c2 : PySem.W.codeIn K cd2 "_law_alike" = true)
    (k2 : PySem.W.keepIn K (.ref f2) = true)
    (a_ulaw_raised : PySem.W.nsIn K mainGlobals "_law_raised" = some (some (.ref f3)))
    (l3 : K.lookup f3 = some ⟨oc3, od3, .func (PySem.W.fnOf "_law_raised" "_law_raised" (defArgs s_ulaw_raised) (defBody s_ulaw_raised) (defScope s_ulaw_raised) .none kV3 dc3 pm3 an3 cd3 ct3), sl3⟩)
    (c3 : PySem.W.codeIn K cd3 "_law_raised" = true)
    (k3 : PySem.W.keepIn K (.ref f3) = true)
    (a_law : PySem.W.nsIn K mainGlobals "law" = some (some (.ref f4)))
    (l4 : K.lookup f4 = some ⟨oc4, od4, .func (PySem.W.fnOf "law" "law" (defArgs s_law) (defBody s_law) (defScope s_law) .none kV4 dc4 pm4 an4 cd4 ct4), sl4⟩)
    (c4 : PySem.W.codeIn K cd4 "law" = true)
    (k4 : PySem.W.keepIn K (.ref f4) = true)
    (plain : ∀ ns : List Int, ns.length ≤ 63 → ∃ os, f_law [.val (.scr (ns.map D.int))] = .ok (.bl true) os) :
    ∃ fd : FuncData, (∀ (s : Shared) (v : Value), BindsTo s fd ⟨[v], []⟩ [("script", v)]) ∧ ∀ base : Heap, K.In base → base.Ns mainGlobals mg → FnOk l.prog w K mg base (L2.CX l.prog w) 10 fa fd ["script"] (spScript K) := by
  have e := hfa.symm.trans (PySem.W.mg_of X G a_law)
  cases e
  have m_GateError : mg "GateError" = some (.ref C_GateError) := PySem.W.mg_of X G g_GateError
  have m_NothingToUndo : mg "NothingToUndo" = some (.ref C_NothingToUndo) := PySem.W.mg_of X G g_NothingToUndo
  have R_NothingToUndo : ErrN K mg "NothingToUndo" := ⟨C_NothingToUndo, m_NothingToUndo, q_NothingToUndo, kC_NothingToUndo, eC_NothingToUndo, tC_NothingToUndo⟩
  have m_BadEvent : mg "BadEvent" = some (.ref C_BadEvent) := PySem.W.mg_of X G g_BadEvent
  have O_BadEvent : OexC K C_BadEvent := ⟨⟨_, _, _, _, _, _, _, _, _, _, _, _, _, _, _, x_BadEvent, rv_BadEvent⟩, sa_BadEvent, eC_BadEvent, tC_BadEvent, kC_BadEvent⟩
  have m_BadItem : mg "BadItem" = some (.ref C_BadItem) := PySem.W.mg_of X G g_BadItem
  have O_BadItem : OexC K C_BadItem := ⟨⟨_, _, _, _, _, _, _, _, _, _, _, _, _, _, _, x_BadItem, rv_BadItem⟩, sa_BadItem, eC_BadItem, tC_BadItem, kC_BadItem⟩
  have m_BadName : mg "BadName" = some (.ref C_BadName) := PySem.W.mg_of X G g_BadName
  have O_BadName : OexC K C_BadName := ⟨⟨_, _, _, _, _, _, _, _, _, _, _, _, _, _, _, x_BadName, rv_BadName⟩, sa_BadName, eC_BadName, tC_BadName, kC_BadName⟩
  have m_BadNote : mg "BadNote" = some (.ref C_BadNote) := PySem.W.mg_of X G g_BadNote
  have O_BadNote : OexC K C_BadNote := ⟨⟨_, _, _, _, _, _, _, _, _, _, _, _, _, _, _, x_BadNote, rv_BadNote⟩, sa_BadNote, eC_BadNote, tC_BadNote, kC_BadNote⟩
  have m_BadNumber : mg "BadNumber" = some (.ref C_BadNumber) := PySem.W.mg_of X G g_BadNumber
  have O_BadNumber : OexC K C_BadNumber := ⟨⟨_, _, _, _, _, _, _, _, _, _, _, _, _, _, _, x_BadNumber, rv_BadNumber⟩, sa_BadNumber, eC_BadNumber, tC_BadNumber, kC_BadNumber⟩
  have m_Refused : mg "Refused" = some (.ref C_Refused) := PySem.W.mg_of X G g_Refused
  have O_Refused : OexC K C_Refused := ⟨⟨_, _, _, _, _, _, _, _, _, _, _, _, _, _, _, x_Refused, rv_Refused⟩, sa_Refused, eC_Refused, tC_Refused, kC_Refused⟩
  have m_Taken : mg "Taken" = some (.ref C_Taken) := PySem.W.mg_of X G g_Taken
  have O_Taken : OexC K C_Taken := ⟨⟨_, _, _, _, _, _, _, _, _, _, _, _, _, _, _, x_Taken, rv_Taken⟩, sa_Taken, eC_Taken, tC_Taken, kC_Taken⟩
  have m_TooMany : mg "TooMany" = some (.ref C_TooMany) := PySem.W.mg_of X G g_TooMany
  have O_TooMany : OexC K C_TooMany := ⟨⟨_, _, _, _, _, _, _, _, _, _, _, _, _, _, _, x_TooMany, rv_TooMany⟩, sa_TooMany, eC_TooMany, tC_TooMany, kC_TooMany⟩
  have m_Unknown : mg "Unknown" = some (.ref C_Unknown) := PySem.W.mg_of X G g_Unknown
  have O_Unknown : OexC K C_Unknown := ⟨⟨_, _, _, _, _, _, _, _, _, _, _, _, _, _, _, x_Unknown, rv_Unknown⟩, sa_Unknown, eC_Unknown, tC_Unknown, kC_Unknown⟩
  have T_GateError : ExcT K mg known (caught "GateError") "GateError" [] := excT_mk m_GateError ⟨ga_GateError, gg_GateError, eC_GateError, hd_GateError⟩ (fun f hf => by
    cases hf) (fun e he => by
    rcases List.mem_cons.mp he with rfl | he
    · exact ⟨C_BadEvent, m_BadEvent, ex_BadEvent_GateError⟩
    rcases List.mem_cons.mp he with rfl | he
    · exact ⟨C_BadItem, m_BadItem, ex_BadItem_GateError⟩
    rcases List.mem_cons.mp he with rfl | he
    · exact ⟨C_BadName, m_BadName, ex_BadName_GateError⟩
    rcases List.mem_cons.mp he with rfl | he
    · exact ⟨C_BadNote, m_BadNote, ex_BadNote_GateError⟩
    rcases List.mem_cons.mp he with rfl | he
    · exact ⟨C_BadNumber, m_BadNumber, ex_BadNumber_GateError⟩
    rcases List.mem_cons.mp he with rfl | he
    · exact ⟨C_NothingToUndo, m_NothingToUndo, ex_NothingToUndo_GateError⟩
    rcases List.mem_cons.mp he with rfl | he
    · exact ⟨C_Refused, m_Refused, ex_Refused_GateError⟩
    rcases List.mem_cons.mp he with rfl | he
    · exact ⟨C_Taken, m_Taken, ex_Taken_GateError⟩
    rcases List.mem_cons.mp he with rfl | he
    · exact ⟨C_TooMany, m_TooMany, ex_TooMany_GateError⟩
    rcases List.mem_cons.mp he with rfl | he
    · exact ⟨C_Unknown, m_Unknown, ex_Unknown_GateError⟩
    cases he)
  have IS_BadEvent : ∃ C : Addr, mg "BadEvent" = some (.ref C) ∧ IsX K mg known tb_BadEvent (.ref C) := ⟨C_BadEvent, m_BadEvent, isX_mk (fun e he => by
    rcases List.mem_cons.mp he with rfl | he
    · exact ⟨C_BadEvent, m_BadEvent, ⟨ga_BadEvent, gg_BadEvent, eC_BadEvent, hd_BadEvent, ha_BadEvent, hn0, ht0, mo_BadEvent⟩, kt_BadEvent_BadEvent⟩
    rcases List.mem_cons.mp he with rfl | he
    · exact ⟨C_BadItem, m_BadItem, ⟨ga_BadItem, gg_BadItem, eC_BadItem, hd_BadItem, ha_BadItem, hn0, ht0, mo_BadItem⟩, kt_BadItem_BadEvent⟩
    rcases List.mem_cons.mp he with rfl | he
    · exact ⟨C_BadName, m_BadName, ⟨ga_BadName, gg_BadName, eC_BadName, hd_BadName, ha_BadName, hn0, ht0, mo_BadName⟩, kt_BadName_BadEvent⟩
    rcases List.mem_cons.mp he with rfl | he
    · exact ⟨C_BadNote, m_BadNote, ⟨ga_BadNote, gg_BadNote, eC_BadNote, hd_BadNote, ha_BadNote, hn0, ht0, mo_BadNote⟩, kt_BadNote_BadEvent⟩
    rcases List.mem_cons.mp he with rfl | he
    · exact ⟨C_BadNumber, m_BadNumber, ⟨ga_BadNumber, gg_BadNumber, eC_BadNumber, hd_BadNumber, ha_BadNumber, hn0, ht0, mo_BadNumber⟩, kt_BadNumber_BadEvent⟩
    rcases List.mem_cons.mp he with rfl | he
    · exact ⟨C_NothingToUndo, m_NothingToUndo, ⟨ga_NothingToUndo, gg_NothingToUndo, eC_NothingToUndo, hd_NothingToUndo, ha_NothingToUndo, hn0, ht0, mo_NothingToUndo⟩, kt_NothingToUndo_BadEvent⟩
    rcases List.mem_cons.mp he with rfl | he
    · exact ⟨C_Refused, m_Refused, ⟨ga_Refused, gg_Refused, eC_Refused, hd_Refused, ha_Refused, hn0, ht0, mo_Refused⟩, kt_Refused_BadEvent⟩
    rcases List.mem_cons.mp he with rfl | he
    · exact ⟨C_Taken, m_Taken, ⟨ga_Taken, gg_Taken, eC_Taken, hd_Taken, ha_Taken, hn0, ht0, mo_Taken⟩, kt_Taken_BadEvent⟩
    rcases List.mem_cons.mp he with rfl | he
    · exact ⟨C_TooMany, m_TooMany, ⟨ga_TooMany, gg_TooMany, eC_TooMany, hd_TooMany, ha_TooMany, hn0, ht0, mo_TooMany⟩, kt_TooMany_BadEvent⟩
    rcases List.mem_cons.mp he with rfl | he
    · exact ⟨C_Unknown, m_Unknown, ⟨ga_Unknown, gg_Unknown, eC_Unknown, hd_Unknown, ha_Unknown, hn0, ht0, mo_Unknown⟩, kt_Unknown_BadEvent⟩
    cases he)⟩
  have IS_BadItem : ∃ C : Addr, mg "BadItem" = some (.ref C) ∧ IsX K mg known tb_BadItem (.ref C) := ⟨C_BadItem, m_BadItem, isX_mk (fun e he => by
    rcases List.mem_cons.mp he with rfl | he
    · exact ⟨C_BadEvent, m_BadEvent, ⟨ga_BadEvent, gg_BadEvent, eC_BadEvent, hd_BadEvent, ha_BadEvent, hn0, ht0, mo_BadEvent⟩, kt_BadEvent_BadItem⟩
    rcases List.mem_cons.mp he with rfl | he
    · exact ⟨C_BadItem, m_BadItem, ⟨ga_BadItem, gg_BadItem, eC_BadItem, hd_BadItem, ha_BadItem, hn0, ht0, mo_BadItem⟩, kt_BadItem_BadItem⟩
    rcases List.mem_cons.mp he with rfl | he
    · exact ⟨C_BadName, m_BadName, ⟨ga_BadName, gg_BadName, eC_BadName, hd_BadName, ha_BadName, hn0, ht0, mo_BadName⟩, kt_BadName_BadItem⟩
    rcases List.mem_cons.mp he with rfl | he
    · exact ⟨C_BadNote, m_BadNote, ⟨ga_BadNote, gg_BadNote, eC_BadNote, hd_BadNote, ha_BadNote, hn0, ht0, mo_BadNote⟩, kt_BadNote_BadItem⟩
    rcases List.mem_cons.mp he with rfl | he
    · exact ⟨C_BadNumber, m_BadNumber, ⟨ga_BadNumber, gg_BadNumber, eC_BadNumber, hd_BadNumber, ha_BadNumber, hn0, ht0, mo_BadNumber⟩, kt_BadNumber_BadItem⟩
    rcases List.mem_cons.mp he with rfl | he
    · exact ⟨C_NothingToUndo, m_NothingToUndo, ⟨ga_NothingToUndo, gg_NothingToUndo, eC_NothingToUndo, hd_NothingToUndo, ha_NothingToUndo, hn0, ht0, mo_NothingToUndo⟩, kt_NothingToUndo_BadItem⟩
    rcases List.mem_cons.mp he with rfl | he
    · exact ⟨C_Refused, m_Refused, ⟨ga_Refused, gg_Refused, eC_Refused, hd_Refused, ha_Refused, hn0, ht0, mo_Refused⟩, kt_Refused_BadItem⟩
    rcases List.mem_cons.mp he with rfl | he
    · exact ⟨C_Taken, m_Taken, ⟨ga_Taken, gg_Taken, eC_Taken, hd_Taken, ha_Taken, hn0, ht0, mo_Taken⟩, kt_Taken_BadItem⟩
    rcases List.mem_cons.mp he with rfl | he
    · exact ⟨C_TooMany, m_TooMany, ⟨ga_TooMany, gg_TooMany, eC_TooMany, hd_TooMany, ha_TooMany, hn0, ht0, mo_TooMany⟩, kt_TooMany_BadItem⟩
    rcases List.mem_cons.mp he with rfl | he
    · exact ⟨C_Unknown, m_Unknown, ⟨ga_Unknown, gg_Unknown, eC_Unknown, hd_Unknown, ha_Unknown, hn0, ht0, mo_Unknown⟩, kt_Unknown_BadItem⟩
    cases he)⟩
  have IS_BadName : ∃ C : Addr, mg "BadName" = some (.ref C) ∧ IsX K mg known tb_BadName (.ref C) := ⟨C_BadName, m_BadName, isX_mk (fun e he => by
    rcases List.mem_cons.mp he with rfl | he
    · exact ⟨C_BadEvent, m_BadEvent, ⟨ga_BadEvent, gg_BadEvent, eC_BadEvent, hd_BadEvent, ha_BadEvent, hn0, ht0, mo_BadEvent⟩, kt_BadEvent_BadName⟩
    rcases List.mem_cons.mp he with rfl | he
    · exact ⟨C_BadItem, m_BadItem, ⟨ga_BadItem, gg_BadItem, eC_BadItem, hd_BadItem, ha_BadItem, hn0, ht0, mo_BadItem⟩, kt_BadItem_BadName⟩
    rcases List.mem_cons.mp he with rfl | he
    · exact ⟨C_BadName, m_BadName, ⟨ga_BadName, gg_BadName, eC_BadName, hd_BadName, ha_BadName, hn0, ht0, mo_BadName⟩, kt_BadName_BadName⟩
    rcases List.mem_cons.mp he with rfl | he
    · exact ⟨C_BadNote, m_BadNote, ⟨ga_BadNote, gg_BadNote, eC_BadNote, hd_BadNote, ha_BadNote, hn0, ht0, mo_BadNote⟩, kt_BadNote_BadName⟩
    rcases List.mem_cons.mp he with rfl | he
    · exact ⟨C_BadNumber, m_BadNumber, ⟨ga_BadNumber, gg_BadNumber, eC_BadNumber, hd_BadNumber, ha_BadNumber, hn0, ht0, mo_BadNumber⟩, kt_BadNumber_BadName⟩
    rcases List.mem_cons.mp he with rfl | he
    · exact ⟨C_NothingToUndo, m_NothingToUndo, ⟨ga_NothingToUndo, gg_NothingToUndo, eC_NothingToUndo, hd_NothingToUndo, ha_NothingToUndo, hn0, ht0, mo_NothingToUndo⟩, kt_NothingToUndo_BadName⟩
    rcases List.mem_cons.mp he with rfl | he
    · exact ⟨C_Refused, m_Refused, ⟨ga_Refused, gg_Refused, eC_Refused, hd_Refused, ha_Refused, hn0, ht0, mo_Refused⟩, kt_Refused_BadName⟩
    rcases List.mem_cons.mp he with rfl | he
    · exact ⟨C_Taken, m_Taken, ⟨ga_Taken, gg_Taken, eC_Taken, hd_Taken, ha_Taken, hn0, ht0, mo_Taken⟩, kt_Taken_BadName⟩
    rcases List.mem_cons.mp he with rfl | he
    · exact ⟨C_TooMany, m_TooMany, ⟨ga_TooMany, gg_TooMany, eC_TooMany, hd_TooMany, ha_TooMany, hn0, ht0, mo_TooMany⟩, kt_TooMany_BadName⟩
    rcases List.mem_cons.mp he with rfl | he
    · exact ⟨C_Unknown, m_Unknown, ⟨ga_Unknown, gg_Unknown, eC_Unknown, hd_Unknown, ha_Unknown, hn0, ht0, mo_Unknown⟩, kt_Unknown_BadName⟩
    cases he)⟩
  have IS_BadNote : ∃ C : Addr, mg "BadNote" = some (.ref C) ∧ IsX K mg known tb_BadNote (.ref C) := ⟨C_BadNote, m_BadNote, isX_mk (fun e he => by
    rcases List.mem_cons.mp he with rfl | he
    · exact ⟨C_BadEvent, m_BadEvent, ⟨ga_BadEvent, gg_BadEvent, eC_BadEvent, hd_BadEvent, ha_BadEvent, hn0, ht0, mo_BadEvent⟩, kt_BadEvent_BadNote⟩
    rcases List.mem_cons.mp he with rfl | he
    · exact ⟨C_BadItem, m_BadItem, ⟨ga_BadItem, gg_BadItem, eC_BadItem, hd_BadItem, ha_BadItem, hn0, ht0, mo_BadItem⟩, kt_BadItem_BadNote⟩
    rcases List.mem_cons.mp he with rfl | he
    · exact ⟨C_BadName, m_BadName, ⟨ga_BadName, gg_BadName, eC_BadName, hd_BadName, ha_BadName, hn0, ht0, mo_BadName⟩, kt_BadName_BadNote⟩
    rcases List.mem_cons.mp he with rfl | he
    · exact ⟨C_BadNote, m_BadNote, ⟨ga_BadNote, gg_BadNote, eC_BadNote, hd_BadNote, ha_BadNote, hn0, ht0, mo_BadNote⟩, kt_BadNote_BadNote⟩
    rcases List.mem_cons.mp he with rfl | he
    · exact ⟨C_BadNumber, m_BadNumber, ⟨ga_BadNumber, gg_BadNumber, eC_BadNumber, hd_BadNumber, ha_BadNumber, hn0, ht0, mo_BadNumber⟩, kt_BadNumber_BadNote⟩
    rcases List.mem_cons.mp he with rfl | he
    · exact ⟨C_NothingToUndo, m_NothingToUndo, ⟨ga_NothingToUndo, gg_NothingToUndo, eC_NothingToUndo, hd_NothingToUndo, ha_NothingToUndo, hn0, ht0, mo_NothingToUndo⟩, kt_NothingToUndo_BadNote⟩
    rcases List.mem_cons.mp he with rfl | he
    · exact ⟨C_Refused, m_Refused, ⟨ga_Refused, gg_Refused, eC_Refused, hd_Refused, ha_Refused, hn0, ht0, mo_Refused⟩, kt_Refused_BadNote⟩
    rcases List.mem_cons.mp he with rfl | he
    · exact ⟨C_Taken, m_Taken, ⟨ga_Taken, gg_Taken, eC_Taken, hd_Taken, ha_Taken, hn0, ht0, mo_Taken⟩, kt_Taken_BadNote⟩
    rcases List.mem_cons.mp he with rfl | he
    · exact ⟨C_TooMany, m_TooMany, ⟨ga_TooMany, gg_TooMany, eC_TooMany, hd_TooMany, ha_TooMany, hn0, ht0, mo_TooMany⟩, kt_TooMany_BadNote⟩
    rcases List.mem_cons.mp he with rfl | he
    · exact ⟨C_Unknown, m_Unknown, ⟨ga_Unknown, gg_Unknown, eC_Unknown, hd_Unknown, ha_Unknown, hn0, ht0, mo_Unknown⟩, kt_Unknown_BadNote⟩
    cases he)⟩
  have IS_BadNumber : ∃ C : Addr, mg "BadNumber" = some (.ref C) ∧ IsX K mg known tb_BadNumber (.ref C) := ⟨C_BadNumber, m_BadNumber, isX_mk (fun e he => by
    rcases List.mem_cons.mp he with rfl | he
    · exact ⟨C_BadEvent, m_BadEvent, ⟨ga_BadEvent, gg_BadEvent, eC_BadEvent, hd_BadEvent, ha_BadEvent, hn0, ht0, mo_BadEvent⟩, kt_BadEvent_BadNumber⟩
    rcases List.mem_cons.mp he with rfl | he
    · exact ⟨C_BadItem, m_BadItem, ⟨ga_BadItem, gg_BadItem, eC_BadItem, hd_BadItem, ha_BadItem, hn0, ht0, mo_BadItem⟩, kt_BadItem_BadNumber⟩
    rcases List.mem_cons.mp he with rfl | he
    · exact ⟨C_BadName, m_BadName, ⟨ga_BadName, gg_BadName, eC_BadName, hd_BadName, ha_BadName, hn0, ht0, mo_BadName⟩, kt_BadName_BadNumber⟩
    rcases List.mem_cons.mp he with rfl | he
    · exact ⟨C_BadNote, m_BadNote, ⟨ga_BadNote, gg_BadNote, eC_BadNote, hd_BadNote, ha_BadNote, hn0, ht0, mo_BadNote⟩, kt_BadNote_BadNumber⟩
    rcases List.mem_cons.mp he with rfl | he
    · exact ⟨C_BadNumber, m_BadNumber, ⟨ga_BadNumber, gg_BadNumber, eC_BadNumber, hd_BadNumber, ha_BadNumber, hn0, ht0, mo_BadNumber⟩, kt_BadNumber_BadNumber⟩
    rcases List.mem_cons.mp he with rfl | he
    · exact ⟨C_NothingToUndo, m_NothingToUndo, ⟨ga_NothingToUndo, gg_NothingToUndo, eC_NothingToUndo, hd_NothingToUndo, ha_NothingToUndo, hn0, ht0, mo_NothingToUndo⟩, kt_NothingToUndo_BadNumber⟩
    rcases List.mem_cons.mp he with rfl | he
    · exact ⟨C_Refused, m_Refused, ⟨ga_Refused, gg_Refused, eC_Refused, hd_Refused, ha_Refused, hn0, ht0, mo_Refused⟩, kt_Refused_BadNumber⟩
    rcases List.mem_cons.mp he with rfl | he
    · exact ⟨C_Taken, m_Taken, ⟨ga_Taken, gg_Taken, eC_Taken, hd_Taken, ha_Taken, hn0, ht0, mo_Taken⟩, kt_Taken_BadNumber⟩
    rcases List.mem_cons.mp he with rfl | he
    · exact ⟨C_TooMany, m_TooMany, ⟨ga_TooMany, gg_TooMany, eC_TooMany, hd_TooMany, ha_TooMany, hn0, ht0, mo_TooMany⟩, kt_TooMany_BadNumber⟩
    rcases List.mem_cons.mp he with rfl | he
    · exact ⟨C_Unknown, m_Unknown, ⟨ga_Unknown, gg_Unknown, eC_Unknown, hd_Unknown, ha_Unknown, hn0, ht0, mo_Unknown⟩, kt_Unknown_BadNumber⟩
    cases he)⟩
  have IS_LookupError : IsX K mg known tb_LookupError (.type "LookupError") := isX_mk (fun e he => by
    rcases List.mem_cons.mp he with rfl | he
    · exact ⟨C_BadEvent, m_BadEvent, ⟨ga_BadEvent, gg_BadEvent, eC_BadEvent, hd_BadEvent, ha_BadEvent, hn0, ht0, mo_BadEvent⟩, kt_BadEvent_LookupError⟩
    rcases List.mem_cons.mp he with rfl | he
    · exact ⟨C_BadItem, m_BadItem, ⟨ga_BadItem, gg_BadItem, eC_BadItem, hd_BadItem, ha_BadItem, hn0, ht0, mo_BadItem⟩, kt_BadItem_LookupError⟩
    rcases List.mem_cons.mp he with rfl | he
    · exact ⟨C_BadName, m_BadName, ⟨ga_BadName, gg_BadName, eC_BadName, hd_BadName, ha_BadName, hn0, ht0, mo_BadName⟩, kt_BadName_LookupError⟩
    rcases List.mem_cons.mp he with rfl | he
    · exact ⟨C_BadNote, m_BadNote, ⟨ga_BadNote, gg_BadNote, eC_BadNote, hd_BadNote, ha_BadNote, hn0, ht0, mo_BadNote⟩, kt_BadNote_LookupError⟩
    rcases List.mem_cons.mp he with rfl | he
    · exact ⟨C_BadNumber, m_BadNumber, ⟨ga_BadNumber, gg_BadNumber, eC_BadNumber, hd_BadNumber, ha_BadNumber, hn0, ht0, mo_BadNumber⟩, kt_BadNumber_LookupError⟩
    rcases List.mem_cons.mp he with rfl | he
    · exact ⟨C_NothingToUndo, m_NothingToUndo, ⟨ga_NothingToUndo, gg_NothingToUndo, eC_NothingToUndo, hd_NothingToUndo, ha_NothingToUndo, hn0, ht0, mo_NothingToUndo⟩, kt_NothingToUndo_LookupError⟩
    rcases List.mem_cons.mp he with rfl | he
    · exact ⟨C_Refused, m_Refused, ⟨ga_Refused, gg_Refused, eC_Refused, hd_Refused, ha_Refused, hn0, ht0, mo_Refused⟩, kt_Refused_LookupError⟩
    rcases List.mem_cons.mp he with rfl | he
    · exact ⟨C_Taken, m_Taken, ⟨ga_Taken, gg_Taken, eC_Taken, hd_Taken, ha_Taken, hn0, ht0, mo_Taken⟩, kt_Taken_LookupError⟩
    rcases List.mem_cons.mp he with rfl | he
    · exact ⟨C_TooMany, m_TooMany, ⟨ga_TooMany, gg_TooMany, eC_TooMany, hd_TooMany, ha_TooMany, hn0, ht0, mo_TooMany⟩, kt_TooMany_LookupError⟩
    rcases List.mem_cons.mp he with rfl | he
    · exact ⟨C_Unknown, m_Unknown, ⟨ga_Unknown, gg_Unknown, eC_Unknown, hd_Unknown, ha_Unknown, hn0, ht0, mo_Unknown⟩, kt_Unknown_LookupError⟩
    cases he)
  have IS_NothingToUndo : ∃ C : Addr, mg "NothingToUndo" = some (.ref C) ∧ IsX K mg known tb_NothingToUndo (.ref C) := ⟨C_NothingToUndo, m_NothingToUndo, isX_mk (fun e he => by
    rcases List.mem_cons.mp he with rfl | he
    · exact ⟨C_BadEvent, m_BadEvent, ⟨ga_BadEvent, gg_BadEvent, eC_BadEvent, hd_BadEvent, ha_BadEvent, hn0, ht0, mo_BadEvent⟩, kt_BadEvent_NothingToUndo⟩
    rcases List.mem_cons.mp he with rfl | he
    · exact ⟨C_BadItem, m_BadItem, ⟨ga_BadItem, gg_BadItem, eC_BadItem, hd_BadItem, ha_BadItem, hn0, ht0, mo_BadItem⟩, kt_BadItem_NothingToUndo⟩
    rcases List.mem_cons.mp he with rfl | he
    · exact ⟨C_BadName, m_BadName, ⟨ga_BadName, gg_BadName, eC_BadName, hd_BadName, ha_BadName, hn0, ht0, mo_BadName⟩, kt_BadName_NothingToUndo⟩
    rcases List.mem_cons.mp he with rfl | he
    · exact ⟨C_BadNote, m_BadNote, ⟨ga_BadNote, gg_BadNote, eC_BadNote, hd_BadNote, ha_BadNote, hn0, ht0, mo_BadNote⟩, kt_BadNote_NothingToUndo⟩
    rcases List.mem_cons.mp he with rfl | he
    · exact ⟨C_BadNumber, m_BadNumber, ⟨ga_BadNumber, gg_BadNumber, eC_BadNumber, hd_BadNumber, ha_BadNumber, hn0, ht0, mo_BadNumber⟩, kt_BadNumber_NothingToUndo⟩
    rcases List.mem_cons.mp he with rfl | he
    · exact ⟨C_NothingToUndo, m_NothingToUndo, ⟨ga_NothingToUndo, gg_NothingToUndo, eC_NothingToUndo, hd_NothingToUndo, ha_NothingToUndo, hn0, ht0, mo_NothingToUndo⟩, kt_NothingToUndo_NothingToUndo⟩
    rcases List.mem_cons.mp he with rfl | he
    · exact ⟨C_Refused, m_Refused, ⟨ga_Refused, gg_Refused, eC_Refused, hd_Refused, ha_Refused, hn0, ht0, mo_Refused⟩, kt_Refused_NothingToUndo⟩
    rcases List.mem_cons.mp he with rfl | he
    · exact ⟨C_Taken, m_Taken, ⟨ga_Taken, gg_Taken, eC_Taken, hd_Taken, ha_Taken, hn0, ht0, mo_Taken⟩, kt_Taken_NothingToUndo⟩
    rcases List.mem_cons.mp he with rfl | he
    · exact ⟨C_TooMany, m_TooMany, ⟨ga_TooMany, gg_TooMany, eC_TooMany, hd_TooMany, ha_TooMany, hn0, ht0, mo_TooMany⟩, kt_TooMany_NothingToUndo⟩
    rcases List.mem_cons.mp he with rfl | he
    · exact ⟨C_Unknown, m_Unknown, ⟨ga_Unknown, gg_Unknown, eC_Unknown, hd_Unknown, ha_Unknown, hn0, ht0, mo_Unknown⟩, kt_Unknown_NothingToUndo⟩
    cases he)⟩
  have IS_Refused : ∃ C : Addr, mg "Refused" = some (.ref C) ∧ IsX K mg known tb_Refused (.ref C) := ⟨C_Refused, m_Refused, isX_mk (fun e he => by
    rcases List.mem_cons.mp he with rfl | he
    · exact ⟨C_BadEvent, m_BadEvent, ⟨ga_BadEvent, gg_BadEvent, eC_BadEvent, hd_BadEvent, ha_BadEvent, hn0, ht0, mo_BadEvent⟩, kt_BadEvent_Refused⟩
    rcases List.mem_cons.mp he with rfl | he
    · exact ⟨C_BadItem, m_BadItem, ⟨ga_BadItem, gg_BadItem, eC_BadItem, hd_BadItem, ha_BadItem, hn0, ht0, mo_BadItem⟩, kt_BadItem_Refused⟩
    rcases List.mem_cons.mp he with rfl | he
    · exact ⟨C_BadName, m_BadName, ⟨ga_BadName, gg_BadName, eC_BadName, hd_BadName, ha_BadName, hn0, ht0, mo_BadName⟩, kt_BadName_Refused⟩
    rcases List.mem_cons.mp he with rfl | he
    · exact ⟨C_BadNote, m_BadNote, ⟨ga_BadNote, gg_BadNote, eC_BadNote, hd_BadNote, ha_BadNote, hn0, ht0, mo_BadNote⟩, kt_BadNote_Refused⟩
    rcases List.mem_cons.mp he with rfl | he
    · exact ⟨C_BadNumber, m_BadNumber, ⟨ga_BadNumber, gg_BadNumber, eC_BadNumber, hd_BadNumber, ha_BadNumber, hn0, ht0, mo_BadNumber⟩, kt_BadNumber_Refused⟩
    rcases List.mem_cons.mp he with rfl | he
    · exact ⟨C_NothingToUndo, m_NothingToUndo, ⟨ga_NothingToUndo, gg_NothingToUndo, eC_NothingToUndo, hd_NothingToUndo, ha_NothingToUndo, hn0, ht0, mo_NothingToUndo⟩, kt_NothingToUndo_Refused⟩
    rcases List.mem_cons.mp he with rfl | he
    · exact ⟨C_Refused, m_Refused, ⟨ga_Refused, gg_Refused, eC_Refused, hd_Refused, ha_Refused, hn0, ht0, mo_Refused⟩, kt_Refused_Refused⟩
    rcases List.mem_cons.mp he with rfl | he
    · exact ⟨C_Taken, m_Taken, ⟨ga_Taken, gg_Taken, eC_Taken, hd_Taken, ha_Taken, hn0, ht0, mo_Taken⟩, kt_Taken_Refused⟩
    rcases List.mem_cons.mp he with rfl | he
    · exact ⟨C_TooMany, m_TooMany, ⟨ga_TooMany, gg_TooMany, eC_TooMany, hd_TooMany, ha_TooMany, hn0, ht0, mo_TooMany⟩, kt_TooMany_Refused⟩
    rcases List.mem_cons.mp he with rfl | he
    · exact ⟨C_Unknown, m_Unknown, ⟨ga_Unknown, gg_Unknown, eC_Unknown, hd_Unknown, ha_Unknown, hn0, ht0, mo_Unknown⟩, kt_Unknown_Refused⟩
    cases he)⟩
  have IS_RuntimeError : IsX K mg known tb_RuntimeError (.type "RuntimeError") := isX_mk (fun e he => by
    rcases List.mem_cons.mp he with rfl | he
    · exact ⟨C_BadEvent, m_BadEvent, ⟨ga_BadEvent, gg_BadEvent, eC_BadEvent, hd_BadEvent, ha_BadEvent, hn0, ht0, mo_BadEvent⟩, kt_BadEvent_RuntimeError⟩
    rcases List.mem_cons.mp he with rfl | he
    · exact ⟨C_BadItem, m_BadItem, ⟨ga_BadItem, gg_BadItem, eC_BadItem, hd_BadItem, ha_BadItem, hn0, ht0, mo_BadItem⟩, kt_BadItem_RuntimeError⟩
    rcases List.mem_cons.mp he with rfl | he
    · exact ⟨C_BadName, m_BadName, ⟨ga_BadName, gg_BadName, eC_BadName, hd_BadName, ha_BadName, hn0, ht0, mo_BadName⟩, kt_BadName_RuntimeError⟩
    rcases List.mem_cons.mp he with rfl | he
    · exact ⟨C_BadNote, m_BadNote, ⟨ga_BadNote, gg_BadNote, eC_BadNote, hd_BadNote, ha_BadNote, hn0, ht0, mo_BadNote⟩, kt_BadNote_RuntimeError⟩
    rcases List.mem_cons.mp he with rfl | he
    · exact ⟨C_BadNumber, m_BadNumber, ⟨ga_BadNumber, gg_BadNumber, eC_BadNumber, hd_BadNumber, ha_BadNumber, hn0, ht0, mo_BadNumber⟩, kt_BadNumber_RuntimeError⟩
    rcases List.mem_cons.mp he with rfl | he
    · exact ⟨C_NothingToUndo, m_NothingToUndo, ⟨ga_NothingToUndo, gg_NothingToUndo, eC_NothingToUndo, hd_NothingToUndo, ha_NothingToUndo, hn0, ht0, mo_NothingToUndo⟩, kt_NothingToUndo_RuntimeError⟩
    rcases List.mem_cons.mp he with rfl | he
    · exact ⟨C_Refused, m_Refused, ⟨ga_Refused, gg_Refused, eC_Refused, hd_Refused, ha_Refused, hn0, ht0, mo_Refused⟩, kt_Refused_RuntimeError⟩
    rcases List.mem_cons.mp he with rfl | he
    · exact ⟨C_Taken, m_Taken, ⟨ga_Taken, gg_Taken, eC_Taken, hd_Taken, ha_Taken, hn0, ht0, mo_Taken⟩, kt_Taken_RuntimeError⟩
    rcases List.mem_cons.mp he with rfl | he
    · exact ⟨C_TooMany, m_TooMany, ⟨ga_TooMany, gg_TooMany, eC_TooMany, hd_TooMany, ha_TooMany, hn0, ht0, mo_TooMany⟩, kt_TooMany_RuntimeError⟩
    rcases List.mem_cons.mp he with rfl | he
    · exact ⟨C_Unknown, m_Unknown, ⟨ga_Unknown, gg_Unknown, eC_Unknown, hd_Unknown, ha_Unknown, hn0, ht0, mo_Unknown⟩, kt_Unknown_RuntimeError⟩
    cases he)
  have IS_Taken : ∃ C : Addr, mg "Taken" = some (.ref C) ∧ IsX K mg known tb_Taken (.ref C) := ⟨C_Taken, m_Taken, isX_mk (fun e he => by
    rcases List.mem_cons.mp he with rfl | he
    · exact ⟨C_BadEvent, m_BadEvent, ⟨ga_BadEvent, gg_BadEvent, eC_BadEvent, hd_BadEvent, ha_BadEvent, hn0, ht0, mo_BadEvent⟩, kt_BadEvent_Taken⟩
    rcases List.mem_cons.mp he with rfl | he
    · exact ⟨C_BadItem, m_BadItem, ⟨ga_BadItem, gg_BadItem, eC_BadItem, hd_BadItem, ha_BadItem, hn0, ht0, mo_BadItem⟩, kt_BadItem_Taken⟩
    rcases List.mem_cons.mp he with rfl | he
    · exact ⟨C_BadName, m_BadName, ⟨ga_BadName, gg_BadName, eC_BadName, hd_BadName, ha_BadName, hn0, ht0, mo_BadName⟩, kt_BadName_Taken⟩
    rcases List.mem_cons.mp he with rfl | he
    · exact ⟨C_BadNote, m_BadNote, ⟨ga_BadNote, gg_BadNote, eC_BadNote, hd_BadNote, ha_BadNote, hn0, ht0, mo_BadNote⟩, kt_BadNote_Taken⟩
    rcases List.mem_cons.mp he with rfl | he
    · exact ⟨C_BadNumber, m_BadNumber, ⟨ga_BadNumber, gg_BadNumber, eC_BadNumber, hd_BadNumber, ha_BadNumber, hn0, ht0, mo_BadNumber⟩, kt_BadNumber_Taken⟩
    rcases List.mem_cons.mp he with rfl | he
    · exact ⟨C_NothingToUndo, m_NothingToUndo, ⟨ga_NothingToUndo, gg_NothingToUndo, eC_NothingToUndo, hd_NothingToUndo, ha_NothingToUndo, hn0, ht0, mo_NothingToUndo⟩, kt_NothingToUndo_Taken⟩
    rcases List.mem_cons.mp he with rfl | he
    · exact ⟨C_Refused, m_Refused, ⟨ga_Refused, gg_Refused, eC_Refused, hd_Refused, ha_Refused, hn0, ht0, mo_Refused⟩, kt_Refused_Taken⟩
    rcases List.mem_cons.mp he with rfl | he
    · exact ⟨C_Taken, m_Taken, ⟨ga_Taken, gg_Taken, eC_Taken, hd_Taken, ha_Taken, hn0, ht0, mo_Taken⟩, kt_Taken_Taken⟩
    rcases List.mem_cons.mp he with rfl | he
    · exact ⟨C_TooMany, m_TooMany, ⟨ga_TooMany, gg_TooMany, eC_TooMany, hd_TooMany, ha_TooMany, hn0, ht0, mo_TooMany⟩, kt_TooMany_Taken⟩
    rcases List.mem_cons.mp he with rfl | he
    · exact ⟨C_Unknown, m_Unknown, ⟨ga_Unknown, gg_Unknown, eC_Unknown, hd_Unknown, ha_Unknown, hn0, ht0, mo_Unknown⟩, kt_Unknown_Taken⟩
    cases he)⟩
  have IS_TooMany : ∃ C : Addr, mg "TooMany" = some (.ref C) ∧ IsX K mg known tb_TooMany (.ref C) := ⟨C_TooMany, m_TooMany, isX_mk (fun e he => by
    rcases List.mem_cons.mp he with rfl | he
    · exact ⟨C_BadEvent, m_BadEvent, ⟨ga_BadEvent, gg_BadEvent, eC_BadEvent, hd_BadEvent, ha_BadEvent, hn0, ht0, mo_BadEvent⟩, kt_BadEvent_TooMany⟩
    rcases List.mem_cons.mp he with rfl | he
    · exact ⟨C_BadItem, m_BadItem, ⟨ga_BadItem, gg_BadItem, eC_BadItem, hd_BadItem, ha_BadItem, hn0, ht0, mo_BadItem⟩, kt_BadItem_TooMany⟩
    rcases List.mem_cons.mp he with rfl | he
    · exact ⟨C_BadName, m_BadName, ⟨ga_BadName, gg_BadName, eC_BadName, hd_BadName, ha_BadName, hn0, ht0, mo_BadName⟩, kt_BadName_TooMany⟩
    rcases List.mem_cons.mp he with rfl | he
    · exact ⟨C_BadNote, m_BadNote, ⟨ga_BadNote, gg_BadNote, eC_BadNote, hd_BadNote, ha_BadNote, hn0, ht0, mo_BadNote⟩, kt_BadNote_TooMany⟩
    rcases List.mem_cons.mp he with rfl | he
    · exact ⟨C_BadNumber, m_BadNumber, ⟨ga_BadNumber, gg_BadNumber, eC_BadNumber, hd_BadNumber, ha_BadNumber, hn0, ht0, mo_BadNumber⟩, kt_BadNumber_TooMany⟩
    rcases List.mem_cons.mp he with rfl | he
    · exact ⟨C_NothingToUndo, m_NothingToUndo, ⟨ga_NothingToUndo, gg_NothingToUndo, eC_NothingToUndo, hd_NothingToUndo, ha_NothingToUndo, hn0, ht0, mo_NothingToUndo⟩, kt_NothingToUndo_TooMany⟩
    rcases List.mem_cons.mp he with rfl | he
    · exact ⟨C_Refused, m_Refused, ⟨ga_Refused, gg_Refused, eC_Refused, hd_Refused, ha_Refused, hn0, ht0, mo_Refused⟩, kt_Refused_TooMany⟩
    rcases List.mem_cons.mp he with rfl | he
    · exact ⟨C_Taken, m_Taken, ⟨ga_Taken, gg_Taken, eC_Taken, hd_Taken, ha_Taken, hn0, ht0, mo_Taken⟩, kt_Taken_TooMany⟩
    rcases List.mem_cons.mp he with rfl | he
    · exact ⟨C_TooMany, m_TooMany, ⟨ga_TooMany, gg_TooMany, eC_TooMany, hd_TooMany, ha_TooMany, hn0, ht0, mo_TooMany⟩, kt_TooMany_TooMany⟩
    rcases List.mem_cons.mp he with rfl | he
    · exact ⟨C_Unknown, m_Unknown, ⟨ga_Unknown, gg_Unknown, eC_Unknown, hd_Unknown, ha_Unknown, hn0, ht0, mo_Unknown⟩, kt_Unknown_TooMany⟩
    cases he)⟩
  have IS_Unknown : ∃ C : Addr, mg "Unknown" = some (.ref C) ∧ IsX K mg known tb_Unknown (.ref C) := ⟨C_Unknown, m_Unknown, isX_mk (fun e he => by
    rcases List.mem_cons.mp he with rfl | he
    · exact ⟨C_BadEvent, m_BadEvent, ⟨ga_BadEvent, gg_BadEvent, eC_BadEvent, hd_BadEvent, ha_BadEvent, hn0, ht0, mo_BadEvent⟩, kt_BadEvent_Unknown⟩
    rcases List.mem_cons.mp he with rfl | he
    · exact ⟨C_BadItem, m_BadItem, ⟨ga_BadItem, gg_BadItem, eC_BadItem, hd_BadItem, ha_BadItem, hn0, ht0, mo_BadItem⟩, kt_BadItem_Unknown⟩
    rcases List.mem_cons.mp he with rfl | he
    · exact ⟨C_BadName, m_BadName, ⟨ga_BadName, gg_BadName, eC_BadName, hd_BadName, ha_BadName, hn0, ht0, mo_BadName⟩, kt_BadName_Unknown⟩
    rcases List.mem_cons.mp he with rfl | he
    · exact ⟨C_BadNote, m_BadNote, ⟨ga_BadNote, gg_BadNote, eC_BadNote, hd_BadNote, ha_BadNote, hn0, ht0, mo_BadNote⟩, kt_BadNote_Unknown⟩
    rcases List.mem_cons.mp he with rfl | he
    · exact ⟨C_BadNumber, m_BadNumber, ⟨ga_BadNumber, gg_BadNumber, eC_BadNumber, hd_BadNumber, ha_BadNumber, hn0, ht0, mo_BadNumber⟩, kt_BadNumber_Unknown⟩
    rcases List.mem_cons.mp he with rfl | he
    · exact ⟨C_NothingToUndo, m_NothingToUndo, ⟨ga_NothingToUndo, gg_NothingToUndo, eC_NothingToUndo, hd_NothingToUndo, ha_NothingToUndo, hn0, ht0, mo_NothingToUndo⟩, kt_NothingToUndo_Unknown⟩
    rcases List.mem_cons.mp he with rfl | he
    · exact ⟨C_Refused, m_Refused, ⟨ga_Refused, gg_Refused, eC_Refused, hd_Refused, ha_Refused, hn0, ht0, mo_Refused⟩, kt_Refused_Unknown⟩
    rcases List.mem_cons.mp he with rfl | he
    · exact ⟨C_Taken, m_Taken, ⟨ga_Taken, gg_Taken, eC_Taken, hd_Taken, ha_Taken, hn0, ht0, mo_Taken⟩, kt_Taken_Unknown⟩
    rcases List.mem_cons.mp he with rfl | he
    · exact ⟨C_TooMany, m_TooMany, ⟨ga_TooMany, gg_TooMany, eC_TooMany, hd_TooMany, ha_TooMany, hn0, ht0, mo_TooMany⟩, kt_TooMany_Unknown⟩
    rcases List.mem_cons.mp he with rfl | he
    · exact ⟨C_Unknown, m_Unknown, ⟨ga_Unknown, gg_Unknown, eC_Unknown, hd_Unknown, ha_Unknown, hn0, ht0, mo_Unknown⟩, kt_Unknown_Unknown⟩
    cases he)⟩
  have IS_ValueError : IsX K mg known tb_ValueError (.type "ValueError") := isX_mk (fun e he => by
    rcases List.mem_cons.mp he with rfl | he
    · exact ⟨C_BadEvent, m_BadEvent, ⟨ga_BadEvent, gg_BadEvent, eC_BadEvent, hd_BadEvent, ha_BadEvent, hn0, ht0, mo_BadEvent⟩, kt_BadEvent_ValueError⟩
    rcases List.mem_cons.mp he with rfl | he
    · exact ⟨C_BadItem, m_BadItem, ⟨ga_BadItem, gg_BadItem, eC_BadItem, hd_BadItem, ha_BadItem, hn0, ht0, mo_BadItem⟩, kt_BadItem_ValueError⟩
    rcases List.mem_cons.mp he with rfl | he
    · exact ⟨C_BadName, m_BadName, ⟨ga_BadName, gg_BadName, eC_BadName, hd_BadName, ha_BadName, hn0, ht0, mo_BadName⟩, kt_BadName_ValueError⟩
    rcases List.mem_cons.mp he with rfl | he
    · exact ⟨C_BadNote, m_BadNote, ⟨ga_BadNote, gg_BadNote, eC_BadNote, hd_BadNote, ha_BadNote, hn0, ht0, mo_BadNote⟩, kt_BadNote_ValueError⟩
    rcases List.mem_cons.mp he with rfl | he
    · exact ⟨C_BadNumber, m_BadNumber, ⟨ga_BadNumber, gg_BadNumber, eC_BadNumber, hd_BadNumber, ha_BadNumber, hn0, ht0, mo_BadNumber⟩, kt_BadNumber_ValueError⟩
    rcases List.mem_cons.mp he with rfl | he
    · exact ⟨C_NothingToUndo, m_NothingToUndo, ⟨ga_NothingToUndo, gg_NothingToUndo, eC_NothingToUndo, hd_NothingToUndo, ha_NothingToUndo, hn0, ht0, mo_NothingToUndo⟩, kt_NothingToUndo_ValueError⟩
    rcases List.mem_cons.mp he with rfl | he
    · exact ⟨C_Refused, m_Refused, ⟨ga_Refused, gg_Refused, eC_Refused, hd_Refused, ha_Refused, hn0, ht0, mo_Refused⟩, kt_Refused_ValueError⟩
    rcases List.mem_cons.mp he with rfl | he
    · exact ⟨C_Taken, m_Taken, ⟨ga_Taken, gg_Taken, eC_Taken, hd_Taken, ha_Taken, hn0, ht0, mo_Taken⟩, kt_Taken_ValueError⟩
    rcases List.mem_cons.mp he with rfl | he
    · exact ⟨C_TooMany, m_TooMany, ⟨ga_TooMany, gg_TooMany, eC_TooMany, hd_TooMany, ha_TooMany, hn0, ht0, mo_TooMany⟩, kt_TooMany_ValueError⟩
    rcases List.mem_cons.mp he with rfl | he
    · exact ⟨C_Unknown, m_Unknown, ⟨ga_Unknown, gg_Unknown, eC_Unknown, hd_Unknown, ha_Unknown, hn0, ht0, mo_Unknown⟩, kt_Unknown_ValueError⟩
    cases he)
  have XG_index : XfG K mg kn_index "index" := xfG_mk (fun e he => by
    rcases List.mem_cons.mp he with rfl | he
    · exact ⟨C_BadItem, m_BadItem, ⟨ga_BadItem, gg_BadItem, eC_BadItem, hd_BadItem⟩, n_BadItem_index⟩
    cases he)
  have XG_limit : XfG K mg kn_limit "limit" := xfG_mk (fun e he => by
    rcases List.mem_cons.mp he with rfl | he
    · exact ⟨C_TooMany, m_TooMany, ⟨ga_TooMany, gg_TooMany, eC_TooMany, hd_TooMany⟩, n_TooMany_limit⟩
    cases he)
  have XG_line : XfG K mg kn_line "line" := xfG_mk (fun e he => by
    rcases List.mem_cons.mp he with rfl | he
    · exact ⟨C_BadNote, m_BadNote, ⟨ga_BadNote, gg_BadNote, eC_BadNote, hd_BadNote⟩, n_BadNote_line⟩
    cases he)
  have XG_names : XfG K mg kn_names "names" := xfG_mk (fun e he => by
    rcases List.mem_cons.mp he with rfl | he
    · exact ⟨C_Refused, m_Refused, ⟨ga_Refused, gg_Refused, eC_Refused, hd_Refused⟩, n_Refused_names⟩
    cases he)
  have XG_reason : XfG K mg kn_reason "reason" := xfG_mk (fun e he => by
    rcases List.mem_cons.mp he with rfl | he
    · exact ⟨C_Refused, m_Refused, ⟨ga_Refused, gg_Refused, eC_Refused, hd_Refused⟩, n_Refused_reason⟩
    cases he)
  have XG_value : XfG K mg kn_value "value" := xfG_mk (fun e he => by
    rcases List.mem_cons.mp he with rfl | he
    · exact ⟨C_BadEvent, m_BadEvent, ⟨ga_BadEvent, gg_BadEvent, eC_BadEvent, hd_BadEvent⟩, n_BadEvent_value⟩
    rcases List.mem_cons.mp he with rfl | he
    · exact ⟨C_BadName, m_BadName, ⟨ga_BadName, gg_BadName, eC_BadName, hd_BadName⟩, n_BadName_value⟩
    rcases List.mem_cons.mp he with rfl | he
    · exact ⟨C_BadNumber, m_BadNumber, ⟨ga_BadNumber, gg_BadNumber, eC_BadNumber, hd_BadNumber⟩, n_BadNumber_value⟩
    rcases List.mem_cons.mp he with rfl | he
    · exact ⟨C_Taken, m_Taken, ⟨ga_Taken, gg_Taken, eC_Taken, hd_Taken⟩, n_Taken_value⟩
    rcases List.mem_cons.mp he with rfl | he
    · exact ⟨C_Unknown, m_Unknown, ⟨ga_Unknown, gg_Unknown, eC_Unknown, hd_Unknown⟩, n_Unknown_value⟩
    cases he)
  refine ⟨PySem.W.fnOf "law" "law" (defArgs s_law) (defBody s_law) (defScope s_law) .none kV4 dc4 pm4 an4 cd4 ct4, fun s v => .of_eq rfl, fun base _ _ => ?_⟩
  have E_BadEvent : ErrC l.prog w K mg base "BadEvent" ["value"] := errC1 m_BadEvent O_BadEvent i_BadEvent tI_BadEvent l_BadEvent c_BadEvent (sup_by (by decide +kernel)) rfl rfl d_BadEvent f_BadEvent h_BadEvent w_BadEvent (PySem.W.mg_none_of X G z_super) top0 th s_BadEvent v_BadEvent r_BadEvent n_BadEvent_value (by decide) (by decide) (fun us hl => match us, hl with | [_, _], _ => rfl) (fun L => rfl)
  have E_BadItem : ErrC l.prog w K mg base "BadItem" ["index"] := errC1 m_BadItem O_BadItem i_BadItem tI_BadItem l_BadItem c_BadItem (sup_by (by decide +kernel)) rfl rfl d_BadItem f_BadItem h_BadItem w_BadItem (PySem.W.mg_none_of X G z_super) top0 th s_BadItem v_BadItem r_BadItem n_BadItem_index (by decide) (by decide) (fun us hl => match us, hl with | [_, _], _ => rfl) (fun L => rfl)
  have E_BadName : ErrC l.prog w K mg base "BadName" ["value"] := errC1 m_BadName O_BadName i_BadName tI_BadName l_BadName c_BadName (sup_by (by decide +kernel)) rfl rfl d_BadName f_BadName h_BadName w_BadName (PySem.W.mg_none_of X G z_super) top0 th s_BadName v_BadName r_BadName n_BadName_value (by decide) (by decide) (fun us hl => match us, hl with | [_, _], _ => rfl) (fun L => rfl)
  have E_BadNote : ErrC l.prog w K mg base "BadNote" ["line"] := errC1 m_BadNote O_BadNote i_BadNote tI_BadNote l_BadNote c_BadNote (sup_by (by decide +kernel)) rfl rfl d_BadNote f_BadNote h_BadNote w_BadNote (PySem.W.mg_none_of X G z_super) top0 th s_BadNote v_BadNote r_BadNote n_BadNote_line (by decide) (by decide) (fun us hl => match us, hl with | [_, _], _ => rfl) (fun L => rfl)
  have E_BadNumber : ErrC l.prog w K mg base "BadNumber" ["value"] := errC1 m_BadNumber O_BadNumber i_BadNumber tI_BadNumber l_BadNumber c_BadNumber (sup_by (by decide +kernel)) rfl rfl d_BadNumber f_BadNumber h_BadNumber w_BadNumber (PySem.W.mg_none_of X G z_super) top0 th s_BadNumber v_BadNumber r_BadNumber n_BadNumber_value (by decide) (by decide) (fun us hl => match us, hl with | [_, _], _ => rfl) (fun L => rfl)
  have E_Refused : ErrC l.prog w K mg base "Refused" ["reason", "names"] := errC2 m_Refused O_Refused i_Refused tI_Refused l_Refused c_Refused (sup_by (by decide +kernel)) rfl rfl d_Refused f_Refused h_Refused w_Refused (PySem.W.mg_none_of X G z_super) top0 th s_Refused v_Refused r_Refused n_Refused_reason n_Refused_names (by decide) (by decide) (by decide) (by decide) (by decide) (fun us hl => match us, hl with | [_, _, _], _ => rfl) (fun L => rfl)
  have E_Taken : ErrC l.prog w K mg base "Taken" ["value"] := errC1 m_Taken O_Taken i_Taken tI_Taken l_Taken c_Taken (sup_by (by decide +kernel)) rfl rfl d_Taken f_Taken h_Taken w_Taken (PySem.W.mg_none_of X G z_super) top0 th s_Taken v_Taken r_Taken n_Taken_value (by decide) (by decide) (fun us hl => match us, hl with | [_, _], _ => rfl) (fun L => rfl)
  have E_TooMany : ErrC l.prog w K mg base "TooMany" ["limit"] := errC1 m_TooMany O_TooMany i_TooMany tI_TooMany l_TooMany c_TooMany (sup_by (by decide +kernel)) rfl rfl d_TooMany f_TooMany h_TooMany w_TooMany (PySem.W.mg_none_of X G z_super) top0 th s_TooMany v_TooMany r_TooMany n_TooMany_limit (by decide) (by decide) (fun us hl => match us, hl with | [_, _], _ => rfl) (fun L => rfl)
  have E_Unknown : ErrC l.prog w K mg base "Unknown" ["value"] := errC1 m_Unknown O_Unknown i_Unknown tI_Unknown l_Unknown c_Unknown (sup_by (by decide +kernel)) rfl rfl d_Unknown f_Unknown h_Unknown w_Unknown (PySem.W.mg_none_of X G z_super) top0 th s_Unknown v_Unknown r_Unknown n_Unknown_value (by decide) (by decide) (fun us hl => match us, hl with | [_, _], _ => rfl) (fun L => rfl)
  have EK_BadEvent_value : ErrK l.prog w K mg base "BadEvent" "value" ["value"] 0 := errK1 m_BadEvent O_BadEvent i_BadEvent tI_BadEvent (errF1 O_BadEvent l_BadEvent c_BadEvent (sup_by (by decide +kernel)) rfl rfl d_BadEvent f_BadEvent h_BadEvent w_BadEvent (PySem.W.mg_none_of X G z_super) top0 th s_BadEvent v_BadEvent r_BadEvent n_BadEvent_value (by decide) (by decide) (fun L => rfl)) ⟨ga_BadEvent, gg_BadEvent, eC_BadEvent, hd_BadEvent⟩ n_BadEvent_value (fun us ws h1 h2 => match us, ws, h1, h2 with | [_], [_], _, _ => rfl)
  have EK_BadItem_index : ErrK l.prog w K mg base "BadItem" "index" ["index"] 0 := errK1 m_BadItem O_BadItem i_BadItem tI_BadItem (errF1 O_BadItem l_BadItem c_BadItem (sup_by (by decide +kernel)) rfl rfl d_BadItem f_BadItem h_BadItem w_BadItem (PySem.W.mg_none_of X G z_super) top0 th s_BadItem v_BadItem r_BadItem n_BadItem_index (by decide) (by decide) (fun L => rfl)) ⟨ga_BadItem, gg_BadItem, eC_BadItem, hd_BadItem⟩ n_BadItem_index (fun us ws h1 h2 => match us, ws, h1, h2 with | [_], [_], _, _ => rfl)
  have EK_BadName_value : ErrK l.prog w K mg base "BadName" "value" ["value"] 0 := errK1 m_BadName O_BadName i_BadName tI_BadName (errF1 O_BadName l_BadName c_BadName (sup_by (by decide +kernel)) rfl rfl d_BadName f_BadName h_BadName w_BadName (PySem.W.mg_none_of X G z_super) top0 th s_BadName v_BadName r_BadName n_BadName_value (by decide) (by decide) (fun L => rfl)) ⟨ga_BadName, gg_BadName, eC_BadName, hd_BadName⟩ n_BadName_value (fun us ws h1 h2 => match us, ws, h1, h2 with | [_], [_], _, _ => rfl)
  have EK_BadNote_line : ErrK l.prog w K mg base "BadNote" "line" ["line"] 0 := errK1 m_BadNote O_BadNote i_BadNote tI_BadNote (errF1 O_BadNote l_BadNote c_BadNote (sup_by (by decide +kernel)) rfl rfl d_BadNote f_BadNote h_BadNote w_BadNote (PySem.W.mg_none_of X G z_super) top0 th s_BadNote v_BadNote r_BadNote n_BadNote_line (by decide) (by decide) (fun L => rfl)) ⟨ga_BadNote, gg_BadNote, eC_BadNote, hd_BadNote⟩ n_BadNote_line (fun us ws h1 h2 => match us, ws, h1, h2 with | [_], [_], _, _ => rfl)
  have EK_BadNumber_value : ErrK l.prog w K mg base "BadNumber" "value" ["value"] 0 := errK1 m_BadNumber O_BadNumber i_BadNumber tI_BadNumber (errF1 O_BadNumber l_BadNumber c_BadNumber (sup_by (by decide +kernel)) rfl rfl d_BadNumber f_BadNumber h_BadNumber w_BadNumber (PySem.W.mg_none_of X G z_super) top0 th s_BadNumber v_BadNumber r_BadNumber n_BadNumber_value (by decide) (by decide) (fun L => rfl)) ⟨ga_BadNumber, gg_BadNumber, eC_BadNumber, hd_BadNumber⟩ n_BadNumber_value (fun us ws h1 h2 => match us, ws, h1, h2 with | [_], [_], _, _ => rfl)
  have EK_Refused_names : ErrK l.prog w K mg base "Refused" "names" ["reason", "names"] 1 := errK2a m_Refused O_Refused i_Refused tI_Refused (errF2 O_Refused l_Refused c_Refused (sup_by (by decide +kernel)) rfl rfl d_Refused f_Refused h_Refused w_Refused (PySem.W.mg_none_of X G z_super) top0 th s_Refused v_Refused r_Refused n_Refused_reason n_Refused_names (by decide) (by decide) (by decide) (by decide) (by decide) (fun L => rfl)) ⟨ga_Refused, gg_Refused, eC_Refused, hd_Refused⟩ n_Refused_names (fun us ws h1 h2 => match us, ws, h1, h2 with | [_], [_, _], _, _ => rfl)
  have EK_Refused_reason : ErrK l.prog w K mg base "Refused" "reason" ["names", "reason"] 1 := errK2b m_Refused O_Refused i_Refused tI_Refused (errF2 O_Refused l_Refused c_Refused (sup_by (by decide +kernel)) rfl rfl d_Refused f_Refused h_Refused w_Refused (PySem.W.mg_none_of X G z_super) top0 th s_Refused v_Refused r_Refused n_Refused_reason n_Refused_names (by decide) (by decide) (by decide) (by decide) (by decide) (fun L => rfl)) ⟨ga_Refused, gg_Refused, eC_Refused, hd_Refused⟩ n_Refused_reason (by decide) (fun us ws h1 h2 => match us, ws, h1, h2 with | [_], [_, _], _, _ => rfl)
  have EK_Taken_value : ErrK l.prog w K mg base "Taken" "value" ["value"] 0 := errK1 m_Taken O_Taken i_Taken tI_Taken (errF1 O_Taken l_Taken c_Taken (sup_by (by decide +kernel)) rfl rfl d_Taken f_Taken h_Taken w_Taken (PySem.W.mg_none_of X G z_super) top0 th s_Taken v_Taken r_Taken n_Taken_value (by decide) (by decide) (fun L => rfl)) ⟨ga_Taken, gg_Taken, eC_Taken, hd_Taken⟩ n_Taken_value (fun us ws h1 h2 => match us, ws, h1, h2 with | [_], [_], _, _ => rfl)
  have EK_TooMany_limit : ErrK l.prog w K mg base "TooMany" "limit" ["limit"] 0 := errK1 m_TooMany O_TooMany i_TooMany tI_TooMany (errF1 O_TooMany l_TooMany c_TooMany (sup_by (by decide +kernel)) rfl rfl d_TooMany f_TooMany h_TooMany w_TooMany (PySem.W.mg_none_of X G z_super) top0 th s_TooMany v_TooMany r_TooMany n_TooMany_limit (by decide) (by decide) (fun L => rfl)) ⟨ga_TooMany, gg_TooMany, eC_TooMany, hd_TooMany⟩ n_TooMany_limit (fun us ws h1 h2 => match us, ws, h1, h2 with | [_], [_], _, _ => rfl)
  have EK_Unknown_value : ErrK l.prog w K mg base "Unknown" "value" ["value"] 0 := errK1 m_Unknown O_Unknown i_Unknown tI_Unknown (errF1 O_Unknown l_Unknown c_Unknown (sup_by (by decide +kernel)) rfl rfl d_Unknown f_Unknown h_Unknown w_Unknown (PySem.W.mg_none_of X G z_super) top0 th s_Unknown v_Unknown r_Unknown n_Unknown_value (by decide) (by decide) (fun L => rfl)) ⟨ga_Unknown, gg_Unknown, eC_Unknown, hd_Unknown⟩ n_Unknown_value (fun us ws h1 h2 => match us, ws, h1, h2 with | [_], [_], _, _ => rfl)
  have T : Txt l.prog w K mg base := { e_BadEvent := E_BadEvent, e_BadItem := E_BadItem, e_BadName := E_BadName, e_BadNote := E_BadNote, e_BadNumber := E_BadNumber, e_Refused := E_Refused, e_Taken := E_Taken, e_TooMany := E_TooMany, e_Unknown := E_Unknown, r_NothingToUndo := R_NothingToUndo, k_BadEvent_value := EK_BadEvent_value, k_BadItem_index := EK_BadItem_index, k_BadName_value := EK_BadName_value, k_BadNote_line := EK_BadNote_line, k_BadNumber_value := EK_BadNumber_value, k_Refused_names := EK_Refused_names, k_Refused_reason := EK_Refused_reason, k_Taken_value := EK_Taken_value, k_TooMany_limit := EK_TooMany_limit, k_Unknown_value := EK_Unknown_value, is_BadEvent := IS_BadEvent, is_BadItem := IS_BadItem, is_BadName := IS_BadName, is_BadNote := IS_BadNote, is_BadNumber := IS_BadNumber, is_LookupError := IS_LookupError, is_NothingToUndo := IS_NothingToUndo, is_Refused := IS_Refused, is_RuntimeError := IS_RuntimeError, is_Taken := IS_Taken, is_TooMany := IS_TooMany, is_Unknown := IS_Unknown, is_ValueError := IS_ValueError, n_LookupError := PySem.W.mg_none_of X G z_LookupError, n_RuntimeError := PySem.W.mg_none_of X G z_RuntimeError, n_ValueError := PySem.W.mg_none_of X G z_ValueError, n_bool := PySem.W.mg_none_of X G z_bool, n_int := PySem.W.mg_none_of X G z_int, n_isinstance := PySem.W.mg_none_of X G z_isinstance, n_len := PySem.W.mg_none_of X G z_len, n_list := PySem.W.mg_none_of X G z_list, n_range := PySem.W.mg_none_of X G z_range, n_str := PySem.W.mg_none_of X G z_str, n_tuple := PySem.W.mg_none_of X G z_tuple, x_GateError := T_GateError, xg_index := XG_index, xg_limit := XG_limit, xg_line := XG_line, xg_names := XG_names, xg_reason := XG_reason, xg_value := XG_value, ok := trivial }
  have A_ulaw_taken := ok_ulaw_taken T (fun_mk (st := s_ulaw_taken) l0 c0 k0) (PySem.W.mg_of X G a_ulaw_taken)
  have A_ulaw_pick := ok_ulaw_pick T (fun_mk (st := s_ulaw_pick) l1 c1 k1) (PySem.W.mg_of X G a_ulaw_pick) A_ulaw_taken
  have A_ulaw_alike := ok_ulaw_alike T (fun_mk (st := s_ulaw_alike) l2 c2 k2) (PySem.W.mg_of X G a_ulaw_alike)
  have A_ulaw_raised := ok_ulaw_raised T (fun_mk (st := s_ulaw_raised) l3 c3 k3) (PySem.W.mg_of X G a_ulaw_raised)
  exact (ok_law T (fun_mk (st := s_law) l4 c4 k4) A_ulaw_taken A_ulaw_pick A_ulaw_raised (A_ulaw_alike 8)).imp (script_sp plain)
end DL
open PySem PySem.W PyProof.Rows in
set_option maxRecDepth 100000 in
set_option maxHeartbeats 0 in
theorem PySem.Challenge.cw_gateskept_k14_errors_holds : PySem.Challenge.rw_gateskept_k14_errors.Holds := by
  w_on; o_law; k_head; (case hw => w_witness2)
  k_fill
  refine DL.walk_script (l := PySem.Challenge.rw_gateskept_k14_errors) (k := 10) rfl rfl ⟨rfl, by decide, by decide⟩ (fun w h Y => PySem.W.kIn_of Y) ?F
  case F =>
    intro w mg fa h KX G hmg
    replace hmg : mg "law" = some (.ref fa) := hmg
    refine' DL.all_mk KX G hmg ?top0 ?p_hn0 ?p_ht0 ?p_z_LookupError ?p_z_RuntimeError ?p_z_ValueError ?p_z_bool ?p_z_int ?p_z_isinstance ?p_z_len ?p_z_list ?p_z_range ?p_z_str ?p_z_tuple ?p_z_super ?p_th ?p_g_GateError ?p_ga_GateError ?p_gg_GateError ?p_hd_GateError ?p_eC_GateError ?p_g_NothingToUndo ?p_ga_NothingToUndo ?p_gg_NothingToUndo ?p_hd_NothingToUndo ?p_eC_NothingToUndo ?p_q_NothingToUndo ?p_kC_NothingToUndo ?p_tC_NothingToUndo ?p_g_BadEvent ?p_x_BadEvent ?p_rv_BadEvent ?p_sa_BadEvent ?p_eC_BadEvent ?p_tC_BadEvent ?p_kC_BadEvent ?p_i_BadEvent ?p_tI_BadEvent ?p_l_BadEvent ?p_c_BadEvent ?p_d_BadEvent ?p_f_BadEvent ?p_h_BadEvent ?p_w_BadEvent ?p_s_BadEvent ?p_v_BadEvent ?p_r_BadEvent ?p_n_BadEvent_value ?p_ga_BadEvent ?p_gg_BadEvent ?p_hd_BadEvent ?p_g_BadItem ?p_x_BadItem ?p_rv_BadItem ?p_sa_BadItem ?p_eC_BadItem ?p_tC_BadItem ?p_kC_BadItem ?p_i_BadItem ?p_tI_BadItem ?p_l_BadItem ?p_c_BadItem ?p_d_BadItem ?p_f_BadItem ?p_h_BadItem ?p_w_BadItem ?p_s_BadItem ?p_v_BadItem ?p_r_BadItem ?p_n_BadItem_index ?p_ga_BadItem ?p_gg_BadItem ?p_hd_BadItem ?p_g_BadName ?p_x_BadName ?p_rv_BadName ?p_sa_BadName ?p_eC_BadName ?p_tC_BadName ?p_kC_BadName ?p_i_BadName ?p_tI_BadName ?p_l_BadName ?p_c_BadName ?p_d_BadName ?p_f_BadName ?p_h_BadName ?p_w_BadName ?p_s_BadName ?p_v_BadName ?p_r_BadName ?p_n_BadName_value ?p_ga_BadName ?p_gg_BadName ?p_hd_BadName ?p_g_BadNote ?p_x_BadNote ?p_rv_BadNote ?p_sa_BadNote ?p_eC_BadNote ?p_tC_BadNote ?p_kC_BadNote ?p_i_BadNote ?p_tI_BadNote ?p_l_BadNote ?p_c_BadNote ?p_d_BadNote ?p_f_BadNote ?p_h_BadNote ?p_w_BadNote ?p_s_BadNote ?p_v_BadNote ?p_r_BadNote ?p_n_BadNote_line ?p_ga_BadNote ?p_gg_BadNote ?p_hd_BadNote ?p_g_BadNumber ?p_x_BadNumber ?p_rv_BadNumber ?p_sa_BadNumber ?p_eC_BadNumber ?p_tC_BadNumber ?p_kC_BadNumber ?p_i_BadNumber ?p_tI_BadNumber ?p_l_BadNumber ?p_c_BadNumber ?p_d_BadNumber ?p_f_BadNumber ?p_h_BadNumber ?p_w_BadNumber ?p_s_BadNumber ?p_v_BadNumber ?p_r_BadNumber ?p_n_BadNumber_value ?p_ga_BadNumber ?p_gg_BadNumber ?p_hd_BadNumber ?p_g_Refused ?p_x_Refused ?p_rv_Refused ?p_sa_Refused ?p_eC_Refused ?p_tC_Refused ?p_kC_Refused ?p_i_Refused ?p_tI_Refused ?p_l_Refused ?p_c_Refused ?p_d_Refused ?p_f_Refused ?p_h_Refused ?p_w_Refused ?p_s_Refused ?p_v_Refused ?p_r_Refused ?p_n_Refused_reason ?p_n_Refused_names ?p_ga_Refused ?p_gg_Refused ?p_hd_Refused ?p_g_Taken ?p_x_Taken ?p_rv_Taken ?p_sa_Taken ?p_eC_Taken ?p_tC_Taken ?p_kC_Taken ?p_i_Taken ?p_tI_Taken ?p_l_Taken ?p_c_Taken ?p_d_Taken ?p_f_Taken ?p_h_Taken ?p_w_Taken ?p_s_Taken ?p_v_Taken ?p_r_Taken ?p_n_Taken_value ?p_ga_Taken ?p_gg_Taken ?p_hd_Taken ?p_g_TooMany ?p_x_TooMany ?p_rv_TooMany ?p_sa_TooMany ?p_eC_TooMany ?p_tC_TooMany ?p_kC_TooMany ?p_i_TooMany ?p_tI_TooMany ?p_l_TooMany ?p_c_TooMany ?p_d_TooMany ?p_f_TooMany ?p_h_TooMany ?p_w_TooMany ?p_s_TooMany ?p_v_TooMany ?p_r_TooMany ?p_n_TooMany_limit ?p_ga_TooMany ?p_gg_TooMany ?p_hd_TooMany ?p_g_Unknown ?p_x_Unknown ?p_rv_Unknown ?p_sa_Unknown ?p_eC_Unknown ?p_tC_Unknown ?p_kC_Unknown ?p_i_Unknown ?p_tI_Unknown ?p_l_Unknown ?p_c_Unknown ?p_d_Unknown ?p_f_Unknown ?p_h_Unknown ?p_w_Unknown ?p_s_Unknown ?p_v_Unknown ?p_r_Unknown ?p_n_Unknown_value ?p_ga_Unknown ?p_gg_Unknown ?p_hd_Unknown ?p_ex_BadEvent_GateError ?p_ex_BadItem_GateError ?p_ex_BadName_GateError ?p_ex_BadNote_GateError ?p_ex_BadNumber_GateError ?p_ex_NothingToUndo_GateError ?p_ex_Refused_GateError ?p_ex_Taken_GateError ?p_ex_TooMany_GateError ?p_ex_Unknown_GateError ?p_ha_BadEvent ?p_mo_BadEvent ?p_ha_BadItem ?p_mo_BadItem ?p_ha_BadName ?p_mo_BadName ?p_ha_BadNote ?p_mo_BadNote ?p_ha_BadNumber ?p_mo_BadNumber ?p_ha_NothingToUndo ?p_mo_NothingToUndo ?p_ha_Refused ?p_mo_Refused ?p_ha_Taken ?p_mo_Taken ?p_ha_TooMany ?p_mo_TooMany ?p_ha_Unknown ?p_mo_Unknown ?p_kt_BadEvent_BadEvent ?p_kt_BadItem_BadEvent ?p_kt_BadName_BadEvent ?p_kt_BadNote_BadEvent ?p_kt_BadNumber_BadEvent ?p_kt_NothingToUndo_BadEvent ?p_kt_Refused_BadEvent ?p_kt_Taken_BadEvent ?p_kt_TooMany_BadEvent ?p_kt_Unknown_BadEvent ?p_kt_BadEvent_BadItem ?p_kt_BadItem_BadItem ?p_kt_BadName_BadItem ?p_kt_BadNote_BadItem ?p_kt_BadNumber_BadItem ?p_kt_NothingToUndo_BadItem ?p_kt_Refused_BadItem ?p_kt_Taken_BadItem ?p_kt_TooMany_BadItem ?p_kt_Unknown_BadItem ?p_kt_BadEvent_BadName ?p_kt_BadItem_BadName ?p_kt_BadName_BadName ?p_kt_BadNote_BadName ?p_kt_BadNumber_BadName ?p_kt_NothingToUndo_BadName ?p_kt_Refused_BadName ?p_kt_Taken_BadName ?p_kt_TooMany_BadName ?p_kt_Unknown_BadName ?p_kt_BadEvent_BadNote ?p_kt_BadItem_BadNote ?p_kt_BadName_BadNote ?p_kt_BadNote_BadNote ?p_kt_BadNumber_BadNote ?p_kt_NothingToUndo_BadNote ?p_kt_Refused_BadNote ?p_kt_Taken_BadNote ?p_kt_TooMany_BadNote ?p_kt_Unknown_BadNote ?p_kt_BadEvent_BadNumber ?p_kt_BadItem_BadNumber ?p_kt_BadName_BadNumber ?p_kt_BadNote_BadNumber ?p_kt_BadNumber_BadNumber ?p_kt_NothingToUndo_BadNumber ?p_kt_Refused_BadNumber ?p_kt_Taken_BadNumber ?p_kt_TooMany_BadNumber ?p_kt_Unknown_BadNumber ?p_kt_BadEvent_LookupError ?p_kt_BadItem_LookupError ?p_kt_BadName_LookupError ?p_kt_BadNote_LookupError ?p_kt_BadNumber_LookupError ?p_kt_NothingToUndo_LookupError ?p_kt_Refused_LookupError ?p_kt_Taken_LookupError ?p_kt_TooMany_LookupError ?p_kt_Unknown_LookupError ?p_kt_BadEvent_NothingToUndo ?p_kt_BadItem_NothingToUndo ?p_kt_BadName_NothingToUndo ?p_kt_BadNote_NothingToUndo ?p_kt_BadNumber_NothingToUndo ?p_kt_NothingToUndo_NothingToUndo ?p_kt_Refused_NothingToUndo ?p_kt_Taken_NothingToUndo ?p_kt_TooMany_NothingToUndo ?p_kt_Unknown_NothingToUndo ?p_kt_BadEvent_Refused ?p_kt_BadItem_Refused ?p_kt_BadName_Refused ?p_kt_BadNote_Refused ?p_kt_BadNumber_Refused ?p_kt_NothingToUndo_Refused ?p_kt_Refused_Refused ?p_kt_Taken_Refused ?p_kt_TooMany_Refused ?p_kt_Unknown_Refused ?p_kt_BadEvent_RuntimeError ?p_kt_BadItem_RuntimeError ?p_kt_BadName_RuntimeError ?p_kt_BadNote_RuntimeError ?p_kt_BadNumber_RuntimeError ?p_kt_NothingToUndo_RuntimeError ?p_kt_Refused_RuntimeError ?p_kt_Taken_RuntimeError ?p_kt_TooMany_RuntimeError ?p_kt_Unknown_RuntimeError ?p_kt_BadEvent_Taken ?p_kt_BadItem_Taken ?p_kt_BadName_Taken ?p_kt_BadNote_Taken ?p_kt_BadNumber_Taken ?p_kt_NothingToUndo_Taken ?p_kt_Refused_Taken ?p_kt_Taken_Taken ?p_kt_TooMany_Taken ?p_kt_Unknown_Taken ?p_kt_BadEvent_TooMany ?p_kt_BadItem_TooMany ?p_kt_BadName_TooMany ?p_kt_BadNote_TooMany ?p_kt_BadNumber_TooMany ?p_kt_NothingToUndo_TooMany ?p_kt_Refused_TooMany ?p_kt_Taken_TooMany ?p_kt_TooMany_TooMany ?p_kt_Unknown_TooMany ?p_kt_BadEvent_Unknown ?p_kt_BadItem_Unknown ?p_kt_BadName_Unknown ?p_kt_BadNote_Unknown ?p_kt_BadNumber_Unknown ?p_kt_NothingToUndo_Unknown ?p_kt_Refused_Unknown ?p_kt_Taken_Unknown ?p_kt_TooMany_Unknown ?p_kt_Unknown_Unknown ?p_kt_BadEvent_ValueError ?p_kt_BadItem_ValueError ?p_kt_BadName_ValueError ?p_kt_BadNote_ValueError ?p_kt_BadNumber_ValueError ?p_kt_NothingToUndo_ValueError ?p_kt_Refused_ValueError ?p_kt_Taken_ValueError ?p_kt_TooMany_ValueError ?p_kt_Unknown_ValueError ?p_a_ulaw_taken ?p_l0 ?p_c0 ?p_k0 ?p_a_ulaw_pick ?p_l1 ?p_c1 ?p_k1 ?p_a_ulaw_alike ?p_l2 ?p_c2 ?p_k2 ?p_a_ulaw_raised ?p_l3 ?p_c3 ?p_k3 ?p_a_law ?p_l4 ?p_c4 ?p_k4 ?plain
    (case top0 => first | rfl | decide +kernel)
    (case p_hn0 => k_is)
    (case p_ht0 => k_is)
    (case p_z_LookupError => k_is)
    (case p_z_RuntimeError => k_is)
    (case p_z_ValueError => k_is)
    (case p_z_bool => k_is)
    (case p_z_int => k_is)
    (case p_z_isinstance => k_is)
    (case p_z_len => k_is)
    (case p_z_list => k_is)
    (case p_z_range => k_is)
    (case p_z_str => k_is)
    (case p_z_tuple => k_is)
    (case p_z_super => k_is)
    (case p_th => k_is)
    (case p_g_GateError => k_is)
    (case p_ga_GateError => k_is)
    (case p_gg_GateError => k_is)
    (case p_hd_GateError => k_is)
    (case p_eC_GateError => k_is)
    (case p_g_NothingToUndo => k_is)
    (case p_ga_NothingToUndo => k_is)
    (case p_gg_NothingToUndo => k_is)
    (case p_hd_NothingToUndo => k_is)
    (case p_eC_NothingToUndo => k_is)
    (case p_q_NothingToUndo => k_exc)
    (case p_kC_NothingToUndo => k_is)
    (case p_tC_NothingToUndo => k_is)
    (case p_g_BadEvent => k_is)
    (case p_x_BadEvent => k_is)
    (case p_rv_BadEvent => first | rfl | decide +kernel)
    (case p_sa_BadEvent => k_is)
    (case p_eC_BadEvent => k_is)
    (case p_tC_BadEvent => k_is)
    (case p_kC_BadEvent => k_is)
    (case p_i_BadEvent => k_is)
    (case p_tI_BadEvent => k_is)
    (case p_l_BadEvent => k_is)
    (case p_c_BadEvent => k_is)
    (case p_d_BadEvent => k_is)
    (case p_f_BadEvent => rfl)
    (case p_h_BadEvent => first | rfl | decide +kernel)
    (case p_w_BadEvent => k_is)
    (case p_s_BadEvent => first | ks_is | kernel_rfl | rfl)
    (case p_v_BadEvent => k_is)
    (case p_r_BadEvent => k_is)
    (case p_n_BadEvent_value => k_is)
    (case p_ga_BadEvent => k_is)
    (case p_gg_BadEvent => k_is)
    (case p_hd_BadEvent => k_is)
    (case p_g_BadItem => k_is)
    (case p_x_BadItem => k_is)
    (case p_rv_BadItem => first | rfl | decide +kernel)
    (case p_sa_BadItem => k_is)
    (case p_eC_BadItem => k_is)
    (case p_tC_BadItem => k_is)
    (case p_kC_BadItem => k_is)
    (case p_i_BadItem => k_is)
    (case p_tI_BadItem => k_is)
    (case p_l_BadItem => k_is)
    (case p_c_BadItem => k_is)
    (case p_d_BadItem => k_is)
    (case p_f_BadItem => rfl)
    (case p_h_BadItem => first | rfl | decide +kernel)
    (case p_w_BadItem => k_is)
    (case p_s_BadItem => first | ks_is | kernel_rfl | rfl)
    (case p_v_BadItem => k_is)
    (case p_r_BadItem => k_is)
    (case p_n_BadItem_index => k_is)
    (case p_ga_BadItem => k_is)
    (case p_gg_BadItem => k_is)
    (case p_hd_BadItem => k_is)
    (case p_g_BadName => k_is)
    (case p_x_BadName => k_is)
    (case p_rv_BadName => first | rfl | decide +kernel)
    (case p_sa_BadName => k_is)
    (case p_eC_BadName => k_is)
    (case p_tC_BadName => k_is)
    (case p_kC_BadName => k_is)
    (case p_i_BadName => k_is)
    (case p_tI_BadName => k_is)
    (case p_l_BadName => k_is)
    (case p_c_BadName => k_is)
    (case p_d_BadName => k_is)
    (case p_f_BadName => rfl)
    (case p_h_BadName => first | rfl | decide +kernel)
    (case p_w_BadName => k_is)
    (case p_s_BadName => first | ks_is | kernel_rfl | rfl)
    (case p_v_BadName => k_is)
    (case p_r_BadName => k_is)
    (case p_n_BadName_value => k_is)
    (case p_ga_BadName => k_is)
    (case p_gg_BadName => k_is)
    (case p_hd_BadName => k_is)
    (case p_g_BadNote => k_is)
    (case p_x_BadNote => k_is)
    (case p_rv_BadNote => first | rfl | decide +kernel)
    (case p_sa_BadNote => k_is)
    (case p_eC_BadNote => k_is)
    (case p_tC_BadNote => k_is)
    (case p_kC_BadNote => k_is)
    (case p_i_BadNote => k_is)
    (case p_tI_BadNote => k_is)
    (case p_l_BadNote => k_is)
    (case p_c_BadNote => k_is)
    (case p_d_BadNote => k_is)
    (case p_f_BadNote => rfl)
    (case p_h_BadNote => first | rfl | decide +kernel)
    (case p_w_BadNote => k_is)
    (case p_s_BadNote => first | ks_is | kernel_rfl | rfl)
    (case p_v_BadNote => k_is)
    (case p_r_BadNote => k_is)
    (case p_n_BadNote_line => k_is)
    (case p_ga_BadNote => k_is)
    (case p_gg_BadNote => k_is)
    (case p_hd_BadNote => k_is)
    (case p_g_BadNumber => k_is)
    (case p_x_BadNumber => k_is)
    (case p_rv_BadNumber => first | rfl | decide +kernel)
    (case p_sa_BadNumber => k_is)
    (case p_eC_BadNumber => k_is)
    (case p_tC_BadNumber => k_is)
    (case p_kC_BadNumber => k_is)
    (case p_i_BadNumber => k_is)
    (case p_tI_BadNumber => k_is)
    (case p_l_BadNumber => k_is)
    (case p_c_BadNumber => k_is)
    (case p_d_BadNumber => k_is)
    (case p_f_BadNumber => rfl)
    (case p_h_BadNumber => first | rfl | decide +kernel)
    (case p_w_BadNumber => k_is)
    (case p_s_BadNumber => first | ks_is | kernel_rfl | rfl)
    (case p_v_BadNumber => k_is)
    (case p_r_BadNumber => k_is)
    (case p_n_BadNumber_value => k_is)
    (case p_ga_BadNumber => k_is)
    (case p_gg_BadNumber => k_is)
    (case p_hd_BadNumber => k_is)
    (case p_g_Refused => k_is)
    (case p_x_Refused => k_is)
    (case p_rv_Refused => first | rfl | decide +kernel)
    (case p_sa_Refused => k_is)
    (case p_eC_Refused => k_is)
    (case p_tC_Refused => k_is)
    (case p_kC_Refused => k_is)
    (case p_i_Refused => k_is)
    (case p_tI_Refused => k_is)
    (case p_l_Refused => k_is)
    (case p_c_Refused => k_is)
    (case p_d_Refused => k_is)
    (case p_f_Refused => rfl)
    (case p_h_Refused => first | rfl | decide +kernel)
    (case p_w_Refused => k_is)
    (case p_s_Refused => first | ks_is | kernel_rfl | rfl)
    (case p_v_Refused => k_is)
    (case p_r_Refused => k_is)
    (case p_n_Refused_reason => k_is)
    (case p_n_Refused_names => k_is)
    (case p_ga_Refused => k_is)
    (case p_gg_Refused => k_is)
    (case p_hd_Refused => k_is)
    (case p_g_Taken => k_is)
    (case p_x_Taken => k_is)
    (case p_rv_Taken => first | rfl | decide +kernel)
    (case p_sa_Taken => k_is)
    (case p_eC_Taken => k_is)
    (case p_tC_Taken => k_is)
    (case p_kC_Taken => k_is)
    (case p_i_Taken => k_is)
    (case p_tI_Taken => k_is)
    (case p_l_Taken => k_is)
    (case p_c_Taken => k_is)
    (case p_d_Taken => k_is)
    (case p_f_Taken => rfl)
    (case p_h_Taken => first | rfl | decide +kernel)
    (case p_w_Taken => k_is)
    (case p_s_Taken => first | ks_is | kernel_rfl | rfl)
    (case p_v_Taken => k_is)
    (case p_r_Taken => k_is)
    (case p_n_Taken_value => k_is)
    (case p_ga_Taken => k_is)
    (case p_gg_Taken => k_is)
    (case p_hd_Taken => k_is)
    (case p_g_TooMany => k_is)
    (case p_x_TooMany => k_is)
    (case p_rv_TooMany => first | rfl | decide +kernel)
    (case p_sa_TooMany => k_is)
    (case p_eC_TooMany => k_is)
    (case p_tC_TooMany => k_is)
    (case p_kC_TooMany => k_is)
    (case p_i_TooMany => k_is)
    (case p_tI_TooMany => k_is)
    (case p_l_TooMany => k_is)
    (case p_c_TooMany => k_is)
    (case p_d_TooMany => k_is)
    (case p_f_TooMany => rfl)
    (case p_h_TooMany => first | rfl | decide +kernel)
    (case p_w_TooMany => k_is)
    (case p_s_TooMany => first | ks_is | kernel_rfl | rfl)
    (case p_v_TooMany => k_is)
    (case p_r_TooMany => k_is)
    (case p_n_TooMany_limit => k_is)
    (case p_ga_TooMany => k_is)
    (case p_gg_TooMany => k_is)
    (case p_hd_TooMany => k_is)
    (case p_g_Unknown => k_is)
    (case p_x_Unknown => k_is)
    (case p_rv_Unknown => first | rfl | decide +kernel)
    (case p_sa_Unknown => k_is)
    (case p_eC_Unknown => k_is)
    (case p_tC_Unknown => k_is)
    (case p_kC_Unknown => k_is)
    (case p_i_Unknown => k_is)
    (case p_tI_Unknown => k_is)
    (case p_l_Unknown => k_is)
    (case p_c_Unknown => k_is)
    (case p_d_Unknown => k_is)
    (case p_f_Unknown => rfl)
    (case p_h_Unknown => first | rfl | decide +kernel)
    (case p_w_Unknown => k_is)
    (case p_s_Unknown => first | ks_is | kernel_rfl | rfl)
    (case p_v_Unknown => k_is)
    (case p_r_Unknown => k_is)
    (case p_n_Unknown_value => k_is)
    (case p_ga_Unknown => k_is)
    (case p_gg_Unknown => k_is)
    (case p_hd_Unknown => k_is)
    (case p_ex_BadEvent_GateError => first | k_is | rfl | kernel_rfl)
    (case p_ex_BadItem_GateError => first | k_is | rfl | kernel_rfl)
    (case p_ex_BadName_GateError => first | k_is | rfl | kernel_rfl)
    (case p_ex_BadNote_GateError => first | k_is | rfl | kernel_rfl)
    (case p_ex_BadNumber_GateError => first | k_is | rfl | kernel_rfl)
    (case p_ex_NothingToUndo_GateError => first | k_is | rfl | kernel_rfl)
    (case p_ex_Refused_GateError => first | k_is | rfl | kernel_rfl)
    (case p_ex_Taken_GateError => first | k_is | rfl | kernel_rfl)
    (case p_ex_TooMany_GateError => first | k_is | rfl | kernel_rfl)
    (case p_ex_Unknown_GateError => first | k_is | rfl | kernel_rfl)
    (case p_ha_BadEvent => k_is)
    (case p_mo_BadEvent => k_is)
    (case p_ha_BadItem => k_is)
    (case p_mo_BadItem => k_is)
    (case p_ha_BadName => k_is)
    (case p_mo_BadName => k_is)
    (case p_ha_BadNote => k_is)
    (case p_mo_BadNote => k_is)
    (case p_ha_BadNumber => k_is)
    (case p_mo_BadNumber => k_is)
    (case p_ha_NothingToUndo => k_is)
    (case p_mo_NothingToUndo => k_is)
    (case p_ha_Refused => k_is)
    (case p_mo_Refused => k_is)
    (case p_ha_Taken => k_is)
    (case p_mo_Taken => k_is)
    (case p_ha_TooMany => k_is)
    (case p_mo_TooMany => k_is)
    (case p_ha_Unknown => k_is)
    (case p_mo_Unknown => k_is)
    (case p_kt_BadEvent_BadEvent => first | k_is | rfl | kernel_rfl)
    (case p_kt_BadItem_BadEvent => first | k_is | rfl | kernel_rfl)
    (case p_kt_BadName_BadEvent => first | k_is | rfl | kernel_rfl)
    (case p_kt_BadNote_BadEvent => first | k_is | rfl | kernel_rfl)
    (case p_kt_BadNumber_BadEvent => first | k_is | rfl | kernel_rfl)
    (case p_kt_NothingToUndo_BadEvent => first | k_is | rfl | kernel_rfl)
    (case p_kt_Refused_BadEvent => first | k_is | rfl | kernel_rfl)
    (case p_kt_Taken_BadEvent => first | k_is | rfl | kernel_rfl)
    (case p_kt_TooMany_BadEvent => first | k_is | rfl | kernel_rfl)
    (case p_kt_Unknown_BadEvent => first | k_is | rfl | kernel_rfl)
    (case p_kt_BadEvent_BadItem => first | k_is | rfl | kernel_rfl)
    (case p_kt_BadItem_BadItem => first | k_is | rfl | kernel_rfl)
    (case p_kt_BadName_BadItem => first | k_is | rfl | kernel_rfl)
    (case p_kt_BadNote_BadItem => first | k_is | rfl | kernel_rfl)
    (case p_kt_BadNumber_BadItem => first | k_is | rfl | kernel_rfl)
    (case p_kt_NothingToUndo_BadItem => first | k_is | rfl | kernel_rfl)
    (case p_kt_Refused_BadItem => first | k_is | rfl | kernel_rfl)
    (case p_kt_Taken_BadItem => first | k_is | rfl | kernel_rfl)
    (case p_kt_TooMany_BadItem => first | k_is | rfl | kernel_rfl)
    (case p_kt_Unknown_BadItem => first | k_is | rfl | kernel_rfl)
    (case p_kt_BadEvent_BadName => first | k_is | rfl | kernel_rfl)
    (case p_kt_BadItem_BadName => first | k_is | rfl | kernel_rfl)
    (case p_kt_BadName_BadName => first | k_is | rfl | kernel_rfl)
    (case p_kt_BadNote_BadName => first | k_is | rfl | kernel_rfl)
    (case p_kt_BadNumber_BadName => first | k_is | rfl | kernel_rfl)
    (case p_kt_NothingToUndo_BadName => first | k_is | rfl | kernel_rfl)
    (case p_kt_Refused_BadName => first | k_is | rfl | kernel_rfl)
    (case p_kt_Taken_BadName => first | k_is | rfl | kernel_rfl)
    (case p_kt_TooMany_BadName => first | k_is | rfl | kernel_rfl)
    (case p_kt_Unknown_BadName => first | k_is | rfl | kernel_rfl)
    (case p_kt_BadEvent_BadNote => first | k_is | rfl | kernel_rfl)
    (case p_kt_BadItem_BadNote => first | k_is | rfl | kernel_rfl)
    (case p_kt_BadName_BadNote => first | k_is | rfl | kernel_rfl)
    (case p_kt_BadNote_BadNote => first | k_is | rfl | kernel_rfl)
    (case p_kt_BadNumber_BadNote => first | k_is | rfl | kernel_rfl)
    (case p_kt_NothingToUndo_BadNote => first | k_is | rfl | kernel_rfl)
    (case p_kt_Refused_BadNote => first | k_is | rfl | kernel_rfl)
    (case p_kt_Taken_BadNote => first | k_is | rfl | kernel_rfl)
    (case p_kt_TooMany_BadNote => first | k_is | rfl | kernel_rfl)
    (case p_kt_Unknown_BadNote => first | k_is | rfl | kernel_rfl)
    (case p_kt_BadEvent_BadNumber => first | k_is | rfl | kernel_rfl)
    (case p_kt_BadItem_BadNumber => first | k_is | rfl | kernel_rfl)
    (case p_kt_BadName_BadNumber => first | k_is | rfl | kernel_rfl)
    (case p_kt_BadNote_BadNumber => first | k_is | rfl | kernel_rfl)
    (case p_kt_BadNumber_BadNumber => first | k_is | rfl | kernel_rfl)
    (case p_kt_NothingToUndo_BadNumber => first | k_is | rfl | kernel_rfl)
    (case p_kt_Refused_BadNumber => first | k_is | rfl | kernel_rfl)
    (case p_kt_Taken_BadNumber => first | k_is | rfl | kernel_rfl)
    (case p_kt_TooMany_BadNumber => first | k_is | rfl | kernel_rfl)
    (case p_kt_Unknown_BadNumber => first | k_is | rfl | kernel_rfl)
    (case p_kt_BadEvent_LookupError => first | k_is | rfl | kernel_rfl)
    (case p_kt_BadItem_LookupError => first | k_is | rfl | kernel_rfl)
    (case p_kt_BadName_LookupError => first | k_is | rfl | kernel_rfl)
    (case p_kt_BadNote_LookupError => first | k_is | rfl | kernel_rfl)
    (case p_kt_BadNumber_LookupError => first | k_is | rfl | kernel_rfl)
    (case p_kt_NothingToUndo_LookupError => first | k_is | rfl | kernel_rfl)
    (case p_kt_Refused_LookupError => first | k_is | rfl | kernel_rfl)
    (case p_kt_Taken_LookupError => first | k_is | rfl | kernel_rfl)
    (case p_kt_TooMany_LookupError => first | k_is | rfl | kernel_rfl)
    (case p_kt_Unknown_LookupError => first | k_is | rfl | kernel_rfl)
    (case p_kt_BadEvent_NothingToUndo => first | k_is | rfl | kernel_rfl)
    (case p_kt_BadItem_NothingToUndo => first | k_is | rfl | kernel_rfl)
    (case p_kt_BadName_NothingToUndo => first | k_is | rfl | kernel_rfl)
    (case p_kt_BadNote_NothingToUndo => first | k_is | rfl | kernel_rfl)
    (case p_kt_BadNumber_NothingToUndo => first | k_is | rfl | kernel_rfl)
    (case p_kt_NothingToUndo_NothingToUndo => first | k_is | rfl | kernel_rfl)
    (case p_kt_Refused_NothingToUndo => first | k_is | rfl | kernel_rfl)
    (case p_kt_Taken_NothingToUndo => first | k_is | rfl | kernel_rfl)
    (case p_kt_TooMany_NothingToUndo => first | k_is | rfl | kernel_rfl)
    (case p_kt_Unknown_NothingToUndo => first | k_is | rfl | kernel_rfl)
    (case p_kt_BadEvent_Refused => first | k_is | rfl | kernel_rfl)
    (case p_kt_BadItem_Refused => first | k_is | rfl | kernel_rfl)
    (case p_kt_BadName_Refused => first | k_is | rfl | kernel_rfl)
    (case p_kt_BadNote_Refused => first | k_is | rfl | kernel_rfl)
    (case p_kt_BadNumber_Refused => first | k_is | rfl | kernel_rfl)
    (case p_kt_NothingToUndo_Refused => first | k_is | rfl | kernel_rfl)
    (case p_kt_Refused_Refused => first | k_is | rfl | kernel_rfl)
    (case p_kt_Taken_Refused => first | k_is | rfl | kernel_rfl)
    (case p_kt_TooMany_Refused => first | k_is | rfl | kernel_rfl)
    (case p_kt_Unknown_Refused => first | k_is | rfl | kernel_rfl)
    (case p_kt_BadEvent_RuntimeError => first | k_is | rfl | kernel_rfl)
    (case p_kt_BadItem_RuntimeError => first | k_is | rfl | kernel_rfl)
    (case p_kt_BadName_RuntimeError => first | k_is | rfl | kernel_rfl)
    (case p_kt_BadNote_RuntimeError => first | k_is | rfl | kernel_rfl)
    (case p_kt_BadNumber_RuntimeError => first | k_is | rfl | kernel_rfl)
    (case p_kt_NothingToUndo_RuntimeError => first | k_is | rfl | kernel_rfl)
    (case p_kt_Refused_RuntimeError => first | k_is | rfl | kernel_rfl)
    (case p_kt_Taken_RuntimeError => first | k_is | rfl | kernel_rfl)
    (case p_kt_TooMany_RuntimeError => first | k_is | rfl | kernel_rfl)
    (case p_kt_Unknown_RuntimeError => first | k_is | rfl | kernel_rfl)
    (case p_kt_BadEvent_Taken => first | k_is | rfl | kernel_rfl)
    (case p_kt_BadItem_Taken => first | k_is | rfl | kernel_rfl)
    (case p_kt_BadName_Taken => first | k_is | rfl | kernel_rfl)
    (case p_kt_BadNote_Taken => first | k_is | rfl | kernel_rfl)
    (case p_kt_BadNumber_Taken => first | k_is | rfl | kernel_rfl)
    (case p_kt_NothingToUndo_Taken => first | k_is | rfl | kernel_rfl)
    (case p_kt_Refused_Taken => first | k_is | rfl | kernel_rfl)
    (case p_kt_Taken_Taken => first | k_is | rfl | kernel_rfl)
    (case p_kt_TooMany_Taken => first | k_is | rfl | kernel_rfl)
    (case p_kt_Unknown_Taken => first | k_is | rfl | kernel_rfl)
    (case p_kt_BadEvent_TooMany => first | k_is | rfl | kernel_rfl)
    (case p_kt_BadItem_TooMany => first | k_is | rfl | kernel_rfl)
    (case p_kt_BadName_TooMany => first | k_is | rfl | kernel_rfl)
    (case p_kt_BadNote_TooMany => first | k_is | rfl | kernel_rfl)
    (case p_kt_BadNumber_TooMany => first | k_is | rfl | kernel_rfl)
    (case p_kt_NothingToUndo_TooMany => first | k_is | rfl | kernel_rfl)
    (case p_kt_Refused_TooMany => first | k_is | rfl | kernel_rfl)
    (case p_kt_Taken_TooMany => first | k_is | rfl | kernel_rfl)
    (case p_kt_TooMany_TooMany => first | k_is | rfl | kernel_rfl)
    (case p_kt_Unknown_TooMany => first | k_is | rfl | kernel_rfl)
    (case p_kt_BadEvent_Unknown => first | k_is | rfl | kernel_rfl)
    (case p_kt_BadItem_Unknown => first | k_is | rfl | kernel_rfl)
    (case p_kt_BadName_Unknown => first | k_is | rfl | kernel_rfl)
    (case p_kt_BadNote_Unknown => first | k_is | rfl | kernel_rfl)
    (case p_kt_BadNumber_Unknown => first | k_is | rfl | kernel_rfl)
    (case p_kt_NothingToUndo_Unknown => first | k_is | rfl | kernel_rfl)
    (case p_kt_Refused_Unknown => first | k_is | rfl | kernel_rfl)
    (case p_kt_Taken_Unknown => first | k_is | rfl | kernel_rfl)
    (case p_kt_TooMany_Unknown => first | k_is | rfl | kernel_rfl)
    (case p_kt_Unknown_Unknown => first | k_is | rfl | kernel_rfl)
    (case p_kt_BadEvent_ValueError => first | k_is | rfl | kernel_rfl)
    (case p_kt_BadItem_ValueError => first | k_is | rfl | kernel_rfl)
    (case p_kt_BadName_ValueError => first | k_is | rfl | kernel_rfl)
    (case p_kt_BadNote_ValueError => first | k_is | rfl | kernel_rfl)
    (case p_kt_BadNumber_ValueError => first | k_is | rfl | kernel_rfl)
    (case p_kt_NothingToUndo_ValueError => first | k_is | rfl | kernel_rfl)
    (case p_kt_Refused_ValueError => first | k_is | rfl | kernel_rfl)
    (case p_kt_Taken_ValueError => first | k_is | rfl | kernel_rfl)
    (case p_kt_TooMany_ValueError => first | k_is | rfl | kernel_rfl)
    (case p_kt_Unknown_ValueError => first | k_is | rfl | kernel_rfl)
    (case p_a_ulaw_taken => k_is)
    (case p_l0 => k_is)
    (case p_c0 => k_is)
    (case p_k0 => k_is)
    (case p_a_ulaw_pick => k_is)
    (case p_l1 => k_is)
    (case p_c1 => k_is)
    (case p_k1 => k_is)
    (case p_a_ulaw_alike => k_is)
    (case p_l2 => k_is)
    (case p_c2 => k_is)
    (case p_k2 => k_is)
    (case p_a_ulaw_raised => k_is)
    (case p_l3 => k_is)
    (case p_c3 => k_is)
    (case p_k3 => k_is)
    (case p_a_law => k_is)
    (case p_l4 => k_is)
    (case p_c4 => k_is)
    (case p_k4 => k_is)
    (case plain => exact DL.law_plain)
