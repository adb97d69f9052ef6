import PyProof.Rows.All
import HandS.ForMost
import HandS.ForExc
import HandS.CallSlots
import HandS.TryMany
import HandS.ExcInit
import HandS.ExcField
import HandS.IsInst
import HandS.Flow
import HandS.TupAny
import HandS.TupMul
import HandS.Deep
import HandS.DeepEq
import HandS.NoneIn
import HandS.Sort
import HandS.Zip
import KE.GoesEnum
import HandS.MakeKwOnly
import KE.KExcSuper
import HandS.Style
import HandS.RaiseMore
import PySem.Challenge.RW_gateskept_k01_whole_stays
set_option Elab.async false
set_option linter.all false
set_option maxRecDepth 100000
set_option maxHeartbeats 4000000
namespace DL
open PySem L2
inductive D where
  | non | bl (b : Bool) | int (i : Int) | str (s : Str)
  | tup (l : List D) | lst (l : List D)
  | obj (c : Str) (ns : List Str) (l : List D)
  | fn (n : Str)
  /-- a list that nobody changes: the script -/
  | scr (l : List D)
/-- an error: its class, its fields -/
structure Ex where
  c : Str
  ns : List Str
  l : List D
/-- what a name of a def holds: nothing; a value; a list of its own; a dict of its own; an instance of its own; a caught error -/
inductive Slot where
  | no | val (d : D) | own (l : List D) | dic (ks vs : List D) | inst (c : Str) (ns : List Str) (l : List D) | ex (e : Ex)
abbrev Ev := List Slot
inductive Out (α : Type) where
  | ok (a : α) (ρ : Ev) | exc (e : Ex) (ρ : Ev) | bad
abbrev M (α : Type) := Ev → Out α
def M.ret {α} (a : α) : M α := fun ρ => .ok a ρ
def M.bnd {α β} (m : M α) (f : α → M β) : M β := fun ρ => match m ρ with
  | .ok a ρ' => f a ρ'
  | .exc e ρ' => .exc e ρ'
  | .bad => .bad
theorem bnd_ok {α β} {m : M α} {f : α → M β} {ρ ρ' : Ev} {a : α} (h : m ρ = .ok a ρ') : M.bnd m f ρ = f a ρ' := by unfold M.bnd; rw [h]
theorem bnd_exc {α β} {m : M α} {f : α → M β} {ρ ρ' : Ev} {e : Ex} (h : m ρ = .exc e ρ') : M.bnd m f ρ = .exc e ρ' := by unfold M.bnd; rw [h]
theorem bnd_bad {α β} {m : M α} {f : α → M β} {ρ : Ev} (h : m ρ = .bad) : M.bnd m f ρ = .bad := by unfold M.bnd; rw [h]
def M.opt {α} : Option α → M α
  | some a => fun ρ => .ok a ρ
  | none => fun _ => .bad
inductive SOut where
  | nx (ρ : Ev) | rt (d : D) (ρ : Ev) | bk (ρ : Ev) | ct (ρ : Ev) | exc (e : Ex) (ρ : Ev) | bad
abbrev S := Ev → SOut
mutual
def Rep (K : PySem.W.Frag) (mg : Str → Option Value) (F : Hp) : D → V → Prop
  | .non, v => v = .non
  | .bl b, v => v = .bl b
  | .int i, v => v = .int i
  | .str s, v => v = .str s
  | .fn n, v => ∃ a, v = .ref a ∧ mg n = some (.ref a)
  | .tup l, v => ∃ a xs, v = .ref a ∧ SqT K F a xs ∧ Reps K mg F l xs
  | .lst l, v => ∃ a xs, v = .ref a ∧ F a = some (.lst xs) ∧ Reps K mg F l xs
  | .scr l, v => ∃ a xs, v = .ref a ∧ SqL K F a xs ∧ Reps K mg F l xs
  | .obj c ns l, v => ∃ a C dx fvs, v = .ref a ∧ mg c = some (.ref C) ∧ F a = some (.ins C dx (ns.zip fvs)) ∧ ns.length = fvs.length ∧ Reps K mg F l fvs
def Reps (K : PySem.W.Frag) (mg : Str → Option Value) (F : Hp) : List D → List V → Prop
  | [], vs => vs = []
  | d :: ds, vs => ∃ v r, vs = v :: r ∧ Rep K mg F d v ∧ Reps K mg F ds r
end
section
variable {K : PySem.W.Frag} {mg : Str → Option Value} {F F' : Hp}
theorem Rd.mono {a : Addr} {u : HO} (s : Same F F') (h : Rd F a u) : Rd F' a u := h.elim (fun h => .inl (s _ _ h)) fun ⟨o, h⟩ => .inr ⟨o, s _ _ h⟩
theorem SqL.mono {a : Addr} {xs : List V} (s : Same F F') (h : SqL K F a xs) : SqL K F' a xs := h.elim (fun h => .inl (Rd.mono s h)) .inr
theorem SqT.mono {a : Addr} {xs : List V} (s : Same F F') (h : SqT K F a xs) : SqT K F' a xs := h.elim (fun h => .inl (Rd.mono s h)) .inr
mutual
theorem Rep.mono (s : Same F F') : ∀ (d : D) (v : V), Rep K mg F d v → Rep K mg F' d v
  | .non, _, h => h
  | .bl _, _, h => h
  | .int _, _, h => h
  | .str _, _, h => h
  | .fn _, _, h => h
  | .tup l, _, ⟨a, xs, e, q, r⟩ => ⟨a, xs, e, SqT.mono s q, Reps.mono s l xs r⟩
  | .lst l, _, ⟨a, xs, e, q, r⟩ => ⟨a, xs, e, s _ _ q, Reps.mono s l xs r⟩
  | .scr l, _, ⟨a, xs, e, q, r⟩ => ⟨a, xs, e, SqL.mono s q, Reps.mono s l xs r⟩
  | .obj _ _ l, _, ⟨a, C, dx, fvs, e, m, q, n, r⟩ => ⟨a, C, dx, fvs, e, m, s _ _ q, n, Reps.mono s l fvs r⟩
theorem Reps.mono (s : Same F F') : ∀ (ds : List D) (vs : List V), Reps K mg F ds vs → Reps K mg F' ds vs
  | [], _, h => h
  | d :: ds, _, ⟨v, r, e, h, t⟩ => ⟨v, r, e, Rep.mono s d v h, Reps.mono s ds r t⟩
end
theorem Reps.nil : Reps K mg F [] [] := rfl
theorem Reps.cons {d : D} {ds : List D} {v : V} {vs : List V} (h : Rep K mg F d v) (t : Reps K mg F ds vs) : Reps K mg F (d :: ds) (v :: vs) := ⟨v, vs, rfl, h, t⟩
theorem Reps.length : ∀ {ds : List D} {vs : List V}, Reps K mg F ds vs → ds.length = vs.length
  | [], _, h => by rw [show _ = [] from h]; rfl
  | d :: ds, _, ⟨v, r, e, h, t⟩ => by subst e; simp [Reps.length t]
theorem Reps.get : ∀ {ds : List D} {vs : List V} {i : Nat} {d : D}, Reps K mg F ds vs → ds[i]? = some d → ∃ v, vs[i]? = some v ∧ Rep K mg F d v
  | [], _, i, d, h, e => by simp at e
  | d' :: ds, _, 0, d, ⟨v, r, e1, h, t⟩, e => by
    subst e1
    simp at e
    subst e
    exact ⟨v, by simp, h⟩
  | d' :: ds, _, i + 1, d, ⟨v, r, e1, h, t⟩, e => by
    subst e1
    obtain ⟨w, h1, h2⟩ := Reps.get (i := i) t (by simpa using e)
    exact ⟨w, by simpa using h1, h2⟩
theorem Reps.getV : ∀ {ds : List D} {vs : List V} {i : Nat} {v : V}, Reps K mg F ds vs → vs[i]? = some v → ∃ d, ds[i]? = some d ∧ Rep K mg F d v := fun {ds vs i v} r e => by
  have hl := r.length
  have hi : i < vs.length := (List.getElem?_eq_some_iff.mp e).1
  have hd : ds[i]? = some ds[i] := by simp [hl, hi]
  obtain ⟨w, h1, h2⟩ := r.get hd
  rw [e] at h1
  cases h1
  exact ⟨_, hd, h2⟩
theorem Reps.append : ∀ {ds es : List D} {vs ws : List V}, Reps K mg F ds vs → Reps K mg F es ws → Reps K mg F (ds ++ es) (vs ++ ws)
  | [], _, _, _, h, t => by rw [show _ = [] from h]; exact t
  | d :: ds, _, _, _, ⟨v, r, e, h, t⟩, u => by subst e; exact ⟨v, _, rfl, h, t.append u⟩
theorem Reps.set : ∀ {ds : List D} {vs : List V} (i : Nat) {d : D} {v : V}, Reps K mg F ds vs → Rep K mg F d v → Reps K mg F (ds.set i d) (vs.set i v)
  | [], _, i, d, v, h, r => by rw [show _ = [] from h]; exact rfl
  | e :: ds, _, 0, d, v, ⟨w, r, e1, h, t⟩, q => by subst e1; exact ⟨v, r, rfl, q, t⟩
  | e :: ds, _, i + 1, d, v, ⟨w, r, e1, h, t⟩, q => by subst e1; exact ⟨w, _, rfl, h, t.set i q⟩
theorem Reps.take : ∀ {ds : List D} {vs : List V} (i : Nat), Reps K mg F ds vs → Reps K mg F (ds.take i) (vs.take i)
  | _, _, 0, _ => rfl
  | [], _, i + 1, h => by rw [show _ = [] from h]; exact rfl
  | e :: ds, _, i + 1, ⟨w, r, e1, h, t⟩ => by subst e1; exact ⟨w, _, rfl, h, t.take i⟩
theorem Reps.drop : ∀ {ds : List D} {vs : List V} (i : Nat), Reps K mg F ds vs → Reps K mg F (ds.drop i) (vs.drop i)
  | _, _, 0, h => h
  | [], _, i + 1, h => by rw [show _ = [] from h]; exact rfl
  | e :: ds, _, i + 1, ⟨w, r, e1, h, t⟩ => by subst e1; exact t.drop i
end
/-- the heap without the objects at A -/
def off (A : List Addr) (H : Hp) : Hp := fun a => if a ∈ A then none else H a
theorem off_same {A : List Addr} {H H' : Hp} (s : ∀ a o, a ∉ A → H a = some o → H' a = some o) : Same (off A H) (off A H') := fun b o h => by
  unfold off at h ⊢
  split at h
  · cases h
  · rename_i hb
    rw [if_neg hb]
    exact s b o hb h
theorem off_Same {A : List Addr} {H H' : Hp} (s : Same H H') : Same (off A H) (off A H') := off_same fun a o _ h => s a o h
theorem off_sub {A B : List Addr} {H : Hp} (s : ∀ a ∈ B, a ∈ A) : Same (off A H) (off B H) := fun b o h => by
  unfold off at h ⊢
  split at h
  · cases h
  · rename_i hb
    rw [if_neg fun z => hb (s b z)]
    exact h
theorem off_le {A : List Addr} {H : Hp} : Same (off A H) H := fun b o h => by
  unfold off at h
  split at h
  · cases h
  · exact h
theorem off_at {A : List Addr} {H : Hp} {a : Addr} {o : HO} (h : H a = some o) (n : a ∉ A) : off A H a = some o := by
  unfold off
  rw [if_neg n]
  exact h
/-- what is fixed while a def runs: the heap at the entry, the objects that callers may change, those that this def may change, where its parameters hold them, how many parameters; the caught error and its dict -/
structure Wd where
  G : Hp
  B : List Addr
  pa : List (Nat × Addr)
  np : Nat
  xx : Addr × Option Addr × Value
/-- the objects that this def may change -/
def Wd.Op (w : Wd) : List Addr := w.pa.map (·.2)
def Slot.isOwn : Slot → Bool
  | .own _ => true
  | .dic _ _ => true
  | .inst _ _ _ => true
  | _ => false
def Slot.has : Slot → Bool
  | .no => false
  | _ => true
def kD : Key → D
  | .inl i => .int i
  | .inr s => .str s
/-- an error, as it lies behind a raise -/
def ExR (K : PySem.W.Frag) (mg : Str → Option Value) (A : List Addr) (H : Hp) (e : Ex) (c : Value) (dd : Option Addr) : Prop :=
  ∃ C, c = .ref C ∧ mg e.c = some (.ref C) ∧ ((e.ns = [] ∧ dd = none) ∨ ∃ d fs, dd = some d ∧ H d = some (.xd fs) ∧ d ∉ A ∧ ∀ (i : Nat) n x, e.ns[i]? = some n → e.l[i]? = some x → ∃ v, fs.lookup n = some v ∧ Rep K mg (off A H) x v)
theorem ExR.to {K : PySem.W.Frag} {mg : Str → Option Value} {A A' : List Addr} {H H' : Hp} {e : Ex} {c : Value} {dd : Option Addr} (sm : Same (off A H) (off A' H')) : ExR K mg A H e c dd → ExR K mg A' H' e c dd := fun ⟨C, e1, e2, z⟩ =>
  ⟨C, e1, e2, z.imp id fun ⟨d, fs, h1, h2, h3, h4⟩ => by
    have q := sm _ _ (off_at h2 h3)
    have q2 : d ∉ A' := fun m => by
      unfold off at q
      rw [if_pos m] at q
      cases q
    exact ⟨d, fs, h1, off_le _ _ q, q2, fun i n x g1 g2 => let ⟨v, r1, r2⟩ := h4 i n x g1 g2; ⟨v, r1, r2.mono sm⟩⟩⟩
def SlotR (K : PySem.W.Frag) (mg : Str → Option Value) (xx : Addr × Option Addr × Value) (A : List Addr) (H : Hp) : Slot → Option V → Prop
  | .no, _ => True
  | .val d, o => ∃ v, o = some v ∧ Rep K mg (off A H) d v
  | .own l, o => ∃ a vs, o = some (.ref a) ∧ a ∈ A ∧ H a = some (.lst vs) ∧ Reps K mg (off A H) l vs
  | .dic ks vs, o => ∃ a kvs, o = some (.ref a) ∧ a ∈ A ∧ H a = some (.dK kvs) ∧ ks = kvs.map (fun p => kD p.1) ∧ Reps K mg (off A H) vs (kvs.map (·.2))
  | .inst c ns l, o => ∃ a C dx fvs, o = some (.ref a) ∧ a ∈ A ∧ mg c = some (.ref C) ∧ H a = some (.ins C dx (ns.zip fvs)) ∧ ns.length = fvs.length ∧ Reps K mg (off A H) l fvs
  | .ex e, o => o = some (.ref xx.1) ∧ ExR K mg A H e xx.2.2 xx.2.1
structure SR (K : PySem.W.Frag) (mg : Str → Option Value) (w : Wd) (A : List Addr) (ρ : Ev) (σ : St) (H : Hp) : Prop where
  len : ρ.length = σ.length
  slots : ∀ (i : Nat) s o, ρ[i]? = some s → σ[i]? = some o → SlotR K mg w.xx A H s o
  dist : ∀ (i j : Nat) s t a, ρ[i]? = some s → ρ[j]? = some t → s.isOwn = true → t.isOwn = true → σ[i]? = some (some (.ref a)) → σ[j]? = some (some (.ref a)) → i = j
  sub : ∀ a ∈ w.B, a ∈ A
  trk : ∀ a ∈ A, H a ≠ none
  frame : ∀ a o, w.G a = some o → a ∉ w.Op → H a = some o
  mine : ∀ (i : Nat) s a, ρ[i]? = some s → s.isOwn = true → σ[i]? = some (some (.ref a)) → a ∈ w.Op ∨ (w.G a = none ∧ a ∉ w.B)
  opB : ∀ a ∈ w.Op, a ∈ w.B
  par : ∀ p ∈ w.pa, p.1 < w.np ∧ σ[p.1]? = some (some (.ref p.2)) ∧ ∃ s, ρ[p.1]? = some s ∧ s.isOwn = true
section
variable {K : PySem.W.Frag} {mg : Str → Option Value} {w : Wd} {A : List Addr} {ρ : Ev} {σ : St} {H H' : Hp}
theorem SlotR.same {xx : Addr × Option Addr × Value} (sm : Same H H') : ∀ {s : Slot} {o : Option V}, SlotR K mg xx A H s o → SlotR K mg xx A H' s o
  | .no, _, _ => trivial
  | .val d, _, ⟨v, e, r⟩ => ⟨v, e, r.mono (off_Same sm)⟩
  | .own l, _, ⟨a, vs, e, m, h, r⟩ => ⟨a, vs, e, m, sm _ _ h, r.mono (off_Same sm)⟩
  | .dic _ _, _, ⟨a, kvs, e, m, h, k, r⟩ => ⟨a, kvs, e, m, sm _ _ h, k, r.mono (off_Same sm)⟩
  | .inst _ _ _, _, ⟨a, C, dx, fvs, e, m, c, h, n, r⟩ => ⟨a, C, dx, fvs, e, m, c, sm _ _ h, n, r.mono (off_Same sm)⟩
  | .ex _, _, ⟨e, r⟩ => ⟨e, r.to (off_Same sm)⟩
theorem SR.same (sm : Same H H') (R : SR K mg w A ρ σ H) : SR K mg w A ρ σ H' :=
  { len := R.len, slots := fun i s o h1 h2 => (R.slots i s o h1 h2).same sm, dist := R.dist, sub := R.sub, mine := R.mine, opB := R.opB, par := R.par
    frame := fun a o h n => sm _ _ (R.frame a o h n)
    trk := fun a ha z => by
      cases e : H a with
      | none => exact R.trk a ha e
      | some o => rw [sm _ _ e] at z; cases z }
theorem same_upd {a : Addr} {o : HO} (n : H a = none) : Same H (upd H a o) := fun b u h => by rw [upd_ne (ne_of_none h n)]; exact h
theorem SR.new {a : Addr} {o : HO} (R : SR K mg w A ρ σ H) (n : H a = none) : SR K mg w A ρ σ (upd H a o) := R.same (same_upd n)
theorem SR.notA {a : Addr} (R : SR K mg w A ρ σ H) (n : H a = none) : a ∉ A := fun z => R.trk a z n
/-- a slot's value -/
theorem SR.val {i : Nat} {d : D} (R : SR K mg w A ρ σ H) (h : ρ[i]? = some (.val d)) : ∃ v, σ[i]? = some (some v) ∧ Rep K mg (off A H) d v := by
  have hi : i < σ.length := by rw [← R.len]; exact (List.getElem?_eq_some_iff.mp h).1
  have e : σ[i]? = some σ[i] := by simp [hi]
  obtain ⟨v, e1, r⟩ := R.slots i _ _ h e
  rw [e1] at e
  exact ⟨v, e, r⟩
theorem SR.at' {i : Nat} {s : Slot} (R : SR K mg w A ρ σ H) (h : ρ[i]? = some s) : ∃ o, σ[i]? = some o ∧ SlotR K mg w.xx A H s o := by
  have hi : i < σ.length := by rw [← R.len]; exact (List.getElem?_eq_some_iff.mp h).1
  have e : σ[i]? = some σ[i] := by simp [hi]
  exact ⟨_, e, R.slots i _ _ h e⟩
end
theorem SlotR.exi {K : PySem.W.Frag} {mg : Str → Option Value} {xx : Addr × Option Addr × Value} {A : List Addr} {H : Hp} : ∀ {s : Slot} {o : Option V}, SlotR K mg xx A H s o → s.has = true → ∃ v, o = some v
  | .no, _, _, h => by cases h
  | .val _, _, ⟨v, e, _⟩, _ => ⟨v, e⟩
  | .own _, _, ⟨_, _, e, _⟩, _ => ⟨_, e⟩
  | .dic _ _, _, ⟨_, _, e, _⟩, _ => ⟨_, e⟩
  | .inst _ _ _, _, ⟨_, _, _, _, e, _⟩, _ => ⟨_, e⟩
  | .ex _, _, ⟨e, _⟩, _ => ⟨_, e⟩
theorem SR.has {K : PySem.W.Frag} {mg : Str → Option Value} {w : Wd} {A : List Addr} {ρ : Ev} {σ : St} {H : Hp} {i : Nat} {s : Slot} (R : SR K mg w A ρ σ H) (h : ρ[i]? = some s) (hh : s.has = true) : ∃ v, σ[i]? = some (some v) := by
  obtain ⟨o, e, r⟩ := R.at' h
  obtain ⟨v, e1⟩ := r.exi hh
  exact ⟨v, e1 ▸ e⟩
/-- what is wished for of an exception; in an except suite: which error is caught -/
structure WZ where
  x : WX
  Z : Wd → Prop
instance : CoeFun WZ fun _ => Value → Option Addr → St → Hp → Prop := ⟨WZ.x⟩
abbrev WS (W : WZ) := { w : Wd // W.Z w }
structure TakesZ (X : Cx) (W : WZ) : Prop where
  t : Takes X W.x
  z : X.calm = false → ∀ w, W.Z w → ∃ oe, X.pn.head? = some (w.xx.1, oe) ∧ oe.cls = w.xx.2.2 ∧ oe.dict = w.xx.2.1
def Ext (A : List Addr) (H H' : Hp) : Prop := ∀ a o, a ∉ A → H a = some o → H' a = some o
theorem Ext.refl {A : List Addr} {H : Hp} : Ext A H H := fun _ _ _ h => h
theorem Ext.trans {A : List Addr} {H H1 H2 : Hp} (a : Ext A H H1) (b : Ext A H1 H2) : Ext A H H2 := fun c o n h => b c o n (a c o n h)
theorem Ext.of {A : List Addr} {H H' : Hp} (s : Same H H') : Ext A H H' := fun a o _ h => s a o h
theorem Ext.off {A : List Addr} {H H' : Hp} (s : Ext A H H') : Same (off A H) (off A H') := off_same s
def tE (K : PySem.W.Frag) (mg : Str → Option Value) (W : WZ) (m : M D) : TE := fun σ H Q => ∃ (w : WS W) (A : List Addr) (ρ : Ev), SR K mg w.1 A ρ σ H ∧ match m ρ with
  | .ok d ρ' => ∀ v H', Ext A H H' → SR K mg w.1 A ρ' σ H' → Rep K mg (off A H') d v → Q v H'
  | .exc e ρ' => ∀ c dd H', Ext A H H' → SR K mg w.1 A ρ' σ H' → ExR K mg A H' e c dd → W c dd σ H'
  | .bad => False
def tT (K : PySem.W.Frag) (mg : Str → Option Value) (W : WZ) (m : M Bool) : TT := fun σ H Q => ∃ (w : WS W) (A : List Addr) (ρ : Ev), SR K mg w.1 A ρ σ H ∧ match m ρ with
  | .ok b ρ' => ∀ H', Ext A H H' → SR K mg w.1 A ρ' σ H' → Q b H'
  | .exc e ρ' => ∀ c dd H', Ext A H H' → SR K mg w.1 A ρ' σ H' → ExR K mg A H' e c dd → W c dd σ H'
  | .bad => False
/-- an argument: a value, or the name of a thing of one's own -/
inductive AV where
  | d (d : D) | o (i : Nat)
inductive Arg where
  | v (m : M D) | o (i : Nat)
def Arg.ev : Arg → M AV
  | .v m => M.bnd m fun d => M.ret (.d d)
  | .o i => fun ρ => match ρ[i]? with
    | some s => if s.has then .ok (.o i) ρ else .bad
    | none => .bad
def evs : List Arg → M (List AV)
  | [] => M.ret []
  | a :: r => M.bnd a.ev fun x => M.bnd (evs r) fun xs => M.ret (x :: xs)
def AVR (K : PySem.W.Frag) (mg : Str → Option Value) (A : List Addr) (σ : St) (H : Hp) : AV → V → Prop
  | .d d, v => Rep K mg (off A H) d v
  | .o i, v => σ[i]? = some (some v)
def AVRs (K : PySem.W.Frag) (mg : Str → Option Value) (A : List Addr) (σ : St) (H : Hp) : List AV → List V → Prop
  | [], vs => vs = []
  | a :: as, vs => ∃ v r, vs = v :: r ∧ AVR K mg A σ H a v ∧ AVRs K mg A σ H as r
theorem AVR.ext {K : PySem.W.Frag} {mg : Str → Option Value} {A : List Addr} {σ : St} {H H' : Hp} (s : Ext A H H') : ∀ {a : AV} {v : V}, AVR K mg A σ H a v → AVR K mg A σ H' a v
  | .d d, v, h => Rep.mono s.off d v h
  | .o _, _, h => h
def tO (K : PySem.W.Frag) (mg : Str → Option Value) (W : WZ) (a : Arg) : TE := fun σ H Q => ∃ (w : WS W) (A : List Addr) (ρ : Ev), SR K mg w.1 A ρ σ H ∧ match a.ev ρ with
  | .ok x ρ' => ∀ v H', Ext A H H' → SR K mg w.1 A ρ' σ H' → AVR K mg A σ H' x v → Q v H'
  | .exc e ρ' => ∀ c dd H', Ext A H H' → SR K mg w.1 A ρ' σ H' → ExR K mg A H' e c dd → W c dd σ H'
  | .bad => False
def tA (K : PySem.W.Frag) (mg : Str → Option Value) (W : WZ) (as : List Arg) : TA := fun σ H Q => ∃ (w : WS W) (A : List Addr) (ρ : Ev), SR K mg w.1 A ρ σ H ∧ match evs as ρ with
  | .ok xs ρ' => ∀ vs H', Ext A H H' → SR K mg w.1 A ρ' σ H' → AVRs K mg A σ H' xs vs → Q vs H'
  | .exc e ρ' => ∀ c dd H', Ext A H H' → SR K mg w.1 A ρ' σ H' → ExR K mg A H' e c dd → W c dd σ H'
  | .bad => False
def tS (K : PySem.W.Frag) (mg : Str → Option Value) (np : Nat) (W : WZ) (m : S) : TS := fun E σ H => ∃ (w : WS W) (A : List Addr) (ρ : Ev), w.1.np = np ∧ SR K mg w.1 A ρ σ H ∧ match m ρ with
  | .nx ρ' => ∀ A' σ' H', Same (off A H) (off A' H') → SR K mg w.1 A' ρ' σ' H' → E.nx σ' H'
  | .rt d ρ' => ∀ A' σ' H' v, SR K mg w.1 A' ρ' σ' H' → Rep K mg (off A' H') d v → E.rt v H'
  | .bk ρ' => ∀ A' σ' H', Same (off A H) (off A' H') → SR K mg w.1 A' ρ' σ' H' → E.bk σ' H'
  | .ct ρ' => ∀ A' σ' H', Same (off A H) (off A' H') → SR K mg w.1 A' ρ' σ' H' → E.ct σ' H'
  | .exc e ρ' => ∀ A' σ' H' c dd, Same (off A H) (off A' H') → SR K mg w.1 A' ρ' σ' H' → ExR K mg A' H' e c dd → W c dd σ' H'
  | .bad => False
def DE (X : Cx) (e : Expr) (m : M D) : Prop := ∀ W : WZ, TakesZ X W → PE X e (tE X.K X.mg W m)
def DT (X : Cx) (e : Expr) (m : M Bool) : Prop := ∀ W : WZ, TakesZ X W → PT X e (tT X.K X.mg W m)
def DW (X : Cx) (e : Expr) (m : M Bool) : Prop := ∀ W : WZ, TakesZ X W → PW X e (tT X.K X.mg W m)
def DO (X : Cx) (e : Expr) (a : Arg) : Prop := ∀ W : WZ, TakesZ X W → PE X e (tO X.K X.mg W a)
def DA (X : Cx) (es : List Expr) (as : List Arg) : Prop := ∀ W : WZ, TakesZ X W → PA X es (tA X.K X.mg W as)
def DS (X : Cx) (np : Nat) (st : Stmt) (m : S) : Prop := ∀ W : WZ, TakesZ X W → PS X st (tS X.K X.mg np W m)
def DSs (X : Cx) (np : Nat) (st : List Stmt) (m : S) : Prop := ∀ W : WZ, TakesZ X W → PSs X st (tS X.K X.mg np W m)
section
variable {X : Cx} {e : Expr}
theorem pe_imp {t t' : TE} (h : PE X e t) (q : ∀ σ H Q, t' σ H Q → t σ H Q) : PE X e t' := ⟨fun pins s σ H Q I hw => h.run pins s σ H Q I (q σ H Q hw)⟩
theorem pt_imp {t t' : TT} (h : PT X e t) (q : ∀ σ H Q, t' σ H Q → t σ H Q) : PT X e t' := ⟨fun pins s σ H Q I hw => h.run pins s σ H Q I (q σ H Q hw)⟩
theorem pw_imp {t t' : TT} (h : PW X e t) (q : ∀ σ H Q, t' σ H Q → t σ H Q) : PW X e t' := ⟨fun wh pins s σ H Q I hw => h.run wh pins s σ H Q I (q σ H Q hw)⟩
theorem pa_imp {es : List Expr} {t t' : TA} (h : PA X es t) (q : ∀ σ H Q, t' σ H Q → t σ H Q) : PA X es t' := ⟨fun pos pins s σ H Q I hw => h.run pos pins s σ H Q I (q σ H Q hw)⟩
theorem ps_imp {st : Stmt} {t t' : TS} (h : PS X st t) (q : ∀ E σ H, t' E σ H → t E σ H) : PS X st t' := ⟨fun pins s σ H E I hw => h.run pins s σ H E I (q E σ H hw)⟩
theorem pss_imp {st : List Stmt} {t t' : TS} (h : PSs X st t) (q : ∀ E σ H, t' E σ H → t E σ H) : PSs X st t' := ⟨fun pins s σ H E I hw => h.run pins s σ H E I (q E σ H hw)⟩
end
end DL
namespace DL
open PySem L2
def Rep1 (K : PySem.W.Frag) (mg : Str → Option Value) (A : List Addr) (H : Hp) : D → V → Prop
  | .lst l, v => ∃ a xs, v = .ref a ∧ H a = some (.lst xs) ∧ Reps K mg (off A H) l xs
  | .obj c ns l, v => ∃ a C dx fvs, v = .ref a ∧ mg c = some (.ref C) ∧ H a = some (.ins C dx (ns.zip fvs)) ∧ ns.length = fvs.length ∧ Reps K mg (off A H) l fvs
  | d, v => Rep K mg (off A H) d v
section
variable {K : PySem.W.Frag} {mg : Str → Option Value} {w : Wd} {A : List Addr} {ρ ρ' : Ev} {σ : St} {H H' : Hp}
theorem Rep1.of : ∀ {d : D} {v : V}, Rep K mg (off A H) d v → Rep1 K mg A H d v
  | .lst l, _, ⟨a, xs, e, q, r⟩ => ⟨a, xs, e, off_le _ _ q, r⟩
  | .obj _ _ l, _, ⟨a, C, dx, fvs, e, m, q, n, r⟩ => ⟨a, C, dx, fvs, e, m, off_le _ _ q, n, r⟩
  | .non, _, h => h
  | .bl _, _, h => h
  | .int _, _, h => h
  | .str _, _, h => h
  | .fn _, _, h => h
  | .tup _, _, h => h
  | .scr _, _, h => h
def Slot.rd : Slot → Option D
  | .val d => some d
  | .own l => some (.lst l)
  | .inst c ns l => some (.obj c ns l)
  | _ => none
def rs : AV → Ev → Option D
  | .d d, _ => some d
  | .o i, ρ => (ρ[i]?).bind Slot.rd
def rss : List AV → Ev → Option (List D)
  | [], _ => some []
  | a :: as, ρ => (rs a ρ).bind fun d => (rss as ρ).map fun ds => d :: ds
inductive Reps1 (K : PySem.W.Frag) (mg : Str → Option Value) (A : List Addr) (H : Hp) : List D → List V → Prop
  | nil : Reps1 K mg A H [] []
  | cons {d v ds vs} : Rep1 K mg A H d v → Reps1 K mg A H ds vs → Reps1 K mg A H (d :: ds) (v :: vs)
theorem rs_rep (R : SR K mg w A ρ σ H) {x : AV} {v : V} {d : D} (h : AVR K mg A σ H x v) (e : rs x ρ = some d) : Rep1 K mg A H d v := by
  cases x with
  | d d' =>
    cases (Option.some.inj e)
    exact Rep1.of h
  | o i =>
    obtain ⟨s, hs, e⟩ := Option.bind_eq_some_iff.mp e
    obtain ⟨o, ho, r⟩ := R.at' hs
    have h' : σ[i]? = some (some v) := h
    rw [h'] at ho
    cases ho
    cases s with
    | val d' =>
      cases (Option.some.inj e)
      obtain ⟨v', e', r⟩ := r
      cases e'
      exact Rep1.of r
    | own l =>
      cases (Option.some.inj e)
      obtain ⟨a, vs, e', m, hh, r⟩ := r
      cases e'
      exact ⟨a, vs, rfl, hh, r⟩
    | inst c ns l =>
      cases (Option.some.inj e)
      obtain ⟨a, C, dx, fvs, e', m, c, hh, n, r⟩ := r
      cases e'
      exact ⟨a, C, dx, fvs, rfl, c, hh, n, r⟩
    | no => cases e
    | dic _ _ => cases e
    | ex _ => cases e
theorem rss_rep (R : SR K mg w A ρ σ H) : ∀ {xs : List AV} {vs : List V} {ds : List D}, AVRs K mg A σ H xs vs → rss xs ρ = some ds → Reps1 K mg A H ds vs
  | [], vs, ds, h, e => by
    rw [show vs = [] from h]
    cases (Option.some.inj e)
    exact .nil
  | x :: xs, vs, ds, ⟨v, r, e1, h, t⟩, e => by
    subst e1
    obtain ⟨d, hd, e⟩ := Option.bind_eq_some_iff.mp e
    obtain ⟨ds', hds, e⟩ := Option.map_eq_some_iff.mp e
    subst e
    exact .cons (rs_rep R h hd) (rss_rep R t hds)
end
def op1 (f : D → Option D) (a : Arg) : M D := M.bnd a.ev fun x ρ => match (rs x ρ).bind f with
  | some r => .ok r ρ
  | none => .bad
def op2 (f : D → D → Option D) (a b : Arg) : M D := M.bnd a.ev fun x => M.bnd b.ev fun y ρ => match (rs x ρ).bind fun p => (rs y ρ).bind fun q => f p q with
  | some r => .ok r ρ
  | none => .bad
def opN (f : List D → Option D) (as : List Arg) : M D := M.bnd (evs as) fun xs ρ => match (rss xs ρ).bind f with
  | some r => .ok r ρ
  | none => .bad
def Trk (A : List Addr) (H : Hp) : Prop := ∀ a ∈ A, H a ≠ none
/-- the reading r of values is served by the function f of data -/
def Snd1 (K : PySem.W.Frag) (mg : Str → Option Value) (r : V → Hp → VK → Prop) (f : D → Option D) : Prop :=
  ∀ (A : List Addr) (H : Hp) (x d : D) (v : V) (Q : VK), Trk A H → Rep1 K mg A H x v → f x = some d → (∀ v' H', Same H H' → Rep K mg (off A H') d v' → Q v' H') → r v H Q
def Snd2 (K : PySem.W.Frag) (mg : Str → Option Value) (r : R2) (f : D → D → Option D) : Prop :=
  ∀ (A : List Addr) (H : Hp) (x y d : D) (v u : V) (Q : VK), Trk A H → Rep1 K mg A H x v → Rep1 K mg A H y u → f x y = some d → (∀ v' H', Same H H' → Rep K mg (off A H') d v' → Q v' H') → r v u H Q
def SndN (K : PySem.W.Frag) (mg : Str → Option Value) (r : List V → Hp → VK → Prop) (f : List D → Option D) : Prop :=
  ∀ (A : List Addr) (H : Hp) (xs : List D) (d : D) (vs : List V) (Q : VK), Trk A H → Reps1 K mg A H xs vs → f xs = some d → (∀ v' H', Same H H' → Rep K mg (off A H') d v' → Q v' H') → r vs H Q
section
variable {X : Cx} {e a b : Expr} {es : List Expr} {x y : Arg} {as : List Arg} {pos : Pos}
def var (i : Nat) : M D := fun ρ => match ρ[i]? with
  | some (.val d) => .ok d ρ
  | _ => .bad
theorem de_ret {d : D} {v : V} (h : PE X e (tC v)) (r : ∀ F, Rep X.K X.mg F d v) : DE X e (M.ret d) := fun W _ => pe_imp h fun σ H Q ⟨w, A, ρ, R, q⟩ => q _ H Ext.refl R (r _)
theorem de_int {i : Int} {j} : DE X (.Constant (.int i) j pos) (M.ret (.int i)) := de_ret pe_int fun _ => rfl
theorem de_bl {i : Bool} {j} : DE X (.Constant (.bool i) j pos) (M.ret (.bl i)) := de_ret pe_bl fun _ => rfl
theorem de_non {j} : DE X (.Constant .none j pos) (M.ret .non) := de_ret pe_non fun _ => rfl
theorem de_str {i : Str} {j} : DE X (.Constant (.str i) j pos) (M.ret (.str i)) := de_ret pe_str fun _ => rfl
theorem de_var {i : Nat} (h : PE X e (tVar i)) : DE X e (var i) := fun W _ => pe_imp h fun σ H Q ⟨w, A, ρ, R, q⟩ => by
  unfold var at q
  cases hs : ρ[i]? with
  | none => rw [hs] at q; exact q.elim
  | some s =>
    rw [hs] at q
    cases s with
    | val d =>
      obtain ⟨v, e1, r⟩ := R.val hs
      exact ⟨v, e1, q v H Ext.refl R r⟩
    | _ => exact q.elim
theorem do_v {m : M D} (h : DE X e m) : DO X e (.v m) := fun W tk => pe_imp (h W tk) fun σ H Q ⟨w, A, ρ, R, q⟩ => by
  refine ⟨w, A, ρ, R, ?_⟩
  have e0 : (Arg.v m).ev ρ = M.bnd m (fun d => M.ret (AV.d d)) ρ := rfl
  rw [e0] at q
  cases hm : m ρ with
  | ok d ρ' => rw [bnd_ok hm] at q; exact fun v H' ex R' r => q v H' ex R' r
  | exc e ρ' => rw [bnd_exc hm] at q; exact q
  | bad => rw [bnd_bad hm] at q; exact q
/-- the name of a thing (own or a value), only looked at -/
theorem do_o {i : Nat} (h : PE X e (tVar i)) : DO X e (.o i) := fun W _ => pe_imp h fun σ H Q ⟨w, A, ρ, R, q⟩ => by
  unfold Arg.ev at q
  dsimp only at q
  cases hs : ρ[i]? with
  | none => rw [hs] at q; exact q.elim
  | some s =>
    rw [hs] at q
    by_cases hh : s.has = true
    · obtain ⟨v, hv⟩ := R.has hs hh
      simp only [hh, if_true] at q
      exact ⟨v, hv, q v H Ext.refl R hv⟩
    · simp only [hh, if_false] at q
      exact q.elim
theorem da_nil : DA X [] [] := fun W _ => pa_imp pa_nil fun σ H Q ⟨w, A, ρ, R, q⟩ => q [] H Ext.refl R rfl
theorem da_cons (h : DO X e x) (t : DA X es as) (hs : starEach (e :: es) X.env = (false, eval e X.env) :: starEach es X.env := by rfl) : DA X (e :: es) (x :: as) := fun W tk => pa_imp (pa_cons (h W tk) (t W tk) hs) fun σ H Q ⟨w, A, ρ, R, q⟩ => by
  refine ⟨w, A, ρ, R, ?_⟩
  have e0 : evs (x :: as) ρ = M.bnd x.ev (fun v => M.bnd (evs as) fun vs => M.ret (v :: vs)) ρ := rfl
  rw [e0] at q
  cases hx : x.ev ρ with
  | exc e ρ1 => rw [bnd_exc hx] at q; exact q
  | bad => rw [bnd_bad hx] at q; exact q
  | ok v ρ1 =>
    rw [bnd_ok hx] at q
    intro vv H1 ex1 R1 r1
    refine ⟨w, A, ρ1, R1, ?_⟩
    cases hr : evs as ρ1 with
    | exc e ρ2 => rw [bnd_exc hr] at q; exact fun c dd H2 ex2 R2 z => q c dd H2 (ex1.trans ex2) R2 z
    | bad => rw [bnd_bad hr] at q; exact q
    | ok vs ρ2 => rw [bnd_ok hr] at q; exact fun us H2 ex2 R2 r2 => q _ H2 (ex1.trans ex2) R2 ⟨_, _, rfl, r1.ext ex2, r2⟩
theorem op_end {w : Wd} {A : List Addr} {ρ : Ev} {σ : St} {H H1 : Hp} {Q : VK} {d : D} (R1 : SR X.K X.mg w A ρ σ H1) (ex : Ext A H H1)
    (q : ∀ v H', Ext A H H' → SR X.K X.mg w A ρ σ H' → Rep X.K X.mg (off A H') d v → Q v H') : ∀ v' H', Same H1 H' → Rep X.K X.mg (off A H') d v' → Q v' H' :=
  fun v' H' s r => q v' H' (ex.trans (.of s)) (R1.same s) r
/-- an operation on two values -/
theorem de_two {r : R2} {f : D → D → Option D} {e : Expr} (hp : ∀ ta tb : TE, PE X a ta → PE X b tb → PE X e (tOp r ta tb)) (hs : Snd2 X.K X.mg r f) (ha : DO X a x) (hb : DO X b y) : DE X e (op2 f x y) := fun W tk =>
  pe_imp (hp _ _ (ha W tk) (hb W tk)) fun σ H Q ⟨w, A, ρ, R, q⟩ => by
    refine ⟨w, A, ρ, R, ?_⟩
    unfold op2 at q
    cases hx : x.ev ρ with
    | exc e ρ1 => rw [bnd_exc hx] at q; exact q
    | bad => rw [bnd_bad hx] at q; exact q
    | ok v ρ1 =>
      rw [bnd_ok hx] at q
      intro vv H1 ex1 R1 r1
      refine ⟨w, A, ρ1, R1, ?_⟩
      cases hy : y.ev ρ1 with
      | exc e ρ2 => rw [bnd_exc hy] at q; exact fun c dd H2 ex2 R2 z => q c dd H2 (ex1.trans ex2) R2 z
      | bad => rw [bnd_bad hy] at q; exact q
      | ok u ρ2 =>
        rw [bnd_ok hy] at q
        intro uu H2 ex2 R2 r2
        cases hd : (rs v ρ2).bind fun p => (rs u ρ2).bind fun q => f p q with
        | none => rw [hd] at q; exact q.elim
        | some d =>
          rw [hd] at q
          obtain ⟨p, hp, hd⟩ := Option.bind_eq_some_iff.mp hd
          obtain ⟨p', hp', hd⟩ := Option.bind_eq_some_iff.mp hd
          exact hs A H2 p p' d vv uu Q R2.trk (rs_rep R2 (r1.ext ex2) hp) (rs_rep R2 r2 hp') hd (op_end R2 (ex1.trans ex2) q)
theorem de_one {r : V → Hp → VK → Prop} {f : D → Option D} {e : Expr} (hp : ∀ ta : TE, PE X a ta → PE X e (tUn r ta)) (hs : Snd1 X.K X.mg r f) (ha : DO X a x) : DE X e (op1 f x) := fun W tk =>
  pe_imp (hp _ (ha W tk)) fun σ H Q ⟨w, A, ρ, R, q⟩ => by
    refine ⟨w, A, ρ, R, ?_⟩
    unfold op1 at q
    cases hx : x.ev ρ with
    | exc e ρ1 => rw [bnd_exc hx] at q; exact q
    | bad => rw [bnd_bad hx] at q; exact q
    | ok v ρ1 =>
      rw [bnd_ok hx] at q
      intro vv H1 ex1 R1 r1
      cases hd : (rs v ρ1).bind f with
      | none => rw [hd] at q; exact q.elim
      | some d =>
        rw [hd] at q
        obtain ⟨p, hp, hd⟩ := Option.bind_eq_some_iff.mp hd
        exact hs A H1 p d vv Q R1.trk (rs_rep R1 r1 hp) hd (op_end R1 ex1 q)
theorem de_many {r : List V → Hp → VK → Prop} {f : List D → Option D} {e : Expr} (hp : ∀ t : TA, PA X es t → PE X e (tCB r t)) (hs : SndN X.K X.mg r f) (ha : DA X es as) : DE X e (opN f as) := fun W tk =>
  pe_imp (hp _ (ha W tk)) fun σ H Q ⟨w, A, ρ, R, q⟩ => by
    refine ⟨w, A, ρ, R, ?_⟩
    unfold opN at q
    cases hx : evs as ρ with
    | exc e ρ1 => rw [bnd_exc hx] at q; exact q
    | bad => rw [bnd_bad hx] at q; exact q
    | ok v ρ1 =>
      rw [bnd_ok hx] at q
      intro vv H1 ex1 R1 r1
      cases hd : (rss v ρ1).bind f with
      | none => rw [hd] at q; exact q.elim
      | some d =>
        rw [hd] at q
        obtain ⟨p, hp, hd⟩ := Option.bind_eq_some_iff.mp hd
        exact hs A H1 p d vv Q R1.trk (rss_rep R1 r1 hp) hd (op_end R1 ex1 q)
end
end DL
namespace DL
open PySem L2
theorem OpR.or {X : Cx} {f : Value → Value → Sem Value} {r r' : R2} (h : OpR X f r) (h' : OpR X f r') : OpR X f (fun x y H Q => r x y H Q ∨ r' x y H Q) :=
  fun pins s σ H x y v u Q I rx ry q => q.elim (h pins s σ H x y v u Q I rx ry) (h' pins s σ H x y v u Q I rx ry)
theorem ite_some {α : Type} {c : Prop} [Decidable c] {a d : α} (h : (if c then some a else none) = some d) : c ∧ a = d := by
  by_cases hc : c
  · rw [if_pos hc] at h; exact ⟨hc, Option.some.inj h⟩
  · rw [if_neg hc] at h; cases h
section
variable {K : PySem.W.Frag} {mg : Str → Option Value} {A : List Addr} {H : Hp}
theorem Trk.not {a : Addr} (t : Trk A H) (n : H a = none) : a ∉ A := fun z => t a z n
/-- a new list, a new tuple -/
theorem rep_lst {p : Addr} {vs : List V} {l : List D} (t : Trk A H) (n : H p = none) (r : Reps K mg (off A H) l vs) : Rep K mg (off A (upd H p (.lst vs))) (.lst l) (.ref p) :=
  ⟨p, vs, rfl, off_at upd_same (t.not n), r.mono (off_Same (same_upd n))⟩
theorem rep_tup {p : Addr} {vs : List V} {l : List D} (t : Trk A H) (n : H p = none) (r : Reps K mg (off A H) l vs) : Rep K mg (off A (upd H p (.tup vs))) (.tup l) (.ref p) :=
  ⟨p, vs, rfl, SqT.of (off_at upd_same (t.not n)), r.mono (off_Same (same_upd n))⟩
theorem Trk.upd {p : Addr} {o : HO} (t : Trk A H) : Trk A (upd H p o) := fun a ha z => by
  unfold L2.upd at z
  split at z
  · cases z
  · exact t a ha z
end
def D.add : D → D → Option D
  | .int i, .int j => some (.int (i + j))
  | .str a, .str b => if a.length + b.length ≤ sizeLine then some (.str (a ++ b)) else none
  | .lst a, .lst b => if a.length + b.length ≤ sizeLine then some (.lst (a ++ b)) else none
  | .tup a, .tup b => if a.length + b.length ≤ sizeLine then some (.tup (a ++ b)) else none
  | _, _ => none
def D.sub : D → D → Option D
  | .int i, .int j => some (.int (i - j))
  | _, _ => none
def D.mul : D → D → Option D
  | .int i, .int j => if (decide (-(2 ^ 64) < i) && decide (i < 2 ^ 64)) || (decide (-(2 ^ 64) < j) && decide (j < 2 ^ 64)) then some (.int (i * j)) else none
  | _, _ => none
def D.fdiv : D → D → Option D
  | .int i, .int j => if 0 < j ∧ j < 1073741824 then some (.int (i / j)) else none
  | _, _ => none
def D.mod : D → D → Option D
  | .int i, .int j => if 0 < j then some (.int (i % j)) else none
  | _, _ => none
def D.pow : D → D → Option D
  | .int i, .int j => if 0 ≤ j ∧ j ≤ 1000000 ∧ i.natAbs < 2 ^ 64 then some (.int (i ^ j.toNat)) else none
  | _, _ => none
def D.neg : D → Option D
  | .int i => some (.int (-i))
  | _ => none
section
variable {X : Cx} {a b : Expr} {x y : Arg} {pos : Pos} {K : PySem.W.Frag} {mg : Str → Option Value}
def rAddD (K : PySem.W.Frag) : R2 := fun x y H Q => (rI0 (fun i j => .int (i + j)) x y H Q ∨ (∃ i j, x = .str i ∧ y = .str j ∧ i.length + j.length ≤ sizeLine ∧ Q (.str (i ++ j)) H)) ∨ (rCat x y H Q ∨ rCatA K x y H Q)
theorem op_addD : OpR X (binaryOp .Add) (rAddD X.K) := (op_add.or op_add_str).or (op_cat.or op_catA)
theorem snd_add : Snd2 K mg (rAddD K) D.add := by
  intro A H x y d v u Q tk rx ry e q
  cases x with
  | int i =>
    cases y with
    | int j =>
      cases (Option.some.inj e)
      exact .inl (.inl ⟨i, j, rx, ry, q _ _ (Same.refl _) rfl⟩)
    | _ => cases e
  | str i =>
    cases y with
    | str j =>
      obtain ⟨hz, rfl⟩ := ite_some e
      exact .inl (.inr ⟨i, j, rx, ry, hz, q _ _ (Same.refl _) rfl⟩)
    | _ => cases e
  | lst i =>
    cases y with
    | lst j =>
      obtain ⟨hz, rfl⟩ := ite_some e
      obtain ⟨p, vs, e1, h1, r1⟩ := rx
      obtain ⟨p', us, e2, h2, r2⟩ := ry
      exact .inr (.inl ⟨p, p', vs, us, e1, e2, h1, h2, by rw [← r1.length, ← r2.length]; exact hz, fun t nt => q _ _ (same_upd nt) (rep_lst tk nt (r1.append r2))⟩)
    | _ => cases e
  | tup i =>
    cases y with
    | tup j =>
      obtain ⟨hz, rfl⟩ := ite_some e
      · obtain ⟨p, vs, e1, h1, r1⟩ := rx
        obtain ⟨p', us, e2, h2, r2⟩ := ry
        refine .inr (.inr ⟨p, p', vs, us, e1, e2, SqT.mono off_le h1, SqT.mono off_le h2, by rw [← r1.length, ← r2.length]; exact hz, fun z => ?_, fun _ z => ?_, fun _ _ t nt => q _ _ (same_upd nt) (rep_tup tk nt (r1.append r2))⟩)
        · subst z
          have : i = [] := List.eq_nil_of_length_eq_zero (by rw [r1.length]; rfl)
          subst this
          exact q _ _ (Same.refl _) ⟨p', us, rfl, h2, r2⟩
        · subst z
          have : j = [] := List.eq_nil_of_length_eq_zero (by rw [r2.length]; rfl)
          subst this
          rw [List.append_nil] at q
          exact q _ _ (Same.refl _) ⟨p, vs, rfl, h1, r1⟩
    | _ => cases e
  | _ => cases e
theorem de_add (ha : DO X a x) (hb : DO X b y) : DE X (.BinOp a .Add b pos) (op2 D.add x y) := de_two (fun _ _ h1 h2 => pe_op op_addD h1 h2) snd_add ha hb
theorem snd_int2 {C : Int → Int → Prop} {g : Int → Int → Int} {f : D → D → Option D} (hf : ∀ x y d, f x y = some d → ∃ i j, x = .int i ∧ y = .int j ∧ C i j ∧ d = .int (g i j)) : Snd2 K mg (rI C fun i j => .int (g i j)) f := by
  intro A H x y d v u Q tk rx ry e q
  obtain ⟨i, j, rfl, rfl, c, rfl⟩ := hf _ _ _ e
  exact ⟨i, j, rx, ry, c, q _ _ (Same.refl _) rfl⟩
theorem de_sub (ha : DO X a x) (hb : DO X b y) : DE X (.BinOp a .Sub b pos) (op2 D.sub x y) := de_two (r := rI0 fun i j => .int (i - j)) (fun _ _ h1 h2 => pe_op op_sub h1 h2) (by
  intro A H x y d v u Q tk rx ry e q
  cases x with
  | int i => cases y with
    | int j => cases (Option.some.inj e); exact ⟨i, j, rx, ry, q _ _ (Same.refl _) rfl⟩
    | _ => cases e
  | _ => cases e) ha hb
theorem de_mul (ha : DO X a x) (hb : DO X b y) : DE X (.BinOp a .Mult b pos) (op2 D.mul x y) := de_two (fun _ _ h1 h2 => pe_op op_mul h1 h2) (snd_int2 (C := CMul) (g := fun i j => i * j) fun x y d e => by
  cases x with
  | int i => cases y with
    | int j =>
      obtain ⟨h, rfl⟩ := ite_some e
      refine ⟨i, j, rfl, rfl, ?_, rfl⟩
      simp only [Bool.or_eq_true, Bool.and_eq_true, decide_eq_true_eq] at h
      exact h
    | _ => cases e
  | _ => cases e) ha hb
theorem de_fdiv (ha : DO X a x) (hb : DO X b y) : DE X (.BinOp a .FloorDiv b pos) (op2 D.fdiv x y) := de_two (fun _ _ h1 h2 => pe_op op_fdiv h1 h2) (snd_int2 (C := CDiv) (g := fun i j => i / j) fun x y d e => by
  cases x with
  | int i => cases y with
    | int j =>
      obtain ⟨h, rfl⟩ := ite_some e
      exact ⟨i, j, rfl, rfl, h, rfl⟩
    | _ => cases e
  | _ => cases e) ha hb
theorem de_mod (ha : DO X a x) (hb : DO X b y) : DE X (.BinOp a .Mod b pos) (op2 D.mod x y) := de_two (fun _ _ h1 h2 => pe_op op_mod h1 h2) (snd_int2 (C := fun _ j => 0 < j) (g := fun i j => i % j) fun x y d e => by
  cases x with
  | int i => cases y with
    | int j =>
      obtain ⟨h, rfl⟩ := ite_some e
      exact ⟨i, j, rfl, rfl, h, rfl⟩
    | _ => cases e
  | _ => cases e) ha hb
theorem de_pow (ha : DO X a x) (hb : DO X b y) : DE X (.BinOp a .Pow b pos) (op2 D.pow x y) := de_two (fun _ _ h1 h2 => pe_op op_pow h1 h2) (snd_int2 (C := CPow) (g := fun i j => i ^ j.toNat) fun x y d e => by
  cases x with
  | int i => cases y with
    | int j =>
      obtain ⟨h, rfl⟩ := ite_some e
      exact ⟨i, j, rfl, rfl, h, rfl⟩
    | _ => cases e
  | _ => cases e) ha hb
theorem de_neg (ha : DO X a x) : DE X (.UnaryOp .USub a pos) (op1 D.neg x) := de_one (r := rU fun i => .int (-i)) (fun _ h1 => pe_un un_neg h1) (by
  intro A H x d v Q tk rx e q
  cases x with
  | int i => cases (Option.some.inj e); exact ⟨i, rx, q _ _ (Same.refl _) rfl⟩
  | _ => cases e) ha
def D.isTrue : D → Option Bool
  | .bl b => some b
  | _ => none
def asTest (m : M D) : M Bool := M.bnd m fun d ρ => match d with
  | .bl b => .ok b ρ
  | _ => .bad
theorem dt_of {e : Expr} {m : M D} (hp : ∀ t : TE, PE X e t → PT X e (tTest t)) (h : DE X e m) : DT X e (asTest m) := fun W tk => pt_imp (hp _ (h W tk)) fun σ H Q ⟨w, A, ρ, R, q⟩ => by
  refine ⟨w, A, ρ, R, ?_⟩
  unfold asTest at q
  cases hm : m ρ with
  | exc e ρ1 => rw [bnd_exc hm] at q; exact q
  | bad => rw [bnd_bad hm] at q; exact q
  | ok d ρ1 =>
    rw [bnd_ok hm] at q
    intro v H1 ex R1 r1
    cases d with
    | bl b => exact ⟨b, r1, q H1 ex R1⟩
    | _ => exact q.elim
/-- a comparison by its rule: the value -/
theorem de_cmp {op : CmpOp} {r : R2} {f : D → D → Option D} (ho : OpR X (compareOp op) r) (hs : Snd2 X.K X.mg r f) (hm : behindInMarks op b = false) (ha : DO X a x) (hb : DO X b y) : DE X (.Compare a [op] [b] pos) (op2 f x y) :=
  de_two (fun _ _ h1 h2 => pe_cmpR ho h1 h2 hm) hs ha hb
theorem dt_cmp {op : CmpOp} {r : R2} {f : D → D → Option D} (ho : OpR X (compareOp op) r) (hs : Snd2 X.K X.mg r f) (hm : behindInMarks op b = false) (ha : DO X a x) (hb : DO X b y) : DT X (.Compare a [op] [b] pos) (asTest (op2 f x y)) := fun W tk => by
  have h := de_two (X := X) (e := .Compare a [op] [b] pos) (fun _ _ h1 h2 => pe_cmpR ho h1 h2 hm) hs ha hb
  have hp := pt_cmpR (pos := pos) ho (ha W tk) (hb W tk) hm
  refine pt_imp hp fun σ H Q ⟨w, A, ρ, R, q⟩ => ?_
  refine ⟨w, A, ρ, R, ?_⟩
  unfold asTest op2 at q
  cases hx : x.ev ρ with
  | exc e ρ1 => rw [bnd_exc (bnd_exc hx)] at q; exact q
  | bad => rw [bnd_bad (bnd_bad hx)] at q; exact q
  | ok v ρ1 =>
    intro vv H1 ex1 R1 r1
    refine ⟨w, A, ρ1, R1, ?_⟩
    cases hy : y.ev ρ1 with
    | exc e ρ2 => rw [bnd_exc (by rw [bnd_ok hx]; exact bnd_exc hy)] at q; exact fun c dd H2 ex2 R2 z => q c dd H2 (ex1.trans ex2) R2 z
    | bad => rw [bnd_bad (by rw [bnd_ok hx]; exact bnd_bad hy)] at q; exact q
    | ok u ρ2 =>
      intro uu H2 ex2 R2 r2
      cases hd : (rs v ρ2).bind fun p => (rs u ρ2).bind fun q => f p q with
      | none => rw [bnd_bad (by rw [bnd_ok hx, bnd_ok hy]; simp only [hd])] at q; exact q.elim
      | some d =>
        rw [bnd_ok (a := d) (ρ' := ρ2) (by rw [bnd_ok hx, bnd_ok hy]; simp only [hd])] at q
        obtain ⟨p, hp, hd⟩ := Option.bind_eq_some_iff.mp hd
        obtain ⟨p', hp', hd⟩ := Option.bind_eq_some_iff.mp hd
        refine hs A H2 p p' d vv uu _ R2.trk (rs_rep R2 (r1.ext ex2) hp) (rs_rep R2 r2 hp') hd fun v' H' sm r => ?_
        cases d with
        | bl b => exact ⟨b, r, q H' ((ex1.trans ex2).trans (.of sm)) (R2.same sm)⟩
        | _ => exact q.elim
def D.cmpI (g : Int → Int → Bool) : D → D → Option D
  | .int i, .int j => some (.bl (g i j))
  | _, _ => none
theorem snd_cmpI {g : Int → Int → Bool} : Snd2 K mg (rI0 fun i j => .bl (g i j)) (D.cmpI g) := by
  intro A H x y d v u Q tk rx ry e q
  cases x with
  | int i => cases y with
    | int j => cases (Option.some.inj e); exact ⟨i, j, rx, ry, q _ _ (Same.refl _) rfl⟩
    | _ => cases e
  | _ => cases e
abbrev D.lt : D → D → Option D := D.cmpI fun i j => decide (i < j)
abbrev D.le : D → D → Option D := D.cmpI fun i j => decide (i ≤ j)
abbrev D.gt : D → D → Option D := D.cmpI fun i j => decide (j < i)
abbrev D.ge : D → D → Option D := D.cmpI fun i j => decide (j ≤ i)
mutual
def D.toP : D → Option PyData
  | .non => some .none
  | .bl b => some (.bool b)
  | .int i => some (.int i)
  | .str s => some (.str s)
  | .tup l => (D.toPs l).map .tuple
  | .lst l => (D.toPs l).map .list
  | _ => none
def D.toPs : List D → Option (List PyData)
  | [] => some []
  | d :: ds => (D.toP d).bind fun p => (D.toPs ds).map fun ps => p :: ps
end
mutual
def D.eqb : D → D → Bool
  | .non, .non => true
  | .bl a, .bl b => a == b
  | .bl a, .int b => (if a then 1 else 0) == b
  | .int a, .bl b => a == (if b then 1 else 0)
  | .int a, .int b => a == b
  | .str a, .str b => a == b
  | .tup a, .tup b => D.eqbs a b
  | .lst a, .lst b => D.eqbs a b
  | _, _ => false
def D.eqbs : List D → List D → Bool
  | [], [] => true
  | a :: as, b :: bs => D.eqb a b && D.eqbs as bs
  | _, _ => false
end
def D.sh (d : D) : Bool := match d.toP with
  | some p => SeqAt.shaped p
  | none => false
mutual
theorem dp_of {A : List Addr} {H : Hp} : ∀ (d : D) (v : V) (p : PyData), Rep K mg (off A H) d v → d.toP = some p → Dp K H v p
  | .non, v, p, r, e => by cases r; cases (Option.some.inj e); exact .non
  | .bl b, v, p, r, e => by cases r; cases (Option.some.inj e); exact .bl b
  | .int b, v, p, r, e => by cases r; cases (Option.some.inj e); exact .int b
  | .str b, v, p, r, e => by cases r; cases (Option.some.inj e); exact .str b
  | .tup l, v, p, ⟨a, xs, e1, h, r⟩, e => by
    obtain ⟨ps, e2, e3⟩ := Option.map_eq_some_iff.mp e
    subst e1; subst e3
    exact .tup (SqT.mono off_le h) (dps_of l xs ps r e2)
  | .lst l, v, p, ⟨a, xs, e1, h, r⟩, e => by
    obtain ⟨ps, e2, e3⟩ := Option.map_eq_some_iff.mp e
    subst e1; subst e3
    exact .lst (SqL.of (off_le _ _ h)) (dps_of l xs ps r e2)
  | .obj _ _ _, _, _, _, e => by cases e
  | .fn _, _, _, _, e => by cases e
  | .scr _, _, _, _, e => by cases e
theorem dps_of {A : List Addr} {H : Hp} : ∀ (ds : List D) (vs : List V) (ps : List PyData), Reps K mg (off A H) ds vs → D.toPs ds = some ps → DpAll K H vs ps
  | [], vs, ps, r, e => by cases (show vs = [] from r); cases (Option.some.inj e); exact .nil
  | d :: ds, vs, ps, ⟨v, r, e1, h, t⟩, e => by
    obtain ⟨p, e2, e⟩ := Option.bind_eq_some_iff.mp e
    obtain ⟨qs, e3, e4⟩ := Option.map_eq_some_iff.mp e
    subst e1; subst e4
    exact .cons (dp_of d v p h e2) (dps_of ds r qs t e3)
end
theorem dp1_of {A : List Addr} {H : Hp} {d : D} {v : V} {p : PyData} (r : Rep1 K mg A H d v) (e : d.toP = some p) : Dp K H v p := by
  cases d with
  | lst l =>
    obtain ⟨a, xs, e1, h, r⟩ := r
    obtain ⟨ps, e2, e3⟩ := Option.map_eq_some_iff.mp e
    subst e1; subst e3
    exact .lst (SqL.of h) (dps_of l xs ps r e2)
  | obj _ _ _ => cases e
  | _ => exact dp_of _ v p r e
mutual
theorem eqv_of : ∀ (d e : D) (p q : PyData), d.toP = some p → e.toP = some q → PyData.eqv p q = D.eqb d e
  | .non, e, p, q, h, h' => by
    cases (Option.some.inj h)
    cases e with
    | tup l => obtain ⟨ps, _, e3⟩ := Option.map_eq_some_iff.mp h'; subst e3; simp [PyData.eqv, D.eqb]
    | lst l => obtain ⟨ps, _, e3⟩ := Option.map_eq_some_iff.mp h'; subst e3; simp [PyData.eqv, D.eqb]
    | obj _ _ _ => cases h'
    | fn _ => cases h'
    | scr _ => cases h'
    | _ => cases (Option.some.inj h'); simp [PyData.eqv, D.eqb]
  | .bl b, e, p, q, h, h' => by
    cases (Option.some.inj h)
    cases e with
    | tup l => obtain ⟨ps, _, e3⟩ := Option.map_eq_some_iff.mp h'; subst e3; simp [PyData.eqv, D.eqb]
    | lst l => obtain ⟨ps, _, e3⟩ := Option.map_eq_some_iff.mp h'; subst e3; simp [PyData.eqv, D.eqb]
    | obj _ _ _ => cases h'
    | fn _ => cases h'
    | scr _ => cases h'
    | _ => cases (Option.some.inj h'); simp [PyData.eqv, D.eqb]
  | .int b, e, p, q, h, h' => by
    cases (Option.some.inj h)
    cases e with
    | tup l => obtain ⟨ps, _, e3⟩ := Option.map_eq_some_iff.mp h'; subst e3; simp [PyData.eqv, D.eqb]
    | lst l => obtain ⟨ps, _, e3⟩ := Option.map_eq_some_iff.mp h'; subst e3; simp [PyData.eqv, D.eqb]
    | obj _ _ _ => cases h'
    | fn _ => cases h'
    | scr _ => cases h'
    | _ => cases (Option.some.inj h'); simp [PyData.eqv, D.eqb]
  | .str b, e, p, q, h, h' => by
    cases (Option.some.inj h)
    cases e with
    | tup l => obtain ⟨ps, _, e3⟩ := Option.map_eq_some_iff.mp h'; subst e3; simp [PyData.eqv, D.eqb]
    | lst l => obtain ⟨ps, _, e3⟩ := Option.map_eq_some_iff.mp h'; subst e3; simp [PyData.eqv, D.eqb]
    | obj _ _ _ => cases h'
    | fn _ => cases h'
    | scr _ => cases h'
    | _ => cases (Option.some.inj h'); simp [PyData.eqv, D.eqb]
  | .tup l, e, p, q, h, h' => by
    obtain ⟨ps, e2, e3⟩ := Option.map_eq_some_iff.mp h
    subst e3
    cases e with
    | tup l' => obtain ⟨qs, f2, f3⟩ := Option.map_eq_some_iff.mp h'; subst f3; simp [PyData.eqv, D.eqb, eqvs_of l l' ps qs e2 f2]
    | lst l => obtain ⟨ps, _, e3⟩ := Option.map_eq_some_iff.mp h'; subst e3; simp [PyData.eqv, D.eqb]
    | obj _ _ _ => cases h'
    | fn _ => cases h'
    | scr _ => cases h'
    | _ => cases (Option.some.inj h'); simp [PyData.eqv, D.eqb]
  | .lst l, e, p, q, h, h' => by
    obtain ⟨ps, e2, e3⟩ := Option.map_eq_some_iff.mp h
    subst e3
    cases e with
    | lst l' => obtain ⟨qs, f2, f3⟩ := Option.map_eq_some_iff.mp h'; subst f3; simp [PyData.eqv, D.eqb, eqvs_of l l' ps qs e2 f2]
    | tup l => obtain ⟨ps, _, e3⟩ := Option.map_eq_some_iff.mp h'; subst e3; simp [PyData.eqv, D.eqb]
    | obj _ _ _ => cases h'
    | fn _ => cases h'
    | scr _ => cases h'
    | _ => cases (Option.some.inj h'); simp [PyData.eqv, D.eqb]
  | .obj _ _ _, _, _, _, h, _ => by cases h
  | .fn _, _, _, _, h, _ => by cases h
  | .scr _, _, _, _, h, _ => by cases h
theorem eqvs_of : ∀ (ds es : List D) (ps qs : List PyData), D.toPs ds = some ps → D.toPs es = some qs → PyData.eqvAll ps qs = D.eqbs ds es
  | [], [], ps, qs, h, h' => by cases (Option.some.inj h); cases (Option.some.inj h'); simp [PyData.eqvAll, D.eqbs]
  | [], e :: es, ps, qs, h, h' => by
    cases (Option.some.inj h)
    obtain ⟨p, _, h'⟩ := Option.bind_eq_some_iff.mp h'
    obtain ⟨rs, _, e4⟩ := Option.map_eq_some_iff.mp h'
    subst e4
    simp [PyData.eqvAll, D.eqbs]
  | d :: ds, [], ps, qs, h, h' => by
    cases (Option.some.inj h')
    obtain ⟨p, _, h⟩ := Option.bind_eq_some_iff.mp h
    obtain ⟨rs, _, e4⟩ := Option.map_eq_some_iff.mp h
    subst e4
    simp [PyData.eqvAll, D.eqbs]
  | d :: ds, e :: es, ps, qs, h, h' => by
    obtain ⟨p, hp, h⟩ := Option.bind_eq_some_iff.mp h
    obtain ⟨rs, hr, e4⟩ := Option.map_eq_some_iff.mp h
    obtain ⟨p', hp', h'⟩ := Option.bind_eq_some_iff.mp h'
    obtain ⟨rs', hr', e5⟩ := Option.map_eq_some_iff.mp h'
    subst e4; subst e5
    simp [PyData.eqvAll, D.eqbs, eqv_of d e p p' hp hp', eqvs_of ds es rs rs' hr hr']
end
/-- scalars that == tells apart without more -/
def D.sc : D → D → Bool
  | .non, .non => true | .non, .int _ => true | .int _, .non => true | .non, .bl _ => true | .bl _, .non => true | .non, .str _ => true | .str _, .non => true
  | .int _, .int _ => true | .bl _, .bl _ => true | .str _, .str _ => true
  | .int _, .str _ => true | .str _, .int _ => true | .bl _, .str _ => true | .str _, .bl _ => true
  | _, _ => false
def D.eq (x y : D) : Option D := if D.sc x y || (x.sh && y.sh) then some (.bl (D.eqb x y)) else none
def D.ne (x y : D) : Option D := if D.sc x y || (x.sh && y.sh) then some (.bl (!D.eqb x y)) else none
theorem sc_eq {A : List Addr} {H : Hp} {x y : D} {v u : V} (rx : Rep1 K mg A H x v) (ry : Rep1 K mg A H y u) (h : D.sc x y = true) : scal v u = true ∧ decide (v = u) = D.eqb x y := by
  cases x <;> cases y <;> first
    | (cases h; done)
    | (have e1 := rx; have e2 := ry; cases e1; cases e2; refine ⟨rfl, ?_⟩; first | rfl | (simp [D.eqb]; done) | (rw [Bool.eq_iff_iff]; simp [D.eqb]; done))
def rEqD' (K : PySem.W.Frag) : R2 := fun x y H Q => rEq x y H Q ∨ rEqD K x y H Q
def rNeD' (K : PySem.W.Frag) : R2 := fun x y H Q => rNe x y H Q ∨ rNeD K x y H Q
theorem sh_some {d : D} (h : d.sh = true) : ∃ p, d.toP = some p ∧ SeqAt.shaped p = true := by
  unfold D.sh at h
  cases e : d.toP with
  | none => rw [e] at h; cases h
  | some p => rw [e] at h; exact ⟨p, rfl, h⟩
theorem snd_eq : Snd2 K mg (rEqD' K) D.eq := by
  intro A H x y d v u Q tk rx ry e q
  obtain ⟨h, rfl⟩ := ite_some e
  rcases Bool.or_eq_true_iff.mp h with h | h
  · obtain ⟨h1, h2⟩ := sc_eq rx ry h
    exact .inl ⟨h1, by rw [h2]; exact q _ _ (Same.refl _) rfl⟩
  · obtain ⟨h1, h2⟩ := Bool.and_eq_true_iff.mp h
    obtain ⟨p, e1, s1⟩ := sh_some h1
    obtain ⟨p', e2, s2⟩ := sh_some h2
    exact .inr ⟨p, p', dp1_of rx e1, dp1_of ry e2, s1, s2, by rw [eqv_of _ _ _ _ e1 e2]; exact q _ _ (Same.refl _) rfl⟩
theorem snd_ne : Snd2 K mg (rNeD' K) D.ne := by
  intro A H x y d v u Q tk rx ry e q
  obtain ⟨h, rfl⟩ := ite_some e
  rcases Bool.or_eq_true_iff.mp h with h | h
  · obtain ⟨h1, h2⟩ := sc_eq rx ry h
    exact .inl ⟨h1, by rw [h2]; exact q _ _ (Same.refl _) rfl⟩
  · obtain ⟨h1, h2⟩ := Bool.and_eq_true_iff.mp h
    obtain ⟨p, e1, s1⟩ := sh_some h1
    obtain ⟨p', e2, s2⟩ := sh_some h2
    exact .inr ⟨p, p', dp1_of rx e1, dp1_of ry e2, s1, s2, by rw [eqv_of _ _ _ _ e1 e2]; exact q _ _ (Same.refl _) rfl⟩
theorem op_eqD' (hu : X.A.units + 64 < cLine) : OpR X (compareOp .Eq) (rEqD' X.K) := op_eq.or (op_eqD hu)
theorem op_neD' (hu : X.A.units + 64 < cLine) : OpR X (compareOp .NotEq) (rNeD' X.K) := op_ne.or (op_neD hu)
def D.isN : D → D → Option D
  | .non, .non => some (.bl true)
  | _, .non => some (.bl false)
  | _, _ => none
end
end DL
namespace DL
open PySem L2
section
variable {X : Cx} {a b c : Expr} {x y : Arg} {pos : Pos} {K : PySem.W.Frag} {mg : Str → Option Value}
theorem snd_isN : Snd2 K mg (fun x y H Q => y = .non ∧ Q (.bl (decide (x = .non))) H) D.isN := by
  intro A H x y d v u Q tk rx ry e q
  cases y with
  | non =>
    refine ⟨ry, ?_⟩
    cases x with
    | non => cases rx; cases (Option.some.inj e); exact q _ _ (Same.refl _) rfl
    | bl _ => cases rx; cases (Option.some.inj e); exact q _ _ (Same.refl _) rfl
    | int _ => cases rx; cases (Option.some.inj e); exact q _ _ (Same.refl _) rfl
    | str _ => cases rx; cases (Option.some.inj e); exact q _ _ (Same.refl _) rfl
    | tup _ => obtain ⟨a, xs, e1, _⟩ := rx; subst e1; cases (Option.some.inj e); exact q _ _ (Same.refl _) rfl
    | lst _ => obtain ⟨a, xs, e1, _⟩ := rx; subst e1; cases (Option.some.inj e); exact q _ _ (Same.refl _) rfl
    | scr _ => obtain ⟨a, xs, e1, _⟩ := rx; subst e1; cases (Option.some.inj e); exact q _ _ (Same.refl _) rfl
    | fn _ => obtain ⟨a, e1, _⟩ := rx; subst e1; cases (Option.some.inj e); exact q _ _ (Same.refl _) rfl
    | obj _ _ _ => obtain ⟨a, C, dx, fvs, e1, _⟩ := rx; subst e1; cases (Option.some.inj e); exact q _ _ (Same.refl _) rfl
  | _ => cases x <;> cases e
def D.notN (x y : D) : Option D := match D.isN x y with
  | some (.bl k) => some (.bl (!k))
  | _ => none
theorem snd_notN : Snd2 K mg (fun x y H Q => y = .non ∧ Q (.bl (!decide (x = .non))) H) D.notN := by
  intro A H x y d v u Q tk rx ry e q
  unfold D.notN at e
  cases h : D.isN x y with
  | none => rw [h] at e; cases e
  | some z =>
    rw [h] at e
    refine (snd_isN (K := K) (mg := mg) A H x y z v u (fun z' H' => ∀ k, z' = .bl k → Q (.bl (!k)) H') tk rx ry h fun v' H' sm r k hk => ?_).imp id fun q' => q' _ rfl
    cases z with
    | bl k' =>
      cases (Option.some.inj e)
      cases r
      cases hk
      exact q _ _ sm rfl
    | _ => cases e
def D.items : D → Option (List D)
  | .lst l => some l
  | .tup l => some l
  | _ => none
/-- one sign within a text, a value within a list or a tuple -/
def D.mem (x y : D) : Option D := match x, y with
  | .str s, .str z => match s.cps.toList with
    | [c] => some (.bl (decide (c ∈ z.cps.toList)))
    | _ => none
  | x, .lst l => if x.sh && D.sh (.lst l) then some (.bl (l.any fun z => D.eqb z x)) else none
  | x, .tup l => if x.sh && D.sh (.tup l) then some (.bl (l.any fun z => D.eqb z x)) else none
  | _, _ => none
def D.nmem (x y : D) : Option D := match D.mem x y with
  | some (.bl k) => some (.bl (!k))
  | _ => none
def rInA (K : PySem.W.Frag) (neg : Bool) : R2 := fun x y H Q =>
  (∃ (c : Nat) (z : Str), x = .str ⟨#[c]⟩ ∧ y = .str z ∧ Q (.bl (if neg then !decide (c ∈ z.cps.toList) else decide (c ∈ z.cps.toList))) H) ∨
  (∃ d ds, Dp K H x d ∧ (Dp K H y (.list ds) ∨ Dp K H y (.tuple ds)) ∧ SeqAt.shaped d = true ∧ SeqAt.shaped (.list ds) = true ∧ Q (.bl (if neg then !(ds.any fun z => PyData.eqv z d) else ds.any fun z => PyData.eqv z d)) H)
theorem op_inA (hu : X.A.units + 65 < cLine) : OpR X (compareOp .In) (rInA X.K false) := by
  intro pins s σ H x y v u Q I rx ry h
  rcases h with ⟨c, z, e1, e2, q⟩ | ⟨d, ds, hd, he, sd, se, q⟩
  · exact op_in_sign pins s σ H x y v u Q I rx ry ⟨c, z, e1, e2, q⟩
  · obtain ⟨as, r1⟩ := Dp.reads I d x v hd rx
    rcases he with he | he
    · obtain ⟨bs, r2⟩ := Dp.reads I (.list ds) y u he ry
      exact SeqAt.in_list_reads r2 r1 (SeqAt.canLay_of_shaped se) (SeqAt.canLay_of_shaped sd) (PyProof.Rows.room_in_shaped sd hu) ⟨.bl _, H, I, rfl, q⟩
    · obtain ⟨bs, r2⟩ := Dp.reads I (.tuple ds) y u he ry
      exact SeqAt.in_tuple_reads r2 r1 (SeqAt.canLay_of_shaped se) (SeqAt.canLay_of_shaped sd) (PyProof.Rows.room_in_shaped sd hu) ⟨.bl _, H, I, rfl, q⟩
theorem op_notInA (hu : X.A.units + 65 < cLine) : OpR X (compareOp .NotIn) (rInA X.K true) := by
  intro pins s σ H x y v u Q I rx ry h
  rcases h with ⟨c, z, e1, e2, q⟩ | ⟨d, ds, hd, he, sd, se, q⟩
  · exact op_notIn_sign pins s σ H x y v u Q I rx ry ⟨c, z, e1, e2, q⟩
  · obtain ⟨as, r1⟩ := Dp.reads I d x v hd rx
    rcases he with he | he
    · obtain ⟨bs, r2⟩ := Dp.reads I (.list ds) y u he ry
      exact SeqAt.notIn_list_reads r2 r1 (SeqAt.canLay_of_shaped se) (SeqAt.canLay_of_shaped sd) (PyProof.Rows.room_in_shaped sd hu) ⟨.bl _, H, I, rfl, q⟩
    · obtain ⟨bs, r2⟩ := Dp.reads I (.tuple ds) y u he ry
      exact SeqAt.notIn_tuple_reads r2 r1 (SeqAt.canLay_of_shaped se) (SeqAt.canLay_of_shaped sd) (PyProof.Rows.room_in_shaped sd hu) ⟨.bl _, H, I, rfl, q⟩
theorem any_eqv {x : D} {p : PyData} (hp : x.toP = some p) : ∀ {l : List D} {ps : List PyData}, D.toPs l = some ps → (ps.any fun z => PyData.eqv z p) = l.any fun z => D.eqb z x
  | [], ps, h => by cases (Option.some.inj h); rfl
  | d :: l, ps, h => by
    obtain ⟨q, hq, h⟩ := Option.bind_eq_some_iff.mp h
    obtain ⟨qs, hqs, e⟩ := Option.map_eq_some_iff.mp h
    subst e
    rw [List.any_cons, List.any_cons, eqv_of d x q p hq hp, any_eqv hp hqs]
theorem snd_inA {A : List Addr} {H : Hp} {x y d : D} {v u : V} {Q : VK} (neg : Bool) (rx : Rep1 K mg A H x v) (ry : Rep1 K mg A H y u) (e : D.mem x y = some d) (q : ∀ k, d = .bl k → Q (.bl (if neg then !k else k)) H) : rInA K neg v u H Q := by
  unfold D.mem at e
  split at e
  · rename_i s z
    split at e
    · rename_i c hc
      cases (Option.some.inj e)
      refine .inl ⟨c, z, ?_, ry, q _ rfl⟩
      have : s = ⟨#[c]⟩ := by
        obtain ⟨cps⟩ := s
        congr
        exact Array.toList_inj.mp hc
      rw [← this]
      exact rx
    · cases e
  · rename_i l
    obtain ⟨h, rfl⟩ := ite_some e
    obtain ⟨h1, h2⟩ := Bool.and_eq_true_iff.mp h
    obtain ⟨p, e1, s1⟩ := sh_some h1
    obtain ⟨p', e2, s2⟩ := sh_some h2
    obtain ⟨ps, e3, e4⟩ := Option.map_eq_some_iff.mp (show (D.toPs l).map PyData.list = some p' from e2)
    subst e4
    refine .inr ⟨p, ps, dp1_of rx e1, .inl (dp1_of ry e2), s1, s2, ?_⟩
    rw [any_eqv e1 e3]
    exact q _ rfl
  · rename_i l
    obtain ⟨h, rfl⟩ := ite_some e
    obtain ⟨h1, h2⟩ := Bool.and_eq_true_iff.mp h
    obtain ⟨p, e1, s1⟩ := sh_some h1
    obtain ⟨p', e2, s2⟩ := sh_some h2
    obtain ⟨ps, e3, e4⟩ := Option.map_eq_some_iff.mp (show (D.toPs l).map PyData.tuple = some p' from e2)
    subst e4
    refine .inr ⟨p, ps, dp1_of rx e1, .inr (dp1_of ry e2), s1, ?_, ?_⟩
    · unfold SeqAt.shaped at s2 ⊢
      simpa [PyData.canLay0, PyData.depth] using s2
    · rw [any_eqv e1 e3]
      exact q _ rfl
  · cases e
theorem mem_bl {x y d : D} (e : D.mem x y = some d) : ∃ k, d = .bl k := by
  unfold D.mem at e
  split at e
  · split at e
    · cases (Option.some.inj e); exact ⟨_, rfl⟩
    · cases e
  · obtain ⟨h, rfl⟩ := ite_some e; exact ⟨_, rfl⟩
  · obtain ⟨h, rfl⟩ := ite_some e; exact ⟨_, rfl⟩
  · cases e
theorem snd_mem : Snd2 K mg (rInA K false) D.mem := by
  intro A H x y d v u Q tk rx ry e q
  exact snd_inA false rx ry e fun k hk => q _ _ (Same.refl _) (by subst hk; rfl)
theorem snd_nmem : Snd2 K mg (rInA K true) D.nmem := by
  intro A H x y d v u Q tk rx ry e q
  unfold D.nmem at e
  cases h : D.mem x y with
  | none => rw [h] at e; cases e
  | some z =>
    obtain ⟨k, rfl⟩ := mem_bl h
    rw [h] at e
    cases (Option.some.inj e)
    exact snd_inA true rx ry h fun k' hk => by
      cases hk
      exact q _ _ (Same.refl _) rfl
theorem de_lt (ha : DO X a x) (hb : DO X b y) : DE X (.Compare a [.Lt] [b] pos) (op2 D.lt x y) := de_cmp op_lt snd_cmpI (nomark _) ha hb
theorem de_le (ha : DO X a x) (hb : DO X b y) : DE X (.Compare a [.LtE] [b] pos) (op2 D.le x y) := de_cmp op_le snd_cmpI (nomark _) ha hb
theorem de_gt (ha : DO X a x) (hb : DO X b y) : DE X (.Compare a [.Gt] [b] pos) (op2 D.gt x y) := de_cmp op_gt snd_cmpI (nomark _) ha hb
theorem de_ge (ha : DO X a x) (hb : DO X b y) : DE X (.Compare a [.GtE] [b] pos) (op2 D.ge x y) := de_cmp op_ge snd_cmpI (nomark _) ha hb
theorem de_eq (hu : X.A.units + 64 < cLine) (ha : DO X a x) (hb : DO X b y) : DE X (.Compare a [.Eq] [b] pos) (op2 D.eq x y) := de_cmp (op_eqD' hu) snd_eq (nomark _) ha hb
theorem de_ne (hu : X.A.units + 64 < cLine) (ha : DO X a x) (hb : DO X b y) : DE X (.Compare a [.NotEq] [b] pos) (op2 D.ne x y) := de_cmp (op_neD' hu) snd_ne (nomark _) ha hb
theorem de_isN (ha : DO X a x) (hb : DO X b y) : DE X (.Compare a [.Is] [b] pos) (op2 D.isN x y) := de_cmp op_isN snd_isN (nomark _) ha hb
theorem de_notN (ha : DO X a x) (hb : DO X b y) : DE X (.Compare a [.IsNot] [b] pos) (op2 D.notN x y) := de_cmp op_notN snd_notN (nomark _) ha hb
theorem de_in (hu : X.A.units + 65 < cLine) (ha : DO X a x) (hb : DO X b y) (hm : behindInMarks .In b = false := by with_unfolding_all rfl) : DE X (.Compare a [.In] [b] pos) (op2 D.mem x y) := de_cmp (op_inA hu) snd_mem hm ha hb
theorem de_nin (hu : X.A.units + 65 < cLine) (ha : DO X a x) (hb : DO X b y) (hm : behindInMarks .NotIn b = false := by with_unfolding_all rfl) : DE X (.Compare a [.NotIn] [b] pos) (op2 D.nmem x y) := de_cmp (op_notInA hu) snd_nmem hm ha hb
theorem dt_lt (ha : DO X a x) (hb : DO X b y) : DT X (.Compare a [.Lt] [b] pos) (asTest (op2 D.lt x y)) := dt_cmp op_lt snd_cmpI (nomark _) ha hb
theorem dt_le (ha : DO X a x) (hb : DO X b y) : DT X (.Compare a [.LtE] [b] pos) (asTest (op2 D.le x y)) := dt_cmp op_le snd_cmpI (nomark _) ha hb
theorem dt_gt (ha : DO X a x) (hb : DO X b y) : DT X (.Compare a [.Gt] [b] pos) (asTest (op2 D.gt x y)) := dt_cmp op_gt snd_cmpI (nomark _) ha hb
theorem dt_ge (ha : DO X a x) (hb : DO X b y) : DT X (.Compare a [.GtE] [b] pos) (asTest (op2 D.ge x y)) := dt_cmp op_ge snd_cmpI (nomark _) ha hb
theorem dt_eq (hu : X.A.units + 64 < cLine) (ha : DO X a x) (hb : DO X b y) : DT X (.Compare a [.Eq] [b] pos) (asTest (op2 D.eq x y)) := dt_cmp (op_eqD' hu) snd_eq (nomark _) ha hb
theorem dt_ne (hu : X.A.units + 64 < cLine) (ha : DO X a x) (hb : DO X b y) : DT X (.Compare a [.NotEq] [b] pos) (asTest (op2 D.ne x y)) := dt_cmp (op_neD' hu) snd_ne (nomark _) ha hb
theorem dt_isN (ha : DO X a x) (hb : DO X b y) : DT X (.Compare a [.Is] [b] pos) (asTest (op2 D.isN x y)) := dt_cmp op_isN snd_isN (nomark _) ha hb
theorem dt_notN (ha : DO X a x) (hb : DO X b y) : DT X (.Compare a [.IsNot] [b] pos) (asTest (op2 D.notN x y)) := dt_cmp op_notN snd_notN (nomark _) ha hb
theorem dt_in (hu : X.A.units + 65 < cLine) (ha : DO X a x) (hb : DO X b y) (hm : behindInMarks .In b = false := by with_unfolding_all rfl) : DT X (.Compare a [.In] [b] pos) (asTest (op2 D.mem x y)) := dt_cmp (op_inA hu) snd_mem hm ha hb
theorem dt_nin (hu : X.A.units + 65 < cLine) (ha : DO X a x) (hb : DO X b y) (hm : behindInMarks .NotIn b = false := by with_unfolding_all rfl) : DT X (.Compare a [.NotIn] [b] pos) (asTest (op2 D.nmem x y)) := dt_cmp (op_notInA hu) snd_nmem hm ha hb
variable {e : Expr} {m n : M D} {t u : M Bool} {rest : List Expr}
theorem dt_val (h : DE X e m) (he : ∀ whole, isTrue e X.env whole = (do let v ← whole; standAt e.pos; holding [v] (truthy v)) := by intro _; rfl) : DT X e (asTest m) :=
  dt_of (fun _ h => pt_val h he) h
def bAnd (t u : M Bool) : M Bool := M.bnd t fun c => if c = true then u else M.ret false
def bOr (t u : M Bool) : M Bool := M.bnd t fun c => if c = true then M.ret true else u
def bNot (t : M Bool) : M Bool := M.bnd t fun c => M.ret (!c)
theorem dt_imp2 {σ : St} {H : Hp} {W : WZ} {Q : Bool → Hp → Prop} {f : Bool → M Bool} {G : Bool → Hp → Prop}
    (h : tT K mg W (M.bnd t f) σ H Q) (hq : ∀ (w : WS W) (A : List Addr) (ρ1 : Ev) c H1, SR K mg w A ρ1 σ H1 → (match f c ρ1 with
      | .ok b ρ' => ∀ H', Ext A H1 H' → SR K mg w A ρ' σ H' → Q b H'
      | .exc e ρ' => ∀ c dd H', Ext A H1 H' → SR K mg w A ρ' σ H' → ExR K mg A H' e c dd → W c dd σ H'
      | .bad => False) → G c H1) : tT K mg W t σ H G := by
  obtain ⟨w, A, ρ, R, q⟩ := h
  refine ⟨w, A, ρ, R, ?_⟩
  cases ht : t ρ with
  | exc e ρ1 => rw [bnd_exc ht] at q; exact q
  | bad => rw [bnd_bad ht] at q; exact q
  | ok c ρ1 =>
    rw [bnd_ok ht] at q
    intro H1 ex1 R1
    refine hq w A ρ1 c H1 R1 ?_
    cases hf : f c ρ1 with
    | exc e ρ2 => rw [hf] at q; exact fun c dd H2 ex2 R2 z => q c dd H2 (ex1.trans ex2) R2 z
    | bad => rw [hf] at q; exact q
    | ok c ρ2 => rw [hf] at q; exact fun H2 ex2 R2 => q H2 (ex1.trans ex2) R2
theorem dw_and1 (h : DT X a t) : DW X (.BoolOp .And [a] pos) t := fun W tk => pw_and1 (h W tk)
theorem dw_or1 (h : DT X a t) : DW X (.BoolOp .Or [a] pos) t := fun W tk => pw_or1 (h W tk)
theorem dw_and (h : DT X a t) (h2 : DW X (.BoolOp .And (b :: rest) pos) u) : DW X (.BoolOp .And (a :: b :: rest) pos) (bAnd t u) := fun W tk =>
  pw_imp (pw_and (h W tk) (h2 W tk)) fun σ H Q q => dt_imp2 q fun w A ρ1 c H1 R1 z => by
    cases c with
    | true => simp only [if_true] at z ⊢; exact ⟨w, A, ρ1, R1, z⟩
    | false => simp only [Bool.false_eq_true, if_false] at z ⊢; exact z H1 Ext.refl R1
theorem dw_or (h : DT X a t) (h2 : DW X (.BoolOp .Or (b :: rest) pos) u) : DW X (.BoolOp .Or (a :: b :: rest) pos) (bOr t u) := fun W tk =>
  pw_imp (pw_or (h W tk) (h2 W tk)) fun σ H Q q => dt_imp2 q fun w A ρ1 c H1 R1 z => by
    cases c with
    | false => simp only [Bool.false_eq_true, if_false] at z ⊢; exact ⟨w, A, ρ1, R1, z⟩
    | true => simp only [if_true] at z ⊢; exact z H1 Ext.refl R1
theorem dt_w (h : DW X e t) : DT X e t := fun W tk => (h W tk).pt
theorem dt_not (h : DT X a t) : DT X (.UnaryOp .Not a pos) (bNot t) := fun W tk => pt_imp (pt_not (h W tk)) fun σ H Q q => dt_imp2 q fun w A ρ1 c H1 R1 z => z H1 Ext.refl R1
theorem de_imp2 {σ : St} {H : Hp} {W : WZ} {Q : VK} {f : D → M D} {G : VK}
    (h : tE K mg W (M.bnd m f) σ H Q) (hq : ∀ (w : WS W) (A : List Addr) (ρ1 : Ev) d v H1, SR K mg w A ρ1 σ H1 → Rep K mg (off A H1) d v → (match f d ρ1 with
      | .ok d' ρ' => ∀ v H', Ext A H1 H' → SR K mg w A ρ' σ H' → Rep K mg (off A H') d' v → Q v H'
      | .exc e ρ' => ∀ c dd H', Ext A H1 H' → SR K mg w A ρ' σ H' → ExR K mg A H' e c dd → W c dd σ H'
      | .bad => False) → G v H1) : tE K mg W m σ H G := by
  obtain ⟨w, A, ρ, R, q⟩ := h
  refine ⟨w, A, ρ, R, ?_⟩
  cases ht : m ρ with
  | exc e ρ1 => rw [bnd_exc ht] at q; exact q
  | bad => rw [bnd_bad ht] at q; exact q
  | ok c ρ1 =>
    rw [bnd_ok ht] at q
    intro v H1 ex1 R1 r1
    refine hq w A ρ1 c v H1 R1 r1 ?_
    cases hf : f c ρ1 with
    | exc e ρ2 => rw [hf] at q; exact fun c dd H2 ex2 R2 z => q c dd H2 (ex1.trans ex2) R2 z
    | bad => rw [hf] at q; exact q
    | ok c ρ2 => rw [hf] at q; exact fun v2 H2 ex2 R2 => q v2 H2 (ex1.trans ex2) R2
def vAnd (m n : M D) : M D := M.bnd m fun d => match d with
  | .bl true => n
  | .bl false => M.ret (.bl false)
  | _ => fun _ => .bad
def vOr (m n : M D) : M D := M.bnd m fun d => match d with
  | .bl true => M.ret (.bl true)
  | .bl false => n
  | _ => fun _ => .bad
def vNot (m : M D) : M D := M.bnd m fun d => match d with
  | .bl k => M.ret (.bl (!k))
  | _ => fun _ => .bad
theorem de_one1 {op} (h : DE X a m) : DE X (.BoolOp op [a] pos) m := fun W tk => pe_one (h W tk)
theorem de_and (h : DE X a m) (h2 : DE X (.BoolOp .And (b :: rest) pos) n) : DE X (.BoolOp .And (a :: b :: rest) pos) (vAnd m n) := fun W tk =>
  pe_imp (pe_and (h W tk) (h2 W tk)) fun σ H Q q => de_imp2 q fun w A ρ1 d v H1 R1 r z => by
    cases d with
    | bl k =>
      cases r
      refine ⟨k, rfl, ?_⟩
      cases k with
      | true => simp only [if_true]; exact ⟨w, A, ρ1, R1, z⟩
      | false => simp only [Bool.false_eq_true, if_false]; exact z _ H1 Ext.refl R1 rfl
    | _ => exact z.elim
theorem de_or (h : DE X a m) (h2 : DE X (.BoolOp .Or (b :: rest) pos) n) : DE X (.BoolOp .Or (a :: b :: rest) pos) (vOr m n) := fun W tk =>
  pe_imp (pe_or (h W tk) (h2 W tk)) fun σ H Q q => de_imp2 q fun w A ρ1 d v H1 R1 r z => by
    cases d with
    | bl k =>
      cases r
      refine ⟨k, rfl, ?_⟩
      cases k with
      | false => simp only [Bool.false_eq_true, if_false]; exact ⟨w, A, ρ1, R1, z⟩
      | true => simp only [if_true]; exact z _ H1 Ext.refl R1 rfl
    | _ => exact z.elim
theorem de_not (h : DE X a m) : DE X (.UnaryOp .Not a pos) (vNot m) := fun W tk =>
  pe_imp (pe_not (h W tk)) fun σ H Q q => de_imp2 q fun w A ρ1 d v H1 R1 r z => by
    cases d with
    | bl k => cases r; exact ⟨k, rfl, z _ H1 Ext.refl R1 rfl⟩
    | _ => exact z.elim
def vIf (t : M Bool) (m n : M D) : M D := M.bnd t fun c => if c = true then m else n
theorem de_ifExp (ht : DT X c t) (ha : DE X a m) (hb : DE X b n) : DE X (.IfExp c a b pos) (vIf t m n) := fun W tk =>
  pe_imp (pe_ifExp (ht W tk) (ha W tk) (hb W tk)) fun σ H Q ⟨w, A, ρ, R, q⟩ => by
    refine ⟨w, A, ρ, R, ?_⟩
    unfold vIf at q
    cases hc : t ρ with
    | exc e ρ1 => rw [bnd_exc hc] at q; exact q
    | bad => rw [bnd_bad hc] at q; exact q
    | ok k ρ1 =>
      rw [bnd_ok hc] at q
      intro H1 ex1 R1
      cases k with
      | true =>
        simp only [if_true] at q ⊢
        refine ⟨w, A, ρ1, R1, ?_⟩
        cases hf : m ρ1 with
        | exc e ρ2 => rw [hf] at q; exact fun c dd H2 ex2 R2 z => q c dd H2 (ex1.trans ex2) R2 z
        | bad => rw [hf] at q; exact q
        | ok c ρ2 => rw [hf] at q; exact fun v2 H2 ex2 R2 => q v2 H2 (ex1.trans ex2) R2
      | false =>
        simp only [Bool.false_eq_true, if_false] at q ⊢
        refine ⟨w, A, ρ1, R1, ?_⟩
        cases hf : n ρ1 with
        | exc e ρ2 => rw [hf] at q; exact fun c dd H2 ex2 R2 z => q c dd H2 (ex1.trans ex2) R2 z
        | bad => rw [hf] at q; exact q
        | ok c ρ2 => rw [hf] at q; exact fun v2 H2 ex2 R2 => q v2 H2 (ex1.trans ex2) R2
end
end DL
namespace DL
open PySem L2
section
variable {X : Cx} {a b c e : Expr} {es : List Expr} {x y : Arg} {as : List Arg} {pos p : Pos} {K : PySem.W.Frag} {mg : Str → Option Value}
theorem ixN_congr {n m : Nat} (h : n = m) (i : Int) : ixN n i = ixN m i := by rw [h]
theorem Reps.atI {F : Hp} {ds : List D} {vs : List V} {i : Int} {d : D} (r : Reps K mg F ds vs) (h : atI ds i = some d) : ∃ v, L2.atI vs i = some v ∧ Rep K mg F d v := by
  unfold L2.atI at h ⊢
  rw [r.length] at h
  obtain ⟨j, h1, h2⟩ := Option.bind_eq_some_iff.mp h
  obtain ⟨v, h3, h4⟩ := r.get h2
  exact ⟨v, by rw [h1]; exact h3, h4⟩
def D.ix : D → D → Option D
  | .lst l, .int i => L2.atI l i
  | .tup l, .int i => L2.atI l i
  | .scr l, .int i => L2.atI l i
  | .str s, .int i => if s.length ≤ sizeLine then (L2.atI s.cps.toList i).map fun c => .str ⟨#[c]⟩ else none
  | _, _ => none
theorem snd_ix : Snd2 K mg (rIx K) D.ix := by
  intro A H x y d v u Q tk rx ry e q
  cases x with
  | lst l =>
    cases y with
    | int i =>
      obtain ⟨p, vs, e1, h, r⟩ := rx
      obtain ⟨w, h1, h2⟩ := r.atI e
      exact .inl ⟨p, vs, i, w, e1, ry, SqL.of h, h1, q _ _ (Same.refl _) h2⟩
    | _ => cases e
  | scr l =>
    cases y with
    | int i =>
      obtain ⟨p, vs, e1, h, r⟩ := rx
      obtain ⟨w, h1, h2⟩ := r.atI e
      exact .inl ⟨p, vs, i, w, e1, ry, SqL.mono off_le h, h1, q _ _ (Same.refl _) h2⟩
    | _ => cases e
  | tup l =>
    cases y with
    | int i =>
      obtain ⟨p, vs, e1, h, r⟩ := rx
      obtain ⟨w, h1, h2⟩ := r.atI e
      exact .inr (.inl ⟨p, vs, i, w, e1, ry, SqT.mono off_le h, h1, q _ _ (Same.refl _) h2⟩)
    | _ => cases e
  | str s =>
    cases y with
    | int i =>
      have e : (if s.length ≤ sizeLine then (L2.atI s.cps.toList i).map fun c => D.str ⟨#[c]⟩ else none) = some d := e
      by_cases hz : s.length ≤ sizeLine
      · rw [if_pos hz] at e
        obtain ⟨c, h1, h2⟩ := Option.map_eq_some_iff.mp e
        subst h2
        exact .inr (.inr ⟨s, i, c, rx, ry, hz, h1, q _ _ (Same.refl _) rfl⟩)
      · rw [if_neg hz] at e; cases e
    | _ => cases e
  | _ => cases e
theorem de_ix (ha : DO X a x) (hb : DO X b y) (hs : PlainIx b := by intro _ _; rfl) : DE X (.Subscript a b pos) (op2 D.ix x y) := de_two (fun _ _ h1 h2 => pe_ix ix_seq h1 h2 hs) snd_ix ha hb
def cutG {α : Type} (xs : List α) (lo hi : Option Int) : List α := (xs.drop (HT.sIx xs.length 0 lo)).take (HT.sIx xs.length xs.length hi - HT.sIx xs.length 0 lo)
theorem Reps.cut {F : Hp} {ds : List D} {vs : List V} {lo hi : Option Int} (r : Reps K mg F ds vs) : Reps K mg F (cutG ds lo hi) (cutV vs lo hi) := by
  unfold cutG cutV
  rw [r.length]
  exact (r.drop _).take _
def D.cut (lo hi : Option Int) : D → Option D
  | .lst l => some (.lst (cutG l lo hi))
  | .tup l => some (.tup (cutG l lo hi))
  | .str s => if s.length ≤ sizeLine then some (.str (cutS s lo hi)) else none
  | _ => none
/-- a part of a slice: none, or a whole number -/
def Pt := Option (M D)
def Pt.ev : Option (M D) → M (Option Int)
  | none => M.ret none
  | some m => M.bnd m fun d ρ => match d with
    | .int i => .ok (some i) ρ
    | _ => .bad
def tP (K : PySem.W.Frag) (mg : Str → Option Value) (W : WZ) (o : Option (M D)) : TO := fun σ H Q => ∃ (w : WS W) (A : List Addr) (ρ : Ev), SR K mg w A ρ σ H ∧ match Pt.ev o ρ with
  | .ok x ρ' => ∀ H', Ext A H H' → SR K mg w A ρ' σ H' → Q x H'
  | .exc e ρ' => ∀ c dd H', Ext A H H' → SR K mg w A ρ' σ H' → ExR K mg A H' e c dd → W c dd σ H'
  | .bad => False
def DP (X : Cx) (e : Option Expr) (o : Option (M D)) : Prop := ∀ W : WZ, TakesZ X W → PO X e (tP X.K X.mg W o)
theorem po_imp {e : Option Expr} {t t' : TO} (h : PO X e t) (q : ∀ σ H Q, t' σ H Q → t σ H Q) : PO X e t' := ⟨fun pins s σ H Q I hw => h.run pins s σ H Q I (q σ H Q hw)⟩
theorem dp_none : DP X none none := fun W _ => po_imp po_none fun σ H Q ⟨w, A, ρ, R, q⟩ => q H Ext.refl R
theorem dp_some {m : M D} (h : DE X e m) : DP X (some e) (some m) := fun W tk => po_imp (po_some (h W tk)) fun σ H Q ⟨w, A, ρ, R, q⟩ => by
  refine ⟨w, A, ρ, R, ?_⟩
  have e0 : Pt.ev (some m) ρ = M.bnd m (fun d ρ => match d with | .int i => .ok (some i) ρ | _ => .bad) ρ := rfl
  rw [e0] at q
  cases hm : m ρ with
  | exc e ρ1 => rw [bnd_exc hm] at q; exact q
  | bad => rw [bnd_bad hm] at q; exact q
  | ok d ρ1 =>
    rw [bnd_ok hm] at q
    intro v H1 ex1 R1 r1
    cases d with
    | int i => exact ⟨i, r1, q H1 ex1 R1⟩
    | _ => exact q.elim
def slc (x : Arg) (lo hi : Option (M D)) : M D := M.bnd x.ev fun v => M.bnd (Pt.ev lo) fun l => M.bnd (Pt.ev hi) fun u ρ => match (rs v ρ).bind (D.cut l u) with
  | some r => .ok r ρ
  | none => .bad
def rSlAll (K : PySem.W.Frag) : V → Option Int → Option Int → Hp → VK → Prop := fun x lo hi H Q => rSlL K x lo hi H Q ∨ (rSlA K x lo hi H Q ∨ ∃ z, x = .str z ∧ z.length ≤ sizeLine ∧ Q (.str (cutS z lo hi)) H)
theorem sIx_whole {α : Type} {xs : List α} {lo hi : Option Int} (h : HT.sIx xs.length 0 lo = 0 ∧ HT.sIx xs.length xs.length hi = xs.length) : cutG xs lo hi = xs := by
  unfold cutG
  rw [h.1, h.2]
  simp
theorem snd_cut {A : List Addr} {H : Hp} {x d : D} {v : V} {lo hi : Option Int} {Q : VK} (tk : Trk A H) (rx : Rep1 K mg A H x v) (e : D.cut lo hi x = some d)
    (q : ∀ v' H', Same H H' → Rep K mg (off A H') d v' → Q v' H') : rSlAll K v lo hi H Q := by
  cases x with
  | lst l =>
    cases (Option.some.inj e)
    obtain ⟨p, vs, e1, h, r⟩ := rx
    exact .inl ⟨p, vs, e1, SqL.of h, fun t nt => q _ _ (same_upd nt) (rep_lst tk nt r.cut)⟩
  | tup l =>
    cases (Option.some.inj e)
    obtain ⟨p, vs, e1, h, r⟩ := rx
    refine .inr (.inl ⟨p, vs, e1, SqT.mono off_le h, fun hw => ?_, fun _ t nt => q _ _ (same_upd nt) (rep_tup tk nt r.cut)⟩)
    have hl := r.length
    rw [← hl] at hw
    rw [sIx_whole hw] at q
    exact q _ _ (Same.refl _) ⟨p, vs, rfl, h, r⟩
  | str s =>
    obtain ⟨hz, rfl⟩ := ite_some e
    exact .inr (.inr ⟨s, rx, hz, q _ _ (Same.refl _) rfl⟩)
  | _ => cases e
theorem de_slice {lo hi : Option Expr} {l u : Option (M D)} {p2 : Pos} (ha : DO X a x) (hl : DP X lo l) (hu : DP X hi u) : DE X (.Subscript a (.Slice lo hi none p2) pos) (slc x l u) := fun W tk =>
  pe_imp (pe_slice (sl_list.or (sl_tupA.or sl_str)) (ha W tk) (hl W tk) (hu W tk)) fun σ H Q ⟨w, A, ρ, R, q⟩ => by
    refine ⟨w, A, ρ, R, ?_⟩
    unfold slc at q
    cases hx : x.ev ρ with
    | exc e ρ1 => rw [bnd_exc hx] at q; exact q
    | bad => rw [bnd_bad hx] at q; exact q
    | ok v ρ1 =>
      rw [bnd_ok hx] at q
      intro vv H1 ex1 R1 r1
      refine ⟨w, A, ρ1, R1, ?_⟩
      cases hy : Pt.ev l ρ1 with
      | exc e ρ2 => rw [bnd_exc hy] at q; exact fun c dd H2 ex2 R2 z => q c dd H2 (ex1.trans ex2) R2 z
      | bad => rw [bnd_bad hy] at q; exact q
      | ok lv ρ2 =>
        rw [bnd_ok hy] at q
        intro H2 ex2 R2
        refine ⟨w, A, ρ2, R2, ?_⟩
        cases hz : Pt.ev u ρ2 with
        | exc e ρ3 => rw [bnd_exc hz] at q; exact fun c dd H3 ex3 R3 z => q c dd H3 ((ex1.trans ex2).trans ex3) R3 z
        | bad => rw [bnd_bad hz] at q; exact q
        | ok uv ρ3 =>
          rw [bnd_ok hz] at q
          intro H3 ex3 R3
          cases hd : (rs v ρ3).bind (D.cut lv uv) with
          | none => rw [hd] at q; exact q.elim
          | some d =>
            rw [hd] at q
            obtain ⟨p', hp', hd⟩ := Option.bind_eq_some_iff.mp hd
            exact snd_cut R3.trk (rs_rep R3 (r1.ext (ex2.trans ex3)) hp') hd (op_end R3 ((ex1.trans ex2).trans ex3) q)
def dvs : List AV → Option (List D)
  | [] => some []
  | .d d :: as => (dvs as).map fun ds => d :: ds
  | .o _ :: _ => none
theorem dvs_rep {A : List Addr} {σ : St} {H : Hp} : ∀ {xs : List AV} {vs : List V} {ds : List D}, AVRs K mg A σ H xs vs → dvs xs = some ds → Reps K mg (off A H) ds vs
  | [], vs, ds, h, e => by cases (Option.some.inj e); exact h
  | .d d :: xs, vs, ds, ⟨v, r, e1, h, t⟩, e => by
    obtain ⟨ds', h2, e2⟩ := Option.map_eq_some_iff.mp e
    subst e1; subst e2
    exact ⟨v, r, rfl, h, dvs_rep t h2⟩
  | .o _ :: _, _, _, _, e => by cases e
def opV (f : List D → Option D) (as : List Arg) : M D := M.bnd (evs as) fun xs ρ => match (dvs xs).bind f with
  | some r => .ok r ρ
  | none => .bad
theorem de_vals {r : TA → TE} {f : List D → Option D} {e : Expr} (hp : ∀ t : TA, PA X es t → PE X e (r t)) (hm : ∀ (t : TA) σ H Q G, t σ H G → (∀ vs H1, G vs H1 → r (fun _ H' Q' => Q' vs H') σ H1 Q) → r t σ H Q)
    (hs : ∀ (A : List Addr) (σ : St) (H : Hp) (xs : List D) (d : D) (vs : List V) (Q : VK), Trk A H → Reps K mg (off A H) xs vs → f xs = some d → (∀ v' H', Same H H' → Rep K mg (off A H') d v' → Q v' H') → r (fun _ H' Q' => Q' vs H') σ H Q)
    (ha : DA X es as) (hK : X.K = K) (hg : X.mg = mg) : DE X e (opV f as) := fun W tk =>
  pe_imp (hp _ (ha W tk)) fun σ H Q ⟨w, A, ρ, R, q⟩ => by
    subst hK hg
    refine hm _ σ H Q (fun vs H1 => r (fun _ H' Q' => Q' vs H') σ H1 Q) ⟨w, A, ρ, R, ?_⟩ fun _ _ h => h
    unfold opV at q
    cases hx : evs as ρ with
    | exc e ρ1 => rw [bnd_exc hx] at q; exact q
    | bad => rw [bnd_bad hx] at q; exact q
    | ok v ρ1 =>
      rw [bnd_ok hx] at q
      intro vv H1 ex1 R1 r1
      cases hd : (dvs v).bind f with
      | none => rw [hd] at q; exact q.elim
      | some d =>
        rw [hd] at q
        obtain ⟨p, hp, hd⟩ := Option.bind_eq_some_iff.mp hd
        exact hs A σ H1 p d vv Q R1.trk (dvs_rep r1 hp) hd (op_end R1 ex1 q)
def D.mkL (l : List D) : Option D := if l.length ≤ sizeLine then some (.lst l) else none
def D.mkT (l : List D) : Option D := if l.length ≤ sizeLine then some (.tup l) else none
theorem da_mono {t : TA} {W : WZ} (h : PA X es (tA X.K X.mg W as)) : PA X es (tA X.K X.mg W as) := h
theorem de_lst (ha : DA X es as) : DE X (.List es pos) (opV D.mkL as) := fun W tk => pe_imp (pe_lst (ha W tk)) fun σ H Q ⟨w, A, ρ, R, q⟩ => by
  refine ⟨w, A, ρ, R, ?_⟩
  unfold opV at q
  cases hx : evs as ρ with
  | exc e ρ1 => rw [bnd_exc hx] at q; exact q
  | bad => rw [bnd_bad hx] at q; exact q
  | ok v ρ1 =>
    rw [bnd_ok hx] at q
    intro vv H1 ex1 R1 r1
    cases hd : (dvs v).bind D.mkL with
    | none => rw [hd] at q; exact q.elim
    | some d =>
      rw [hd] at q
      obtain ⟨p, hp, hd⟩ := Option.bind_eq_some_iff.mp hd
      obtain ⟨hz, rfl⟩ := ite_some hd
      have r := dvs_rep r1 hp
      exact ⟨by rw [← r.length]; exact hz, fun t nt => op_end R1 ex1 q _ _ (same_upd nt) (rep_lst R1.trk nt r)⟩
theorem de_tup {x1} (ha : DA X es as) : DE X (.Tuple es x1 pos) (opV D.mkT as) := fun W tk => pe_imp (pe_tup (ha W tk)) fun σ H Q ⟨w, A, ρ, R, q⟩ => by
  refine ⟨w, A, ρ, R, ?_⟩
  unfold opV at q
  cases hx : evs as ρ with
  | exc e ρ1 => rw [bnd_exc hx] at q; exact q
  | bad => rw [bnd_bad hx] at q; exact q
  | ok v ρ1 =>
    rw [bnd_ok hx] at q
    intro vv H1 ex1 R1 r1
    cases hd : (dvs v).bind D.mkT with
    | none => rw [hd] at q; exact q.elim
    | some d =>
      rw [hd] at q
      obtain ⟨p, hp, hd⟩ := Option.bind_eq_some_iff.mp hd
      obtain ⟨hz, rfl⟩ := ite_some hd
      have r := dvs_rep r1 hp
      exact ⟨by rw [← r.length]; exact hz, fun t nt => op_end R1 ex1 q _ _ (same_upd nt) (rep_tup R1.trk nt r)⟩
theorem zip_lookup {F : Hp} {f : Str} : ∀ {ns : List Str} {ds : List D} {vs : List V} {d : D}, Reps K mg F ds vs → (ns.zip ds).lookup f = some d → ∃ v, (ns.zip vs).lookup f = some v ∧ Rep K mg F d v
  | [], _, _, _, _, h => by simp at h
  | n :: ns, [], _, _, _, h => by simp at h
  | n :: ns, d' :: ds, _, d, ⟨v, r, e, h1, h2⟩, h => by
    subst e
    rw [List.zip_cons_cons, List.lookup_cons] at h ⊢
    cases hf : f == n with
    | true => rw [hf] at h; cases (Option.some.inj h); exact ⟨v, rfl, h1⟩
    | false => rw [hf] at h; exact zip_lookup h2 h
def D.fld (c f : Str) : D → Option D
  | .obj c' ns l => if c' = c then (ns.zip l).lookup f else none
  | _ => none
/-- what the written part says of a class and a field of it -/
def FldOk (K : PySem.W.Frag) (mg : Str → Option Value) (c f : Str) : Prop := ∀ C, mg c = some (.ref C) → Cls K C ∧ NoAttr K C f
theorem de_fld {c f : Str} (ok : FldOk X.K X.mg c f) (ha : DO X a x) (hb : attributeBase a f X.env (eval a X.env) = eval a X.env := by rfl) : DE X (.Attribute a f pos) (op1 (D.fld c f) x) :=
  de_one (r := fun x H1 Q => ∃ a C dx fs v, x = .ref a ∧ H1 a = some (.ins C dx fs) ∧ Cls X.K C ∧ NoAttr X.K C f ∧ fs.lookup f = some v ∧ Q v H1) (fun _ h => pe_fld h hb) (by
    intro A H x d v Q tk rx e q
    cases x with
    | obj c' ns l =>
      obtain ⟨a, C, dx, fvs, e1, m, h, n, r⟩ := rx
      have e : (if c' = c then (ns.zip l).lookup f else none) = some d := e
      by_cases hc : c' = c
      · subst hc
        rw [if_pos rfl] at e
        obtain ⟨u, h1, h2⟩ := zip_lookup r e
        exact ⟨a, C, dx, _, u, e1, h, (ok C m).1, (ok C m).2, h1, q _ _ (Same.refl _) h2⟩
      · rw [if_neg hc] at e; cases e
    | _ => cases e) ha
def D.len : List D → Option D
  | [.lst l] => some (.int l.length)
  | [.tup l] => some (.int l.length)
  | [.scr l] => some (.int l.length)
  | [.str s] => if s.length ≤ sizeLine then some (.int s.length) else none
  | _ => none
def D.toL : List D → Option D
  | [.lst l] => some (.lst l)
  | [.tup l] => some (.lst l)
  | _ => none
def D.toT : List D → Option D
  | [.lst l] => some (.tup l)
  | [.tup l] => some (.tup l)
  | _ => none
def D.toI : List D → Option D
  | [.int i] => some (.int i)
  | [.bl k] => some (.int (if k then 1 else 0))
  | _ => none
theorem Reps1.one {A : List Addr} {H : Hp} {d : D} {vs : List V} (h : Reps1 K mg A H [d] vs) : ∃ v, vs = [v] ∧ Rep1 K mg A H d v := by
  cases h with
  | cons h t => cases t; exact ⟨_, rfl, h⟩
theorem Reps1.two {A : List Addr} {H : Hp} {d d' : D} {vs : List V} (h : Reps1 K mg A H [d, d'] vs) : ∃ v u, vs = [v, u] ∧ Rep1 K mg A H d v ∧ Rep1 K mg A H d' u := by
  cases h with
  | cons h t => cases t with
    | cons h' t => cases t; exact ⟨_, _, rfl, h, h'⟩
theorem snd_len : SndN K mg (fun xs H Q => (∃ p ys, xs = [.ref p] ∧ (SqL K H p ys ∨ SqT K H p ys) ∧ Q (.int ys.length) H) ∨ ∃ z, xs = [.str z] ∧ z.length ≤ sizeLine ∧ Q (.int z.length) H) D.len := by
  intro A H xs d vs Q tk rx e q
  match xs, rx, e with
  | [.lst l], rx, e =>
    obtain ⟨v, rfl, p, us, rfl, h, r⟩ := rx.one
    cases (Option.some.inj e)
    exact .inl ⟨p, us, rfl, .inl (SqL.of h), q _ _ (Same.refl _) (by rw [r.length]; rfl)⟩
  | [.scr l], rx, e =>
    obtain ⟨v, rfl, p, us, rfl, h, r⟩ := rx.one
    cases (Option.some.inj e)
    exact .inl ⟨p, us, rfl, .inl (SqL.mono off_le h), q _ _ (Same.refl _) (by rw [r.length]; rfl)⟩
  | [.tup l], rx, e =>
    obtain ⟨v, rfl, p, us, rfl, h, r⟩ := rx.one
    cases (Option.some.inj e)
    exact .inl ⟨p, us, rfl, .inr (SqT.mono off_le h), q _ _ (Same.refl _) (by rw [r.length]; rfl)⟩
  | [.str s], rx, e =>
    obtain ⟨v, rfl, r⟩ := rx.one
    cases r
    obtain ⟨hz, rfl⟩ := ite_some e
    exact .inr ⟨s, rfl, hz, q _ _ (Same.refl _) rfl⟩
theorem de_len (hg : Gl X "len") (hm : X.mg "len" = none) (ha : DA X (e :: es) as)
    (he : starEach (e :: es) X.env = (false, eval e X.env) :: starEach es X.env := by rfl) (hpl : (backTo pos (starEach es X.env)).any (·.1) = false := by rfl) : DE X (.Call (.Name "len" p) (e :: es) [] pos) (opN D.len as) :=
  de_many (fun _ h => pe_callB (call_len_seq.or call_len_str) hg hm PySem.boot_len h (he := he) (hpl := hpl)) snd_len ha
theorem de_list (hg : Gl X "list") (hm : X.mg "list" = none) (ha : DA X (e :: es) as)
    (he : starEach (e :: es) X.env = (false, eval e X.env) :: starEach es X.env := by rfl) (hpl : (backTo pos (starEach es X.env)).any (·.1) = false := by rfl) : DE X (.Call (.Name "list" p) (e :: es) [] pos) (opN D.toL as) :=
  de_many (fun _ h => pe_callTy call_list_of hg hm (by decide +kernel) h (he := he) (hpl := hpl)) (by
    intro A H xs d vs Q tk rx e q
    match xs, rx, e with
    | [.lst l], rx, e =>
      obtain ⟨v, rfl, p, us, rfl, h, r⟩ := rx.one
      cases (Option.some.inj e)
      exact ⟨p, us, rfl, .inl (SqL.of h), fun t nt => q _ _ (same_upd nt) (rep_lst tk nt r)⟩
    | [.tup l], rx, e =>
      obtain ⟨v, rfl, p, us, rfl, h, r⟩ := rx.one
      cases (Option.some.inj e)
      exact ⟨p, us, rfl, .inr (SqT.mono off_le h), fun t nt => q _ _ (same_upd nt) (rep_lst tk nt r)⟩) ha
theorem de_tuple (hg : Gl X "tuple") (hm : X.mg "tuple" = none) (ha : DA X (e :: es) as)
    (he : starEach (e :: es) X.env = (false, eval e X.env) :: starEach es X.env := by rfl) (hpl : (backTo pos (starEach es X.env)).any (·.1) = false := by rfl) : DE X (.Call (.Name "tuple" p) (e :: es) [] pos) (opN D.toT as) :=
  de_many (fun _ h => pe_callTy call_tuple_of hg hm (by decide +kernel) h (he := he) (hpl := hpl)) (by
    intro A H xs d vs Q tk rx e q
    match xs, rx, e with
    | [.lst l], rx, e =>
      obtain ⟨v, rfl, p, us, rfl, h, r⟩ := rx.one
      cases (Option.some.inj e)
      exact ⟨p, us, rfl, .inl ⟨SqL.of h, fun t nt => q _ _ (same_upd nt) (rep_tup tk nt r)⟩⟩
    | [.tup l], rx, e =>
      obtain ⟨v, rfl, p, us, rfl, h, r⟩ := rx.one
      cases (Option.some.inj e)
      exact ⟨p, us, rfl, .inr ⟨SqT.mono off_le h, q _ _ (Same.refl _) ⟨p, us, rfl, h, r⟩⟩⟩) ha
theorem de_intc (hg : Gl X "int") (hm : X.mg "int" = none) (ha : DA X (e :: es) as)
    (he : starEach (e :: es) X.env = (false, eval e X.env) :: starEach es X.env := by rfl) (hpl : (backTo pos (starEach es X.env)).any (·.1) = false := by rfl) : DE X (.Call (.Name "int" p) (e :: es) [] pos) (opN D.toI as) :=
  de_many (fun _ h => pe_callTy call_int1 hg hm (by decide +kernel) h (he := he) (hpl := hpl)) (by
    intro A H xs d vs Q tk rx e q
    match xs, rx, e with
    | [.int l], rx, e =>
      obtain ⟨v, rfl, r⟩ := rx.one
      cases r
      cases (Option.some.inj e)
      exact .inl ⟨l, rfl, q _ _ (Same.refl _) rfl⟩
    | [.bl l], rx, e =>
      obtain ⟨v, rfl, r⟩ := rx.one
      cases r
      cases (Option.some.inj e)
      exact .inr ⟨l, rfl, q _ _ (Same.refl _) rfl⟩) ha
end
end DL
namespace DL
open PySem L2
section
variable {X : Cx} {a b c e : Expr} {es : List Expr} {x y : Arg} {as : List Arg} {pos p : Pos} {K : PySem.W.Frag} {mg : Str → Option Value}
theorem Rep1.same {A : List Addr} {H H' : Hp} (s : Same H H') : ∀ {d : D} {v : V}, Rep1 K mg A H d v → Rep1 K mg A H' d v
  | .lst l, _, ⟨a, xs, e, q, r⟩ => ⟨a, xs, e, s _ _ q, r.mono (off_Same s)⟩
  | .obj _ _ l, _, ⟨a, C, dx, fvs, e, m, q, n, r⟩ => ⟨a, C, dx, fvs, e, m, s _ _ q, n, r.mono (off_Same s)⟩
  | .non, _, h => h
  | .bl _, _, h => h
  | .int _, _, h => h
  | .str _, _, h => h
  | .fn _, _, h => h
  | .tup l, v, h => Rep.mono (off_Same s) (.tup l) v h
  | .scr l, v, h => Rep.mono (off_Same s) (.scr l) v h
def D.intsOf : List D → Option (List Int)
  | [] => some []
  | .int i :: r => (D.intsOf r).map fun is => i :: is
  | _ => none
def D.blsOf : List D → Option (List Bool)
  | [] => some []
  | .bl i :: r => (D.blsOf r).map fun is => i :: is
  | _ => none
theorem ints_vals {F : Hp} : ∀ {l : List D} {vs : List V} {ns : List Int}, Reps K mg F l vs → D.intsOf l = some ns → vs = ns.map V.int
  | [], _, _, r, e => by cases (Option.some.inj e); exact r
  | .int i :: l, _, _, ⟨v, r, e1, h, t⟩, e => by
    obtain ⟨ns', h2, e2⟩ := Option.map_eq_some_iff.mp e
    subst e1; subst e2
    rw [ints_vals t h2, show v = .int i from h]
    rfl
  | .non :: _, _, _, _, e => by cases e
  | .bl _ :: _, _, _, _, e => by cases e
  | .str _ :: _, _, _, _, e => by cases e
  | .tup _ :: _, _, _, _, e => by cases e
  | .lst _ :: _, _, _, _, e => by cases e
  | .obj _ _ _ :: _, _, _, _, e => by cases e
  | .fn _ :: _, _, _, _, e => by cases e
  | .scr _ :: _, _, _, _, e => by cases e
theorem bls_vals {F : Hp} : ∀ {l : List D} {vs : List V} {ns : List Bool}, Reps K mg F l vs → D.blsOf l = some ns → vs = ns.map V.bl
  | [], _, _, r, e => by cases (Option.some.inj e); exact r
  | .bl i :: l, _, _, ⟨v, r, e1, h, t⟩, e => by
    obtain ⟨ns', h2, e2⟩ := Option.map_eq_some_iff.mp e
    subst e1; subst e2
    rw [bls_vals t h2, show v = .bl i from h]
    rfl
  | .non :: _, _, _, _, e => by cases e
  | .int _ :: _, _, _, _, e => by cases e
  | .str _ :: _, _, _, _, e => by cases e
  | .tup _ :: _, _, _, _, e => by cases e
  | .lst _ :: _, _, _, _, e => by cases e
  | .obj _ _ _ :: _, _, _, _, e => by cases e
  | .fn _ :: _, _, _, _, e => by cases e
  | .scr _ :: _, _, _, _, e => by cases e
@[simp] theorem intsOf_map (l : List Int) : D.intsOf (l.map D.int) = some l := by
  induction l with
  | nil => rfl
  | cons a r ih => show (D.intsOf (r.map D.int)).map _ = _; rw [ih]; rfl
@[simp] theorem blsOf_map (l : List Bool) : D.blsOf (l.map D.bl) = some l := by
  induction l with
  | nil => rfl
  | cons a r ih => show (D.blsOf (r.map D.bl)).map _ = _; rw [ih]; rfl
/-- a built-in function called by its name -/
theorem de_callB {nm : Str} {id : String} {r : List V → Hp → VK → Prop} {f : List D → Option D} (hc : CallR X (.builtin id) r) (hs : SndN X.K X.mg r f) (hv : bootBuiltins nm = some (.builtin id)) (hn : nm ≠ "__name__") (hdb : (nm == ("__debug__" : Str)) = false)
    (hg : Gl X nm) (hm : X.mg nm = none) (ha : DA X (e :: es) as)
    (he : starEach (e :: es) X.env = (false, eval e X.env) :: starEach es X.env := by rfl) (hpl : (backTo pos (starEach es X.env)).any (·.1) = false := by rfl) : DE X (.Call (.Name nm p) (e :: es) [] pos) (opN f as) :=
  de_many (fun _ h => pe_callB hc hg hm hv h hn hdb he hpl) hs ha
theorem de_callTy {nm : Str} {T : String} {r : List V → Hp → VK → Prop} {f : List D → Option D} (hc : CallR X (.type T) r) (hs : SndN X.K X.mg r f) (hv : bootBuiltins nm = some (.type T)) (hn : nm ≠ "__name__") (hdb : (nm == ("__debug__" : Str)) = false)
    (hg : Gl X nm) (hm : X.mg nm = none) (ha : DA X (e :: es) as)
    (he : starEach (e :: es) X.env = (false, eval e X.env) :: starEach es X.env := by rfl) (hpl : (backTo pos (starEach es X.env)).any (·.1) = false := by rfl) : DE X (.Call (.Name nm p) (e :: es) [] pos) (opN f as) :=
  de_many (fun _ h => pe_callTy hc hg hm hv h hn hdb he hpl) hs ha
def D.sum : List D → Option D
  | [.lst l] => (D.intsOf l).map fun ns => .int ns.sum
  | _ => none
def lmax : Int → List Int → Int
  | a, [] => a
  | a, b :: r => lmax (max a b) r
def lmin : Int → List Int → Int
  | a, [] => a
  | a, b :: r => lmin (min a b) r
theorem lmax_ge : ∀ (r : List Int) (a : Int), a ≤ lmax a r ∧ ∀ y ∈ r, y ≤ lmax a r
  | [], a => ⟨Int.le_refl _, fun y h => by cases h⟩
  | b :: r, a => by
    obtain ⟨h1, h2⟩ := lmax_ge r (max a b)
    refine ⟨by show a ≤ lmax (max a b) r; omega, fun y hy => ?_⟩
    rcases List.mem_cons.mp hy with rfl | hy
    · show y ≤ lmax (max a y) r; omega
    · exact h2 y hy
theorem lmax_mem : ∀ (r : List Int) (a : Int), lmax a r ∈ a :: r
  | [], a => by simp [lmax]
  | b :: r, a => by
    have h := lmax_mem r (max a b)
    show lmax (max a b) r ∈ _
    rcases List.mem_cons.mp h with h | h
    · rw [h]
      rcases Int.le_total a b with q | q
      · rw [Int.max_eq_right q]; simp
      · rw [Int.max_eq_left q]; simp
    · simp [h]
theorem lmin_le : ∀ (r : List Int) (a : Int), lmin a r ≤ a ∧ ∀ y ∈ r, lmin a r ≤ y
  | [], a => ⟨Int.le_refl _, fun y h => by cases h⟩
  | b :: r, a => by
    obtain ⟨h1, h2⟩ := lmin_le r (min a b)
    refine ⟨by show lmin (min a b) r ≤ a; omega, fun y hy => ?_⟩
    rcases List.mem_cons.mp hy with rfl | hy
    · show lmin (min a y) r ≤ y; omega
    · exact h2 y hy
theorem lmin_mem : ∀ (r : List Int) (a : Int), lmin a r ∈ a :: r
  | [], a => by simp [lmin]
  | b :: r, a => by
    have h := lmin_mem r (min a b)
    show lmin (min a b) r ∈ _
    rcases List.mem_cons.mp h with h | h
    · rw [h]
      rcases Int.le_total a b with q | q
      · rw [Int.min_eq_left q]; simp
      · rw [Int.min_eq_right q]; simp
    · simp [h]
theorem lmax_only {a : Int} {r : List Int} {m : Int} (h1 : m ∈ a :: r) (h2 : ∀ y ∈ a :: r, y ≤ m) : m = lmax a r := by
  have h3 := h2 _ (lmax_mem r a)
  obtain ⟨h4, h5⟩ := lmax_ge r a
  rcases List.mem_cons.mp h1 with h | h
  · omega
  · have := h5 m h; omega
theorem lmin_only {a : Int} {r : List Int} {m : Int} (h1 : m ∈ a :: r) (h2 : ∀ y ∈ a :: r, m ≤ y) : m = lmin a r := by
  have h3 := h2 _ (lmin_mem r a)
  obtain ⟨h4, h5⟩ := lmin_le r a
  rcases List.mem_cons.mp h1 with h | h
  · omega
  · have := h5 m h; omega
def D.max : List D → Option D
  | [.int i, .int j] => some (.int (Max.max i j))
  | [.lst l] => (D.intsOf l).bind fun ns => match ns with
    | a :: r => some (.int (lmax a r))
    | [] => none
  | _ => none
def D.min : List D → Option D
  | [.int i, .int j] => some (.int (Min.min i j))
  | [.lst l] => (D.intsOf l).bind fun ns => match ns with
    | a :: r => some (.int (lmin a r))
    | [] => none
  | _ => none
def D.all : List D → Option D
  | [.lst l] => (D.blsOf l).map fun ns => .bl (ns.all id)
  | _ => none
def D.any : List D → Option D
  | [.lst l] => (D.blsOf l).map fun ns => .bl (ns.any id)
  | _ => none
theorem de_sum (hc : X.calm = true) (hg : Gl X "sum") (hm : X.mg "sum" = none) (ha : DA X (e :: es) as)
    (he : starEach (e :: es) X.env = (false, eval e X.env) :: starEach es X.env := by rfl) (hpl : (backTo pos (starEach es X.env)).any (·.1) = false := by rfl) : DE X (.Call (.Name "sum" p) (e :: es) [] pos) (opN D.sum as) :=
  de_callB (cr_sum hc) (by
    intro A H xs d vs Q tk rx e q
    match xs, rx, e with
    | [.lst l], rx, e =>
      obtain ⟨v, rfl, p, us, rfl, h, r⟩ := rx.one
      obtain ⟨ns, h1, e1⟩ := Option.map_eq_some_iff.mp e
      subst e1
      rw [ints_vals r h1] at h
      exact ⟨p, ns, rfl, SqL.of h, q _ _ (Same.refl _) rfl⟩) PyProof.Rows.boot_sum (by decide) (by decide) hg hm ha he hpl
theorem de_max (hc : X.calm = true) (hg : Gl X "max") (hm : X.mg "max" = none) (ha : DA X (e :: es) as)
    (he : starEach (e :: es) X.env = (false, eval e X.env) :: starEach es X.env := by rfl) (hpl : (backTo pos (starEach es X.env)).any (·.1) = false := by rfl) : DE X (.Call (.Name "max" p) (e :: es) [] pos) (opN D.max as) :=
  de_callB ((call_max2 hc).or (cr_max hc)) (by
    intro A H xs d vs Q tk rx e q
    match xs, rx, e with
    | [.int i, .int j], rx, e =>
      obtain ⟨v, u, rfl, r1, r2⟩ := rx.two
      cases r1; cases r2
      cases (Option.some.inj e)
      refine .inl ⟨i, j, rfl, ?_⟩
      have : (if j > i then j else i) = Max.max i j := by split <;> omega
      rw [this]
      exact q _ _ (Same.refl _) rfl
    | [.lst l], rx, e =>
      obtain ⟨v, rfl, p, us, rfl, h, r⟩ := rx.one
      obtain ⟨ns, h1, e1⟩ := Option.bind_eq_some_iff.mp e
      rw [ints_vals r h1] at h
      cases ns with
      | nil => cases e1
      | cons n ns =>
        cases (Option.some.inj e1)
        exact .inr ⟨p, _, rfl, SqL.of h, by simp, fun m h1 h2 => by rw [lmax_only h1 h2]; exact q _ _ (Same.refl _) rfl⟩) PyProof.Rows.boot_max (by decide) (by decide) hg hm ha he hpl
theorem de_min (hc : X.calm = true) (hg : Gl X "min") (hm : X.mg "min" = none) (ha : DA X (e :: es) as)
    (he : starEach (e :: es) X.env = (false, eval e X.env) :: starEach es X.env := by rfl) (hpl : (backTo pos (starEach es X.env)).any (·.1) = false := by rfl) : DE X (.Call (.Name "min" p) (e :: es) [] pos) (opN D.min as) :=
  de_callB ((call_min2 hc).or (cr_min hc)) (by
    intro A H xs d vs Q tk rx e q
    match xs, rx, e with
    | [.int i, .int j], rx, e =>
      obtain ⟨v, u, rfl, r1, r2⟩ := rx.two
      cases r1; cases r2
      cases (Option.some.inj e)
      refine .inl ⟨i, j, rfl, ?_⟩
      have : (if j < i then j else i) = Min.min i j := by split <;> omega
      rw [this]
      exact q _ _ (Same.refl _) rfl
    | [.lst l], rx, e =>
      obtain ⟨v, rfl, p, us, rfl, h, r⟩ := rx.one
      obtain ⟨ns, h1, e1⟩ := Option.bind_eq_some_iff.mp e
      rw [ints_vals r h1] at h
      cases ns with
      | nil => cases e1
      | cons n ns =>
        cases (Option.some.inj e1)
        exact .inr ⟨p, _, rfl, SqL.of h, by simp, fun m h1 h2 => by rw [lmin_only h1 h2]; exact q _ _ (Same.refl _) rfl⟩) PyProof.Rows.boot_min (by decide) (by decide) hg hm ha he hpl
theorem boot_all : bootBuiltins "all" = some (.builtin "all") := by decide +kernel
theorem boot_any : bootBuiltins "any" = some (.builtin "any") := by decide +kernel
theorem de_all (hc : X.calm = true) (hg : Gl X "all") (hm : X.mg "all" = none) (ha : DA X (e :: es) as)
    (he : starEach (e :: es) X.env = (false, eval e X.env) :: starEach es X.env := by rfl) (hpl : (backTo pos (starEach es X.env)).any (·.1) = false := by rfl) : DE X (.Call (.Name "all" p) (e :: es) [] pos) (opN D.all as) :=
  de_callB (cr_all hc) (by
    intro A H xs d vs Q tk rx e q
    match xs, rx, e with
    | [.lst l], rx, e =>
      obtain ⟨v, rfl, p, us, rfl, h, r⟩ := rx.one
      obtain ⟨ns, h1, e1⟩ := Option.map_eq_some_iff.mp e
      subst e1
      rw [bls_vals r h1] at h
      exact ⟨p, ns, rfl, SqL.of h, q _ _ (Same.refl _) rfl⟩) boot_all (by decide) (by decide) hg hm ha he hpl
theorem de_any (hc : X.calm = true) (hg : Gl X "any") (hm : X.mg "any" = none) (ha : DA X (e :: es) as)
    (he : starEach (e :: es) X.env = (false, eval e X.env) :: starEach es X.env := by rfl) (hpl : (backTo pos (starEach es X.env)).any (·.1) = false := by rfl) : DE X (.Call (.Name "any" p) (e :: es) [] pos) (opN D.any as) :=
  de_callB (cr_any hc) (by
    intro A H xs d vs Q tk rx e q
    match xs, rx, e with
    | [.lst l], rx, e =>
      obtain ⟨v, rfl, p, us, rfl, h, r⟩ := rx.one
      obtain ⟨ns, h1, e1⟩ := Option.map_eq_some_iff.mp e
      subst e1
      rw [bls_vals r h1] at h
      exact ⟨p, ns, rfl, SqL.of h, q _ _ (Same.refl _) rfl⟩) boot_any (by decide) (by decide) hg hm ha he hpl
/-- the built-in classes that are asked for -/
inductive Ty where
  | int | bool | str | list | tuple
def Ty.nm : Ty → String
  | .int => "int" | .bool => "bool" | .str => "str" | .list => "list" | .tuple => "tuple"
def D.tn : D → Option String
  | .non => some "NoneType"
  | .bl _ => some "bool"
  | .int _ => some "int"
  | .str _ => some "str"
  | .tup _ => some "tuple"
  | .lst _ => some "list"
  | .scr _ => some "list"
  | _ => none
def D.is : Ty → D → Option Bool
  | .int, .int _ => some true | .int, .bl _ => some true | .bool, .bl _ => some true | .str, .str _ => some true
  | .list, .lst _ => some true | .list, .scr _ => some true | .tuple, .tup _ => some true
  | _, d => d.tn.map fun _ => false
theorem is_kit : ∀ (t : Ty) (d : D) (k : Bool), D.is t d = some k → ∃ n, d.tn = some n ∧ kitB n t.nm = some k := by
  intro t d k h
  cases t <;> cases d <;> first
    | (cases h; done)
    | (cases (Option.some.inj h); exact ⟨_, rfl, by decide +kernel⟩)
theorem tyx_of {A : List Addr} {H : Hp} {d : D} {v : V} {n : String} (r : Rep1 K mg A H d v) (h : d.tn = some n) : TyX K H v (.type n) := by
  cases d with
  | non => cases r; cases (Option.some.inj h); exact .base .non
  | bl b => cases r; cases (Option.some.inj h); exact .base (.bl _)
  | int b => cases r; cases (Option.some.inj h); exact .base (.int _)
  | str b => cases r; cases (Option.some.inj h); exact .base (.str _)
  | tup l =>
    obtain ⟨a, xs, rfl, q, _⟩ := r
    cases (Option.some.inj h)
    rcases SqT.mono off_le q with (q | ⟨o, q⟩) | ⟨o, its, n, q1, q2, _⟩
    · exact .base (.tup q)
    · exact .fTuple q
    · exact .kTuple q1 q2
  | lst l =>
    obtain ⟨a, xs, rfl, q, _⟩ := r
    cases (Option.some.inj h)
    exact .base (.lst q)
  | scr l =>
    obtain ⟨a, xs, rfl, q, _⟩ := r
    cases (Option.some.inj h)
    rcases SqL.mono off_le q with (q | ⟨o, q⟩) | ⟨o, its, n, q1, q2, _⟩
    · exact .base (.lst q)
    · exact .base (.frz q)
    · exact .kList q1 q2
  | obj _ _ _ => cases h
  | fn _ => cases h
def isiB (t : Ty) (d : D) : Option D := (D.is t d).map D.bl
def isi2 (t u : Ty) (d : D) : Option D := match D.is t d, D.is u d with
  | some a, some b => some (.bl (a || b))
  | _, _ => none
/-- isinstance(x, T) -/
theorem de_isi (t : Ty) {nm : Str} {p2 : Pos} (hg : Gl X "isinstance") (hm : X.mg "isinstance" = none) (hg2 : Gl X nm) (hm2 : X.mg nm = none) (hv : bootBuiltins nm = some (.type t.nm)) (ha : DO X a x)
    (hn : nm ≠ "__name__" := by decide) (hdb : (nm == ("__debug__" : Str)) = false := by decide)
    (hs : starEach [a, .Name nm p2] X.env = (false, eval a X.env) :: starEach [.Name nm p2] X.env := by rfl) (hs2 : starEach [.Name nm p2] X.env = (false, eval (.Name nm p2) X.env) :: starEach [] X.env := by rfl)
    (hpl : (backTo pos (starEach [.Name nm p2] X.env)).any (·.1) = false := by rfl) :
    DE X (.Call (.Name "isinstance" p) [a, .Name nm p2] [] pos) (op1 (isiB t) x) :=
  de_one (r := fun v H Q => rIsi X.K [v, .ty t.nm] H Q) (fun ta h => pe_imp (pe_callB call_isi hg hm PyProof.Rows.boot_isinstance (pa_cons h (pa_cons (pe_bltn (v := .ty t.nm) hg2 hm2 hv rfl hn hdb) pa_nil hs2) hs) (he := hs) (hpl := hpl)) fun σ H Q q => q) (by
    intro A H x d v Q tk rx e q
    obtain ⟨k, h1, e1⟩ := Option.map_eq_some_iff.mp e
    subst e1
    obtain ⟨n, h2, h3⟩ := is_kit t x k h1
    exact ⟨v, .ty t.nm, .type n, .type t.nm, k, rfl, .ty _, tyx_of rx h2, kit_ty h3, q _ _ (Same.refl _) rfl⟩) ha
/-- isinstance(x, (T, U)) -/
theorem de_isi2 (t u : Ty) {nm nm' : Str} {p2 p3 p4 : Pos} {k4} (hg : Gl X "isinstance") (hm : X.mg "isinstance" = none) (hg2 : Gl X nm) (hm2 : X.mg nm = none) (hv : bootBuiltins nm = some (.type t.nm)) (hg3 : Gl X nm') (hm3 : X.mg nm' = none) (hv3 : bootBuiltins nm' = some (.type u.nm)) (ha : DO X a x)
    (hn : nm ≠ "__name__" := by decide) (hdb : (nm == ("__debug__" : Str)) = false := by decide) (hn3 : nm' ≠ "__name__" := by decide) (hdb3 : (nm' == ("__debug__" : Str)) = false := by decide)
    (hs : starEach [a, .Tuple [.Name nm p2, .Name nm' p3] k4 p4] X.env = (false, eval a X.env) :: starEach [.Tuple [.Name nm p2, .Name nm' p3] k4 p4] X.env := by rfl)
    (hs2 : starEach [.Tuple [.Name nm p2, .Name nm' p3] k4 p4] X.env = (false, eval (.Tuple [.Name nm p2, .Name nm' p3] k4 p4) X.env) :: starEach [] X.env := by rfl)
    (hs3 : starEach [.Name nm p2, .Name nm' p3] X.env = (false, eval (.Name nm p2) X.env) :: starEach [.Name nm' p3] X.env := by rfl)
    (hs4 : starEach [.Name nm' p3] X.env = (false, eval (.Name nm' p3) X.env) :: starEach [] X.env := by rfl)
    (hpl : (backTo pos (starEach [.Tuple [.Name nm p2, .Name nm' p3] k4 p4] X.env)).any (·.1) = false := by rfl) :
    DE X (.Call (.Name "isinstance" p) [a, .Tuple [.Name nm p2, .Name nm' p3] k4 p4] [] pos) (op1 (isi2 t u) x) :=
  de_one (r := fun v H Q => [V.ty t.nm, V.ty u.nm].length ≤ sizeLine ∧ ∀ tp, H tp = none → rIsiT X.K [v, .ref tp] (upd H tp (.tup [.ty t.nm, .ty u.nm])) Q) (fun ta h => pe_imp (pe_callB call_isiT hg hm PyProof.Rows.boot_isinstance
      (pa_cons h (pa_cons (pe_tup (pa_cons (pe_bltn (v := .ty t.nm) hg2 hm2 hv rfl hn hdb) (pa_cons (pe_bltn (v := .ty u.nm) hg3 hm3 hv3 rfl hn3 hdb3) pa_nil hs4) hs3)) pa_nil hs2) hs) (he := hs) (hpl := hpl))
      fun σ H Q q => q) (by
    intro A H x d v Q tk rx e q
    refine ⟨by show 2 ≤ sizeLine; decide, fun tp hn => ?_⟩
    unfold isi2 at e
    cases h1 : D.is t x with
    | none => rw [h1] at e; cases e
    | some k1 =>
      cases h2 : D.is u x with
      | none => rw [h1, h2] at e; cases e
      | some k2 =>
        rw [h1, h2] at e
        cases (Option.some.inj e)
        obtain ⟨n, g1, g2⟩ := is_kit t x k1 h1
        obtain ⟨n', g3, g4⟩ := is_kit u x k2 h2
        rw [g1] at g3
        cases g3
        have ty : TyX X.K (upd H tp (.tup [.ty t.nm, .ty u.nm])) v (.type n) := tyx_of (rx.same (same_upd hn)) g1
        refine ⟨v, tp, [.ty t.nm, .ty u.nm], .type n, [.type t.nm, .type u.nm], (k1 || k2), rfl, upd_same, .cons (.ty _) (.cons (.ty _) .nil), ty, ?_, q _ _ (same_upd hn) rfl⟩
        refine kitAny_cons (kit_ty g2) (fun z => ?_) (fun z => by rw [z]; rfl)
        subst z
        refine kitAny_cons (kit_ty g4) (fun z => ?_) (fun z => by rw [z]; rfl)
        subst z
        exact kitAny_nil) ha
def D.strI : List D → Option D
  | [.int i] => if i.natAbs.log2 < 1920 then some (.str (toString i)) else none
  | _ => none
theorem de_strc (hg : Gl X "str") (hm : X.mg "str" = none) (ha : DA X (e :: es) as)
    (he : starEach (e :: es) X.env = (false, eval e X.env) :: starEach es X.env := by rfl) (hpl : (backTo pos (starEach es X.env)).any (·.1) = false := by rfl) : DE X (.Call (.Name "str" p) (e :: es) [] pos) (opN D.strI as) :=
  de_callTy call_str_int (by
    intro A H xs d vs Q tk rx e q
    match xs, rx, e with
    | [.int i], rx, e =>
      obtain ⟨v, rfl, r⟩ := rx.one
      cases r
      obtain ⟨hz, rfl⟩ := ite_some e
      exact ⟨i, rfl, hz, q _ _ (Same.refl _) rfl⟩) (by decide +kernel) (by decide) (by decide) hg hm ha he hpl
/-- lo, lo + 1, .. below hi -/
def rng (lo hi : Int) : List D := (List.range (hi - lo).toNat).map fun (k : Nat) => D.int (lo + (k : Int))
def D.rngOk (lo hi : Int) : Bool := decide (-(2 ^ 62) ≤ lo) && decide (lo < 2 ^ 62) && decide (-(2 ^ 62) ≤ hi) && decide (hi < 2 ^ 62)
def D.listRng : List D → Option D
  | [.int lo, .int hi] => if D.rngOk lo hi ∧ (hi - lo).toNat ≤ sizeLine then some (.lst (rng lo hi)) else none
  | [.int hi] => if D.rngOk 0 hi ∧ (hi - 0).toNat ≤ sizeLine then some (.lst (rng 0 hi)) else none
  | _ => none
theorem rngOk_of {lo hi : Int} (h : D.rngOk lo hi = true) : -(2 ^ 62) ≤ lo ∧ lo < 2 ^ 62 ∧ -(2 ^ 62) ≤ hi ∧ hi < 2 ^ 62 := by
  unfold D.rngOk at h
  simp only [Bool.and_eq_true, decide_eq_true_eq] at h
  exact ⟨h.1.1.1, h.1.1.2, h.1.2, h.2⟩
theorem reps_ints {F : Hp} : ∀ (l : List Int), Reps K mg F (l.map D.int) (l.map V.int)
  | [] => rfl
  | i :: l => ⟨.int i, _, rfl, rfl, reps_ints l⟩
theorem vals_of_ix : ∀ {xs : List V} {us : List Value}, xs.length = us.length → (∀ (k : Nat) x u, xs[k]? = some x → us[k]? = some u → RelV x u) → Vals xs us
  | [], [], _, _ => .nil
  | [], _ :: _, h, _ => by cases h
  | _ :: _, [], h, _ => by cases h
  | x :: xs, u :: us, h, r => .cons (r 0 x u (by simp) (by simp)) (vals_of_ix (by simpa using h) fun k y v h1 h2 => r (k + 1) y v (by simpa using h1) (by simpa using h2))
theorem call_list_rng (hc : X.calm = true) : CallR X (.type "list") (fun xs H Q => ∃ p i j, xs = [.ref p] ∧ H p = some (.rng i j) ∧ D.rngOk i j = true ∧ (j - i).toNat ≤ sizeLine ∧
    ∀ l, H l = none → Q (.ref l) (upd H l (.lst ((List.range (j - i).toNat).map fun (k : Nat) => V.int (i + (k : Int)))))) := by
  intro pins s σ H xs us Q I r h
  obtain ⟨p, i, j, rfl, hp, hb, hz, q⟩ := h
  obtain ⟨u, rfl, r1⟩ := vals1 r
  cases r1
  obtain ⟨t, u, v, hr⟩ := (show ObjOk X.prog X.w H s.heap p (.rng i j) from I.hok p _ hp)
  obtain ⟨b1, b2, b3, b4⟩ := rngOk_of hb
  have hsz : Builtin.Range.rangeSize i j 1 = (((j - i).toNat : Nat) : Int) := by
    rw [rangeSize_one]
    split <;> omega
  refine call_list_range (I.ok.hd hc) hr (small_one b1 b2 b3 b4) hsz (by rw [sizeLine_eq] at hz; omega) fun h' tk acc' c' hk hS hacc => ?_
  refine ⟨.ref s.heap.objs.size, _, I.laid (t' := tk) (o := .lst ((List.range (j - i).toNat).map fun (k : Nat) => V.int (i + (k : Int)))) hk (Nat.le_refl _) ?_, rfl, q _ (I.hok.fresh (Nat.le_refl _))⟩
  refine ⟨by simpa using hz, acc'.toList, c', ?_, by simpa using hS⟩
  obtain ⟨ha, hb⟩ := hacc
  refine vals_of_ix (by simpa using ha.symm) fun k x v hx hk => ?_
  rw [List.getElem?_map] at hx
  obtain ⟨k', hk', e⟩ := Option.map_eq_some_iff.mp hx
  have : k' = k := by
    obtain ⟨h1, h2⟩ := List.getElem?_eq_some_iff.mp hk'
    simpa using h2.symm
  subst this
  subst e
  obtain ⟨t, ht⟩ := hb k' v (by simpa using hk)
  exact ⟨t, by rw [ht]; congr 1; omega⟩
end
end DL
namespace DL
open PySem L2
section
variable {X : Cx} {a b c e : Expr} {es : List Expr} {x y : Arg} {as : List Arg} {pos p : Pos} {K : PySem.W.Frag} {mg : Str → Option Value}
theorem cr_range1 : CallR X (.type "range") (fun vs H Q => ∃ j, vs = [V.int j] ∧ ∀ p, H p = none → Q (.ref p) (upd H p (.rng 0 j))) := by
  intro pins s σ H vs us Q I r h
  obtain ⟨j, rfl, q⟩ := h
  obtain ⟨u1, rfl, rj⟩ := vals1 r
  obtain ⟨u, rfl⟩ := rj
  refine PySem.call_range_1 ⟨.ref s.heap.objs.size, upd H s.heap.objs.size (.rng 0 j), I.laid (t' := _) (fun b o e => Heap.get?_push_of_some _ e) (Nat.le_refl _) ?_, rfl, q _ (I.hok.fresh (Nat.le_refl _))⟩
  exact ⟨_, _, _, Heap.get?_push_size _ rfl⟩
def rRngA : List V → Hp → VK → Prop := fun vs H Q => (∃ j, vs = [V.int j] ∧ ∀ p, H p = none → Q (.ref p) (upd H p (.rng 0 j))) ∨ ∃ i j, vs = [V.int i, V.int j] ∧ ∀ p, H p = none → Q (.ref p) (upd H p (.rng i j))
def rLstRng : List V → Hp → VK → Prop := fun xs H Q => ∃ p i j, xs = [.ref p] ∧ H p = some (.rng i j) ∧ D.rngOk i j = true ∧ (j - i).toNat ≤ sizeLine ∧
    ∀ l, H l = none → Q (.ref l) (upd H l (.lst ((List.range (j - i).toNat).map fun (k : Nat) => V.int (i + (k : Int)))))
theorem de_listrng {p2 pos2 : Pos} (hc : X.calm = true) (hg : Gl X "list") (hm : X.mg "list" = none) (hg2 : Gl X "range") (hm2 : X.mg "range" = none) (ha : DA X (e :: es) as)
    (he : starEach [.Call (.Name "range" p2) (e :: es) [] pos2] X.env = (false, eval (.Call (.Name "range" p2) (e :: es) [] pos2) X.env) :: starEach [] X.env := by rfl) (hpl : (backTo pos (starEach [] X.env)).any (·.1) = false := by rfl)
    (he2 : starEach (e :: es) X.env = (false, eval e X.env) :: starEach es X.env := by rfl) (hpl2 : (backTo pos2 (starEach es X.env)).any (·.1) = false := by rfl) :
    DE X (.Call (.Name "list" p) [.Call (.Name "range" p2) (e :: es) [] pos2] [] pos) (opN D.listRng as) :=
  de_many (r := fun vs H Q => rRngA vs H fun x H2 => rLstRng [x] H2 Q)
    (fun t h => pe_callTy (r := rLstRng) (call_list_rng hc) hg hm (by decide +kernel) (pa_cons (pe_callTy (r := rRngA) (cr_range1.or cr_range2) hg2 hm2 (by decide +kernel) h (he := he2) (hpl := hpl2)) pa_nil he) (he := he) (hpl := hpl)) (by
    intro A H xs d vs Q tk rx e q
    match xs, rx, e with
    | [.int lo, .int hi], rx, e =>
      obtain ⟨v, u, rfl, r1, r2⟩ := rx.two
      cases r1; cases r2
      obtain ⟨⟨hb, hz⟩, rfl⟩ := ite_some e
      refine .inr ⟨lo, hi, rfl, fun t nt => ⟨t, lo, hi, rfl, upd_same, hb, hz, fun l nl => ?_⟩⟩
      have nl' : H l = none := by
        cases e : H l with
        | none => rfl
        | some o => rw [upd_ne (ne_of_none e nt), e] at nl; cases nl
      refine q _ _ ((same_upd nt).trans (same_upd nl)) (rep_lst (H := upd H t (.rng lo hi)) tk.upd nl ?_)
      unfold rng
      rw [show ((List.range (hi - lo).toNat).map fun (k : Nat) => D.int (lo + (k : Int))) = ((List.range (hi - lo).toNat).map fun (k : Nat) => (lo + (k : Int))).map D.int by rw [List.map_map]; rfl,
        show ((List.range (hi - lo).toNat).map fun (k : Nat) => V.int (lo + (k : Int))) = ((List.range (hi - lo).toNat).map fun (k : Nat) => (lo + (k : Int))).map V.int by rw [List.map_map]; rfl]
      exact reps_ints _
    | [.int hi], rx, e =>
      obtain ⟨v, rfl, r1⟩ := rx.one
      cases r1
      obtain ⟨⟨hb, hz⟩, rfl⟩ := ite_some e
      refine .inl ⟨hi, rfl, fun t nt => ⟨t, 0, hi, rfl, upd_same, hb, hz, fun l nl => ?_⟩⟩
      have nl' : H l = none := by
        cases e : H l with
        | none => rfl
        | some o => rw [upd_ne (ne_of_none e nt), e] at nl; cases nl
      refine q _ _ ((same_upd nt).trans (same_upd nl)) (rep_lst (H := upd H t (.rng 0 hi)) tk.upd nl ?_)
      unfold rng
      rw [show ((List.range (hi - 0).toNat).map fun (k : Nat) => D.int (0 + (k : Int))) = ((List.range (hi - 0).toNat).map fun (k : Nat) => (0 + (k : Int))).map D.int by rw [List.map_map]; rfl,
        show ((List.range (hi - 0).toNat).map fun (k : Nat) => V.int (0 + (k : Int))) = ((List.range (hi - 0).toNat).map fun (k : Nat) => (0 + (k : Int))).map V.int by rw [List.map_map]; rfl]
      exact reps_ints _) ha
def chL (f : D → D → Option D) (mb : M D) (d : D) : M D := M.bnd mb fun y => M.opt (f d y)
def chC (f : D → D → Option D) (mb : M D) (rest : D → M D) (d : D) : M D := M.bnd mb fun y => M.bnd (M.opt (f d y)) fun z => match z with
  | .bl true => rest y
  | .bl false => M.ret (.bl false)
  | _ => fun _ => .bad
structure CH (X : Cx) (ops : List CmpOp) (es : List Expr) (m : D → M D) : Prop where
  run : ∀ (W : WZ), TakesZ X W → ∀ (pos : Pos) (pins : List (Addr × Obj)) (s : Shared) (σ : St) (H : Hp) (Q : VK) (x : V) (v : Value) (w : WS W) (A : List Addr) (ρ : Ev) (d : D), Inv X pins σ H s → RelV x v → SR X.K X.mg w A ρ σ H → Rep X.K X.mg (off A H) d x →
    (match m d ρ with
      | .ok d' ρ' => ∀ v H', Ext A H H' → SR X.K X.mg w A ρ' σ H' → Rep X.K X.mg (off A H') d' v → Q v H'
      | .exc e ρ' => ∀ c dd H', Ext A H H' → SR X.K X.mg w A ρ' σ H' → ExR X.K X.mg A H' e c dd → W c dd σ H'
      | .bad => False) → wpAny (model X.prog X.w) X.A (compareChain pos v ops (evalEach es X.env)) (EP X pins σ Q) X.xe s
  test : ∀ (W : WZ), TakesZ X W → ∀ (pos : Pos) (pins : List (Addr × Obj)) (s : Shared) (σ : St) (H : Hp) (Q : Bool → Hp → Prop) (x : V) (v : Value) (w : WS W) (A : List Addr) (ρ : Ev) (d : D), Inv X pins σ H s → RelV x v → SR X.K X.mg w A ρ σ H → Rep X.K X.mg (off A H) d x →
    (match asTest (m d) ρ with
      | .ok d' ρ' => ∀ H', Ext A H H' → SR X.K X.mg w A ρ' σ H' → Q d' H'
      | .exc e ρ' => ∀ c dd H', Ext A H H' → SR X.K X.mg w A ρ' σ H' → ExR X.K X.mg A H' e c dd → W c dd σ H'
      | .bad => False) → wpAny (model X.prog X.w) X.A (testChain pos v ops (evalEach es X.env)) (TP X pins σ Q) X.xe s
variable {op op' : CmpOp} {ops : List CmpOp} {r : R2} {f : D → D → Option D} {m mb : M D} {rest : D → M D}
theorem ch_last (ho : OpR X (compareOp op) r) (hs : Snd2 X.K X.mg r f) (hb : DE X b mb) : CH X [op] [b] (chL f mb) where
  run := by
    intro W tk pos pins s σ H Q x v w A ρ d I rx R r0 q
    refine PyProof.Rows.chain_last ?_
    refine thn ((hb W tk).run pins s σ H (fun y H1 => r x y H1 Q) I ⟨w, A, ρ, R, ?_⟩) fun u s1 ⟨y, H1, I1, r1, q1⟩ => ho pins s1 σ H1 x y v u Q I1 rx r1 q1
    unfold chL at q
    cases hm : mb ρ with
    | exc e ρ1 => rw [bnd_exc hm] at q; exact q
    | bad => rw [bnd_bad hm] at q; exact q
    | ok d1 ρ1 =>
      rw [bnd_ok hm] at q
      intro v1 H1 ex1 R1 r1
      cases hf : f d d1 with
      | none => rw [hf] at q; exact q.elim
      | some z => rw [hf] at q; exact hs A H1 d d1 z x v1 Q R1.trk (Rep1.of (r0.mono ex1.off)) (Rep1.of r1) hf (op_end R1 ex1 q)
  test := by
    intro W tk pos pins s σ H Q x v w A ρ d I rx R r0 q
    refine PyProof.Rows.test_last ?_
    refine thn ((hb W tk).run pins s σ H (fun y H1 => r x y H1 fun z H2 => ∃ k, z = .bl k ∧ Q k H2) I ⟨w, A, ρ, R, ?_⟩) fun u s1 ⟨y, H1, I1, r1, q1⟩ => thn (ho pins s1 σ H1 x y v u _ I1 rx r1 q1) fun c s2 ⟨z, H2, I2, r2, k, e, q2⟩ => by
      subst e
      cases r2
      exact wpAny_truthy_bool ⟨H2, I2, q2⟩
    unfold asTest chL at q
    cases hm : mb ρ with
    | exc e ρ1 => rw [bnd_exc (bnd_exc hm)] at q; exact q
    | bad => rw [bnd_bad (bnd_bad hm)] at q; exact q
    | ok d1 ρ1 =>
      intro v1 H1 ex1 R1 r1
      cases hf : f d d1 with
      | none => rw [bnd_bad (by rw [bnd_ok hm, hf]; rfl)] at q; exact q.elim
      | some z =>
        rw [bnd_ok (a := z) (ρ' := ρ1) (by rw [bnd_ok hm, hf]; rfl)] at q
        refine hs A H1 d d1 z x v1 _ R1.trk (Rep1.of (r0.mono ex1.off)) (Rep1.of r1) hf fun v' H' sm rr => ?_
        cases z with
        | bl k => exact ⟨k, rr, q H' (ex1.trans (.of sm)) (R1.same sm)⟩
        | _ => exact q.elim
theorem ch_cons {b2 : Expr} (ho : OpR X (compareOp op) r) (hs : Snd2 X.K X.mg r f) (hb : DE X b mb) (hr : CH X (op' :: ops) (b2 :: es) rest) : CH X (op :: op' :: ops) (b :: b2 :: es) (chC f mb rest) where
  run := by
    intro W tk pos pins s σ H Q x v w A ρ d I rx R r0 q
    refine PyProof.Rows.chain_link ?_
    refine thn ((hb W tk).run pins s σ H (fun y H1 => r x y H1 fun z H2 => ∃ k, z = .bl k ∧ if k = true then (∃ (w : WS W) (A : List Addr) (ρ : Ev) (d : D), SR X.K X.mg w A ρ σ H2 ∧ Rep X.K X.mg (off A H2) d y ∧ (match rest d ρ with
        | .ok d' ρ' => ∀ v H', Ext A H2 H' → SR X.K X.mg w A ρ' σ H' → Rep X.K X.mg (off A H') d' v → Q v H'
        | .exc e ρ' => ∀ c dd H', Ext A H2 H' → SR X.K X.mg w A ρ' σ H' → ExR X.K X.mg A H' e c dd → W c dd σ H'
        | .bad => False)) else Q (.bl false) H2) I ⟨w, A, ρ, R, ?_⟩) fun u s1 ⟨y, H1, I1, r1, q1⟩ => thn (ho pins s1 σ H1 x y v u _ I1 rx r1 q1) fun c s2 ⟨z, H2, I2, r2, k, e, q2⟩ => by
      subst e
      cases r2
      refine wpAny_truthy_bool ?_
      cases k with
      | false =>
        simp only [Bool.false_eq_true, if_false] at q2 ⊢
        exact ⟨.bl false, H2, I2, rfl, q2⟩
      | true =>
        simp only [if_true] at q2 ⊢
        obtain ⟨w2, A2, ρ2, d2, R2, rr2, q3⟩ := q2
        exact hr.run W tk pos pins s2 σ H2 Q y u w2 A2 ρ2 d2 I2 r1 R2 rr2 q3
    unfold chC at q
    cases hm : mb ρ with
    | exc e ρ1 => rw [bnd_exc hm] at q; exact q
    | bad => rw [bnd_bad hm] at q; exact q
    | ok d1 ρ1 =>
      rw [bnd_ok hm] at q
      intro v1 H1 ex1 R1 r1
      cases hf : f d d1 with
      | none => rw [hf, bnd_bad (m := M.opt none) rfl] at q; exact q.elim
      | some z =>
        rw [hf, bnd_ok (m := M.opt (some z)) (a := z) (ρ' := ρ1) rfl] at q
        refine hs A H1 d d1 z x v1 _ R1.trk (Rep1.of (r0.mono ex1.off)) (Rep1.of r1) hf fun v' H' sm rr => ?_
        cases z with
        | bl k =>
          refine ⟨k, rr, ?_⟩
          cases k with
          | false =>
            simp only [Bool.false_eq_true, if_false]
            exact q _ H' (ex1.trans (.of sm)) (R1.same sm) rfl
          | true =>
            simp only [if_true]
            refine ⟨w, A, ρ1, d1, R1.same sm, r1.mono (off_Same sm), ?_⟩
            dsimp only at q
            cases hf : rest d1 ρ1 with
            | exc e ρ2 => rw [hf] at q; exact fun c dd H2 ex2 R2 z => q c dd H2 ((ex1.trans (.of sm)).trans ex2) R2 z
            | bad => rw [hf] at q; exact q
            | ok c ρ2 => rw [hf] at q; exact fun v2 H2 ex2 R2 => q v2 H2 ((ex1.trans (.of sm)).trans ex2) R2
        | _ => exact q.elim
  test := by
    intro W tk pos pins s σ H Q x v w A ρ d I rx R r0 q
    refine PyProof.Rows.test_link ?_
    refine thn ((hb W tk).run pins s σ H (fun y H1 => r x y H1 fun z H2 => ∃ k, z = .bl k ∧ if k = true then (∃ (w : WS W) (A : List Addr) (ρ : Ev) (d : D), SR X.K X.mg w A ρ σ H2 ∧ Rep X.K X.mg (off A H2) d y ∧ (match asTest (rest d) ρ with
        | .ok d' ρ' => ∀ H', Ext A H2 H' → SR X.K X.mg w A ρ' σ H' → Q d' H'
        | .exc e ρ' => ∀ c dd H', Ext A H2 H' → SR X.K X.mg w A ρ' σ H' → ExR X.K X.mg A H' e c dd → W c dd σ H'
        | .bad => False)) else Q false H2) I ⟨w, A, ρ, R, ?_⟩) fun u s1 ⟨y, H1, I1, r1, q1⟩ => thn (ho pins s1 σ H1 x y v u _ I1 rx r1 q1) fun c s2 ⟨z, H2, I2, r2, k, e, q2⟩ => by
      subst e
      cases r2
      refine wpAny_truthy_bool ?_
      cases k with
      | false =>
        simp only [Bool.false_eq_true, if_false] at q2 ⊢
        exact ⟨H2, I2, q2⟩
      | true =>
        simp only [if_true] at q2 ⊢
        obtain ⟨w2, A2, ρ2, d2, R2, rr2, q3⟩ := q2
        exact hr.test W tk pos pins s2 σ H2 Q y u w2 A2 ρ2 d2 I2 r1 R2 rr2 q3
    unfold asTest chC at q
    cases hm : mb ρ with
    | exc e ρ1 => rw [bnd_exc (bnd_exc hm)] at q; exact q
    | bad => rw [bnd_bad (bnd_bad hm)] at q; exact q
    | ok d1 ρ1 =>
      intro v1 H1 ex1 R1 r1
      cases hf : f d d1 with
      | none => rw [bnd_bad (by rw [bnd_ok hm, hf]; rfl)] at q; exact q.elim
      | some z =>
        refine hs A H1 d d1 z x v1 _ R1.trk (Rep1.of (r0.mono ex1.off)) (Rep1.of r1) hf fun v' H' sm rr => ?_
        cases z with
        | bl k =>
          refine ⟨k, rr, ?_⟩
          cases k with
          | false =>
            rw [bnd_ok (a := .bl false) (ρ' := ρ1) (by rw [bnd_ok hm, hf]; rfl)] at q
            simp only [Bool.false_eq_true, if_false]
            exact q H' (ex1.trans (.of sm)) (R1.same sm)
          | true =>
            simp only [if_true]
            refine ⟨w, A, ρ1, d1, R1.same sm, r1.mono (off_Same sm), ?_⟩
            unfold asTest
            cases hr2 : rest d1 ρ1 with
            | exc e ρ2 =>
              rw [bnd_exc (e := e) (ρ' := ρ2) (by rw [bnd_ok hm, hf]; exact hr2)] at q
              rw [bnd_exc hr2]
              exact fun c dd H2 ex2 R2 z => q c dd H2 ((ex1.trans (.of sm)).trans ex2) R2 z
            | bad =>
              rw [bnd_bad (by rw [bnd_ok hm, hf]; exact hr2)] at q
              exact q.elim
            | ok c ρ2 =>
              rw [bnd_ok (a := c) (ρ' := ρ2) (by rw [bnd_ok hm, hf]; exact hr2)] at q
              rw [bnd_ok hr2]
              cases c with
              | bl kk => exact fun H2 ex2 R2 => q H2 ((ex1.trans (.of sm)).trans ex2) R2
              | _ => exact q
        | _ => rw [bnd_bad (by rw [bnd_ok hm, hf]; rfl)] at q; exact q.elim
def chain (ma : M D) (rest : D → M D) : M D := M.bnd ma rest
theorem de_chain {op1 op2 : CmpOp} {b1 b2 : Expr} (ha : DE X a m) (hr : CH X (op1 :: op2 :: ops) (b1 :: b2 :: es) rest) (hm : lastMarks (op1 :: op2 :: ops) (b1 :: b2 :: es) = false := by with_unfolding_all rfl) :
    DE X (.Compare a (op1 :: op2 :: ops) (b1 :: b2 :: es) pos) (chain m rest) := fun W tk => by
  refine ⟨fun pins s σ H Q I h => ?_⟩
  refine PyProof.Rows.Compare_chain (thn ((ha W tk).run pins s σ H _ I (de_imp2 (G := fun x H1 => ∃ (w : WS W) (A : List Addr) (ρ : Ev) (d : D), SR X.K X.mg w A ρ σ H1 ∧ Rep X.K X.mg (off A H1) d x ∧ (match rest d ρ with
        | .ok d' ρ' => ∀ v H', Ext A H1 H' → SR X.K X.mg w A ρ' σ H' → Rep X.K X.mg (off A H') d' v → Q v H'
        | .exc e ρ' => ∀ c dd H', Ext A H1 H' → SR X.K X.mg w A ρ' σ H' → ExR X.K X.mg A H' e c dd → W c dd σ H'
        | .bad => False)) h fun w A ρ1 d v H1 R1 r1 q => ⟨w, A, ρ1, d, R1, r1, q⟩)) fun v s1 ⟨x, H1, I1, rx, w, A, ρ, d, R, r0, q⟩ => ?_) hm
  exact hr.run W tk _ pins s1 σ H1 Q x v w A ρ d I1 rx R r0 q
theorem dt_chain {op1 op2 : CmpOp} {b1 b2 : Expr} (ha : DE X a m) (hr : CH X (op1 :: op2 :: ops) (b1 :: b2 :: es) rest) (hm : lastMarks (op1 :: op2 :: ops) (b1 :: b2 :: es) = false := by with_unfolding_all rfl) :
    DT X (.Compare a (op1 :: op2 :: ops) (b1 :: b2 :: es) pos) (asTest (chain m rest)) := fun W tk => by
  refine ⟨fun pins s σ H Q I h => ?_⟩
  obtain ⟨w, A, ρ, R, q⟩ := h
  refine PyProof.Rows.isTrue_chain (thn ((ha W tk).run pins s σ H (fun x H1 => ∃ (w : WS W) (A : List Addr) (ρ : Ev) (d : D), SR X.K X.mg w A ρ σ H1 ∧ Rep X.K X.mg (off A H1) d x ∧ (match asTest (rest d) ρ with
        | .ok d' ρ' => ∀ H', Ext A H1 H' → SR X.K X.mg w A ρ' σ H' → Q d' H'
        | .exc e ρ' => ∀ c dd H', Ext A H1 H' → SR X.K X.mg w A ρ' σ H' → ExR X.K X.mg A H' e c dd → W c dd σ H'
        | .bad => False)) I ⟨w, A, ρ, R, ?_⟩) fun v s1 ⟨x, H1, I1, rx, w, A, ρ, d, R, r0, q⟩ => ?_) hm
  · unfold asTest chain at q
    cases hm : m ρ with
    | exc e ρ1 => rw [bnd_exc (bnd_exc hm)] at q; exact q
    | bad => rw [bnd_bad (bnd_bad hm)] at q; exact q
    | ok d ρ1 =>
      intro v1 H1 ex1 R1 r1
      refine ⟨w, A, ρ1, d, R1, r1, ?_⟩
      unfold asTest
      cases hr2 : rest d ρ1 with
      | exc e ρ2 => rw [bnd_exc (e := e) (ρ' := ρ2) (by rw [bnd_ok hm]; exact hr2)] at q; rw [bnd_exc hr2]; exact fun c dd H2 ex2 R2 z => q c dd H2 (ex1.trans ex2) R2 z
      | bad => rw [bnd_bad (by rw [bnd_ok hm]; exact hr2)] at q; exact q.elim
      | ok c ρ2 =>
        rw [bnd_ok (a := c) (ρ' := ρ2) (by rw [bnd_ok hm]; exact hr2)] at q
        rw [bnd_ok hr2]
        cases c with
        | bl kk => exact fun H2 ex2 R2 => q H2 (ex1.trans ex2) R2
        | _ => exact q
  · exact hr.test W tk _ pins s1 σ H1 Q x v w A ρ d I1 rx R r0 q
end
end DL
namespace DL
open PySem L2
/-- the slots but those at is are as they were -/
def Agr (is : List Nat) (σ σ' : L2.St) : Prop := σ'.length = σ.length ∧ ∀ (j : Nat), j ∉ is → σ'[j]? = σ[j]?
theorem Agr.trans {is js : List Nat} {σ σ1 σ2 : L2.St} (a : Agr is σ σ1) (b : Agr js σ1 σ2) : Agr (is ++ js) σ σ2 :=
  ⟨b.1.trans a.1, fun j hj => (b.2 j fun z => hj (List.mem_append_right _ z)).trans (a.2 j fun z => hj (List.mem_append_left _ z))⟩
def tG (K : PySem.W.Frag) (mg : Str → Option Value) (is : List Nat) (t : D → Ev → Option Ev) : TG := fun v σ H Q => ∃ w A ρ d, SR K mg w A ρ σ H ∧ Rep K mg (off A H) d v ∧ match t d ρ with
  | some ρ' => ∀ σ', Agr is σ σ' → SR K mg w A ρ' σ' H → Q σ' H
  | none => False
def tGs (K : PySem.W.Frag) (mg : Str → Option Value) (is : List Nat) (t : List D → Ev → Option Ev) : TGs := fun vs σ H Q => ∃ w A ρ ds, SR K mg w A ρ σ H ∧ Reps K mg (off A H) ds vs ∧ match t ds ρ with
  | some ρ' => ∀ σ', Agr is σ σ' → SR K mg w A ρ' σ' H → Q σ' H
  | none => False
def DG (X : Cx) (e : Expr) (is : List Nat) (t : D → Ev → Option Ev) : Prop := PG X e (tG X.K X.mg is t)
def DGs (X : Cx) (es : List Expr) (is : List Nat) (t : List D → Ev → Option Ev) : Prop := PGs X es (tGs X.K X.mg is t)
section
variable {X : Cx} {e : Expr} {es : List Expr} {pos : Pos} {K : PySem.W.Frag} {mg : Str → Option Value} {w : Wd} {A : List Addr} {ρ : Ev} {σ : L2.St} {H : Hp}
theorem pg_imp {g g' : TG} (h : PG X e g) (q : ∀ v σ H Q, g' v σ H Q → g v σ H Q) : PG X e g' := ⟨fun pins s σ H v u Q I r hw => h.run pins s σ H v u Q I r (q v σ H Q hw)⟩
theorem pgs_imp {g g' : TGs} (h : PGs X es g) (q : ∀ v σ H Q, g' v σ H Q → g v σ H Q) : PGs X es g' := ⟨fun pins s σ H v u Q I r hw => h.run pins s σ H v u Q I r (q v σ H Q hw)⟩
/-- the i-th name takes a value; a thing of one's own is not lost so -/
def gN (i : Nat) (d : D) (ρ : Ev) : Option Ev := match ρ[i]? with
  | some s => if s.isOwn then none else some (ρ.set i (.val d))
  | none => none
theorem SR.set {i : Nat} {s : Slot} {d : D} {v : V} (R : SR K mg w A ρ σ H) (h : ρ[i]? = some s) (ho : s.isOwn = false) (r : Rep K mg (off A H) d v) : SR K mg w A (ρ.set i (.val d)) (σ.set i (some v)) H := by
  have hi : i < ρ.length := (List.getElem?_eq_some_iff.mp h).1
  have hi' : i < σ.length := by rw [← R.len]; exact hi
  refine ⟨by simp [R.len], fun j s' o h1 h2 => ?_, fun j k s1 s2 a h1 h2 o1 o2 e1 e2 => ?_, R.sub, R.trk, R.frame, fun j s' a h1 o1 e1 => ?_, R.opB, fun p hp => ?_⟩
  · by_cases hj : j = i
    · subst hj
      rw [List.getElem?_set_self hi] at h1
      rw [List.getElem?_set_self hi'] at h2
      cases h1; cases h2
      exact ⟨v, rfl, r⟩
    · rw [List.getElem?_set_ne (Ne.symm hj)] at h1 h2
      exact R.slots j s' o h1 h2
  · have nj : j ≠ i := fun z => by
      subst z
      rw [List.getElem?_set_self hi] at h1
      cases h1
      cases o1
    have nk : k ≠ i := fun z => by
      subst z
      rw [List.getElem?_set_self hi] at h2
      cases h2
      cases o2
    rw [List.getElem?_set_ne (Ne.symm nj)] at h1 e1
    rw [List.getElem?_set_ne (Ne.symm nk)] at h2 e2
    exact R.dist j k s1 s2 a h1 h2 o1 o2 e1 e2
  · have nj : j ≠ i := fun z => by
      subst z
      rw [List.getElem?_set_self hi] at h1
      cases h1
      cases o1
    rw [List.getElem?_set_ne (Ne.symm nj)] at h1 e1
    exact R.mine j s' a h1 o1 e1
  · obtain ⟨p1, p2, s', p3, p4⟩ := R.par p hp
    have np : p.1 ≠ i := fun z => by
      rw [z, h] at p3
      cases p3
      rw [ho] at p4
      cases p4
    exact ⟨p1, by rw [List.getElem?_set_ne (Ne.symm np)]; exact p2, s', by rw [List.getElem?_set_ne (Ne.symm np)]; exact p3, p4⟩
theorem dg_name {i : Nat} (h : PG X e (gName i)) : DG X e [i] (gN i) := pg_imp h fun v σ H Q ⟨w, A, ρ, d, R, r, q⟩ => by
  unfold gN at q
  cases hs : ρ[i]? with
  | none => rw [hs] at q; exact q.elim
  | some s =>
    rw [hs] at q
    dsimp only at q
    cases ho : s.isOwn with
    | true => rw [ho] at q; exact q.elim
    | false =>
      rw [ho] at q
      exact q _ ⟨by simp, fun j hj => List.getElem?_set_ne fun z => hj (by simp [z])⟩ (R.set hs ho r)
def gTu (t : List D → Ev → Option Ev) (n : Nat) : D → Ev → Option Ev
  | .tup l, ρ => if l.length = n then t l ρ else none
  | _, _ => none
theorem dg_tup {k n : Nat} {is : List Nat} {t : List D → Ev → Option Ev} (hc : X.calm = true) (h : DGs X es is t) (hn : (assignEach es X.env).length = n := by rfl) (hst : (assignEach es X.env).findIdx? (·.1) = none := by rfl) : DG X (.Tuple es k pos) is (gTu t n) :=
  pg_imp (pg_tup hc h hn hst) fun v σ H Q ⟨w, A, ρ, d, R, r, q⟩ => by
    cases d with
    | tup l =>
      obtain ⟨a, xs, rfl, hq, rr⟩ := r
      have q : match (if l.length = n then t l ρ else none) with | some ρ' => ∀ σ', Agr is σ σ' → SR X.K X.mg w A ρ' σ' H → Q σ' H | none => False := q
      by_cases hl : l.length = n
      · rw [if_pos hl] at q
        exact ⟨a, xs, rfl, SqT.mono off_le hq, by rw [← rr.length]; exact hl, w, A, ρ, l, R, rr, q⟩
      · rw [if_neg hl] at q; exact q.elim
    | _ => exact q.elim
def gNi : List D → Ev → Option Ev
  | [], ρ => some ρ
  | _ :: _, _ => none
def gCo (t : D → Ev → Option Ev) (u : List D → Ev → Option Ev) : List D → Ev → Option Ev
  | [], _ => none
  | d :: ds, ρ => (t d ρ).bind (u ds)
theorem dgs_nil : DGs X [] [] gNi := pgs_imp pgs_nil fun v σ H Q ⟨w, A, ρ, ds, R, r, q⟩ => by
  cases ds with
  | nil => exact ⟨r, q σ ⟨rfl, fun _ _ => rfl⟩ R⟩
  | cons _ _ => exact q.elim
theorem dgs_cons {is js : List Nat} {t : D → Ev → Option Ev} {u : List D → Ev → Option Ev} (h : DG X e is t) (h2 : DGs X es js u) (hs : (assignEach (e :: es) X.env).map (·.2) = assign e X.env :: (assignEach es X.env).map (·.2) := by rfl) : DGs X (e :: es) (is ++ js) (gCo t u) :=
  pgs_imp (pgs_cons h h2 hs) fun vs σ H Q ⟨w, A, ρ, ds, R, r, q⟩ => by
    cases ds with
    | nil => exact q.elim
    | cons d ds =>
      obtain ⟨v, us, rfl, rd, rr⟩ := r
      refine ⟨v, us, rfl, w, A, ρ, d, R, rd, ?_⟩
      have q : match (t d ρ).bind (u ds) with | some ρ' => ∀ σ', Agr (is ++ js) σ σ' → SR X.K X.mg w A ρ' σ' H → Q σ' H | none => False := q
      cases ht : t d ρ with
      | none => rw [ht] at q; exact q.elim
      | some ρ1 =>
        rw [ht] at q
        refine fun σ1 a1 R1 => ⟨w, A, ρ1, ds, R1, rr, ?_⟩
        have q : match u ds ρ1 with | some ρ' => ∀ σ', Agr (is ++ js) σ σ' → SR X.K X.mg w A ρ' σ' H → Q σ' H | none => False := q
        cases hu : u ds ρ1 with
        | none => rw [hu] at q; exact q.elim
        | some ρ2 => rw [hu] at q; exact fun σ2 a2 R2 => q σ2 (a1.trans a2) R2
end
def Wk (K : PySem.W.Frag) (mg : Str → Option Value) (A : List Addr) (ds : List D) (J : It) (H0 : Hp) : Prop := ∀ (i : Nat) (A' : List Addr) (H : Hp), Same (off A H0) (off A' H) → Trk A' H →
  (∀ d, ds[i]? = some d → J.go i H ∧ ∀ x H', J.yld i H x H' → Same H H' ∧ Rep K mg (off A' H') d x) ∧ (ds.length ≤ i → J.stop i H)
def iD (K : PySem.W.Frag) (mg : Str → Option Value) (W : WZ) (src : M (List D)) : TI := fun σ H R => ∃ (w : WS W) (A : List Addr) (ρ : Ev), SR K mg w A ρ σ H ∧ match src ρ with
  | .ok ds ρ' => ∀ J H', Ext A H H' → SR K mg w A ρ' σ H' → Wk K mg A ds J H' → ds.length ≤ sizeLine → R J H'
  | .exc e ρ' => ∀ c dd H', Ext A H H' → SR K mg w A ρ' σ H' → ExR K mg A H' e c dd → W c dd σ H'
  | .bad => False
def DI (X : Cx) (tg iter : Expr) (src : M (List D)) : Prop := ∀ W : WZ, TakesZ X W → PI X tg iter (iD X.K X.mg W src)
theorem pi_imp {X : Cx} {tg e : Expr} {t t' : TI} (h : PI X tg e t) (q : ∀ σ H R, t' σ H R → t σ H R) : PI X tg e t' := ⟨fun pins s σ H R I hw => h.run pins s σ H R I (q σ H R hw)⟩
section
variable {X : Cx} {tg e e2 : Expr} {es : List Expr} {as : List Arg} {pos p tpos : Pos} {m : M D} {K : PySem.W.Frag} {mg : Str → Option Value} {A : List Addr} {H0 : Hp}
theorem wk_list {a : Addr} {vs : List V} {ds : List D} (h : off A H0 a = some (.lst vs)) (r : Reps K mg (off A H0) ds vs) : Wk K mg A ds (Itl K a) H0 := fun i A' H sm tk => by
  have q : SqL K H a vs := SqL.of (off_le _ _ (sm _ _ h))
  refine ⟨fun d hd => ?_, fun hl => ⟨vs, q, by rw [← r.length]; exact hl⟩⟩
  obtain ⟨v, h1, h2⟩ := r.get hd
  refine ⟨⟨vs, v, q, h1⟩, fun x H' y => ?_⟩
  obtain ⟨e, y⟩ := y
  subst e
  have := y vs q
  rw [h1] at this
  cases this
  exact ⟨Same.refl _, h2.mono sm⟩
theorem wk_scr {a : Addr} {vs : List V} {ds : List D} (h : SqL K (off A H0) a vs) (r : Reps K mg (off A H0) ds vs) : Wk K mg A ds (Itl K a) H0 := fun i A' H sm tk => by
  have q : SqL K H a vs := SqL.mono off_le (SqL.mono sm h)
  refine ⟨fun d hd => ?_, fun hl => ⟨vs, q, by rw [← r.length]; exact hl⟩⟩
  obtain ⟨v, h1, h2⟩ := r.get hd
  refine ⟨⟨vs, v, q, h1⟩, fun x H' y => ?_⟩
  obtain ⟨e, y⟩ := y
  subst e
  have := y vs q
  rw [h1] at this
  cases this
  exact ⟨Same.refl _, h2.mono sm⟩
theorem wk_tup {a : Addr} {vs : List V} {ds : List D} (h : SqT K (off A H0) a vs) (r : Reps K mg (off A H0) ds vs) : Wk K mg A ds (Itt K a) H0 := fun i A' H sm tk => by
  have q : SqT K H a vs := SqT.mono off_le (SqT.mono sm h)
  refine ⟨fun d hd => ?_, fun hl => ⟨vs, q, by rw [← r.length]; exact hl⟩⟩
  obtain ⟨v, h1, h2⟩ := r.get hd
  refine ⟨⟨vs, v, q, h1⟩, fun x H' y => ?_⟩
  obtain ⟨e, y⟩ := y
  subst e
  have := y vs q
  rw [h1] at this
  cases this
  exact ⟨Same.refl _, h2.mono sm⟩
theorem wk_rng {lo : Int} {n : Nat} : Wk K mg A ((List.range n).map fun (k : Nat) => D.int (lo + (k : Int))) (Itr lo n) H0 := fun i A' H sm tk => by
  refine ⟨fun d hd => ?_, fun hl => (by show n ≤ i; simpa using hl)⟩
  rw [List.getElem?_map] at hd
  obtain ⟨k, hk, e⟩ := Option.map_eq_some_iff.mp hd
  obtain ⟨h1, h2⟩ := List.getElem?_eq_some_iff.mp hk
  have : k = i := by simpa using h2.symm
  subst this
  subst e
  refine ⟨(by show k < n; simpa using h1), fun x H' y => ?_⟩
  obtain ⟨e, y⟩ := y
  subst e y
  exact ⟨Same.refl _, rfl⟩
/-- over a list or a tuple -/
def iSeq (K : PySem.W.Frag) (tl : TE) : TI := fun σ H R => tl σ H fun x H1 => ∃ a xs, x = .ref a ∧ ((SqL K H1 a xs ∧ (xs.length ≤ sizeLine → R (Itl K a) H1)) ∨ (SqT K H1 a xs ∧ (xs.length ≤ sizeLine → R (Itt K a) H1)))
theorem pi_seq {l : Expr} {tl : TE} (hl : PE X l tl) : PI X tg l (iSeq X.K tl) := ⟨fun pins s σ H R I h => by
  refine thn (hl.run pins s σ H _ I h) fun v s1 ⟨x, H1, I1, r1, q1⟩ => ?_
  obtain ⟨a, xs, rfl, hx⟩ := q1
  cases r1
  have fr : ∀ b ∈ [s1.heap.objs.size], FpOk X pins H1 b := fun b hb => by
    cases (List.mem_singleton.mp hb)
    exact I1.fpOk (Nat.le_refl _) (I1.hok.fresh (Nat.le_refl _))
  have kp : ∀ (o : Obj), L2.Inv X pins σ H1 { s1 with heap := s1.heap.push o } := fun o => I1.kept (t' := s1.toks) fun b u z => Heap.get?_push_of_some _ z
  rcases hx with ⟨hq, q⟩ | ⟨hq, q⟩
  · obtain ⟨its, rv, hp, hz⟩ := I1.list hq
    exact wpAny_pyIter_list hp.isList ⟨_, _, _, _, H1, rfl, kp _, turn_list a _, ⟨_, Heap.get?_push_size _ rfl, rfl, rfl⟩, fr, q hz⟩
  · obtain ⟨its, rv, hp, hz⟩ := I1.tuple hq
    exact wpAny_pyIter_tuple (show s1.heap.IsTuple a its.toArray from hp) ⟨_, _, _, _, H1, rfl, kp _, turn_tuple a _, ⟨_, Heap.get?_push_size _ rfl, rfl, rfl⟩, fr, q hz⟩⟩
def seqM (m : M D) : M (List D) := M.bnd m fun d ρ => match d with
  | .lst l => .ok l ρ
  | .tup l => .ok l ρ
  | .scr l => .ok l ρ
  | _ => .bad
theorem di_seq (h : DE X e m) : DI X tg e (seqM m) := fun W tk => pi_imp (pi_seq (h W tk)) fun σ H R ⟨w, A, ρ, Rr, q⟩ => by
  refine ⟨w, A, ρ, Rr, ?_⟩
  unfold seqM at q
  cases hm : m ρ with
  | exc e ρ1 => rw [bnd_exc hm] at q; exact q
  | bad => rw [bnd_bad hm] at q; exact q
  | ok d ρ1 =>
    rw [bnd_ok hm] at q
    intro v H1 ex1 R1 r1
    cases d with
    | lst l =>
      obtain ⟨a, xs, rfl, h, r⟩ := r1
      exact ⟨a, xs, rfl, .inl ⟨SqL.of (off_le _ _ h), fun z => q _ H1 ex1 R1 (wk_list h r) (by rw [r.length]; exact z)⟩⟩
    | scr l =>
      obtain ⟨a, xs, rfl, h, r⟩ := r1
      exact ⟨a, xs, rfl, .inl ⟨SqL.mono off_le h, fun z => q _ H1 ex1 R1 (wk_scr h r) (by rw [r.length]; exact z)⟩⟩
    | tup l =>
      obtain ⟨a, xs, rfl, h, r⟩ := r1
      exact ⟨a, xs, rfl, .inr ⟨SqT.mono off_le h, fun z => q _ H1 ex1 R1 (wk_tup h r) (by rw [r.length]; exact z)⟩⟩
    | _ => exact q.elim
/-- a source made of arguments -/
def srcN (f : List D → Option (List D)) (as : List Arg) : M (List D) := M.bnd (evs as) fun xs ρ => match (dvs xs).bind f with
  | some r => .ok r ρ
  | none => .bad
def D.rng1 : List D → Option (List D)
  | [.int hi] => if D.rngOk 0 hi ∧ (hi - 0).toNat ≤ sizeLine then some (rng 0 hi) else none
  | _ => none
def D.rng2 : List D → Option (List D)
  | [.int lo, .int hi] => if D.rngOk lo hi ∧ (hi - lo).toNat ≤ sizeLine then some (rng lo hi) else none
  | _ => none
theorem di_range1 {a : Expr} (hg : Gl X "range") (hm : X.mg "range" = none) (ha : DA X [a] as) (hs : starEach [a] X.env = [(false, eval a X.env)] := by rfl) : DI X tg (.Call (.Name "range" p) [a] [] pos) (srcN D.rng1 as) :=
  fun W tk => pi_imp (pi_range1 hg hm (ha W tk) hs) fun σ H R ⟨w, A, ρ, Rr, q⟩ => by
    refine ⟨w, A, ρ, Rr, ?_⟩
    unfold srcN at q
    cases hx : evs as ρ with
    | exc e ρ1 => rw [bnd_exc hx] at q; exact q
    | bad => rw [bnd_bad hx] at q; exact q
    | ok v ρ1 =>
      rw [bnd_ok hx] at q
      intro vv H1 ex1 R1 r1
      cases hd : (dvs v).bind D.rng1 with
      | none => rw [hd] at q; exact q.elim
      | some d =>
        rw [hd] at q
        obtain ⟨ds, h1, h2⟩ := Option.bind_eq_some_iff.mp hd
        have r := dvs_rep r1 h1
        match ds, h2, r with
        | [.int hi], h2, ⟨v, _, e1, e2, e3⟩ =>
          obtain ⟨⟨hb, hz⟩, rfl⟩ := ite_some h2
          cases e3; cases e2; subst e1
          obtain ⟨b1, b2, b3, b4⟩ := rngOk_of hb
          refine ⟨hi, rfl, b3, b4, q _ H1 ex1 R1 ?_ (by unfold rng; simpa using hz)⟩
          have := wk_rng (K := X.K) (mg := X.mg) (A := A) (H0 := H1) (lo := 0) (n := hi.toNat)
          unfold rng
          rw [Int.sub_zero]
          exact this
theorem di_range2 {a b : Expr} (hg : Gl X "range") (hm : X.mg "range" = none) (ha : DA X [a, b] as) (hs : starEach [a, b] X.env = [(false, eval a X.env), (false, eval b X.env)] := by rfl) (hs2 : starEach [b] X.env = [(false, eval b X.env)] := by rfl) :
    DI X tg (.Call (.Name "range" p) [a, b] [] pos) (srcN D.rng2 as) :=
  fun W tk => pi_imp (pi_range2 hg hm (ha W tk) hs hs2) fun σ H R ⟨w, A, ρ, Rr, q⟩ => by
    refine ⟨w, A, ρ, Rr, ?_⟩
    unfold srcN at q
    cases hx : evs as ρ with
    | exc e ρ1 => rw [bnd_exc hx] at q; exact q
    | bad => rw [bnd_bad hx] at q; exact q
    | ok v ρ1 =>
      rw [bnd_ok hx] at q
      intro vv H1 ex1 R1 r1
      cases hd : (dvs v).bind D.rng2 with
      | none => rw [hd] at q; exact q.elim
      | some d =>
        rw [hd] at q
        obtain ⟨ds, h1, h2⟩ := Option.bind_eq_some_iff.mp hd
        have r := dvs_rep r1 h1
        match ds, h2, r with
        | [.int lo, .int hi], h2, ⟨v, _, e1, e2, v', _, e3, e4, e5⟩ =>
          obtain ⟨⟨hb, hz⟩, rfl⟩ := ite_some h2
          cases e5; cases e4; subst e3; cases e2; subst e1
          obtain ⟨b1, b2, b3, b4⟩ := rngOk_of hb
          exact ⟨lo, hi, rfl, ⟨b1, b2, b3, b4⟩, q _ H1 ex1 R1 wk_rng (by unfold rng; simpa using hz)⟩
end
end DL
namespace DL
open PySem L2
theorem enum_new1 {v : Value} {o : Obj} {P : Heap → Prop} (B : Begins v o P) : Meets (Builtin.«enumerate.__new__» ⟨[.type "enumerate", v], []⟩) (fun _ R s => P s.heap ∧
    R (.ok (.ret (.ref (s.heap.push o).objs.size))) { s with heap := (s.heap.push o).push { cls := .type "enumerate", data := .fields #[.none, .bool false, .ref s.heap.objs.size, rawInt 0, .none, .none] } }) := .of_wp fun P' w A R s h => by
  obtain ⟨g0, g1, g2, g3, g4⟩ := s
  have sub := sub_enumerate
  have it : ∀ {A' : Around} {E : Value → Shared → Prop} {Q : Value → Shared → Prop}, Q (.ref g0.objs.size) ⟨g0.push o, g1, g2, g3, g4⟩ → wpAny (model P' w) A' (pyIter v) Q E ⟨g0, g1, g2, g3, g4⟩ :=
    fun q => B.iter P' w _ _ ⟨g0, g1, g2, g3, g4⟩ _ h.1 q
  wp_walk using it
  refine wpAny_stack_any fun _ => wpAny_pure ?_
  split
  · rename_i c _ _ _ _ _
    cases (c == Value.type "enumerate") <;> (wp_walk using it; exact ⟨_, rfl, h.2⟩)
  · wp_walk using it
    exact ⟨_, rfl, h.2⟩
theorem enum_call {prog : Program} {w : World} {A : Around} {E : Value → Shared → Prop} {s : Shared} {v : Value} {o : Obj} {P : Heap → Prop} {Q : Value → Shared → Prop} (B : Begins v o P) (h1 : P s.heap)
    (h : ∀ h', IsEnum h' (s.heap.objs.size + 1) s.heap.objs.size 0 .none → h'.get? s.heap.objs.size = some o → (∀ b u, s.heap.get? b = some u → h'.get? b = some u) → Q (.ref (s.heap.objs.size + 1)) { s with heap := h' }) :
    wpAny (model prog w) A (call (.type "enumerate") [v]) Q E s := by
  have sz : (s.heap.push o).objs.size = s.heap.objs.size + 1 := Heap.size_push ..
  have he := Heap.get?_push_size (s.heap.push o) (o := { cls := .type "enumerate", data := .fields #[.none, .bool false, .ref s.heap.objs.size, rawInt 0, .none, .none] }) rfl
  rw [sz] at he
  refine callType_new F.called_enumerate (by decide) (F.typeCall_enumerate_1 _) (F.newCall_enumerate_1 _) (fun x => F.args_object_init_2 x _) F.entry_enumerate_new (enum_new1 B) ⟨h1, ?_⟩
  show _ ∧ _
  rw [sz]
  exact ⟨⟨_, he, rfl⟩, h _ he (Heap.get?_push_of_some _ (Heap.get?_push_size _ B.free)) fun b u q => Heap.get?_push_of_some _ (Heap.get?_push_of_some _ q)⟩
/-- the tuple at a, its items numbered, each pair new -/
def IteT (K : PySem.W.Frag) (a : Addr) : It where
  go := fun i H => ∃ (xs : List V) (x : V), SqT K H a xs ∧ xs[i]? = some x
  yld := fun i H v H' => ∃ T x, v = .ref T ∧ H T = none ∧ H' = upd H T (.tup [.int (i : Nat), x]) ∧ ∀ xs, SqT K H a xs → xs[i]? = some x
  stop := fun i H => ∃ xs : List V, SqT K H a xs ∧ xs.length ≤ i
theorem turn_enumT {P : Program} {w : World} {K : PySem.W.Frag} {elts : List Expr} {kk : Nat} {tpos : Pos} (a e it : Addr) :
    Turn P w K (.Tuple elts kk tpos) (IteT K a) [e, it] e (fun i h => (∃ x, IsEnum h e it ((i : Nat) : Int) x) ∧ h.IsTupleIter it a i ∧ e ≠ it ∧ a ≠ e ∧ a ≠ it) where
  mem := by simp
  obj := fun i h ⟨⟨x, z⟩, ⟨o, h1, _, h2⟩, _⟩ b hb => by
    rcases (show b = e ∨ b = it by simpa using hb) with q | q <;> subst q
    · exact ⟨_, z, fun v q => nomatch q⟩
    · exact ⟨o, h1, fun v q => by rw [h2] at q; cases q⟩
  keep := fun i h h' ⟨⟨x, z⟩, y, n⟩ k => ⟨⟨x, k e (by simp) _ z⟩, y.at fun o q => k it (by simp) o q, n⟩
  self := fun A i s Q E ⟨⟨_, z⟩, _⟩ h => wpAny_pyIter_enum z h
  item := by
    intro X hP hw hK hc i pins s σ H E I hf st hg
    subst hP hw hK
    obtain ⟨⟨old, z⟩, y, n1, n2, n3⟩ := st
    obtain ⟨xs, x, hq, hx⟩ := hg
    obtain ⟨its, rv, p, hz⟩ := I.tuple hq
    obtain ⟨u, hu, ru⟩ := rv.get hx
    have le : e < s.heap.objs.size := Heap.lt_size z
    have li : it < s.heap.objs.size := let ⟨_, q, _⟩ := y; Heap.lt_size q
    have hi : i < its.toArray.size := by simpa using (List.getElem?_eq_some_iff.mp hu).1
    have dr := Draws.tuple (prog := X.prog) (w := X.w) (A := X.A.in1) (show X.A.in1.handled = none from I.ok.hd hc) it a n3 its.toArray
    refine wpAny_pyNext_enum_itemD dr z ⟨y, p⟩ hi n1 (by simp [n1, Ne.symm n2]) fun x' h' tk hx' ho st' hT hsz hk => ?_
    have ex : x' = u := by
      have e1 : its.toArray[i]? = some u := by simpa using hu
      rw [e1] at hx'
      exact (Option.some.inj hx').symm
    subst ex
    refine ⟨_, rfl, wpAny_letOwnedTupleGo_enum (s := { s with heap := h', toks := tk + 1 }) ho fun h2 z2 sb => ?_⟩
    have neT : s.heap.objs.size ≠ e := Nat.ne_of_gt le
    have hT2 := (sb.2 _ neT).trans hT
    have I1 : L2.Inv X pins σ (upd H s.heap.objs.size (.tup [.int (i : Nat), x])) { s with heap := h2, toks := tk + 1 } :=
      I.turnedNew (ch := [e, it]) (fun b ob nb q => by
        have ⟨nb1, nb2⟩ : b ≠ e ∧ b ≠ it := by simpa using nb
        exact (sb.2 b nb1).trans (hk b ob nb1 nb2 q)) hf (Nat.le_refl _) ⟨by show 2 ≤ sizeLine; decide, [.int i tk, x'], .cons ⟨_, rfl⟩ (.cons ru .nil), ⟨_, hT2, rfl, _, rfl⟩⟩
    refine ⟨.ref s.heap.objs.size, _, I1, rfl, ⟨_, x, rfl, I.hok.fresh (Nat.le_refl _), rfl, fun ys hy => by rw [I.tuple_inj hy hq]; exact hx⟩, ⟨⟨x', ?_⟩, st'.1.at fun o q => (sb.2 it (Ne.symm n1)).trans q, n1, n2, n3⟩, fun b hb => ?_⟩
    · rw [show ((i + 1 : Nat) : Int) = (i : Int) + 1 by omega]
      exact z2
    · have lb : b < s.heap.objs.size := by rcases (show b = e ∨ b = it by simpa using hb) with q | q <;> (subst q; assumption)
      rw [upd_ne (Nat.ne_of_lt lb)]
      exact (hf b hb).1
  done := by
    intro X hP hw hK hc i pins s σ H E I hf st hg
    subst hP hw hK
    obtain ⟨⟨old, z⟩, y, n1, n2, n3⟩ := st
    obtain ⟨xs, hq, hx⟩ := hg
    obtain ⟨its, rv, p, hz⟩ := I.tuple hq
    have hl := rv.length
    have hh : X.A.in1.handled = none := I.ok.hd hc
    have out : its.toArray[i]? = none := by simp; omega
    have dr : Draws X.prog X.w X.A.in1 it [it, a] i (fun _ _ => True) (fun j h => j = i ∧ h.IsTupleIter it a i ∧ h.IsTuple a its.toArray) :=
      { live := fun _ _ st => let ⟨o, q, _⟩ := st.2.1; ⟨o, q⟩
        frame := fun _ _ _ st k => ⟨st.1, st.2.1.at fun o q => k it (by simp) o q, st.2.2.at fun o q => k a (by simp) o q⟩
        item := fun j s' Q' E' hj st _ => by rw [st.1] at hj; exact absurd hj (Nat.lt_irrefl _)
        done := fun s' Q' E' st hE => wpAny_nextOf_tuple_end hh st.2.1 st.2.2 out hE }
    obtain ⟨f0, f1, f2, f3, f4, f5⟩ := hf it (by simp)
    exact wpAny_pyNext_enum_endD dr z ⟨rfl, y, p⟩ fun h' eb => ⟨rfl, I.turned (t' := s.toks) (fun b o hb q => eb b o hb q) f0 f1 f3 f4 f5⟩
def iEnumA (K : PySem.W.Frag) (ta : TA) : TI := fun σ H R => ta σ H fun vs H1 => ∃ a xs, vs = [.ref a] ∧ ((SqL K H1 a xs ∧ (xs.length ≤ sizeLine → R (Ite K a) H1)) ∨ (SqT K H1 a xs ∧ (xs.length ≤ sizeLine → R (IteT K a) H1)))
theorem pi_enumA {X : Cx} {e : Expr} {ta : TA} {p pos tpos : Pos} {elts : List Expr} {kk : Nat} (hg : Gl X "enumerate") (hm : X.mg "enumerate" = none) (ha : PA X [e] ta) (hs : starEach [e] X.env = [(false, eval e X.env)] := by rfl) :
    PI X (.Tuple elts kk tpos) (.Call (.Name "enumerate" p) [e] [] pos) (iEnumA X.K ta) := by
  refine ⟨fun pins s σ H R I h => PyProof.Rows.Call_ (ld_blt I hg hm PyProof.Rows.boot_enumerate (PyProof.Rows.callWith_type1 (thn (ha.run pos pins s σ H _ I h) fun us s1 ⟨vs, H1, I1, r1, a, xs, e1, q1⟩ => ?_) hs rfl))⟩
  subst e1
  cases r1 with
  | cons r rr =>
    cases rr
    cases r
    have fr : ∀ b ∈ [s1.heap.objs.size + 1, s1.heap.objs.size], FpOk X pins H1 b := fun b hb => by
      have hle : s1.heap.objs.size ≤ b := by
        rcases (show b = s1.heap.objs.size + 1 ∨ b = s1.heap.objs.size by simpa using hb) with q | q <;> subst q <;> omega
      exact I1.fpOk hle (I1.hok.fresh hle)
    rcases q1 with ⟨hq, q⟩ | ⟨hq, q⟩
    · obtain ⟨its, rv, pl, hz⟩ := I1.list hq
      refine enum_call (begins_list a its.toArray) pl.isList fun h' z ho hk => wpAny_pyIter_enum z ?_
      exact ⟨_, _, _, _, H1, rfl, I1.kept (t' := s1.toks) hk, turn_enum a (s1.heap.objs.size + 1) s1.heap.objs.size, ⟨⟨.none, z⟩, ⟨_, ho, rfl, rfl⟩, Nat.succ_ne_self _⟩, fr, q hz⟩
    · obtain ⟨its, rv, pl, hz⟩ := I1.tuple hq
      have la : a < s1.heap.objs.size := pl.lt
      refine enum_call (begins_tuple a its.toArray) (show s1.heap.IsTuple a its.toArray from pl) fun h' z ho hk => wpAny_pyIter_enum z ?_
      exact ⟨_, _, _, _, H1, rfl, I1.kept (t' := s1.toks) hk, turn_enumT a (s1.heap.objs.size + 1) s1.heap.objs.size, ⟨⟨.none, z⟩, ⟨_, ho, rfl, rfl⟩, Nat.succ_ne_self _, Nat.ne_of_lt (Nat.lt_succ_of_lt la), Nat.ne_of_lt la⟩, fr, q hz⟩
section
variable {X : Cx} {e : Expr} {as : List Arg} {pos p tpos : Pos} {K : PySem.W.Frag} {mg : Str → Option Value} {A : List Addr} {H0 : Hp}
def numd (i : Nat) : List D → List D
  | [] => []
  | d :: ds => .tup [.int (i : Int), d] :: numd (i + 1) ds
theorem numd_get : ∀ (ds : List D) (n i : Nat), (numd n ds)[i]? = (ds[i]?).map fun d => D.tup [.int ((n + i : Nat) : Int), d]
  | [], _, _ => by simp [numd]
  | d :: ds, n, 0 => by simp [numd]
  | d :: ds, n, i + 1 => by
    show (numd (n + 1) ds)[i]? = (ds[i]?).map _
    rw [numd_get ds (n + 1) i, show n + 1 + i = n + (i + 1) by omega]
theorem numd_len : ∀ (ds : List D) (n : Nat), (numd n ds).length = ds.length
  | [], _ => rfl
  | d :: ds, n => by show (numd (n + 1) ds).length + 1 = _; rw [numd_len]; rfl
theorem rep_pair {A' : List Addr} {H : Hp} {T : Addr} {x y : D} {v u : V} (tk : Trk A' H) (n : H T = none) (r1 : Rep K mg (off A' H) x v) (r2 : Rep K mg (off A' H) y u) : Rep K mg (off A' (upd H T (.tup [v, u]))) (.tup [x, y]) (.ref T) :=
  rep_tup tk n (.cons r1 (.cons r2 .nil))
theorem wk_enum {a : Addr} {vs : List V} {ds : List D} (h : SqL K (off A H0) a vs) (r : Reps K mg (off A H0) ds vs) : Wk K mg A (numd 0 ds) (Ite K a) H0 := fun i A' H sm tk => by
  have q : SqL K H a vs := SqL.mono off_le (SqL.mono sm h)
  refine ⟨fun d hd => ?_, fun hl => ⟨vs, q, by rw [numd_len] at hl; rw [← r.length]; exact hl⟩⟩
  rw [numd_get] at hd
  obtain ⟨d0, hd, e⟩ := Option.map_eq_some_iff.mp hd
  obtain ⟨v, h1, h2⟩ := r.get hd
  refine ⟨⟨vs, v, q, h1⟩, fun x H' ⟨T, x', e1, nT, e2, y⟩ => ?_⟩
  have := y vs q
  rw [h1] at this
  cases this
  subst e e1 e2
  rw [Nat.zero_add]
  exact ⟨same_upd nT, rep_pair tk nT rfl (h2.mono sm)⟩
theorem wk_enumT {a : Addr} {vs : List V} {ds : List D} (h : SqT K (off A H0) a vs) (r : Reps K mg (off A H0) ds vs) : Wk K mg A (numd 0 ds) (IteT K a) H0 := fun i A' H sm tk => by
  have q : SqT K H a vs := SqT.mono off_le (SqT.mono sm h)
  refine ⟨fun d hd => ?_, fun hl => ⟨vs, q, by rw [numd_len] at hl; rw [← r.length]; exact hl⟩⟩
  rw [numd_get] at hd
  obtain ⟨d0, hd, e⟩ := Option.map_eq_some_iff.mp hd
  obtain ⟨v, h1, h2⟩ := r.get hd
  refine ⟨⟨vs, v, q, h1⟩, fun x H' ⟨T, x', e1, nT, e2, y⟩ => ?_⟩
  have := y vs q
  rw [h1] at this
  cases this
  subst e e1 e2
  rw [Nat.zero_add]
  exact ⟨same_upd nT, rep_pair tk nT rfl (h2.mono sm)⟩
def D.enum : List D → Option (List D)
  | [.lst l] => some (numd 0 l)
  | [.tup l] => some (numd 0 l)
  | [.scr l] => some (numd 0 l)
  | _ => none
theorem di_enum {elts : List Expr} {kk : Nat} (hg : Gl X "enumerate") (hm : X.mg "enumerate" = none) (ha : DA X [e] as) (hs : starEach [e] X.env = [(false, eval e X.env)] := by rfl) :
    DI X (.Tuple elts kk tpos) (.Call (.Name "enumerate" p) [e] [] pos) (srcN D.enum as) :=
  fun W tk => pi_imp (pi_enumA hg hm (ha W tk) hs) fun σ H R ⟨w, A, ρ, Rr, q⟩ => by
    refine ⟨w, A, ρ, Rr, ?_⟩
    unfold srcN at q
    cases hx : evs as ρ with
    | exc e ρ1 => rw [bnd_exc hx] at q; exact q
    | bad => rw [bnd_bad hx] at q; exact q
    | ok v ρ1 =>
      rw [bnd_ok hx] at q
      intro vv H1 ex1 R1 r1
      cases hd : (dvs v).bind D.enum with
      | none => rw [hd] at q; exact q.elim
      | some d =>
        rw [hd] at q
        obtain ⟨ds, h1, h2⟩ := Option.bind_eq_some_iff.mp hd
        have r := dvs_rep r1 h1
        match ds, h2, r with
        | [.lst l], h2, ⟨v, _, e1, ⟨a, xs, e2, hh, rr⟩, e3⟩ =>
          cases (Option.some.inj h2)
          cases e3; subst e2; subst e1
          exact ⟨a, xs, rfl, .inl ⟨SqL.of (off_le _ _ hh), fun z => q _ H1 ex1 R1 (wk_enum (SqL.of hh) rr) (by rw [numd_len, rr.length]; exact z)⟩⟩
        | [.scr l], h2, ⟨v, _, e1, ⟨a, xs, e2, hh, rr⟩, e3⟩ =>
          cases (Option.some.inj h2)
          cases e3; subst e2; subst e1
          exact ⟨a, xs, rfl, .inl ⟨SqL.mono off_le hh, fun z => q _ H1 ex1 R1 (wk_enum hh rr) (by rw [numd_len, rr.length]; exact z)⟩⟩
        | [.tup l], h2, ⟨v, _, e1, ⟨a, xs, e2, hh, rr⟩, e3⟩ =>
          cases (Option.some.inj h2)
          cases e3; subst e2; subst e1
          exact ⟨a, xs, rfl, .inr ⟨SqT.mono off_le hh, fun z => q _ H1 ex1 R1 (wk_enumT hh rr) (by rw [numd_len, rr.length]; exact z)⟩⟩
end
end DL
namespace DL
open PySem L2
def wipeE (ρ : Ev) : List Nat → Ev
  | [] => ρ
  | v :: vs => (wipeE ρ vs).set v .no
/-- what a block leaves: the things of one's own as it leaves them, all else as it was -/
def mergeE : Ev → Ev → Option Ev
  | [], [] => some []
  | a :: r, b :: s => if a.isOwn then (if b.isOwn then (mergeE r s).map fun t => b :: t else none) else (mergeE r s).map fun t => a :: t
  | _, _ => none
/-- one of the names holds a thing of one's own -/
def ownAt (vs : List Nat) (ρ : Ev) : Bool := vs.any fun v => match ρ[v]? with
  | some s => s.isOwn
  | none => false
theorem ownAt_no {vs : List Nat} {ρ : Ev} (h : ownAt vs ρ = false) : ∀ v ∈ vs, ∀ s, ρ[v]? = some s → s.isOwn = false := fun v hv s hs => by
  unfold ownAt at h
  have := List.any_eq_false.mp h v hv
  rw [hs] at this
  simpa using this
def lcL (vs : List Nat) (t : D → Ev → Option Ev) (tt : M Bool) (te : M D) : List D → Ev → List D → Out (List D)
  | [], ρ, acc => .ok acc ρ
  | d :: ds, ρ, acc => match t d ρ with
    | none => .bad
    | some ρ1 => match tt ρ1 with
      | .ok true ρ2 => match te ρ2 with
        | .ok y ρ3 => if ownAt vs ρ3 then .bad else lcL vs t tt te ds (wipeE ρ3 vs) (acc ++ [y])
        | _ => .bad
      | .ok false ρ2 => if ownAt vs ρ2 then .bad else lcL vs t tt te ds (wipeE ρ2 vs) acc
      | _ => .bad
def compM (vs : List Nat) (src : M (List D)) (t : D → Ev → Option Ev) (tt : M Bool) (te : M D) : M D := M.bnd src fun ds ρ1 =>
  if ownAt vs ρ1 then .bad else match lcL vs t tt te ds (wipeE ρ1 vs) [] with
    | .ok acc ρ2 => match mergeE ρ1 ρ2 with
      | some ρ3 => .ok (.lst acc) ρ3
      | none => .bad
    | _ => .bad
def noTest : M Bool := M.ret true
section
variable {K : PySem.W.Frag} {mg : Str → Option Value} {w : Wd} {A : List Addr} {ρ ρ' : Ev} {σ σ' : L2.St} {H : Hp}
theorem wipeE_len : ∀ (vs : List Nat) (ρ : Ev), (wipeE ρ vs).length = ρ.length
  | [], _ => rfl
  | v :: vs, ρ => by show ((wipeE ρ vs).set v .no).length = _; rw [List.length_set, wipeE_len vs ρ]
theorem wipeE_get : ∀ (vs : List Nat) (ρ : Ev) (j : Nat), (wipeE ρ vs)[j]? = if j ∈ vs then (if j < ρ.length then some .no else none) else ρ[j]?
  | [], ρ, j => by simp [wipeE]
  | v :: vs, ρ, j => by
    show ((wipeE ρ vs).set v .no)[j]? = _
    by_cases hj : j = v
    · subst hj
      simp only [List.mem_cons, true_or, if_true]
      by_cases hl : j < ρ.length
      · rw [if_pos hl, List.getElem?_set_self (by rw [wipeE_len]; exact hl)]
      · rw [if_neg hl]; exact List.getElem?_eq_none (by simpa [wipeE_len] using hl)
    · rw [List.getElem?_set_ne (Ne.symm hj), wipeE_get vs ρ j]
      simp [hj]
theorem wipe_get : ∀ (vs : List Nat) (σ : L2.St) (j : Nat), (wipe σ vs)[j]? = if j ∈ vs then (if j < σ.length then some none else none) else σ[j]?
  | [], σ, j => by simp [wipe]
  | v :: vs, σ, j => by
    show ((wipe σ vs).set v none)[j]? = _
    by_cases hj : j = v
    · subst hj
      simp only [List.mem_cons, true_or, if_true]
      by_cases hl : j < σ.length
      · rw [if_pos hl, List.getElem?_set_self (by rw [wipe_length]; exact hl)]
      · rw [if_neg hl]; exact List.getElem?_eq_none (by simpa [wipe_length] using hl)
    · rw [List.getElem?_set_ne (Ne.symm hj), wipe_get vs σ j]
      simp [hj]
theorem wipe_agr {vs is : List Nat} (a : Agr is (wipe σ vs) σ') (h : ∀ i ∈ is, i ∈ vs) : wipe σ' vs = wipe σ vs := by
  refine List.ext_getElem? fun j => ?_
  rw [wipe_get, wipe_get]
  have hl : σ'.length = σ.length := by rw [a.1, wipe_length]
  by_cases hj : j ∈ vs
  · rw [if_pos hj, if_pos hj, hl]
  · rw [if_neg hj, if_neg hj, a.2 j fun z => hj (h j z), wipe_get, if_neg hj]
theorem SR.wipe {vs : List Nat} (R : SR K mg w A ρ σ H) (ho : ∀ v ∈ vs, ∀ s, ρ[v]? = some s → s.isOwn = false) : SR K mg w A (wipeE ρ vs) (wipe σ vs) H := by
  have get : ∀ {j : Nat} {s : Slot}, (wipeE ρ vs)[j]? = some s → s = .no ∨ (j ∉ vs ∧ ρ[j]? = some s) := fun {j s} h => by
    rw [wipeE_get] at h
    split at h
    · split at h
      · exact .inl (Option.some.inj h).symm
      · cases h
    · rename_i hj
      exact .inr ⟨hj, h⟩
  have own : ∀ {j : Nat} {s : Slot}, (wipeE ρ vs)[j]? = some s → s.isOwn = true → j ∉ vs ∧ ρ[j]? = some s := fun {j s} h o => by
    rcases get h with z | z
    · subst z; cases o
    · exact z
  have sg : ∀ {j : Nat}, j ∉ vs → (L2.wipe σ vs)[j]? = σ[j]? := fun {j} hj => by rw [wipe_get, if_neg hj]
  refine ⟨by rw [wipeE_len, wipe_length, R.len], fun j s o h1 h2 => ?_, fun i j s t a h1 h2 o1 o2 e1 e2 => ?_, R.sub, R.trk, R.frame, fun i s a h1 o1 e1 => ?_, R.opB, fun p hp => ?_⟩
  · rcases get h1 with z | ⟨z, h⟩
    · subst z; trivial
    · rw [sg z] at h2
      exact R.slots j s o h h2
  · obtain ⟨n1, g1⟩ := own h1 o1
    obtain ⟨n2, g2⟩ := own h2 o2
    rw [sg n1] at e1
    rw [sg n2] at e2
    exact R.dist i j s t a g1 g2 o1 o2 e1 e2
  · obtain ⟨n1, g1⟩ := own h1 o1
    rw [sg n1] at e1
    exact R.mine i s a g1 o1 e1
  · obtain ⟨p1, p2, s, p3, p4⟩ := R.par p hp
    have np : p.1 ∉ vs := fun z => by rw [ho _ z s p3] at p4; cases p4
    exact ⟨p1, by rw [sg np]; exact p2, s, by rw [wipeE_get, if_neg np]; exact p3, p4⟩
/-- the new list, while it grows, is a thing that changes -/
theorem off_cons {p : Addr} {o : HO} (n : H p = none) : off (p :: A) (upd H p o) = off A H := by
  funext b
  unfold off
  by_cases hb : b = p
  · subst hb
    rw [if_pos List.mem_cons_self]
    split
    · rfl
    · exact n.symm
  · rw [upd_ne hb]
    by_cases hA : b ∈ A
    · rw [if_pos (List.mem_cons_of_mem _ hA), if_pos hA]
    · rw [if_neg hA, if_neg fun z => (List.mem_cons.mp z).elim hb hA]
theorem SlotR.grow {xx : Addr × Option Addr × Value} {p : Addr} {o : HO} (n : H p = none) (t : Trk A H) : ∀ {s : Slot} {v : Option V}, SlotR K mg xx A H s v → SlotR K mg xx (p :: A) (upd H p o) s v
  | .no, _, _ => trivial
  | .val d, _, ⟨v, e, r⟩ => ⟨v, e, by rw [off_cons n]; exact r⟩
  | .own l, _, ⟨a, vs, e, m, h, r⟩ => ⟨a, vs, e, List.mem_cons_of_mem _ m, by rw [upd_ne (ne_of_none h n)]; exact h, by rw [off_cons n]; exact r⟩
  | .dic _ _, _, ⟨a, kvs, e, m, h, k, r⟩ => ⟨a, kvs, e, List.mem_cons_of_mem _ m, by rw [upd_ne (ne_of_none h n)]; exact h, k, by rw [off_cons n]; exact r⟩
  | .inst _ _ _, _, ⟨a, C, dx, fvs, e, m, c, h, l, r⟩ => ⟨a, C, dx, fvs, e, List.mem_cons_of_mem _ m, c, by rw [upd_ne (ne_of_none h n)]; exact h, l, by rw [off_cons n]; exact r⟩
  | .ex _, _, ⟨e, r⟩ => ⟨e, r.to (by rw [off_cons n]; exact Same.refl _)⟩
/-- a thing that changes and that no name holds -/
def Wd.with (w : Wd) (p : Addr) (o : HO) : Wd := { w with B := p :: w.B, G := upd w.G p o }
theorem SR.noOp {p : Addr} (R : SR K mg w A ρ σ H) (n : H p = none) : p ∉ w.Op := fun z => R.trk p (R.sub p (R.opB p z)) n
theorem SR.noG {p : Addr} (R : SR K mg w A ρ σ H) (n : H p = none) : w.G p = none := by
  cases e : w.G p with
  | none => rfl
  | some o => rw [R.frame p o e (R.noOp n)] at n; cases n
/-- an own slot's object stands -/
theorem SR.stood {p : Addr} (R : SR K mg w A ρ σ H) (n : H p = none) (i : Nat) (s : Slot) (h : ρ[i]? = some s) (o : s.isOwn = true) : σ[i]? ≠ some (some (.ref p)) := fun z => by
  have := R.slots i s _ h z
  cases s with
  | own l => obtain ⟨b, vs', e, m, hh, _⟩ := this; cases e; rw [n] at hh; cases hh
  | dic ks vs => obtain ⟨b, vs', e, m, hh, _⟩ := this; cases e; rw [n] at hh; cases hh
  | inst c ns l => obtain ⟨b, C, dx, fvs, e, m, c, hh, _⟩ := this; cases e; rw [n] at hh; cases hh
  | _ => cases o
theorem SR.grow {p : Addr} {o : HO} (R : SR K mg w A ρ σ H) (n : H p = none) : SR K mg (w.with p o) (p :: A) ρ σ (upd H p o) :=
  { len := R.len, slots := fun i s v h1 h2 => (R.slots i s v h1 h2).grow n R.trk, dist := R.dist
    sub := fun a h => (List.mem_cons.mp h).elim (fun z => z ▸ List.mem_cons_self) fun z => List.mem_cons_of_mem _ (R.sub a z)
    trk := fun a ha z => by
      rcases List.mem_cons.mp ha with q | q
      · subst q; rw [upd_same] at z; cases z
      · exact Trk.upd (show Trk A H from R.trk) a q z
    frame := fun a u h nn => by
      by_cases ha : a = p
      · subst ha
        have h' : upd w.G a o a = some u := h
        rw [upd_same] at h' ⊢
        exact h'
      · have h' : upd w.G p o a = some u := h
        rw [upd_ne ha] at h' ⊢
        exact R.frame a u h' nn
    mine := fun i s a h o' e => (R.mine i s a h o' e).imp id fun ⟨z1, z2⟩ => by
      have ne : a ≠ p := fun y => R.stood n i s h o' (by rw [e, y])
      exact ⟨by show upd w.G p o a = none; rw [upd_ne ne]; exact z1, fun z => (List.mem_cons.mp z).elim ne z2⟩
    opB := fun a h => List.mem_cons_of_mem _ (R.opB a h)
    par := R.par }
/-- another content of the list that grows -/
theorem off_in {p : Addr} {o : HO} (h : p ∈ A) : off A (upd H p o) = off A H := by
  funext b
  unfold off
  by_cases hb : b = p
  · subst hb; rw [if_pos h, if_pos h]
  · rw [upd_ne hb]
theorem mergeE_get : ∀ {ρ ρ' ρ2 : Ev}, mergeE ρ ρ' = some ρ2 → ρ2.length = ρ.length ∧ ρ'.length = ρ.length ∧ ∀ (j : Nat) s, ρ2[j]? = some s → (s.isOwn = true ∧ ρ'[j]? = some s ∧ ∃ u, ρ[j]? = some u ∧ u.isOwn = true) ∨ (s.isOwn = false ∧ ρ[j]? = some s)
  | [], [], _, h => by cases (Option.some.inj h); exact ⟨rfl, rfl, fun j s h => by simp at h⟩
  | [], _ :: _, _, h => by cases h
  | _ :: _, [], _, h => by cases h
  | a :: r, b :: s, ρ2, h => by
    unfold mergeE at h
    by_cases ha : a.isOwn = true
    · rw [if_pos ha] at h
      by_cases hb : b.isOwn = true
      · rw [if_pos hb] at h
        obtain ⟨t, h1, e⟩ := Option.map_eq_some_iff.mp h
        subst e
        obtain ⟨l1, l2, g⟩ := mergeE_get h1
        refine ⟨by simp [l1], by simp [l2], fun j s h => ?_⟩
        cases j with
        | zero => simp at h; subst h; exact .inl ⟨hb, by simp, a, by simp, ha⟩
        | succ j => simpa using g j s (by simpa using h)
      · rw [if_neg hb] at h; cases h
    · rw [if_neg ha] at h
      obtain ⟨t, h1, e⟩ := Option.map_eq_some_iff.mp h
      subst e
      obtain ⟨l1, l2, g⟩ := mergeE_get h1
      refine ⟨by simp [l1], by simp [l2], fun j s h => ?_⟩
      cases j with
      | zero => simp at h; subst h; exact .inr ⟨by simpa using ha, by simp⟩
      | succ j => simpa using g j s (by simpa using h)
theorem SlotR.shrink {xx : Addr × Option Addr × Value} {p : Addr} {s0 : Option V} (h : ∀ a, s0 = some (V.ref a) → a ≠ p) : ∀ {s : Slot}, SlotR K mg xx (p :: A) H s s0 → SlotR K mg xx A H s s0 := by
  intro s r
  have sm : Same (off (p :: A) H) (off A H) := off_sub fun a ha => List.mem_cons_of_mem _ ha
  have inA : ∀ {a : Addr}, s0 = some (.ref a) → a ∈ p :: A → a ∈ A := fun {a} e m => (List.mem_cons.mp m).elim (fun z => absurd z (h a e)) id
  cases s with
  | no => trivial
  | val d => obtain ⟨v, e, r⟩ := r; exact ⟨v, e, r.mono sm⟩
  | own l => obtain ⟨a, vs, e, m, hh, r⟩ := r; exact ⟨a, vs, e, inA e m, hh, r.mono sm⟩
  | dic ks vs => obtain ⟨a, kvs, e, m, hh, k, r⟩ := r; exact ⟨a, kvs, e, inA e m, hh, k, r.mono sm⟩
  | inst c ns l => obtain ⟨a, C, dx, fvs, e, m, c, hh, n, r⟩ := r; exact ⟨a, C, dx, fvs, e, inA e m, c, hh, n, r.mono sm⟩
  | ex e => exact ⟨r.1, r.2.to sm⟩
/-- behind the block: the outer slots again -/
theorem SR.back {H1 : Hp} {vs : List Nat} {ρ2 ρ3 : Ev} {p : Addr} {o : HO} (R : SR K mg w A ρ σ H1) (n : H1 p = none) (R2 : SR K mg (w.with p o) (p :: A) ρ2 (L2.wipe σ vs) H) (sm : Same (off A H1) (off (p :: A) H)) (hm : mergeE ρ ρ2 = some ρ3) (ho : ∀ v ∈ vs, ∀ s, ρ[v]? = some s → s.isOwn = false) :
    SR K mg w A ρ3 σ H := by
  obtain ⟨l1, l2, g⟩ := mergeE_get hm
  have sub : Same (off (p :: A) H) (off A H) := off_sub fun a ha => List.mem_cons_of_mem _ ha
  have sA : Same (off A H1) (off A H) := sm.trans sub
  have own : ∀ {j : Nat} {s : Slot}, ρ3[j]? = some s → s.isOwn = true → ρ2[j]? = some s ∧ j ∉ vs ∧ (∃ u, ρ[j]? = some u ∧ u.isOwn = true) := fun {j s} h o => by
    rcases g j s h with ⟨_, h2, u, h3, h4⟩ | ⟨z, _⟩
    · exact ⟨h2, fun hv => (by rw [ho j hv u h3] at h4; cases h4), u, h3, h4⟩
    · rw [z] at o; cases o
  have sg : ∀ {j : Nat}, j ∉ vs → (L2.wipe σ vs)[j]? = σ[j]? := fun {j} hj => by rw [wipe_get, if_neg hj]
  refine ⟨by rw [l1, R.len], fun j s o h1 h2 => ?_, fun i j s t a h1 h2 o1 o2 e1 e2 => ?_, R.sub, fun a ha => R2.trk a (List.mem_cons_of_mem _ ha), fun a u h nn => R2.frame a u (by show upd w.G p o a = some u; rw [upd_ne (ne_of_none h (R.noG n))]; exact h) nn, fun i s a h1 o1 e1 => ?_, R.opB, fun q hq => ?_⟩
  · by_cases hs : s.isOwn = true
    · obtain ⟨h3, nv, u, h4, o4⟩ := own h1 hs
      rw [← sg nv] at h2
      refine SlotR.shrink (fun a e z => ?_) (R2.slots j s o h3 h2)
      rw [sg nv] at h2
      subst e z
      exact R.stood n j u h4 o4 h2
    · rcases g j s h1 with ⟨z, _⟩ | ⟨_, h3⟩
      · exact absurd z hs
      · have q := R.slots j s o h3 h2
        cases s with
        | no => trivial
        | val d => obtain ⟨v, e, r⟩ := q; exact ⟨v, e, r.mono sA⟩
        | ex e =>
          exact ⟨q.1, q.2.to sA⟩
        | _ => exact absurd rfl hs
  · obtain ⟨g1, n1, _⟩ := own h1 o1
    obtain ⟨g2, n2, _⟩ := own h2 o2
    exact R2.dist i j s t a g1 g2 o1 o2 (by rw [sg n1]; exact e1) (by rw [sg n2]; exact e2)
  · obtain ⟨g1, n1, _⟩ := own h1 o1
    exact (R2.mine i s a g1 o1 (by rw [sg n1]; exact e1)).imp id fun ⟨z1, z2⟩ => by
      have ne : a ≠ p := fun y => z2 (by rw [y]; exact List.mem_cons_self)
      exact ⟨by have z1' : upd w.G p o a = none := z1; rw [upd_ne ne] at z1'; exact z1', fun z => z2 (List.mem_cons_of_mem _ z)⟩
  · obtain ⟨p1, p2, s, p3, p4⟩ := R.par q hq
    have hj : q.1 < ρ3.length := by rw [l1]; exact (List.getElem?_eq_some_iff.mp p3).1
    have e3 : ρ3[q.1]? = some ρ3[q.1] := by simp [hj]
    rcases g q.1 _ e3 with ⟨z, _, _⟩ | ⟨z, h3⟩
    · exact ⟨p1, p2, _, e3, z⟩
    · rw [p3] at h3; cases h3; rw [z] at p4; cases p4
end
end DL
namespace DL
open PySem L2
/-- nothing is wished for -/
abbrev WF : WZ := ⟨fun _ _ _ _ => False, fun _ => True⟩
theorem takesF {X : Cx} {s : Shared} {H : Hp} {scope : Scope} {env : Env} {fp : List Addr} (hc : X.calm = true) : TakesZ (X.blk s H scope env fp) WF := ⟨takes0, fun h => by
  have z : X.calm = false := h
  rw [hc] at z
  cases z⟩
def DTs (X : Cx) (ifs : List Expr) (t : M Bool) : Prop := ∀ W : WZ, TakesZ X W → PTs X ifs (tT X.K X.mg W t)
section
variable {X : Cx} {e : Expr} {K : PySem.W.Frag} {mg : Str → Option Value} {w : Wd} {A : List Addr} {ρ ρ' : Ev} {σ σ' : L2.St} {H : Hp} {t : M Bool}
theorem dts_nil : DTs X [] noTest := fun W _ => ⟨fun pins s σ H Q I ⟨w, A, ρ, R, q⟩ => (pts_nil (X := X)).run pins s σ H Q I (q H Ext.refl R)⟩
theorem dts_one (h : DT X e t) : DTs X [e] t := fun W tk => pts_one (h W tk)
theorem ext_own {p : Addr} {o : HO} (h : p ∈ A) : Same (off A H) (off A (upd H p o)) := by rw [off_in h]; exact Same.refl _
/-- the list that grows takes one more -/
theorem SR.more {p : Addr} {xs ys : List V} (R : SR K mg (w.with p (.lst xs)) (p :: A) ρ σ H) (nO : p ∉ w.Op) : SR K mg (w.with p (.lst ys)) (p :: A) ρ σ (upd H p (.lst ys)) := by
  have e : off (p :: A) (upd H p (.lst ys)) = off (p :: A) H := off_in List.mem_cons_self
  have no : ∀ (i : Nat) s, ρ[i]? = some s → s.isOwn = true → σ[i]? ≠ some (some (.ref p)) := fun i s h o z => by
    rcases R.mine i s p h o z with q | ⟨_, q⟩
    · exact nO q
    · exact q List.mem_cons_self
  refine ⟨R.len, fun i s o h1 h2 => ?_, R.dist, R.sub, Trk.upd (show Trk (p :: A) H from R.trk), fun a u hu nu => ?_, fun i s a h1 o1 e1 => (R.mine i s a h1 o1 e1).imp id fun ⟨z1, z2⟩ => ?_, R.opB, R.par⟩
  · have r := R.slots i s o h1 h2
    cases s with
    | no => trivial
    | val d => obtain ⟨v, e1, r⟩ := r; exact ⟨v, e1, by rw [e]; exact r⟩
    | own l => obtain ⟨a, vs, e1, m, hh, r⟩ := r; subst e1; exact ⟨a, vs, rfl, m, by rw [upd_ne fun z => no i _ h1 rfl (by rw [h2, z])]; exact hh, by rw [e]; exact r⟩
    | dic ks vs => obtain ⟨a, kvs, e1, m, hh, k, r⟩ := r; subst e1; exact ⟨a, kvs, rfl, m, by rw [upd_ne fun z => no i _ h1 rfl (by rw [h2, z])]; exact hh, k, by rw [e]; exact r⟩
    | inst c ns l => obtain ⟨a, C, dx, fvs, e1, m, c, hh, n, r⟩ := r; subst e1; exact ⟨a, C, dx, fvs, rfl, m, c, by rw [upd_ne fun z => no i _ h1 rfl (by rw [h2, z])]; exact hh, n, by rw [e]; exact r⟩
    | ex ee => exact ⟨r.1, r.2.to (by rw [e]; exact Same.refl _)⟩
  · have hu' : upd w.G p (.lst ys) a = some u := hu
    by_cases ha : a = p
    · subst ha
      rw [upd_same] at hu' ⊢
      exact hu'
    · rw [upd_ne ha] at hu' ⊢
      exact R.frame a u (by show upd w.G p (.lst xs) a = some u; rw [upd_ne ha]; exact hu') nu
  · have ne : a ≠ p := fun y => z2 (by rw [y]; exact List.mem_cons_self)
    refine ⟨?_, z2⟩
    have z1' : upd w.G p (.lst xs) a = none := z1
    show upd w.G p (.lst ys) a = none
    rw [upd_ne ne] at z1' ⊢
    exact z1'
theorem wipe_own {vs : List Nat} {i : Nat} {s : Slot} (h : (wipeE ρ vs)[i]? = some s) (hv : i ∈ vs) : s = .no := by
  rw [wipeE_get, if_pos hv] at h
  split at h
  · exact (Option.some.inj h).symm
  · cases h
theorem lc_go {vs is : List Nat} {t : D → Ev → Option Ev} {tt : M Bool} {te : M D} {J : It} {H1 : Hp} {p : Addr} {ds : List D} {Q : VK} {ρ1 : Ev}
    (his : ∀ i ∈ is, i ∈ vs) (R1 : SR K mg w A ρ1 σ H1) (np : H1 p = none) (wk : Wk K mg A ds J H1) (hz : ds.length ≤ sizeLine) (ho : ∀ v ∈ vs, ∀ s, ρ1[v]? = some s → s.isOwn = false)
    (q : match lcL vs t tt te ds (wipeE ρ1 vs) [] with
      | .ok acc ρ2 => match mergeE ρ1 ρ2 with
        | some ρ3 => ∀ H', Same (off A H1) (off (p :: A) H') → SR K mg w A ρ3 σ H' → Rep K mg (off A H') (.lst acc) (.ref p) → Q (.ref p) H'
        | none => False
      | _ => False) :
    ∃ W : Nat → Nat → Hp → Prop, (∃ m, W 0 m (upd H1 p (.lst []))) ∧ ∀ i m H, W i m H →
      (J.stop i H ∧ Q (.ref p) H) ∨ (J.go i H ∧ ∃ Nx : Hp → Prop, (∀ H', Nx H' → ∃ m', m' < m ∧ W (i + 1) m' H') ∧ ∀ x H', J.yld i H x H' → tG K mg is t x (L2.wipe σ vs) H' fun σ2 H2 => L2.wipe σ2 vs = L2.wipe σ vs ∧ tT K mg WF tt σ2 H2 fun b H3 =>
        if b = true then tE K mg WF te σ2 H3 fun y H4 => ∃ acc, H4 p = some (.lst acc) ∧ acc.length < sizeLine ∧ Nx (upd H4 p (.lst (acc ++ [y]))) else Nx H3) := by
  generalize hE : lcL vs t tt te ds (wipeE ρ1 vs) [] = E0 at q
  let St := fun (i : Nat) (H : Hp) (ρi : Ev) (acc : List D) => Same (off A H1) (off (p :: A) H) ∧ (∃ xs, SR K mg (w.with p (.lst xs)) (p :: A) ρi (L2.wipe σ vs) H ∧ Reps K mg (off (p :: A) H) acc xs) ∧ acc.length ≤ i ∧ i ≤ ds.length ∧
    lcL vs t tt te (ds.drop i) ρi acc = E0
  refine ⟨fun i m H => m = ds.length - i ∧ ∃ ρi acc, St i H ρi acc, ⟨ds.length, by simp, wipeE ρ1 vs, [], by rw [off_cons np]; exact Same.refl _, ⟨[], (R1.wipe ho).grow np, rfl⟩, Nat.zero_le _, Nat.zero_le _, hE⟩, ?_⟩
  rintro i m H ⟨rfl, ρi, acc, sm, ⟨xs, R, rs⟩, ha, hi, el⟩
  have nO : p ∉ w.Op := R1.noOp np
  have at_p : ∀ {H : Hp} {ρ : Ev} {σ : L2.St}, SR K mg (w.with p (.lst xs)) (p :: A) ρ σ H → H p = some (.lst xs) := fun {H ρ σ} R => R.frame p _ (by show upd w.G p (.lst xs) p = _; exact upd_same) nO
  obtain ⟨wk1, wk2⟩ := wk i (p :: A) H sm R.trk
  by_cases hlt : i < ds.length
  · right
    obtain ⟨go, yld⟩ := wk1 ds[i] (by simp [hlt])
    refine ⟨go, fun H' => ∃ ρi acc, St (i + 1) H' ρi acc, fun H' h => ⟨ds.length - (i + 1), by omega, rfl, h⟩, fun x H' y => ?_⟩
    obtain ⟨s1, rx⟩ := yld x H' y
    have sm1 : Same (off A H1) (off (p :: A) H') := sm.trans (off_Same s1)
    have R' := R.same s1
    rw [show ds.drop i = ds[i] :: ds.drop (i + 1) from List.drop_eq_getElem_cons hlt] at el
    refine ⟨w.with p (.lst xs), p :: A, ρi, ds[i], R', rx, ?_⟩
    rw [← el] at q
    unfold lcL at q el
    cases ht : t ds[i] ρi with
    | none => rw [ht] at q; exact q.elim
    | some ρ2 =>
      rw [ht] at q el
      dsimp only at q el
      intro σ2 ag R2
      have hw : L2.wipe σ2 vs = L2.wipe σ vs := wipe_agr ag his
      refine ⟨hw, ⟨w.with p (.lst xs), trivial⟩, p :: A, ρ2, R2, ?_⟩
      cases htt : tt ρ2 with
      | exc e ρ3 => rw [htt] at q; exact q.elim
      | bad => rw [htt] at q; exact q.elim
      | ok b ρ3 =>
        rw [htt] at q el
        intro H3 ex3 R3
        have sm3 : Same (off A H1) (off (p :: A) H3) := sm1.trans ex3.off
        have rs3 : Reps K mg (off (p :: A) H3) acc xs := (rs.mono (off_Same s1)).mono ex3.off
        cases b with
        | false =>
          simp only [Bool.false_eq_true, if_false]
          dsimp only at q el
          cases hw2 : ownAt vs ρ3 with
          | true => rw [hw2] at q; exact q.elim
          | false =>
            rw [hw2] at q el
            simp only [Bool.false_eq_true, if_false] at el
            refine ⟨wipeE ρ3 vs, acc, sm3, ⟨xs, ?_, rs3⟩, by omega, hlt, el⟩
            rw [← hw]
            exact R3.wipe (ownAt_no hw2)
        | true =>
          simp only [if_true]
          refine ⟨⟨w.with p (.lst xs), trivial⟩, p :: A, ρ3, R3, ?_⟩
          dsimp only at q el
          cases hte : te ρ3 with
          | exc e ρ4 => rw [hte] at q; exact q.elim
          | bad => rw [hte] at q; exact q.elim
          | ok y ρ4 =>
            rw [hte] at q el
            dsimp only at q el
            cases hw2 : ownAt vs ρ4 with
            | true => rw [hw2] at q; exact q.elim
            | false =>
              rw [hw2] at q el
              simp only [Bool.false_eq_true, if_false] at el
              intro v H4 ex4 R4 r4
              have rs4 : Reps K mg (off (p :: A) H4) acc xs := rs3.mono ex4.off
              have hp4 : H4 p = some (.lst xs) := at_p R4
              have e4 : off (p :: A) (upd H4 p (.lst (xs ++ [v]))) = off (p :: A) H4 := off_in List.mem_cons_self
              refine ⟨xs, hp4, by rw [← rs4.length]; omega, wipeE ρ4 vs, acc ++ [y], by rw [e4]; exact sm3.trans ex4.off, ⟨xs ++ [v], ?_, by rw [e4]; exact rs4.append (.cons r4 .nil)⟩, by simp; omega, hlt, el⟩
              rw [← hw]
              exact (R4.more nO).wipe (ownAt_no hw2)
  · have e : i = ds.length := by omega
    subst e
    left
    refine ⟨wk2 (Nat.le_refl _), ?_⟩
    rw [List.drop_length] at el
    rw [← el] at q
    have q : match mergeE ρ1 ρi with
        | some ρ3 => ∀ H', Same (off A H1) (off (p :: A) H') → SR K mg w A ρ3 σ H' → Rep K mg (off A H') (.lst acc) (.ref p) → Q (.ref p) H'
        | none => False := q
    cases hm : mergeE ρ1 ρi with
    | none => rw [hm] at q; exact q.elim
    | some ρ3 =>
      rw [hm] at q
      refine q H sm (R1.back np R sm hm ho) ⟨p, xs, rfl, off_at (at_p R) fun z => R1.trk p z np, rs.mono (off_sub fun a ha => List.mem_cons_of_mem _ ha)⟩
/-- [elt for target in .. if ..] -/
theorem de_lc {elt tg iter : Expr} {ifs : List Expr} {scope : Scope} {own : List (Str × Nat)} {pos : Pos} {is : List Nat} {src : M (List D)} {t : D → Ev → Option Ev} {tt : M Bool} {te : M D} (hc : X.calm = true) (hN : X.N.Nodup) (hi : DI X tg iter src) (ok : blkC X.N X.env.scope scope own = true)
    (hg : ∀ (s : Shared) (H : Hp) (C : Addr) (cl : List (Str × Addr)) (fp : List Addr), DG (X.blk s H scope (compEnvC scope cl C X.env) fp) tg is t) (ht : ∀ (s : Shared) (H : Hp) (C : Addr) (cl : List (Str × Addr)) (fp : List Addr), DTs (X.blk s H scope (compEnvC scope cl C X.env) fp) ifs tt)
    (he : ∀ (s : Shared) (H : Hp) (C : Addr) (cl : List (Str × Addr)) (fp : List Addr), DE (X.blk s H scope (compEnvC scope cl C X.env) fp) elt te) (his : is.all (fun i => (own.map (·.2)).contains i) = true := by rfl) (hs : ∀ x, foldedSetIterable iter X.env x = pure x := by intro _; rfl) :
    DE X (.ListComp elt [⟨tg, iter, ifs, 0⟩] scope pos) (compM (own.map (·.2)) src t tt te) := fun W tk =>
  pe_imp (pe_lc (g := tG X.K X.mg is t) (tt := tT X.K X.mg WF tt) (te := tE X.K X.mg WF te) hc hN (hi W tk) (blkOk_by ok) hg (fun s H C cl fp => ht s H C cl fp WF (takesF hc)) (fun s H C cl fp => he s H C cl fp WF (takesF hc)) hs) fun σ H Q ⟨w, A, ρ, R, q⟩ => by
    refine ⟨w, A, ρ, R, ?_⟩
    unfold compM at q
    cases hm : src ρ with
    | exc e ρ1 => rw [bnd_exc hm] at q; exact q
    | bad => rw [bnd_bad hm] at q; exact q
    | ok ds ρ1 =>
      rw [bnd_ok hm] at q
      intro J H1 ex1 R1 wk hz p np
      cases hw : ownAt (own.map (·.2)) ρ1 with
      | true => rw [hw] at q; exact q.elim
      | false =>
        rw [hw] at q
        refine lc_go (fun i hi => ?_) R1 np wk hz (ownAt_no hw) ?_
        · have := List.all_eq_true.mp his i hi
          simpa using this
        · simp only [Bool.false_eq_true, if_false] at q
          cases hl : lcL (own.map (·.2)) t tt te ds (wipeE ρ1 (own.map (·.2))) [] with
          | exc e ρ2 => rw [hl] at q; exact q.elim
          | bad => rw [hl] at q; exact q.elim
          | ok acc ρ2 =>
            rw [hl] at q
            dsimp only at q ⊢
            cases hmm : mergeE ρ1 ρ2 with
            | none => rw [hmm] at q; exact q.elim
            | some ρ3 =>
              rw [hmm] at q
              exact fun H' sm R' r => q _ H' (ex1.trans fun a o ha h => off_le _ _ (sm _ _ (off_at h ha))) R' r
end
end DL
namespace DL
open PySem L2
section
variable {X : Cx} {np : Nat} {st : Stmt} {rest : List Stmt} {e : Expr} {m : M D} {s s' : S} {pos : Pos} {K : PySem.W.Frag} {mg : Str → Option Value} {w : Wd} {A : List Addr} {ρ : Ev} {σ : L2.St} {H : Hp}
def sSeq (a b : S) : S := fun ρ => match a ρ with
  | .nx ρ' => b ρ'
  | .rt d ρ' => .rt d ρ' | .bk ρ' => .bk ρ' | .ct ρ' => .ct ρ' | .exc e ρ' => .exc e ρ' | .bad => .bad
def sNx : S := fun ρ => .nx ρ
/-- what is wanted behind an outcome -/
def Aft (K : PySem.W.Frag) (mg : Str → Option Value) (W : WZ) (w : Wd) (A : List Addr) (H : Hp) (E : Ends) : SOut → Prop
  | .nx ρ' => ∀ A' σ' H', Same (off A H) (off A' H') → SR K mg w A' ρ' σ' H' → E.nx σ' H'
  | .rt d ρ' => ∀ A' σ' H' v, SR K mg w A' ρ' σ' H' → Rep K mg (off A' H') d v → E.rt v H'
  | .bk ρ' => ∀ A' σ' H', Same (off A H) (off A' H') → SR K mg w A' ρ' σ' H' → E.bk σ' H'
  | .ct ρ' => ∀ A' σ' H', Same (off A H) (off A' H') → SR K mg w A' ρ' σ' H' → E.ct σ' H'
  | .exc e ρ' => ∀ A' σ' H' c dd, Same (off A H) (off A' H') → SR K mg w A' ρ' σ' H' → ExR K mg A' H' e c dd → W c dd σ' H'
  | .bad => False
theorem tS_iff {W : WZ} {E : Ends} : tS K mg np W s E σ H ↔ ∃ (w : WS W) (A : List Addr) (ρ : Ev), w.1.np = np ∧ SR K mg w A ρ σ H ∧ Aft K mg W w A H E (s ρ) := by
  unfold tS
  constructor <;> rintro ⟨w, A, ρ, h, R, q⟩ <;> refine ⟨w, A, ρ, h, R, ?_⟩ <;> cases hs : s ρ <;> (rw [hs] at q; exact q)
theorem Aft.from {W : WZ} {E : Ends} {A1 : List Addr} {H1 : Hp} (sm : Same (off A H) (off A1 H1)) : ∀ {o : SOut}, Aft K mg W w A H E o → Aft K mg W w A1 H1 E o
  | .nx _, q => fun A' σ' H' s2 R => q A' σ' H' (sm.trans s2) R
  | .rt _ _, q => q
  | .bk _, q => fun A' σ' H' s2 R => q A' σ' H' (sm.trans s2) R
  | .ct _, q => fun A' σ' H' s2 R => q A' σ' H' (sm.trans s2) R
  | .exc _ _, q => fun A' σ' H' c dd s2 R => q A' σ' H' c dd (sm.trans s2) R
  | .bad, q => q
theorem dss_nil : DSs X np [] sNx := fun W _ => pss_imp pss_nil fun E σ H ⟨w, A, ρ, hn, R, q⟩ => q A σ H (Same.refl _) R
theorem dss_cons (h : DS X np st s) (h2 : DSs X np rest s') : DSs X np (st :: rest) (sSeq s s') := fun W tk => pss_imp (pss_cons (h W tk) (h2 W tk)) fun E σ H q => by
  obtain ⟨w, A, ρ, hn, R, q⟩ := tS_iff.mp q
  refine tS_iff.mpr ⟨w, A, ρ, hn, R, ?_⟩
  unfold sSeq at q
  cases hs : s ρ with
  | nx ρ1 =>
    rw [hs] at q
    exact fun A' σ' H' sm R' => tS_iff.mpr ⟨w, A', ρ1, hn, R', Aft.from sm q⟩
  | rt d ρ1 => rw [hs] at q; exact q
  | bk ρ1 => rw [hs] at q; exact q
  | ct ρ1 => rw [hs] at q; exact q
  | exc e ρ1 => rw [hs] at q; exact q
  | bad => rw [hs] at q; exact q
theorem dss_one (h : DS X np st s) : DSs X np [st] s := fun W tk => pss_one (h W tk)
theorem ds_pass : DS X np (.Pass pos) sNx := fun W _ => ps_imp ps_pass fun E σ H ⟨w, A, ρ, hn, R, q⟩ => q A σ H (Same.refl _) R
theorem ds_break : DS X np (.Break pos) (fun ρ => .bk ρ) := fun W _ => ps_imp ps_break fun E σ H ⟨w, A, ρ, hn, R, q⟩ => q A σ H (Same.refl _) R
theorem ds_continue : DS X np (.Continue pos) (fun ρ => .ct ρ) := fun W _ => ps_imp ps_continue fun E σ H ⟨w, A, ρ, hn, R, q⟩ => q A σ H (Same.refl _) R
/-- a value, then what is done with it -/
def sV (m : M D) (f : D → S) : S := fun ρ => match m ρ with
  | .ok d ρ' => f d ρ'
  | .exc e ρ' => .exc e ρ'
  | .bad => .bad
theorem te_of {W : WZ} {E : Ends} {f : D → S} {Q : VK} (h : tS K mg np W (sV m f) E σ H)
    (hq : ∀ (w : WS W) (A : List Addr) (ρ1 : Ev) d v H1, w.1.np = np → SR K mg w A ρ1 σ H1 → Rep K mg (off A H1) d v → Aft K mg W w A H1 E (f d ρ1) → Q v H1) : tE K mg W m σ H Q := by
  obtain ⟨w, A, ρ, hn, R, q⟩ := tS_iff.mp h
  refine ⟨w, A, ρ, R, ?_⟩
  unfold sV at q
  cases hm : m ρ with
  | exc e ρ1 => rw [hm] at q; exact fun c dd H' ex R' z => q A σ H' c dd ex.off R' z
  | bad => rw [hm] at q; exact q
  | ok d ρ1 =>
    rw [hm] at q
    exact fun v H1 ex R1 r1 => hq w A ρ1 d v H1 hn R1 r1 (Aft.from ex.off q)
theorem ds_expr (h : DE X e m) (hs : swapsWith e none pos.line X.env = pure false := by rfl) : DS X np (.Expr e pos) (sV m fun _ => sNx) := fun W tk =>
  ps_imp (ps_expr (h W tk) hs) fun E σ H q => te_of q fun w A ρ1 d v H1 hn R1 r1 z => z A σ H1 (Same.refl _) R1
theorem ds_ret (h : DE X e m) : DS X np (.Return (some e) pos) (sV m fun d ρ => .rt d ρ) := fun W tk =>
  ps_imp (ps_ret (h W tk)) fun E σ H q => te_of q fun w A ρ1 d v H1 hn R1 r1 z => z A σ H1 v R1 r1
theorem ds_retN : DS X np (.Return none pos) (fun ρ => .rt .non ρ) := fun W tk => ps_imp ps_retN fun E σ H ⟨w, A, ρ, hn, R, q⟩ => q A σ H .non R rfl
/-- target = value -/
def sAsg (m : M D) (t : D → Ev → Option Ev) : S := sV m fun d ρ => match t d ρ with
  | some ρ' => .nx ρ'
  | none => .bad
theorem ds_asg {tg : Expr} {is : List Nat} {t : D → Ev → Option Ev} (h : DE X e m) (hg : DG X tg is t) (hs : swapsWithSole [tg] e pos.line X.env = pure false := by rfl) (hw : swappedStores [tg] e X.env = pure none := by rfl)
    (h1 : (assignEach [tg] X.env).map (·.2) = [assign tg X.env] := by rfl) : DS X np (.Assign [tg] e pos) (sAsg m t) := fun W tk =>
  ps_imp (ps_asg (h W tk) hg hs hw h1) fun E σ H q => te_of q fun w A ρ1 d v H1 hn R1 r1 z => by
    refine ⟨w, A, ρ1, d, R1, r1, ?_⟩
    cases ht : t d ρ1 with
    | none => rw [ht] at z; exact z.elim
    | some ρ2 => rw [ht] at z; exact fun σ' _ R2 => z A σ' H1 (Same.refl _) R2
theorem ds_set {i : Nat} {x : Str} {pos' : Pos} (hN : X.N.Nodup) (hi : X.N[i]? = some x) (hx : Loc X.env.scope x) (h : DE X e m) (hs : swapsWith e (some (.Name x pos')) pos.line X.env = pure false := by rfl)
    (hf : X.fn x = true ∨ X.env.scope.names.lookup x = some .local := by first | exact .inl rfl | exact .inr rfl | assumption) : DS X np (.Assign [.Name x pos'] e pos) (sAsg m (gN i)) := fun W tk =>
  ps_imp (ps_set hN hi hx (h W tk) hs hf) fun E σ H q => te_of q fun w A ρ1 d v H1 hn R1 r1 z => by
    unfold gN at z
    cases hs : ρ1[i]? with
    | none => rw [hs] at z; exact z.elim
    | some s0 =>
      rw [hs] at z
      dsimp only at z
      cases ho : s0.isOwn with
      | true => rw [ho] at z; exact z.elim
      | false => rw [ho] at z; exact z A _ H1 (Same.refl _) (R1.set hs ho r1)
/-- name = [..] on one line -/
theorem ds_setLc {i : Nat} {y : Str} {py : Pos} {elt tg iter : Expr} {ifs : List Expr} {scope : Scope} {own : List (Str × Nat)} {pos spos : Pos} {is : List Nat} {src : M (List D)} {t : D → Ev → Option Ev} {tt : M Bool} {te : M D} (hc : X.calm = true) (hN : X.N.Nodup) (hy : X.N[i]? = some y) (hyl : X.env.scope.names.lookup y = some .local)
    (hsw : swapsWith (.ListComp elt [⟨tg, iter, ifs, 0⟩] scope pos) (some (.Name y py)) spos.line X.env = pure true) (hi : DI X tg iter src) (ok : blkC X.N X.env.scope scope own = true)
    (hg : ∀ (s : Shared) (H : Hp) (C : Addr) (cl : List (Str × Addr)) (fp : List Addr), DG (X.blk s H scope (compEnvC scope cl C X.env) fp) tg is t) (ht : ∀ (s : Shared) (H : Hp) (C : Addr) (cl : List (Str × Addr)) (fp : List Addr), DTs (X.blk s H scope (compEnvC scope cl C X.env) fp) ifs tt)
    (he : ∀ (s : Shared) (H : Hp) (C : Addr) (cl : List (Str × Addr)) (fp : List Addr), DE (X.blk s H scope (compEnvC scope cl C X.env) fp) elt te) (his : is.all (fun i => (own.map (·.2)).contains i) = true := by rfl) (hs : ∀ x, foldedSetIterable iter X.env x = pure x := by intro _; rfl) :
    DS X np (.Assign [.Name y py] (.ListComp elt [⟨tg, iter, ifs, 0⟩] scope pos) spos) (sAsg (compM (own.map (·.2)) src t tt te) (gN i)) := fun W tk =>
  ps_imp (ps_setLc (g := tG X.K X.mg is t) (tt := tT X.K X.mg WF tt) (te := tE X.K X.mg WF te) hc hN hy hyl hsw (hi W tk) (blkOk_by ok) hg (fun s H C cl fp => ht s H C cl fp WF (takesF hc)) (fun s H C cl fp => he s H C cl fp WF (takesF hc)) hs) fun E σ H q => by
    obtain ⟨w, A, ρ, hn, R, q⟩ := tS_iff.mp q
    refine ⟨w, A, ρ, R, ?_⟩
    unfold sAsg sV compM at q
    cases hm : src ρ with
    | exc e ρ1 => rw [bnd_exc hm] at q; exact fun c dd H' ex R' z => q A σ H' c dd ex.off R' z
    | bad => rw [bnd_bad hm] at q; exact q
    | ok ds ρ1 =>
      rw [bnd_ok hm] at q
      intro J H1 ex1 R1 wk hz p np'
      cases hw : ownAt (own.map (·.2)) ρ1 with
      | true => rw [hw] at q; exact q.elim
      | false =>
        rw [hw] at q
        refine lc_go (Q := fun x H1 => gName i x σ H1 E.nx) (is := is) (fun i hi => ?_) R1 np' wk hz (ownAt_no hw) ?_
        · have := List.all_eq_true.mp his i hi
          simpa using this
        · simp only [Bool.false_eq_true, if_false] at q
          cases hl : lcL (own.map (·.2)) t tt te ds (wipeE ρ1 (own.map (·.2))) [] with
          | exc e ρ2 => rw [hl] at q; exact q.elim
          | bad => rw [hl] at q; exact q.elim
          | ok acc ρ2 =>
            rw [hl] at q
            dsimp only at q ⊢
            cases hmm : mergeE ρ1 ρ2 with
            | none => rw [hmm] at q; exact q.elim
            | some ρ3 =>
              rw [hmm] at q
              intro H' sm R' r
              dsimp only at q
              unfold gN at q
              cases hs : ρ3[i]? with
              | none => rw [hs] at q; exact q.elim
              | some s0 =>
                rw [hs] at q
                dsimp only at q
                cases ho : s0.isOwn with
                | true => rw [ho] at q; exact q.elim
                | false =>
                  rw [ho] at q
                  exact q A _ H' (ex1.off.trans (sm.trans (off_sub fun a ha => List.mem_cons_of_mem _ ha))) (R'.set hs ho r)
/-- if -/
def sIf (t : M Bool) (a b : S) : S := fun ρ => match t ρ with
  | .ok true ρ' => a ρ'
  | .ok false ρ' => b ρ'
  | .exc e ρ' => .exc e ρ'
  | .bad => .bad
theorem ds_if {c : Expr} {a b : List Stmt} {t : M Bool} (h : DT X c t) (ha : DSs X np a s) (hb : DSs X np b s') : DS X np (.If c a b pos) (sIf t s s') := fun W tk =>
  ps_imp (ps_if (h W tk) (ha W tk) (hb W tk)) fun E σ H q => by
    obtain ⟨w, A, ρ, hn, R, q⟩ := tS_iff.mp q
    refine ⟨w, A, ρ, R, ?_⟩
    unfold sIf at q
    cases ht : t ρ with
    | exc e ρ1 => rw [ht] at q; exact fun c dd H' ex R' z => q A σ H' c dd ex.off R' z
    | bad => rw [ht] at q; exact q
    | ok b ρ1 =>
      rw [ht] at q
      intro H1 ex R1
      cases b with
      | true => exact tS_iff.mpr ⟨w, A, ρ1, hn, R1, Aft.from ex.off q⟩
      | false => exact tS_iff.mpr ⟨w, A, ρ1, hn, R1, Aft.from ex.off q⟩
/-- for -/
def forL (t : D → Ev → Option Ev) (b : S) : List D → S
  | [], ρ => .nx ρ
  | d :: ds, ρ => match t d ρ with
    | none => .bad
    | some ρ1 => match b ρ1 with
      | .nx ρ2 => forL t b ds ρ2
      | .ct ρ2 => forL t b ds ρ2
      | .bk ρ2 => .nx ρ2
      | .rt d ρ2 => .rt d ρ2
      | .exc e ρ2 => .exc e ρ2
      | .bad => .bad
def sFor (src : M (List D)) (t : D → Ev → Option Ev) (b : S) : S := fun ρ => match src ρ with
  | .ok ds ρ' => forL t b ds ρ'
  | .exc e ρ' => .exc e ρ'
  | .bad => .bad
theorem ds_for {tg iter : Expr} {body : List Stmt} {is : List Nat} {src : M (List D)} {t : D → Ev → Option Ev} (hp : PassesOwn (model X.prog X.w) X.A X.env X.xe) (hc : X.calm = true) (hi : DI X tg iter src) (hg : DG X tg is t) (hb : DSs X np body s)
    (hs : ∀ x, foldedSetIterable iter X.env x = pure x := by intro _; rfl) : DS X np (.For tg iter body [] pos) (sFor src t s) := fun W tk =>
  ps_imp (ps_for hp hc (hi W tk) hg (hb W tk) hs) fun E σ H q => by
    obtain ⟨w, A, ρ, hn, R, q⟩ := tS_iff.mp q
    refine ⟨w, A, ρ, R, ?_⟩
    unfold sFor at q
    cases hm : src ρ with
    | exc e ρ1 => rw [hm] at q; exact fun c dd H' ex R' z => q A σ H' c dd ex.off R' z
    | bad => rw [hm] at q; exact q
    | ok ds ρ1 =>
      rw [hm] at q
      intro J H1 ex1 R1 wk hz
      have q := Aft.from ex1.off q
      refine ⟨fun i m σ2 H2 => m = ds.length - i ∧ i ≤ ds.length ∧ ∃ A2 ρ2, SR X.K X.mg w A2 ρ2 σ2 H2 ∧ Same (off A H1) (off A2 H2) ∧ Aft X.K X.mg W w A2 H2 E (forL t s (ds.drop i) ρ2), ⟨ds.length, by simp, Nat.zero_le _, A, ρ1, R1, Same.refl _, q⟩, ?_⟩
      rintro i m σ2 H2 ⟨rfl, hle, A2, ρ2, R2, sm, z⟩
      obtain ⟨wk1, wk2⟩ := wk i A2 H2 sm R2.trk
      by_cases hlt : i < ds.length
      · right
        obtain ⟨go, yld⟩ := wk1 ds[i] (by simp [hlt])
        rw [show ds.drop i = ds[i] :: ds.drop (i + 1) from List.drop_eq_getElem_cons hlt] at z
        unfold forL at z
        refine ⟨go, fun σ3 H3 => ∃ A3 ρ3, SR X.K X.mg w A3 ρ3 σ3 H3 ∧ Same (off A H1) (off A3 H3) ∧ Aft X.K X.mg W w A3 H3 E (forL t s (ds.drop (i + 1)) ρ3), fun σ3 H3 h => ⟨_, by omega, rfl, by omega, h⟩, fun x H' y => ?_⟩
        obtain ⟨s1, rx⟩ := yld x H' y
        refine ⟨w, A2, ρ2, ds[i], R2.same s1, rx, ?_⟩
        cases ht : t ds[i] ρ2 with
        | none => rw [ht] at z; exact z.elim
        | some ρ3 =>
          rw [ht] at z
          dsimp only at z
          intro σ3 _ R3
          refine tS_iff.mpr ⟨w, A2, ρ3, hn, R3, ?_⟩
          have z := Aft.from (off_Same s1) z
          have sm3 := sm.trans (off_Same s1)
          cases hb : s ρ3 with
          | nx ρ4 => rw [hb] at z; exact fun A4 σ4 H4 s4 R4 => ⟨A4, ρ4, R4, sm3.trans s4, Aft.from s4 z⟩
          | ct ρ4 => rw [hb] at z; exact fun A4 σ4 H4 s4 R4 => ⟨A4, ρ4, R4, sm3.trans s4, Aft.from s4 z⟩
          | bk ρ4 => rw [hb] at z; exact z
          | rt d ρ4 => rw [hb] at z; exact z
          | exc e ρ4 => rw [hb] at z; exact z
          | bad => rw [hb] at z; exact z
      · left
        have e : i = ds.length := by omega
        subst e
        rw [List.drop_length] at z
        exact ⟨wk2 (Nat.le_refl _), z A2 σ2 H2 (Same.refl _) R2⟩
/-- while: at most so many turns -/
def whL (t : M Bool) (b : S) : Nat → S
  | 0, _ => .bad
  | n + 1, ρ => match t ρ with
    | .ok false ρ1 => .nx ρ1
    | .ok true ρ1 => (match b ρ1 with
      | .nx ρ2 => whL t b n ρ2
      | .ct ρ2 => whL t b n ρ2
      | .bk ρ2 => .nx ρ2
      | .rt d ρ2 => .rt d ρ2
      | .exc e ρ2 => .exc e ρ2
      | .bad => .bad)
    | .exc e ρ1 => .exc e ρ1
    | .bad => .bad
theorem ds_while {c : Expr} {body : List Stmt} {t : M Bool} (n : Nat) (hp : PassesOwn (model X.prog X.w) X.A X.env X.xe) (hc : DT X c t) (hb : DSs X np body s) : DS X np (.While c body [] pos) (whL t s n) := fun W tk =>
  ps_imp (ps_while hp (hc W tk) (hb W tk)) fun E σ H q => by
    obtain ⟨w, A, ρ, hn, R, q⟩ := tS_iff.mp q
    refine ⟨fun m σ2 H2 => ∃ A2 ρ2, SR X.K X.mg w A2 ρ2 σ2 H2 ∧ Aft X.K X.mg W w A2 H2 E (whL t s m ρ2), ⟨n, A, ρ, R, q⟩, ?_⟩
    rintro m σ2 H2 ⟨A2, ρ2, R2, z⟩
    refine ⟨w, A2, ρ2, R2, ?_⟩
    cases m with
    | zero => exact z.elim
    | succ m =>
      unfold whL at z
      cases ht : t ρ2 with
      | exc e ρ3 => rw [ht] at z; exact fun c dd H' ex R' y => z A2 σ2 H' c dd ex.off R' y
      | bad => rw [ht] at z; exact z
      | ok k ρ3 =>
        rw [ht] at z
        intro H3 ex3 R3
        have z := Aft.from ex3.off z
        cases k with
        | false => simp only [Bool.false_eq_true, if_false]; exact z A2 σ2 H3 (Same.refl _) R3
        | true =>
          simp only [if_true]
          refine ⟨fun σ4 H4 => ∃ A2 ρ2, SR X.K X.mg w A2 ρ2 σ4 H4 ∧ Aft X.K X.mg W w A2 H4 E (whL t s m ρ2), fun σ4 H4 h => ⟨m, Nat.lt_succ_self _, h⟩, ?_⟩
          refine tS_iff.mpr ⟨w, A2, ρ3, hn, R3, ?_⟩
          dsimp only at z
          cases hb : s ρ3 with
          | nx ρ4 => rw [hb] at z; exact fun A4 σ4 H4 s4 R4 => ⟨A4, ρ4, R4, Aft.from s4 z⟩
          | ct ρ4 => rw [hb] at z; exact fun A4 σ4 H4 s4 R4 => ⟨A4, ρ4, R4, Aft.from s4 z⟩
          | bk ρ4 => rw [hb] at z; exact z
          | rt d ρ4 => rw [hb] at z; exact z
          | exc e ρ4 => rw [hb] at z; exact z
          | bad => rw [hb] at z; exact z
end
end DL
namespace DL
open PySem L2
section
variable {X : Cx} {np : Nat} {e : Expr} {es : List Expr} {as : List Arg} {m : M D} {s s' : S} {pos : Pos} {K : PySem.W.Frag} {mg : Str → Option Value} {w : Wd} {A : List Addr} {ρ : Ev} {σ : L2.St} {H : Hp}
/-- a new object that no name holds may change from now on -/
theorem SR.growA {p : Addr} {o : HO} (R : SR K mg w A ρ σ H) (n : H p = none) : SR K mg w (p :: A) ρ σ (upd H p o) :=
  { len := R.len, slots := fun i s v h1 h2 => (R.slots i s v h1 h2).grow n R.trk, dist := R.dist
    sub := fun a h => List.mem_cons_of_mem _ (R.sub a h)
    trk := fun a ha z => by
      rcases List.mem_cons.mp ha with q | q
      · subst q; rw [upd_same] at z; cases z
      · exact Trk.upd (show Trk A H from R.trk) a q z
    frame := fun a u h nn => by have := R.frame a u h nn; rw [upd_ne (ne_of_none this n)]; exact this
    mine := R.mine, opB := R.opB, par := R.par }
/-- .. and the i-th name holds it -/
theorem SR.hold {i : Nat} {p : Addr} {vs : List V} {l : List D} {s0 : Slot} (R : SR K mg w A ρ σ H) (hi : ρ[i]? = some s0) (hn : w.np ≤ i) (hp : H p = some (.lst vs)) (hA : p ∈ A) (r : Reps K mg (off A H) l vs)
    (no : ∀ (j : Nat) s, ρ[j]? = some s → s.isOwn = true → σ[j]? ≠ some (some (.ref p))) (nG : w.G p = none) (nB : p ∉ w.B) : SR K mg w A (ρ.set i (.own l)) (σ.set i (some (.ref p))) H := by
  have li : i < ρ.length := (List.getElem?_eq_some_iff.mp hi).1
  have li' : i < σ.length := by rw [← R.len]; exact li
  refine ⟨by simp [R.len], fun j s o h1 h2 => ?_, fun j k s1 s2 a h1 h2 o1 o2 e1 e2 => ?_, R.sub, R.trk, R.frame, fun j s a h1 o1 e1 => ?_, R.opB, fun q hq => ?_⟩
  · by_cases hj : j = i
    · subst hj
      rw [List.getElem?_set_self li] at h1
      rw [List.getElem?_set_self li'] at h2
      cases h1; cases h2
      exact ⟨p, vs, rfl, hA, hp, r⟩
    · rw [List.getElem?_set_ne (Ne.symm hj)] at h1 h2
      exact R.slots j s o h1 h2
  · by_cases hj : j = i
    · by_cases hk : k = i
      · omega
      · subst hj
        rw [List.getElem?_set_self li'] at e1
        cases e1
        rw [List.getElem?_set_ne (Ne.symm hk)] at h2 e2
        exact absurd e2 (no k s2 h2 o2)
    · rw [List.getElem?_set_ne (Ne.symm hj)] at h1 e1
      by_cases hk : k = i
      · subst hk
        rw [List.getElem?_set_self li'] at e2
        cases e2
        exact absurd e1 (no j s1 h1 o1)
      · rw [List.getElem?_set_ne (Ne.symm hk)] at h2 e2
        exact R.dist j k s1 s2 a h1 h2 o1 o2 e1 e2
  · by_cases hj : j = i
    · subst hj
      rw [List.getElem?_set_self li'] at e1
      cases e1
      exact .inr ⟨nG, nB⟩
    · rw [List.getElem?_set_ne (Ne.symm hj)] at h1 e1
      exact R.mine j s a h1 o1 e1
  · obtain ⟨p1, p2, s, p3, p4⟩ := R.par q hq
    have nq : q.1 ≠ i := by omega
    exact ⟨p1, by rw [List.getElem?_set_ne (Ne.symm nq)]; exact p2, s, by rw [List.getElem?_set_ne (Ne.symm nq)]; exact p3, p4⟩
/-- name = [..], a list of its own from now on -/
def sOwn (i np : Nat) (as : List Arg) : S := fun ρ => match evs as ρ with
  | .ok xs ρ' => (match dvs xs, ρ'[i]? with
    | some l, some _ => if np ≤ i ∧ l.length ≤ sizeLine then .nx (ρ'.set i (.own l)) else .bad
    | _, _ => .bad)
  | .exc e ρ' => .exc e ρ'
  | .bad => .bad
theorem ds_own {i : Nat} {x : Str} {pos' pos'' : Pos} (hN : X.N.Nodup) (hi : X.N[i]? = some x) (hx : Loc X.env.scope x) (h : DA X es as) (hs : swapsWith (.List es pos'') (some (.Name x pos')) pos.line X.env = pure false := by rfl)
    (hf : X.fn x = true ∨ X.env.scope.names.lookup x = some .local := by first | exact .inl rfl | exact .inr rfl | assumption) : DS X np (.Assign [.Name x pos'] (.List es pos'') pos) (sOwn i np as) := fun W tk =>
  ps_imp (ps_set hN hi hx (pe_lst (h W tk)) hs hf) fun E σ H q => by
    obtain ⟨w, A, ρ, hn, R, q⟩ := tS_iff.mp q
    refine ⟨w, A, ρ, R, ?_⟩
    unfold sOwn at q
    cases hx : evs as ρ with
    | exc e ρ1 => rw [hx] at q; exact fun c dd H' ex R' z => q A σ H' c dd ex.off R' z
    | bad => rw [hx] at q; exact q
    | ok xs ρ1 =>
      rw [hx] at q
      intro vv H1 ex1 R1 r1
      dsimp only at q
      cases hd : dvs xs with
      | none => rw [hd] at q; exact q.elim
      | some l =>
        cases hs : ρ1[i]? with
        | none => rw [hd, hs] at q; exact q.elim
        | some s0 =>
          rw [hd, hs] at q
          dsimp only at q
          by_cases hc : np ≤ i ∧ l.length ≤ sizeLine
          · rw [if_pos hc] at q
            have r := dvs_rep r1 hd
            refine ⟨by rw [← r.length]; exact hc.2, fun p hp => ?_⟩
            have nB : p ∉ w.1.B := fun z => R1.trk p (R1.sub p z) hp
            refine q (p :: A) _ _ ?_ ((R1.growA hp).hold hs (by omega) upd_same List.mem_cons_self (by rw [off_cons hp]; exact r) (R1.stood hp) (R1.noG hp) nB)
            rw [off_cons hp]
            exact ex1.off
          · rw [if_neg hc] at q; exact q.elim
/-- another content of an own list -/
theorem SR.put {i : Nat} {p : Addr} {vs vs' : List V} {l l' : List D} (R : SR K mg w A ρ σ H) (hi : ρ[i]? = some (.own l)) (hp : σ[i]? = some (some (.ref p))) (r : Reps K mg (off A H) l' vs') : p ∈ A ∧ SR K mg w A (ρ.set i (.own l')) σ (upd H p (.lst vs')) := by
  have li : i < ρ.length := (List.getElem?_eq_some_iff.mp hi).1
  obtain ⟨a, us, e, hA, hh, _⟩ := R.slots i _ _ hi hp
  cases e
  have e : off A (upd H p (.lst vs')) = off A H := off_in hA
  have other : ∀ {j : Nat} {s : Slot} {a : Addr}, j ≠ i → ρ[j]? = some s → s.isOwn = true → σ[j]? = some (some (.ref a)) → a ≠ p := fun {j s a} hj h o e1 z => hj (R.dist j i s (.own l) p h hi o rfl (by rw [e1, z]) hp)
  refine ⟨hA, by simp [R.len], fun j s o h1 h2 => ?_, fun j k s1 s2 a h1 h2 o1 o2 e1 e2 => ?_, R.sub, Trk.upd (show Trk A H from R.trk), fun a u h nn => ?_, fun j s a h1 o1 e1 => ?_, R.opB, fun q hq => ?_⟩
  · by_cases hj : j = i
    · subst hj
      rw [List.getElem?_set_self li] at h1
      rw [hp] at h2
      cases h1; cases h2
      exact ⟨p, vs', rfl, hA, upd_same, by rw [e]; exact r⟩
    · rw [List.getElem?_set_ne (Ne.symm hj)] at h1
      have q := R.slots j s o h1 h2
      cases s with
      | no => trivial
      | val d => obtain ⟨v, e1, r⟩ := q; exact ⟨v, e1, by rw [e]; exact r⟩
      | own l => obtain ⟨a, vs, e1, m, hh, r⟩ := q; subst e1; exact ⟨a, vs, rfl, m, by rw [upd_ne (other hj h1 rfl h2)]; exact hh, by rw [e]; exact r⟩
      | dic ks vs => obtain ⟨a, kvs, e1, m, hh, k, r⟩ := q; subst e1; exact ⟨a, kvs, rfl, m, by rw [upd_ne (other hj h1 rfl h2)]; exact hh, k, by rw [e]; exact r⟩
      | inst c ns l => obtain ⟨a, C, dx, fvs, e1, m, c, hh, n, r⟩ := q; subst e1; exact ⟨a, C, dx, fvs, rfl, m, c, by rw [upd_ne (other hj h1 rfl h2)]; exact hh, n, by rw [e]; exact r⟩
      | ex ee => exact ⟨q.1, q.2.to (by rw [e]; exact Same.refl _)⟩
  · have o1' : ∃ t, ρ[j]? = some t ∧ t.isOwn = true := by
      by_cases hj : j = i
      · subst hj; exact ⟨_, hi, rfl⟩
      · rw [List.getElem?_set_ne (Ne.symm hj)] at h1; exact ⟨_, h1, o1⟩
    have o2' : ∃ t, ρ[k]? = some t ∧ t.isOwn = true := by
      by_cases hj : k = i
      · subst hj; exact ⟨_, hi, rfl⟩
      · rw [List.getElem?_set_ne (Ne.symm hj)] at h2; exact ⟨_, h2, o2⟩
    obtain ⟨t1, g1, g2⟩ := o1'
    obtain ⟨t2, g3, g4⟩ := o2'
    exact R.dist j k t1 t2 a g1 g3 g2 g4 e1 e2
  · have q := R.frame a u h nn
    rcases R.mine i _ p hi rfl hp with z | ⟨z, _⟩
    · rw [upd_ne fun (y : a = p) => nn (by rw [y]; exact z)]; exact q
    · rw [upd_ne fun (y : a = p) => by rw [y, z] at h; cases h]; exact q
  · by_cases hj : j = i
    · subst hj; exact R.mine j _ a hi rfl e1
    · rw [List.getElem?_set_ne (Ne.symm hj)] at h1; exact R.mine j s a h1 o1 e1
  · obtain ⟨p1, p2, s, p3, p4⟩ := R.par q hq
    refine ⟨p1, p2, ?_⟩
    by_cases hj : q.1 = i
    · exact ⟨.own l', by rw [hj, List.getElem?_set_self li], rfl⟩
    · exact ⟨s, by rw [List.getElem?_set_ne (Ne.symm hj)]; exact p3, p4⟩
/-- name.append(e) -/
def sApp (i : Nat) (m : M D) : S := fun ρ => match ρ[i]? with
  | some (.own _) => (match m ρ with
    | .ok d ρ' => (match ρ'[i]? with
      | some (.own l) => if l.length < sizeLine then .nx (ρ'.set i (.own (l ++ [d]))) else .bad
      | _ => .bad)
    | .exc e ρ' => .exc e ρ'
    | .bad => .bad)
  | _ => .bad
theorem own_at {i : Nat} {l : List D} (R : SR K mg w A ρ σ H) (h : ρ[i]? = some (.own l)) : ∃ p vs, σ[i]? = some (some (.ref p)) ∧ p ∈ A ∧ H p = some (.lst vs) ∧ Reps K mg (off A H) l vs := by
  obtain ⟨o, ho, p, vs, e, hA, hh, r⟩ := R.at' h
  subst e
  exact ⟨p, vs, ho, hA, hh, r⟩
theorem ds_append {i : Nat} {o : Expr} {apos cpos pos : Pos} (ho : PE X o (tVar i)) (h : DE X e m) (hm1 : ∀ t : TE, PE X e t → PE X (.Call (.Attribute o "append" apos) [e] [] cpos) (tBM X.K "list" rAppend (tVar i) (tCons t tNil)))
    (hs : swapsWith (.Call (.Attribute o "append" apos) [e] [] cpos) none pos.line X.env = pure false := by rfl) : DS X np (.Expr (.Call (.Attribute o "append" apos) [e] [] cpos) pos) (sApp i m) := fun W tk =>
  ps_imp (ps_expr (hm1 _ (h W tk)) hs) fun E σ H q => by
    obtain ⟨w, A, ρ, hn, R, q⟩ := tS_iff.mp q
    unfold sApp at q
    cases hs : ρ[i]? with
    | none => rw [hs] at q; exact q.elim
    | some s0 =>
      rw [hs] at q
      cases s0 with
      | own l0 =>
        obtain ⟨p, vs, h1, hA, hh, r⟩ := own_at R hs
        refine ⟨.ref p, h1, .inl ⟨rfl, vs, SqL.of hh⟩, w, A, ρ, R, ?_⟩
        dsimp only at q
        cases hm : m ρ with
        | exc e ρ1 => rw [hm] at q; exact fun c dd H' ex R' z => q A σ H' c dd ex.off R' z
        | bad => rw [hm] at q; exact q
        | ok d ρ1 =>
          rw [hm] at q
          dsimp only at q
          intro v H1 ex1 R1 r1
          cases hs1 : ρ1[i]? with
          | none => rw [hs1] at q; exact q.elim
          | some s1 =>
            rw [hs1] at q
            cases s1 with
            | own l =>
              dsimp only at q
              by_cases hz : l.length < sizeLine
              · rw [if_pos hz] at q
                obtain ⟨p', us, g1, gA, gh, gr⟩ := own_at R1 hs1
                rw [h1] at g1
                cases g1
                refine ⟨p, us, v, rfl, rfl, gh, by rw [← gr.length]; exact hz, ?_⟩
                obtain ⟨_, R2⟩ := R1.put (vs := us) hs1 h1 (gr.append (.cons r1 .nil))
                exact q A σ _ (by rw [off_in gA]; exact ex1.off) R2
              · rw [if_neg hz] at q; exact q.elim
            | _ => exact q.elim
      | _ => exact q.elim
/-- an own list is a value from now on -/
theorem SR.froze {i : Nat} {l : List D} (R : SR K mg w A ρ σ H) (h : ρ[i]? = some (.own l)) (hn : w.np ≤ i) : ∃ A', Same (off A H) (off A' H) ∧ SR K mg w A' (ρ.set i (.val (.lst l))) σ H := by
  have li : i < ρ.length := (List.getElem?_eq_some_iff.mp h).1
  obtain ⟨p, vs, hp, hA, hh, r⟩ := own_at R h
  refine ⟨A.filter (· ≠ p), off_sub fun a ha => (List.mem_filter.mp ha).1, ?_⟩
  have sm : Same (off A H) (off (A.filter (· ≠ p)) H) := off_sub fun a ha => (List.mem_filter.mp ha).1
  have other : ∀ {j : Nat} {s : Slot} {a : Addr}, j ≠ i → ρ[j]? = some s → s.isOwn = true → σ[j]? = some (some (.ref a)) → a ≠ p := fun {j s a} hj h1 o e1 z => hj (R.dist j i s (.own l) p h1 h o rfl (by rw [e1, z]) hp)
  have keep : ∀ {j : Nat} {s : Slot} {a : Addr}, j ≠ i → ρ[j]? = some s → s.isOwn = true → σ[j]? = some (some (.ref a)) → a ∈ A → a ∈ A.filter (· ≠ p) := fun {j s a} hj h1 o e1 ha => List.mem_filter.mpr ⟨ha, by simpa using other hj h1 o e1⟩
  have ne : ∀ {j : Nat} {s : Slot}, (ρ.set i (.val (.lst l)))[j]? = some s → s.isOwn = true → j ≠ i ∧ ρ[j]? = some s := fun {j s} h1 o => by
    by_cases hj : j = i
    · subst hj
      rw [List.getElem?_set_self li] at h1
      cases h1
      cases o
    · rw [List.getElem?_set_ne (Ne.symm hj)] at h1
      exact ⟨hj, h1⟩
  have nB : p ∉ w.B := by
    rcases R.mine i _ p h rfl hp with z | ⟨_, z⟩
    · obtain ⟨q, hq, e⟩ := List.mem_map.mp z
      obtain ⟨p1, p2, s, p3, p4⟩ := R.par q hq
      have := R.dist q.1 i s _ p p3 h p4 rfl (by rw [p2, e]) hp
      omega
    · exact z
  refine ⟨by simp [R.len], fun j s o h1 h2 => ?_, fun j k s1 s2 a h1 h2 o1 o2 e1 e2 => ?_, fun a ha => ?_, fun a ha => R.trk a (List.mem_filter.mp ha).1, R.frame, fun j s a h1 o1 e1 => ?_, R.opB, fun q hq => ?_⟩
  · by_cases hj : j = i
    · subst hj
      rw [List.getElem?_set_self li] at h1
      rw [hp] at h2
      cases h1; cases h2
      exact ⟨_, rfl, p, vs, rfl, off_at hh fun z => by simpa using (List.mem_filter.mp z).2, r.mono sm⟩
    · rw [List.getElem?_set_ne (Ne.symm hj)] at h1
      have q := R.slots j s o h1 h2
      cases s with
      | no => trivial
      | val d => obtain ⟨v, e1, r⟩ := q; exact ⟨v, e1, r.mono sm⟩
      | own l => obtain ⟨a, vs, e1, m, hh, r⟩ := q; subst e1; exact ⟨a, vs, rfl, keep hj h1 rfl h2 m, hh, r.mono sm⟩
      | dic ks vs => obtain ⟨a, kvs, e1, m, hh, k, r⟩ := q; subst e1; exact ⟨a, kvs, rfl, keep hj h1 rfl h2 m, hh, k, r.mono sm⟩
      | inst c ns l => obtain ⟨a, C, dx, fvs, e1, m, c, hh, n, r⟩ := q; subst e1; exact ⟨a, C, dx, fvs, rfl, keep hj h1 rfl h2 m, c, hh, n, r.mono sm⟩
      | ex ee => exact ⟨q.1, q.2.to sm⟩
  · obtain ⟨n1, g1⟩ := ne h1 o1
    obtain ⟨n2, g2⟩ := ne h2 o2
    exact R.dist j k s1 s2 a g1 g2 o1 o2 e1 e2
  · refine List.mem_filter.mpr ⟨R.sub a ha, ?_⟩
    have : a ≠ p := fun z => nB (z ▸ ha)
    simpa using this
  · obtain ⟨n1, g1⟩ := ne h1 o1
    exact R.mine j s a g1 o1 e1
  · obtain ⟨p1, p2, s, p3, p4⟩ := R.par q hq
    have nq : q.1 ≠ i := by omega
    exact ⟨p1, p2, s, by rw [List.getElem?_set_ne (Ne.symm nq)]; exact p3, p4⟩
def sFrz (i np : Nat) : S := fun ρ => match ρ[i]? with
  | some (.own l) => if np ≤ i then .nx (ρ.set i (.val (.lst l))) else .bad
  | _ => .nx ρ
theorem ds_frz {st : Stmt} (i : Nat) (h : DS X np st s) : DS X np st (sSeq (sFrz i np) s) := fun W tk => ps_imp (h W tk) fun E σ H q => by
  obtain ⟨w, A, ρ, hn, R, q⟩ := tS_iff.mp q
  unfold sSeq sFrz at q
  cases hs : ρ[i]? with
  | none => rw [hs] at q; exact tS_iff.mpr ⟨w, A, ρ, hn, R, q⟩
  | some s0 =>
    rw [hs] at q
    cases s0 with
    | own l =>
      dsimp only at q
      by_cases hi : np ≤ i
      · rw [if_pos hi] at q
        obtain ⟨A', sm, R'⟩ := R.froze hs (by omega)
        exact tS_iff.mpr ⟨w, A', _, hn, R', Aft.from sm q⟩
      · rw [if_neg hi] at q; exact q.elim
    | _ => exact tS_iff.mpr ⟨w, A, ρ, hn, R, q⟩
/-- name += e, whole numbers -/
def sAug (f : D → D → Option D) (i : Nat) (m : M D) : S := fun ρ => match ρ[i]? with
  | some (.val x) => (match m ρ with
    | .ok y ρ' => (match f x y, ρ'[i]? with
      | some z, some (.val _) => .nx (ρ'.set i (.val z))
      | _, _ => .bad)
    | .exc e ρ' => .exc e ρ'
    | .bad => .bad)
  | _ => .bad
theorem ds_aug {i : Nat} {x : Str} {op : Operator} {g : Int → Int → Int} {f : D → D → Option D} {pos' : Pos} (hN : X.N.Nodup) (hi : X.N[i]? = some x) (hx : Loc X.env.scope x) (h : DE X e m) (ho : PIp X op (ipI g)) (hff : ∀ a b d, f a b = some d → ∃ i j, a = .int i ∧ b = .int j ∧ d = .int (g i j))
    (hf : X.fn x = true ∨ X.env.scope.names.lookup x = some .local := by first | exact .inl rfl | exact .inr rfl | assumption) : DS X np (.AugAssign (.Name x pos') op e pos) (sAug f i m) := fun W tk =>
  ps_imp (ps_aug hN hi hx (h W tk) ho hf) fun E σ H q => by
    obtain ⟨w, A, ρ, hn, R, q⟩ := tS_iff.mp q
    unfold sAug at q
    cases hs : ρ[i]? with
    | none => rw [hs] at q; exact q.elim
    | some s0 =>
      rw [hs] at q
      cases s0 with
      | val x0 =>
        obtain ⟨v, hv, rv⟩ := R.val hs
        refine ⟨v, hv, w, A, ρ, R, ?_⟩
        dsimp only at q
        cases hm : m ρ with
        | exc e ρ1 => rw [hm] at q; exact fun c dd H' ex R' z => q A σ H' c dd ex.off R' z
        | bad => rw [hm] at q; exact q
        | ok y ρ1 =>
          rw [hm] at q
          intro u H1 ex1 R1 r1
          dsimp only at q
          cases hz : f x0 y with
          | none => rw [hz] at q; exact q.elim
          | some z =>
            cases hs1 : ρ1[i]? with
            | none => rw [hz, hs1] at q; exact q.elim
            | some s1 =>
              rw [hz, hs1] at q
              cases s1 with
              | val _ =>
                obtain ⟨a, b, rfl, rfl, rfl⟩ := hff _ _ _ hz
                cases rv; cases r1
                exact ⟨a, b, rfl, rfl, q A _ H1 ex1.off (R1.set hs1 rfl rfl)⟩
              | _ => exact q.elim
      | _ => exact q.elim
theorem ds_iadd {i : Nat} {x : Str} {pos' : Pos} (hN : X.N.Nodup) (hi : X.N[i]? = some x) (hx : Loc X.env.scope x) (h : DE X e m)
    (hf : X.fn x = true ∨ X.env.scope.names.lookup x = some .local := by first | exact .inl rfl | exact .inr rfl | assumption) : DS X np (.AugAssign (.Name x pos') .Add e pos) (sAug (fun x y => match x, y with | .int i, .int j => some (.int (i + j)) | _, _ => none) i m) :=
  ds_aug hN hi hx h ip_add (fun a b d e => by
    cases a with
    | int i => cases b with
      | int j => cases (Option.some.inj e); exact ⟨i, j, rfl, rfl, rfl⟩
      | _ => cases e
    | _ => cases e) hf
end
end DL
namespace DL
open PySem L2
inductive FOut where
  | ok (d : D) (os : List Slot) | exc (e : Ex) (os : List Slot) | bad
abbrev Fn := List Slot → FOut
/-- what may be handed -/
def Slot.arg : Slot → Bool
  | .no => false
  | .ex _ => false
  | _ => true
section
variable (K : PySem.W.Frag) (mg : Str → Option Value)
/-- the arguments as they stand; B: all that callers may change -/
structure ArgsR (B : List Addr) (H : Hp) (as : List Slot) (vs : List V) : Prop where
  len : as.length = vs.length
  at_ : ∀ (i : Nat) s v, as[i]? = some s → vs[i]? = some v → SlotR K mg (0, none, .none) B H s (some v)
  dist : ∀ (i j : Nat) s t a, as[i]? = some s → as[j]? = some t → s.isOwn = true → t.isOwn = true → vs[i]? = some (.ref a) → vs[j]? = some (.ref a) → i = j
  trk : ∀ a ∈ B, H a ≠ none
/-- the arguments behind the call -/
structure Post (B : List Addr) (H : Hp) (as : List Slot) (vs : List V) (os : List Slot) (H' : Hp) : Prop where
  keep : ∀ a o, H a = some o → (∀ (i : Nat) s, as[i]? = some s → s.isOwn = true → vs[i]? ≠ some (.ref a)) → H' a = some o
  own : ∀ (i : Nat) s v, as[i]? = some s → s.isOwn = true → vs[i]? = some v → ∃ t, os[i]? = some t ∧ t.isOwn = true ∧ SlotR K mg (0, none, .none) B H' t (some v)
def spD (φ : Fn) : Sp := fun vs H Q E => ∃ (B : List Addr) (as : List Slot), ArgsR K mg B H as vs ∧ match φ as with
  | .ok d os => ∀ v H', Post K mg B H as vs os H' → Rep K mg (off B H') d v → Q v H'
  | .exc e os => ∀ c dd H', Post K mg B H as vs os H' → ExR K mg B H' e c dd → E c dd H'
  | .bad => False
end
/-- a def by its body: n parameters, so many other names -/
def fnF (n loc : Nat) (m : S) : Fn := fun as => if as.length = n ∧ as.all Slot.arg = true then match m (as ++ List.replicate loc .no) with
  | .rt d ρ => .ok d (ρ.take n)
  | .nx ρ => .ok .non (ρ.take n)
  | .exc e ρ => .exc e (ρ.take n)
  | _ => .bad else .bad
section
variable {K : PySem.W.Frag} {mg : Str → Option Value}
def ownPs : List Slot → List V → Nat → List (Nat × Addr)
  | s :: as, v :: vs, i => (match s.isOwn, v with
    | true, .ref a => [(i, a)]
    | _, _ => []) ++ ownPs as vs (i + 1)
  | _, _, _ => []
theorem ownPs_mem : ∀ {as : List Slot} {vs : List V} {n : Nat} {p : Nat × Addr}, p ∈ ownPs as vs n → ∃ (i : Nat) (s : Slot), p.1 = n + i ∧ as[i]? = some s ∧ s.isOwn = true ∧ vs[i]? = some (.ref p.2)
  | [], _, _, _, h => by simp [ownPs] at h
  | _ :: _, [], _, _, h => by simp [ownPs] at h
  | s :: as, v :: vs, n, p, h => by
    unfold ownPs at h
    rcases List.mem_append.mp h with h | h
    · cases hs : s.isOwn with
      | false => rw [hs] at h; simp at h
      | true =>
        rw [hs] at h
        cases v with
        | ref a =>
          have e : p = (n, a) := List.mem_singleton.mp h
          subst e
          exact ⟨0, s, rfl, by simp, hs, by simp⟩
        | _ => simp at h
    · obtain ⟨i, t, h1, h2, h3, h4⟩ := ownPs_mem h
      exact ⟨i + 1, t, by omega, by simpa using h2, h3, by simpa using h4⟩
theorem ownPs_of : ∀ {as : List Slot} {vs : List V} {n i : Nat} {s : Slot} {a : Addr}, as[i]? = some s → s.isOwn = true → vs[i]? = some (.ref a) → (n + i, a) ∈ ownPs as vs n
  | [], _, _, i, _, _, h, _, _ => by simp at h
  | _ :: _, [], _, i, _, _, _, _, h => by simp at h
  | s :: as, v :: vs, n, 0, t, a, h1, h2, h3 => by
    simp at h1 h3
    subst h1 h3
    unfold ownPs
    rw [h2]
    simp
  | s :: as, v :: vs, n, i + 1, t, a, h1, h2, h3 => by
    unfold ownPs
    refine List.mem_append_right _ ?_
    rw [show n + (i + 1) = n + 1 + i by omega]
    exact ownPs_of (by simpa using h1) h2 (by simpa using h3)
theorem own_ref {xx : Addr × Option Addr × Value} {B : List Addr} {H : Hp} {s : Slot} {v : V} (h : SlotR K mg xx B H s (some v)) (o : s.isOwn = true) : ∃ a, v = .ref a ∧ a ∈ B := by
  cases s with
  | own l => obtain ⟨a, vs, e, m, _⟩ := h; cases e; exact ⟨a, rfl, m⟩
  | dic ks vs => obtain ⟨a, kvs, e, m, _⟩ := h; cases e; exact ⟨a, rfl, m⟩
  | inst c ns l => obtain ⟨a, C, dx, fvs, e, m, _⟩ := h; cases e; exact ⟨a, rfl, m⟩
  | _ => cases o
theorem SlotR.off {xx xx' : Addr × Option Addr × Value} {A B : List Addr} {H : Hp} {s0 : Option V} (sm : Same (off A H) (off B H)) : ∀ {s : Slot}, (s.isOwn = true → ∀ a, s0 = Option.some (V.ref a) → a ∈ B) → s.arg = true → SlotR K mg xx A H s s0 → SlotR K mg xx' B H s s0 := by
  intro s inB ha r
  cases s with
  | no => cases ha
  | ex e => cases ha
  | val d => obtain ⟨v, e, r⟩ := r; exact ⟨v, e, r.mono sm⟩
  | own l => obtain ⟨a, vs, e, m, hh, r⟩ := r; exact ⟨a, vs, e, inB rfl a e, hh, r.mono sm⟩
  | dic ks vs => obtain ⟨a, kvs, e, m, hh, k, r⟩ := r; exact ⟨a, kvs, e, inB rfl a e, hh, k, r.mono sm⟩
  | inst c ns l => obtain ⟨a, C, dx, fvs, e, m, c, hh, n, r⟩ := r; exact ⟨a, C, dx, fvs, e, inB rfl a e, c, hh, n, r.mono sm⟩
theorem own_arg {s : Slot} (h : s.isOwn = true) : s.arg = true := by cases s <;> first | rfl | cases h
/-- the state at a def's entry -/
theorem sr_start {B : List Addr} {H : Hp} {as : List Slot} {vs : List V} {N : List Str} {n loc : Nat} (a : ArgsR K mg B H as vs) (hn : as.length = n) (hN : N.length = n + loc) (ha : as.all Slot.arg = true) :
    SR K mg { G := H, B := B, pa := ownPs as vs 0, np := n, xx := (0, none, .none) } B (as ++ List.replicate loc .no) (L2.start N vs) H := by
  have hl := a.len
  have get : ∀ {i : Nat} {s : Slot}, (as ++ List.replicate loc Slot.no)[i]? = some s → as[i]? = some s ∨ s = .no := fun {i s} h => by
    by_cases hi : i < as.length
    · rw [List.getElem?_append_left hi] at h; exact .inl h
    · rw [List.getElem?_append_right (by omega), List.getElem?_replicate] at h
      split at h
      · exact .inr (Option.some.inj h).symm
      · cases h
  have getv : ∀ {i : Nat}, i < vs.length → (L2.start N vs)[i]? = (vs[i]?).map some := fun {i} h => by
    unfold L2.start
    rw [List.getElem?_append_left (by simpa using h), List.getElem?_map]
  have own : ∀ {i : Nat} {s : Slot}, (as ++ List.replicate loc Slot.no)[i]? = some s → s.isOwn = true → as[i]? = some s ∧ i < vs.length := fun {i s} h o => by
    rcases get h with z | z
    · exact ⟨z, by rw [← hl]; exact (List.getElem?_eq_some_iff.mp z).1⟩
    · subst z; cases o
  refine ⟨?_, fun i s o h1 h2 => ?_, fun i j s t b h1 h2 o1 o2 e1 e2 => ?_, fun _ h => h, a.trk, fun _ _ h _ => h, fun i s b h1 o1 e1 => ?_, fun b hb => ?_, fun p hp => ?_⟩
  · unfold L2.start
    simp
    omega
  · rcases get h1 with z | z
    · have hi : i < vs.length := by rw [← hl]; exact (List.getElem?_eq_some_iff.mp z).1
      have e : vs[i]? = some vs[i] := by simp [hi]
      rw [getv hi, e] at h2
      cases h2
      exact a.at_ i s _ z e
    · subst z; trivial
  · obtain ⟨g1, l1⟩ := own h1 o1
    obtain ⟨g2, l2⟩ := own h2 o2
    rw [getv l1] at e1
    rw [getv l2] at e2
    obtain ⟨v, q1, q2⟩ := Option.map_eq_some_iff.mp e1
    obtain ⟨v', q3, q4⟩ := Option.map_eq_some_iff.mp e2
    cases q2; cases q4
    exact a.dist i j s t b g1 g2 o1 o2 q1 q3
  · obtain ⟨g1, l1⟩ := own h1 o1
    rw [getv l1] at e1
    obtain ⟨v, q1, q2⟩ := Option.map_eq_some_iff.mp e1
    cases q2
    have := ownPs_of (n := 0) g1 o1 q1
    exact .inl (List.mem_map.mpr ⟨_, this, rfl⟩)
  · obtain ⟨p, hp, e⟩ := List.mem_map.mp hb
    obtain ⟨i, s, h1, h2, h3, h4⟩ := ownPs_mem hp
    obtain ⟨c, e1, m⟩ := own_ref (a.at_ i s _ h2 h4) h3
    cases e1
    rw [← e]
    exact m
  · obtain ⟨i, s, h1, h2, h3, h4⟩ := ownPs_mem hp
    have hi : i < as.length := (List.getElem?_eq_some_iff.mp h2).1
    rw [Nat.zero_add] at h1
    refine ⟨by show p.1 < n; omega, ?_, s, ?_, h3⟩
    · rw [h1, getv (by omega), h4]; rfl
    · rw [h1, List.getElem?_append_left hi]; exact h2
theorem post_of {B A' : List Addr} {H H' : Hp} {as : List Slot} {vs : List V} {n : Nat} {ρ' : Ev} {σ' : L2.St} (hl : as.length = n) (a : ArgsR K mg B H as vs)
    (R : SR K mg { G := H, B := B, pa := ownPs as vs 0, np := n, xx := (0, none, .none) } A' ρ' σ' H') : Post K mg B H as vs (ρ'.take n) H' ∧ Same (off A' H') (off B H') := by
  have sm : Same (off A' H') (off B H') := off_sub R.sub
  refine ⟨⟨fun b o h nn => R.frame b o h fun z => ?_, fun i s v h1 h2 h3 => ?_⟩, sm⟩
  · obtain ⟨p, hp, e⟩ := List.mem_map.mp z
    obtain ⟨i, s, g1, g2, g3, g4⟩ := ownPs_mem hp
    exact nn i s g2 g3 (by rw [g4, e])
  · obtain ⟨b, e, m⟩ := own_ref (a.at_ i s v h1 h3) h2
    subst e
    have hp := ownPs_of (n := 0) h1 h2 h3
    rw [Nat.zero_add] at hp
    obtain ⟨p1, p2, t, p3, p4⟩ := R.par _ hp
    refine ⟨t, by rw [List.getElem?_take_of_lt p1]; exact p3, p4, ?_⟩
    exact SlotR.off sm (fun _ c z => by cases z; exact m) (own_arg p4) (R.slots i t _ p3 p2)
/-- a def keeps the promise that its body gives -/
theorem fn_ok {P : Program} {w : World} {base : Heap} {x qual : Str} {st : Stmt} {f : Addr} {fd : FuncData} {N ps : List Str} {k loc : Nat} {m : S} (F : Fun K x qual st f fd) (Sc : FnScope N ps (defScope st)) (hN : N.length = ps.length + loc)
    (hbody : ∀ (cdv : Value) (A : Around) (outer : List Env) (s : Shared) (H : Hp) (E : XK), Room k (A.deeper (PyProof.Rows.envOfC qual (defScope st) s.heap.objs.size f cdv)) →
      DSs (cxOf (L2.CX P w) P w K mg base N qual (defScope st) f cdv A outer s H E) ps.length (defBody st) m) :
    FnOk P w K mg base (L2.CX P w) (k + 1) f fd ps (spD K mg (fnF ps.length loc m)) := by
  have split : ∀ {as : List Slot}, fnF ps.length loc m as ≠ .bad → as.length = ps.length ∧ as.all Slot.arg = true := fun {as} h => by
    unfold fnF at h
    split at h
    · assumption
    · exact absurd rfl h
  refine F.okX Sc (fun vs H Q E h => ?_) (fun cdv A outer s H vs Q E hr h => ?_)
  · obtain ⟨B, as, a, q⟩ := h
    have := (split (as := as) fun z => by rw [z] at q; exact q).1
    rw [← a.len, this]
  · obtain ⟨B, as, a, q⟩ := h
    obtain ⟨hl, ha⟩ := split (as := as) fun z => by rw [z] at q; exact q
    have tk : Takes (cxOf (L2.CX P w) P w K mg base N qual (defScope st) f cdv A outer s H E) (fun cls d _ H => E cls d H) := takes_of rfl rfl rfl rfl
    refine ⟨_, hbody cdv A outer s H E hr ⟨fun cls d _ H => E cls d H, fun _ => True⟩ ⟨tk, fun h => by cases h⟩, tS_iff.mpr ⟨⟨_, trivial⟩, B, _, rfl, sr_start a hl hN ha, ?_⟩⟩
    unfold fnF at q
    rw [if_pos ⟨hl, ha⟩] at q
    cases hm : m (as ++ List.replicate loc .no) with
    | nx ρ =>
      rw [hm] at q
      intro A' σ' H' _ R
      obtain ⟨p, sm⟩ := post_of hl a R
      exact q .non H' p rfl
    | rt d ρ =>
      rw [hm] at q
      intro A' σ' H' v R r
      obtain ⟨p, sm⟩ := post_of hl a R
      exact q v H' p (r.mono sm)
    | exc e ρ =>
      rw [hm] at q
      intro A' σ' H' c dd _ R r
      obtain ⟨p, sm⟩ := post_of hl a R
      obtain ⟨C, e1, e2, z⟩ := r
      refine q c dd H' p ⟨C, e1, e2, z.imp id fun ⟨d, fs, y1, y2, y3, y4⟩ => ⟨d, fs, y1, y2, fun y => y3 (R.sub d y), fun i n x g1 g2 => ?_⟩⟩
      obtain ⟨v, z1, z2⟩ := y4 i n x g1 g2
      exact ⟨v, z1, z2.mono sm⟩
    | bk _ => rw [hm] at q; exact q.elim
    | ct _ => rw [hm] at q; exact q.elim
    | bad => rw [hm] at q; exact q.elim
end
end DL
namespace DL
open PySem L2
/-- the slots with new contents at some places -/
def updE : Ev → List (Nat × Slot) → Ev
  | ρ, [] => ρ
  | ρ, (i, t) :: r => updE (ρ.set i t) r
theorem updE_len : ∀ (ps : List (Nat × Slot)) (ρ : Ev), (updE ρ ps).length = ρ.length
  | [], _ => rfl
  | (i, t) :: r, ρ => by show (updE (ρ.set i t) r).length = _; rw [updE_len, List.length_set]
theorem updE_get : ∀ (ps : List (Nat × Slot)) (ρ : Ev) (j : Nat) (s : Slot), (updE ρ ps)[j]? = some s → (j, s) ∈ ps ∨ ((∀ t, (j, t) ∉ ps) ∧ ρ[j]? = some s)
  | [], ρ, j, s, h => .inr ⟨fun t z => (by cases z), h⟩
  | (i, t) :: r, ρ, j, s, h => by
    rcases updE_get r (ρ.set i t) j s h with z | ⟨z1, z2⟩
    · exact .inl (List.mem_cons_of_mem _ z)
    · by_cases hj : j = i
      · subst hj
        have hl : j < ρ.length := by
          have := (List.getElem?_eq_some_iff.mp z2).1
          simpa using this
        rw [List.getElem?_set_self hl] at z2
        cases z2
        exact .inl List.mem_cons_self
      · rw [List.getElem?_set_ne (Ne.symm hj)] at z2
        refine .inr ⟨fun u hu => ?_, z2⟩
        rcases List.mem_cons.mp hu with e | e
        · cases e; exact hj rfl
        · exact z1 u e
section
variable {K : PySem.W.Frag} {mg : Str → Option Value} {w : Wd} {A : List Addr} {ρ : Ev} {σ : L2.St} {H H' : Hp}
/-- behind a call that changed the things at ps -/
theorem SR.upds {ps : List (Nat × Slot)} (R : SR K mg w A ρ σ H) (keep : ∀ a o, H a = some o → (∀ i t, (i, t) ∈ ps → σ[i]? ≠ some (some (.ref a))) → H' a = some o)
    (at_ : ∀ i t, (i, t) ∈ ps → (∃ s, ρ[i]? = some s ∧ s.isOwn = true) ∧ t.isOwn = true ∧ ∃ v, σ[i]? = some (some v) ∧ SlotR K mg w.xx A H' t (some v)) : SR K mg w A (updE ρ ps) σ H' := by
  have mem : ∀ {a : Addr} {i : Nat} {t : Slot}, (i, t) ∈ ps → σ[i]? = some (some (.ref a)) → a ∈ A := fun {a i t} h e => by
    obtain ⟨_, o, v, e1, r⟩ := at_ i t h
    rw [e] at e1
    cases e1
    obtain ⟨b, e2, m⟩ := own_ref r o
    cases e2
    exact m
  have sm : Same (off A H) (off A H') := off_same fun a o ha h => keep a o h fun i t hi e => ha (mem hi e)
  have own : ∀ {j : Nat} {s : Slot}, (updE ρ ps)[j]? = some s → s.isOwn = true → ∃ u, ρ[j]? = some u ∧ u.isOwn = true := fun {j s} h o => by
    rcases updE_get ps ρ j s h with z | ⟨_, z⟩
    · exact (at_ j s z).1
    · exact ⟨s, z, o⟩
  refine ⟨by rw [updE_len, R.len], fun j s o h1 h2 => ?_, fun i j s t a h1 h2 o1 o2 e1 e2 => ?_, R.sub, fun a ha z => ?_, fun a o h nn => ?_, fun i s a h1 o1 e1 => ?_, R.opB, fun q hq => ?_⟩
  · rcases updE_get ps ρ j s h1 with z | ⟨z1, z2⟩
    · obtain ⟨_, _, v, e1, r⟩ := at_ j s z
      rw [h2] at e1
      cases e1
      exact r
    · have r := R.slots j s o z2 h2
      have st : ∀ {a : Addr} {u : HO}, s.isOwn = true → o = some (.ref a) → H a = some u → H' a = some u := fun {a u} os e h => keep a u h fun i t hi e2 => by
        obtain ⟨⟨s2, g1, g2⟩, _⟩ := at_ i t hi
        subst e
        have := R.dist j i s s2 a z2 g1 os g2 h2 e2
        subst this
        exact z1 t hi
      cases s with
      | no => trivial
      | val d => obtain ⟨v, e, r⟩ := r; exact ⟨v, e, r.mono sm⟩
      | own l => obtain ⟨a, vs, e, m, hh, r⟩ := r; exact ⟨a, vs, e, m, st rfl e hh, r.mono sm⟩
      | dic ks vs => obtain ⟨a, kvs, e, m, hh, k, r⟩ := r; exact ⟨a, kvs, e, m, st rfl e hh, k, r.mono sm⟩
      | inst c ns l => obtain ⟨a, C, dx, fvs, e, m, c, hh, n, r⟩ := r; exact ⟨a, C, dx, fvs, e, m, c, st rfl e hh, n, r.mono sm⟩
      | ex ee => exact ⟨r.1, r.2.to sm⟩
  · obtain ⟨u1, g1, g2⟩ := own h1 o1
    obtain ⟨u2, g3, g4⟩ := own h2 o2
    exact R.dist i j u1 u2 a g1 g3 g2 g4 e1 e2
  · cases e : H a with
    | none => exact R.trk a ha e
    | some o =>
      by_cases hz : ∃ i t, (i, t) ∈ ps ∧ σ[i]? = some (some (.ref a))
      · obtain ⟨i, t, hi, e2⟩ := hz
        obtain ⟨_, o1, v, e1, r⟩ := at_ i t hi
        rw [e2] at e1
        cases e1
        cases t with
        | own l => obtain ⟨b, vs, e, m, hh, r⟩ := r; cases e; rw [z] at hh; cases hh
        | dic ks vs => obtain ⟨b, kvs, e, m, hh, r⟩ := r; cases e; rw [z] at hh; cases hh
        | inst c ns l => obtain ⟨b, C, dx, fvs, e, m, c, hh, r⟩ := r; cases e; rw [z] at hh; cases hh
        | _ => cases o1
      · rw [keep a o e fun i t hi e2 => hz ⟨i, t, hi, e2⟩] at z; cases z
  · refine keep a o (R.frame a o h nn) fun i t hi e => ?_
    obtain ⟨⟨s2, g1, g2⟩, _⟩ := at_ i t hi
    rcases R.mine i s2 a g1 g2 e with z | ⟨z, _⟩
    · exact nn z
    · rw [h] at z; cases z
  · obtain ⟨u, g1, g2⟩ := own h1 o1
    exact R.mine i u a g1 g2 e1
  · obtain ⟨p1, p2, s, p3, p4⟩ := R.par q hq
    have hl : q.1 < (updE ρ ps).length := by rw [updE_len]; exact (List.getElem?_eq_some_iff.mp p3).1
    have e : (updE ρ ps)[q.1]? = some (updE ρ ps)[q.1] := by simp [hl]
    refine ⟨p1, p2, _, e, ?_⟩
    rcases updE_get ps ρ q.1 _ e with z | ⟨_, z⟩
    · exact (at_ _ _ z).2.1
    · rw [p3] at z; cases z; exact p4
/-- what is handed -/
def slotsOf : List AV → Ev → Option (List Slot)
  | [], _ => some []
  | .d d :: r, ρ => (slotsOf r ρ).map fun ss => .val d :: ss
  | .o i :: r, ρ => match ρ[i]? with
    | some s => if s.arg then (slotsOf r ρ).map fun ss => s :: ss else none
    | none => none
def ownIx : List AV → Ev → List Nat
  | [], _ => []
  | .d _ :: r, ρ => ownIx r ρ
  | .o i :: r, ρ => match ρ[i]? with
    | some s => if s.isOwn then i :: ownIx r ρ else ownIx r ρ
    | none => ownIx r ρ
/-- what comes back of one's own things -/
def upsOf : List AV → List Slot → Ev → Option (List (Nat × Slot))
  | [], _, _ => some []
  | .d _ :: r, _ :: os, ρ => upsOf r os ρ
  | .o i :: r, t :: os, ρ => match ρ[i]? with
    | some s => if s.isOwn then (if t.isOwn then (upsOf r os ρ).map fun ps => (i, t) :: ps else none) else upsOf r os ρ
    | none => none
  | _ :: _, [], _ => none
theorem avrs_get : ∀ {xs : List AV} {vs : List V} {i : Nat} {x : AV}, AVRs K mg A σ H xs vs → xs[i]? = some x → ∃ v, vs[i]? = some v ∧ AVR K mg A σ H x v
  | [], _, i, _, _, h => by simp at h
  | y :: xs, _, 0, x, ⟨v, r, e, h1, h2⟩, h => by subst e; simp at h; subst h; exact ⟨v, by simp, h1⟩
  | y :: xs, _, i + 1, x, ⟨v, r, e, h1, h2⟩, h => by
    subst e
    obtain ⟨u, q1, q2⟩ := avrs_get (i := i) h2 (by simpa using h)
    exact ⟨u, by simpa using q1, q2⟩
theorem avrs_len : ∀ {xs : List AV} {vs : List V}, AVRs K mg A σ H xs vs → xs.length = vs.length
  | [], _, h => by rw [show _ = [] from h]; rfl
  | y :: xs, _, ⟨v, r, e, h1, h2⟩ => by subst e; simp [avrs_len h2]
theorem slotsOf_get : ∀ {xs : List AV} {ss : List Slot} {i : Nat} {s : Slot}, slotsOf xs ρ = some ss → ss[i]? = some s → (∃ d, xs[i]? = some (.d d) ∧ s = .val d) ∨ (∃ j, xs[i]? = some (.o j) ∧ ρ[j]? = some s ∧ s.arg = true)
  | [], ss, i, s, h, hs => by cases (Option.some.inj h); simp at hs
  | .d d :: r, ss, i, s, h, hs => by
    obtain ⟨ts, h1, e⟩ := Option.map_eq_some_iff.mp h
    subst e
    cases i with
    | zero => simp at hs; exact .inl ⟨d, by simp, hs.symm⟩
    | succ i => simpa using slotsOf_get (i := i) h1 (by simpa using hs)
  | .o j :: r, ss, i, s, h, hs => by
    unfold slotsOf at h
    cases hj : ρ[j]? with
    | none => rw [hj] at h; cases h
    | some t =>
      rw [hj] at h
      dsimp only at h
      by_cases ha : t.arg = true
      · rw [if_pos ha] at h
        obtain ⟨ts, h1, e⟩ := Option.map_eq_some_iff.mp h
        subst e
        cases i with
        | zero => simp at hs; subst hs; exact .inr ⟨j, by simp, hj, ha⟩
        | succ i => simpa using slotsOf_get (i := i) h1 (by simpa using hs)
      · rw [if_neg ha] at h; cases h
theorem slotsOf_len : ∀ {xs : List AV} {ss : List Slot}, slotsOf xs ρ = some ss → ss.length = xs.length
  | [], ss, h => by cases (Option.some.inj h); rfl
  | .d d :: r, ss, h => by
    obtain ⟨ts, h1, e⟩ := Option.map_eq_some_iff.mp h
    subst e
    simp [slotsOf_len h1]
  | .o j :: r, ss, h => by
    unfold slotsOf at h
    cases hj : ρ[j]? with
    | none => rw [hj] at h; cases h
    | some t =>
      rw [hj] at h
      dsimp only at h
      by_cases ha : t.arg = true
      · rw [if_pos ha] at h
        obtain ⟨ts, h1, e⟩ := Option.map_eq_some_iff.mp h
        subst e
        simp [slotsOf_len h1]
      · rw [if_neg ha] at h; cases h
theorem ownIx_mem : ∀ {xs : List AV} {i j : Nat} {s : Slot}, xs[i]? = some (.o j) → ρ[j]? = some s → s.isOwn = true → j ∈ ownIx xs ρ
  | [], i, _, _, h, _, _ => by simp at h
  | .d d :: r, 0, j, s, h, _, _ => by simp at h
  | .d d :: r, i + 1, j, s, h, h2, h3 => by unfold ownIx; exact ownIx_mem (i := i) (by simpa using h) h2 h3
  | .o k :: r, 0, j, s, h, h2, h3 => by
    simp at h
    subst h
    unfold ownIx
    rw [h2]
    simp [h3]
  | .o k :: r, i + 1, j, s, h, h2, h3 => by
    have := ownIx_mem (i := i) (xs := r) (by simpa using h) h2 h3
    unfold ownIx
    split
    · split
      · exact List.mem_cons_of_mem _ this
      · exact this
    · exact this
theorem ownIx_inj : ∀ {xs : List AV} {i k j : Nat} {s : Slot}, (ownIx xs ρ).Nodup → xs[i]? = some (.o j) → xs[k]? = some (.o j) → ρ[j]? = some s → s.isOwn = true → i = k
  | [], i, _, _, _, _, h, _, _, _ => by simp at h
  | .d d :: r, i, k, j, s, nd, h1, h2, h3, h4 => by
    cases i with
    | zero => simp at h1
    | succ i => cases k with
      | zero => simp at h2
      | succ k => rw [ownIx_inj (i := i) (k := k) (xs := r) (by unfold ownIx at nd; exact nd) (by simpa using h1) (by simpa using h2) h3 h4]
  | .o l :: r, i, k, j, s, nd, h1, h2, h3, h4 => by
    have tail : (ownIx r ρ).Nodup := by
      unfold ownIx at nd
      split at nd
      · split at nd
        · exact (List.nodup_cons.mp nd).2
        · exact nd
      · exact nd
    have head : ∀ {m : Nat}, r[m]? = some (.o j) → l = j → False := fun {m} hm e => by
      subst e
      have := ownIx_mem hm h3 h4
      unfold ownIx at nd
      rw [h3] at nd
      simp only [h4, if_true] at nd
      exact (List.nodup_cons.mp nd).1 this
    cases i with
    | zero => cases k with
      | zero => rfl
      | succ k => exact (head (m := k) (by simpa using h2) (by simpa using h1)).elim
    | succ i => cases k with
      | zero => exact (head (m := i) (by simpa using h1) (by simpa using h2)).elim
      | succ k => rw [ownIx_inj (i := i) (k := k) (xs := r) tail (by simpa using h1) (by simpa using h2) h3 h4]
theorem upsOf_mem : ∀ {xs : List AV} {os : List Slot} {ps : List (Nat × Slot)} {j : Nat} {t : Slot}, upsOf xs os ρ = some ps → (j, t) ∈ ps → ∃ (i : Nat) (s : Slot), xs[i]? = some (.o j) ∧ os[i]? = some t ∧ ρ[j]? = some s ∧ s.isOwn = true ∧ t.isOwn = true
  | [], os, ps, j, t, h, hm => by cases (Option.some.inj h); cases hm
  | .d d :: r, u :: os, ps, j, t, h, hm => by
    obtain ⟨i, s, h1, h2, h3⟩ := upsOf_mem (xs := r) (os := os) h hm
    exact ⟨i + 1, s, by simpa using h1, by simpa using h2, h3⟩
  | .d d :: r, [], ps, j, t, h, hm => by cases h
  | .o k :: r, [], ps, j, t, h, hm => by cases h
  | .o k :: r, u :: os, ps, j, t, h, hm => by
    unfold upsOf at h
    cases hk : ρ[k]? with
    | none => rw [hk] at h; cases h
    | some s =>
      rw [hk] at h
      dsimp only at h
      by_cases ho : s.isOwn = true
      · rw [if_pos ho] at h
        by_cases hu : u.isOwn = true
        · rw [if_pos hu] at h
          obtain ⟨qs, h1, e⟩ := Option.map_eq_some_iff.mp h
          subst e
          rcases List.mem_cons.mp hm with e | hm
          · cases e
            exact ⟨0, s, by simp, by simp, hk, ho, hu⟩
          · obtain ⟨i, s, h2, h3, h4⟩ := upsOf_mem (xs := r) (os := os) h1 hm
            exact ⟨i + 1, s, by simpa using h2, by simpa using h3, h4⟩
        · rw [if_neg hu] at h; cases h
      · rw [if_neg ho] at h
        obtain ⟨i, s, h2, h3, h4⟩ := upsOf_mem (xs := r) (os := os) h hm
        exact ⟨i + 1, s, by simpa using h2, by simpa using h3, h4⟩
theorem upsOf_of : ∀ {xs : List AV} {os : List Slot} {ps : List (Nat × Slot)} {i j : Nat} {s : Slot}, upsOf xs os ρ = some ps → xs[i]? = some (.o j) → ρ[j]? = some s → s.isOwn = true → ∃ t, (j, t) ∈ ps
  | [], os, ps, i, j, s, h, h1, _, _ => by simp at h1
  | .d d :: r, [], ps, i, j, s, h, h1, _, _ => by cases h
  | .o k :: r, [], ps, i, j, s, h, h1, _, _ => by cases h
  | .d d :: r, u :: os, ps, i, j, s, h, h1, h2, h3 => by
    cases i with
    | zero => simp at h1
    | succ i => exact upsOf_of (xs := r) (os := os) (i := i) h (by simpa using h1) h2 h3
  | .o k :: r, u :: os, ps, i, j, s, h, h1, h2, h3 => by
    unfold upsOf at h
    cases hk : ρ[k]? with
    | none => rw [hk] at h; cases h
    | some s' =>
      rw [hk] at h
      dsimp only at h
      by_cases ho : s'.isOwn = true
      · rw [if_pos ho] at h
        by_cases hu : u.isOwn = true
        · rw [if_pos hu] at h
          obtain ⟨qs, g1, e⟩ := Option.map_eq_some_iff.mp h
          subst e
          cases i with
          | zero => simp at h1; subst h1; exact ⟨u, List.mem_cons_self⟩
          | succ i =>
            obtain ⟨t, ht⟩ := upsOf_of (xs := r) (os := os) (i := i) g1 (by simpa using h1) h2 h3
            exact ⟨t, List.mem_cons_of_mem _ ht⟩
        · rw [if_neg hu] at h; cases h
      · rw [if_neg ho] at h
        cases i with
        | zero => simp at h1; subst h1; rw [hk] at h2; cases h2; exact absurd h3 ho
        | succ i => exact upsOf_of (xs := r) (os := os) (i := i) h (by simpa using h1) h2 h3
/-- the arguments as the callee sees them -/
theorem args_of {xs : List AV} {vs : List V} {ss : List Slot} (R : SR K mg w A ρ σ H) (r : AVRs K mg A σ H xs vs) (h : slotsOf xs ρ = some ss) (nd : (ownIx xs ρ).Nodup) : ArgsR K mg A H ss vs := by
  have val : ∀ {i : Nat} {s : Slot} {v : V}, ss[i]? = some s → vs[i]? = some v → s.isOwn = true → ∃ j, xs[i]? = some (.o j) ∧ ρ[j]? = some s ∧ σ[j]? = some (some v) := fun {i s v} h1 h2 o => by
    rcases slotsOf_get h h1 with ⟨d, _, e⟩ | ⟨j, g1, g2, g3⟩
    · subst e; cases o
    · obtain ⟨u, q1, q2⟩ := avrs_get r g1
      rw [h2] at q1
      cases q1
      exact ⟨j, g1, g2, q2⟩
  refine ⟨by rw [slotsOf_len h, avrs_len r], fun i s v h1 h2 => ?_, fun i k s t a h1 h2 o1 o2 e1 e2 => ?_, R.trk⟩
  · rcases slotsOf_get h h1 with ⟨d, g1, e⟩ | ⟨j, g1, g2, g3⟩
    · subst e
      obtain ⟨u, q1, q2⟩ := avrs_get r g1
      rw [h2] at q1
      cases q1
      exact ⟨v, rfl, q2⟩
    · obtain ⟨u, q1, q2⟩ := avrs_get r g1
      rw [h2] at q1
      cases q1
      have q2 : σ[j]? = some (some v) := q2
      have := R.slots j s _ g2 q2
      refine SlotR.off (Same.refl _) (fun o a z => ?_) g3 this
      cases s with
      | own l => obtain ⟨b, vs, e, m, _⟩ := this; cases z; cases e; exact m
      | dic ks vs => obtain ⟨b, vs, e, m, _⟩ := this; cases z; cases e; exact m
      | inst c ns l => obtain ⟨b, C, dx, fvs, e, m, _⟩ := this; cases z; cases e; exact m
      | _ => cases o
  · obtain ⟨j, g1, g2, g3⟩ := val h1 e1 o1
    obtain ⟨l, g4, g5, g6⟩ := val h2 e2 o2
    have e := R.dist j l s t a g2 g5 o1 o2 g3 g6
    subst e
    exact ownIx_inj nd g1 g4 g2 o1
end
end DL
namespace DL
open PySem L2
def callV (φ : Fn) (xs : List AV) : M D := fun ρ => match slotsOf xs ρ with
  | none => .bad
  | some ss => if (ownIx xs ρ).Nodup then (match φ ss with
    | .ok d os => (match upsOf xs os ρ with
      | some ps => .ok d (updE ρ ps)
      | none => .bad)
    | .exc e os => (match upsOf xs os ρ with
      | some ps => .exc e (updE ρ ps)
      | none => .bad)
    | .bad => .bad) else .bad
def callF (φ : Fn) (as : List Arg) : M D := M.bnd (evs as) (callV φ)
section
variable {K : PySem.W.Frag} {mg : Str → Option Value} {w : Wd} {A : List Addr} {ρ : Ev} {σ : L2.St} {H : Hp}
theorem ups_sr {xs : List AV} {vs : List V} {ss os : List Slot} {ps : List (Nat × Slot)} {H' : Hp} (R : SR K mg w A ρ σ H) (r : AVRs K mg A σ H xs vs) (h : slotsOf xs ρ = some ss) (nd : (ownIx xs ρ).Nodup) (hp : upsOf xs os ρ = some ps) (p : Post K mg A H ss vs os H') :
    SR K mg w A (updE ρ ps) σ H' ∧ Ext A H H' := by
  have a := args_of R r h nd
  have handed : ∀ {i : Nat} {j : Nat} {s : Slot}, xs[i]? = some (.o j) → ρ[j]? = some s → s.isOwn = true → ss[i]? = some s ∧ ∃ v, vs[i]? = some v ∧ σ[j]? = some (some v) := fun {i j s} h1 h2 o => by
    obtain ⟨v, q1, q2⟩ := avrs_get r h1
    have hi : i < ss.length := by rw [slotsOf_len h]; exact (List.getElem?_eq_some_iff.mp h1).1
    have e : ss[i]? = some ss[i] := by simp [hi]
    rcases slotsOf_get h e with ⟨d, g1, _⟩ | ⟨k, g1, g2, _⟩
    · rw [h1] at g1; cases g1
    · rw [h1] at g1
      cases g1
      rw [h2] at g2
      cases g2
      exact ⟨e, v, q1, q2⟩
  have keep : ∀ b o, H b = some o → (∀ j t, (j, t) ∈ ps → σ[j]? ≠ some (some (.ref b))) → H' b = some o := fun b o hb hn => p.keep b o hb fun i s g1 g2 g3 => by
    rcases slotsOf_get h g1 with ⟨d, _, e⟩ | ⟨j, k1, k2, _⟩
    · subst e; cases g2
    · obtain ⟨t, ht⟩ := upsOf_of hp k1 k2 g2
      obtain ⟨v, q1, q2⟩ := avrs_get r k1
      rw [g3] at q1
      cases q1
      exact hn j t ht q2
  refine ⟨R.upds keep fun j t hjt => ?_, fun b o hb h1 => keep b o h1 fun j t hjt e => ?_⟩
  · obtain ⟨i, s, k1, k2, k3, k4, k5⟩ := upsOf_mem hp hjt
    obtain ⟨g1, v, g2, g3⟩ := handed k1 k3 k4
    obtain ⟨t', q1, q2, q3⟩ := p.own i s v g1 k4 g2
    rw [k2] at q1
    cases q1
    refine ⟨⟨s, k3, k4⟩, k5, v, g3, ?_⟩
    exact SlotR.off (Same.refl _) (fun _ a z => by
      obtain ⟨b, e, m⟩ := own_ref q3 k5
      cases z
      cases e
      exact m) (own_arg k5) q3
  · obtain ⟨i, s, k1, k2, k3, k4, k5⟩ := upsOf_mem hp hjt
    obtain ⟨c, e2, m⟩ := own_ref (R.slots j s _ k3 e) k4
    cases e2
    exact hb m
theorem call_end {W : WZ} {Q : VK} {φ : Fn} {xs : List AV} {vs : List V} (R : SR K mg w A ρ σ H) (r : AVRs K mg A σ H xs vs)
    (q : match callV φ xs ρ with
      | .ok d ρ' => ∀ v H', Ext A H H' → SR K mg w A ρ' σ H' → Rep K mg (off A H') d v → Q v H'
      | .exc e ρ' => ∀ c dd H', Ext A H H' → SR K mg w A ρ' σ H' → ExR K mg A H' e c dd → W c dd σ H'
      | .bad => False) : spD K mg φ vs H Q (WE W σ) := by
  unfold callV at q
  cases h : slotsOf xs ρ with
  | none => rw [h] at q; exact q.elim
  | some ss =>
    rw [h] at q
    dsimp only at q
    by_cases nd : (ownIx xs ρ).Nodup
    · rw [if_pos nd] at q
      refine ⟨A, ss, args_of R r h nd, ?_⟩
      cases hf : φ ss with
      | bad => rw [hf] at q; exact q.elim
      | ok d os =>
        rw [hf] at q
        dsimp only at q
        cases hp : upsOf xs os ρ with
        | none => rw [hp] at q; exact q.elim
        | some ps =>
          rw [hp] at q
          intro v H' p rv
          obtain ⟨R', ex⟩ := ups_sr R r h nd hp p
          exact q v H' ex R' rv
      | exc e os =>
        rw [hf] at q
        dsimp only at q
        cases hp : upsOf xs os ρ with
        | none => rw [hp] at q; exact q.elim
        | some ps =>
          rw [hp] at q
          intro c dd H' p rv
          obtain ⟨R', ex⟩ := ups_sr R r h nd hp p
          exact q c dd H' ex R' rv
    · rw [if_neg nd] at q; exact q.elim
end
section
variable {X : Cx} {k : Nat} {f C : Addr} {fd : FuncData} {ps : List Str} {φ : Fn} {x m : Str} {p pos apos : Pos} {e o : Expr} {es : List Expr} {as : List Arg} {mo : M D}
/-- f(e, ..) -/
theorem de_call (F : FnOk X.prog X.w X.K X.mg X.base (L2.CX X.prog X.w) k f fd ps (spD X.K X.mg φ)) (hr : Room k X.A) (hg : Gl X x) (hm : X.mg x = some (.ref f)) (hk : PySem.W.keepIn X.K (.ref f) = true) (hb : Binds X.K fd ps [])
    (ha : DA X (e :: es) as) (hdb : (x == ("__debug__" : Str)) = false := by decide) (he : starEach (e :: es) X.env = (false, eval e X.env) :: starEach es X.env := by rfl) (hpl : (backTo pos (starEach es X.env)).any (·.1) = false := by rfl) :
    DE X (.Call (.Name x p) (e :: es) [] pos) (callF φ as) := fun W tk =>
  pe_imp (pe_callSD (E := WE W) F hr hg hm hk hb .nil (fun σ => passAt tk.t σ) (ha W tk) hdb he hpl) fun σ H Q ⟨w, A, ρ, R, q⟩ => by
    refine ⟨w, A, ρ, R, ?_⟩
    unfold callF at q
    cases hx : evs as ρ with
    | exc e ρ1 => rw [bnd_exc hx] at q; exact q
    | bad => rw [bnd_bad hx] at q; exact q
    | ok xs ρ1 =>
      rw [bnd_ok hx] at q
      intro vs H1 ex1 R1 r1
      rw [List.append_nil]
      refine call_end R1 r1 ?_
      cases hc : callV φ xs ρ1 with
      | ok d ρ2 => rw [hc] at q; exact fun v H2 ex2 R2 r2 => q v H2 (ex1.trans ex2) R2 r2
      | exc e ρ2 => rw [hc] at q; exact fun c dd H2 ex2 R2 r2 => q c dd H2 (ex1.trans ex2) R2 r2
      | bad => rw [hc] at q; exact q
/-- f() -/
theorem de_call0 (F : FnOk X.prog X.w X.K X.mg X.base (L2.CX X.prog X.w) k f fd ps (spD X.K X.mg φ)) (hr : Room k X.A) (hg : Gl X x) (hm : X.mg x = some (.ref f)) (hk : PySem.W.keepIn X.K (.ref f) = true) (hb : Binds X.K fd ps [])
    (hdb : (x == ("__debug__" : Str)) = false := by decide) : DE X (.Call (.Name x p) [] [] pos) (callF φ []) := fun W tk => by
  refine ⟨fun pins s σ H Q I ⟨w, A, ρ, R, q⟩ => ?_⟩
  refine wpAny_Call_Name_kw (ld_glob I hg hm ?_ hdb)
  refine PySem.W.callWith_K0 I.kIn hk (run_fnSD (us := []) (vs := []) (dvs := []) (E := WE W) F hr hb .nil (passAt tk.t σ) I .nil ?_)
  exact call_end (xs := []) (vs := []) R rfl q
/-- o.m(..), where what is raised is wished for at the slots -/
theorem meth_S {E : L2.St → XK} {ta : TE} {t : TA} {pl : Sem Bool} {sp : Sp} (he : PE X o ta) (c : Cls X.K C) (hm : Meth X.K C m f) (F : FnOk X.prog X.w X.K X.mg X.base (L2.CX X.prog X.w) k f fd ps sp) (hr : Room k X.A) (hb : Binds X.K fd ps []) (hx : ∀ σ, PassesAt (L2.CX X.prog X.w) X σ (E σ)) (ha : PA X (e :: es) t)
    (hst : starEach (e :: es) X.env = (false, eval e X.env) :: starEach es X.env) (hpl : (backTo pos (starEach es X.env)).any (·.1) = false)
    (ht : eval (.Call (.Attribute o m apos) (e :: es) [] pos) X.env = (do
      let ov ← eval o X.env
      standAt apos.atName
      let (g, first) ← holding [ov] (getMethod ov m pl)
      callWith pos g first (backTo pos (starEach (e :: es) X.env)) (backToKw pos (keywordEach [] X.env)))) :
    PE X (.Call (.Attribute o m apos) (e :: es) [] pos) (fun σ H Q => ta σ H fun x H1 => ∃ a dx fs, x = .ref a ∧ H1 a = some (.ins C dx fs) ∧ fs.lookup m = none ∧ t σ H1 fun vs H2 => sp (x :: vs) H2 Q (E σ)) :=
  ⟨fun pins s σ H Q I h => PySem.W.methodCall_KW (pl := pl) (thn (he.run pins s σ H _ I h) fun u s1 ⟨x, H1, I1, rx, a, dx, fs, ex, ea, l, q⟩ => by
    subst ex
    cases rx
    refine getmeth_ok I1 ea c hm l (PySem.W.callWith_K (first := [.ref a]) (h₀ := X.base) I.ok.mod.kin hm.kp (thn (ha.run pos pins s1 σ H1 _ I1 q) fun us s2 ⟨vs, H2, I2, r, q2⟩ => ⟨I2.kIn, ?_⟩) hst hpl)
    exact run_fnSD (us := .ref a :: us) (vs := .ref a :: vs) (dvs := []) F hr hb .nil (hx σ) I2 (.cons rfl r) (by rw [List.append_nil]; exact q2)) ht⟩
theorem meth_S0 {E : L2.St → XK} {ta : TE} {pl : Sem Bool} {sp : Sp} (he : PE X o ta) (c : Cls X.K C) (hm : Meth X.K C m f) (F : FnOk X.prog X.w X.K X.mg X.base (L2.CX X.prog X.w) k f fd ps sp) (hr : Room k X.A) (hb : Binds X.K fd ps []) (hx : ∀ σ, PassesAt (L2.CX X.prog X.w) X σ (E σ))
    (ht : eval (.Call (.Attribute o m apos) [] [] pos) X.env = (do
      let ov ← eval o X.env
      standAt apos.atName
      let (g, first) ← holding [ov] (getMethod ov m pl)
      callWith pos g first (backTo pos (starEach [] X.env)) (backToKw pos (keywordEach [] X.env)))) :
    PE X (.Call (.Attribute o m apos) [] [] pos) (fun σ H Q => ta σ H fun x H1 => ∃ a dx fs, x = .ref a ∧ H1 a = some (.ins C dx fs) ∧ fs.lookup m = none ∧ sp [x] H1 Q (E σ)) :=
  ⟨fun pins s σ H Q I h => PySem.W.methodCall_KW (pl := pl) (thn (he.run pins s σ H _ I h) fun u s1 ⟨x, H1, I1, rx, a, dx, fs, ex, ea, l, q⟩ => by
    subst ex
    cases rx
    exact getmeth_ok I1 ea c hm l (PySem.W.callWith_K0 (first := [.ref a]) I1.kIn hm.kp (run_fnSD (us := [.ref a]) (vs := [.ref a]) (dvs := []) F hr hb .nil (hx σ) I1 (.cons rfl .nil) q))) ht⟩
/-- a method of a class c, of a value -/
def methF (c m : Str) (φ : Fn) (mo : M D) (as : List Arg) : M D := M.bnd mo fun d => match d with
  | .obj c' ns l => if c' = c ∧ ns.contains m = false then M.bnd (evs as) fun xs => callV φ (.d (.obj c' ns l) :: xs) else fun _ => .bad
  | _ => fun _ => .bad
theorem zip_none {ns : List Str} {vs : List V} {m : Str} (h : ns.contains m = false) : (ns.zip vs).lookup m = none := by
  induction ns generalizing vs with
  | nil => simp
  | cons n ns ih =>
    cases vs with
    | nil => simp
    | cons v vs =>
      rw [List.contains_cons] at h
      obtain ⟨h1, h2⟩ := Bool.or_eq_false_iff.mp h
      rw [List.zip_cons_cons, List.lookup_cons, h1]
      exact ih h2
theorem de_meth {c : Str} {pl : Sem Bool} (hC : X.mg c = some (.ref C)) (hc : Cls X.K C) (hm : Meth X.K C m f) (F : FnOk X.prog X.w X.K X.mg X.base (L2.CX X.prog X.w) k f fd ps (spD X.K X.mg φ)) (hr : Room k X.A) (hb : Binds X.K fd ps []) (ho : DE X o mo) (ha : DA X (e :: es) as)
    (hst : starEach (e :: es) X.env = (false, eval e X.env) :: starEach es X.env := by rfl) (hpl : (backTo pos (starEach es X.env)).any (·.1) = false := by rfl)
    (ht : eval (.Call (.Attribute o m apos) (e :: es) [] pos) X.env = (do
      let ov ← eval o X.env
      standAt apos.atName
      let (g, first) ← holding [ov] (getMethod ov m pl)
      callWith pos g first (backTo pos (starEach (e :: es) X.env)) (backToKw pos (keywordEach [] X.env))) := by rfl) :
    DE X (.Call (.Attribute o m apos) (e :: es) [] pos) (methF c m φ mo as) := fun W tk =>
  pe_imp (meth_S (E := WE W) (ho W tk) hc hm F hr hb (fun σ => passAt tk.t σ) (ha W tk) hst hpl ht) fun σ H Q q => de_imp2 q fun w A ρ1 d v H1 R1 r1 z => by
    cases d with
    | obj c' ns l =>
      dsimp only at z
      by_cases hcc : c' = c ∧ ns.contains m = false
      · rw [if_pos hcc] at z
        obtain ⟨rfl, hn⟩ := hcc
        have r1' := r1
        obtain ⟨a, C', dx, fvs, e1, h1, h2, h3, h4⟩ := r1
        rw [hC] at h1
        cases h1
        refine ⟨a, dx, _, e1, off_le _ _ h2, zip_none hn, w, A, ρ1, R1, ?_⟩
        cases hx : evs as ρ1 with
        | exc e ρ2 => rw [bnd_exc hx] at z; exact z
        | bad => rw [bnd_bad hx] at z; exact z
        | ok xs ρ2 =>
          rw [bnd_ok hx] at z
          intro vs H2 ex2 R2 r2
          refine call_end (xs := .d (.obj c' ns l) :: xs) R2 ⟨v, vs, rfl, r1'.mono ex2.off, r2⟩ ?_
          cases hcv : callV φ (.d (.obj c' ns l) :: xs) ρ2 with
          | ok d ρ3 => rw [hcv] at z; exact fun v H3 ex3 R3 r3 => z v H3 (ex2.trans ex3) R3 r3
          | exc e ρ3 => rw [hcv] at z; exact fun c dd H3 ex3 R3 r3 => z c dd H3 (ex2.trans ex3) R3 r3
          | bad => rw [hcv] at z; exact z
      · rw [if_neg hcc] at z; exact z.elim
    | _ => exact z.elim
theorem de_meth0 {c : Str} {pl : Sem Bool} (hC : X.mg c = some (.ref C)) (hc : Cls X.K C) (hm : Meth X.K C m f) (F : FnOk X.prog X.w X.K X.mg X.base (L2.CX X.prog X.w) k f fd ps (spD X.K X.mg φ)) (hr : Room k X.A) (hb : Binds X.K fd ps []) (ho : DE X o mo)
    (ht : eval (.Call (.Attribute o m apos) [] [] pos) X.env = (do
      let ov ← eval o X.env
      standAt apos.atName
      let (g, first) ← holding [ov] (getMethod ov m pl)
      callWith pos g first (backTo pos (starEach [] X.env)) (backToKw pos (keywordEach [] X.env))) := by rfl) :
    DE X (.Call (.Attribute o m apos) [] [] pos) (methF c m φ mo []) := fun W tk =>
  pe_imp (meth_S0 (E := WE W) (ho W tk) hc hm F hr hb (fun σ => passAt tk.t σ) ht) fun σ H Q q => de_imp2 q fun w A ρ1 d v H1 R1 r1 z => by
    cases d with
    | obj c' ns l =>
      dsimp only at z
      by_cases hcc : c' = c ∧ ns.contains m = false
      · rw [if_pos hcc] at z
        obtain ⟨rfl, hn⟩ := hcc
        have r1' := r1
        obtain ⟨a, C', dx, fvs, e1, h1, h2, h3, h4⟩ := r1
        rw [hC] at h1
        cases h1
        refine ⟨a, dx, _, e1, off_le _ _ h2, zip_none hn, ?_⟩
        exact call_end (xs := [.d (.obj c' ns l)]) R1 ⟨v, [], rfl, r1', rfl⟩ z
      · rw [if_neg hcc] at z; exact z.elim
    | _ => exact z.elim
/-- C(e, ..): a new instance -/
theorem run_makeS {E : XK} {pins : List (Addr × Obj)} {σ : L2.St} {H : Hp} {s : Shared} {Q : VK} {us : List Value} {vs : List V} {sp : Sp} (Mk' : Mk X.K C f) (F : FnOk X.prog X.w X.K X.mg X.base (L2.CX X.prog X.w) k f fd ps sp) (hr : Room (k + 1) X.A) (hb : Binds X.K fd ps [])
    (hx : PassesAt (L2.CX X.prog X.w) X σ E) (I : L2.Inv X pins σ H s) (r : Vals vs us)
    (h : ∀ y dy, H y = none → H dy = none → dy ≠ y → sp (.ref y :: vs) (upd (upd H dy (.own y)) y (.ins C dy [])) (fun v H2 => v = .non ∧ Q (.ref y) H2) E) :
    wpAny (model X.prog X.w) X.A (call (.ref C) us) (EP X pins σ Q) X.xe s := by
  have hz := h (s.heap.objs.size + 1) s.heap.objs.size (I.hok.fresh (Nat.le_succ _)) (I.hok.fresh (Nat.le_refl _)) (Nat.ne_of_lt (Nat.lt_succ_self _))
  have J := Inv.made (C := C) I
  have rr : Vals (V.ref (s.heap.objs.size + 1) :: vs) (Value.ref (s.heap.objs.size + 1) :: us) := .cons rfl r
  have hl := rr.length
  rw [F.len _ _ _ _ hz] at hl
  have bd := hb _ (Value.ref (s.heap.objs.size + 1) :: us) J.kIn (by rw [List.append_nil]; exact hl.symm)
  rw [List.append_nil] at bd
  refine wpAny_call (make_map (f := f) I.kIn Mk'.makes Mk'.init (beq_iff_eq.mp Mk'.fn) (codeAny_mono (F.run _ X.stack _ _ _ _ _ _ E (hr.make C us []) (J.env0.make C us []) bd rr hz) fun res t hres => ?_))
  cases res with
  | error ev => exact hx pins _ _ ev t J hres
  | ok fl =>
    cases fl with
    | ret u =>
      obtain ⟨v, H', J', rv, ev, q3⟩ := J.after hres
      subst ev
      exact ⟨rv, V.ref (s.heap.objs.size + 1), H', J', rfl, q3⟩
    | _ => exact False.elim hres
theorem make_S {E : L2.St → XK} {t : TA} {sp : Sp} (Mk' : Mk X.K C f) (F : FnOk X.prog X.w X.K X.mg X.base (L2.CX X.prog X.w) k f fd ps sp) (hr : Room (k + 1) X.A) (hg : Gl X x) (hm : X.mg x = some (.ref C)) (hb : Binds X.K fd ps []) (hx : ∀ σ, PassesAt (L2.CX X.prog X.w) X σ (E σ)) (ha : PA X (e :: es) t)
    (hdb : (x == ("__debug__" : Str)) = false) (he : starEach (e :: es) X.env = (false, eval e X.env) :: starEach es X.env) (hpl : (backTo pos (starEach es X.env)).any (·.1) = false) :
    PE X (.Call (.Name x p) (e :: es) [] pos) (fun σ H Q => t σ H fun vs H1 => ∀ y dy, H1 y = none → H1 dy = none → dy ≠ y → sp (.ref y :: vs) (upd (upd H1 dy (.own y)) y (.ins C dy [])) (fun v H2 => v = .non ∧ Q (.ref y) H2) (E σ)) :=
  ⟨fun pins s σ H Q I h => wpAny_Call_Name_kw (ld_glob I hg hm (PySem.W.callWith_K (h₀ := X.base) I.ok.mod.kin Mk'.kp (thn (ha.run pos pins s σ H _ I h) fun us s1 ⟨vs, H1, I1, r, q⟩ => ⟨I1.kIn, run_makeS Mk' F hr hb (hx σ) I1 r q⟩) he hpl) hdb)⟩
/-- C(e, ..), all values: the new instance is a value -/
def makeV (c : Str) (φ : Fn) (ds : List D) : M D := fun ρ => match φ (.inst c [] [] :: ds.map Slot.val) with
  | .ok .non (.inst c' ns l :: _) => .ok (.obj c' ns l) ρ
  | .exc e _ => .exc e ρ
  | _ => .bad
def makeF (c : Str) (φ : Fn) (as : List Arg) : M D := M.bnd (evs as) fun xs => match dvs xs with
  | some ds => makeV c φ ds
  | none => fun _ => .bad
theorem make_end {W : WZ} {Q : VK} {ds : List D} {vs : List V} {c : Str} {w : Wd} {A : List Addr} {ρ : Ev} {σ : L2.St} {H : Hp} {K : PySem.W.Frag} {mg : Str → Option Value} (hC : mg c = some (.ref C)) (R : SR K mg w A ρ σ H) (r : Reps K mg (off A H) ds vs)
    (q : match makeV c φ ds ρ with
      | .ok d ρ' => ∀ v H', Ext A H H' → SR K mg w A ρ' σ H' → Rep K mg (off A H') d v → Q v H'
      | .exc e ρ' => ∀ c dd H', Ext A H H' → SR K mg w A ρ' σ H' → ExR K mg A H' e c dd → W c dd σ H'
      | .bad => False) : ∀ y dy, H y = none → H dy = none → dy ≠ y → spD K mg φ (.ref y :: vs) (upd (upd H dy (.own y)) y (.ins C dy [])) (fun v H2 => v = .non ∧ Q (.ref y) H2) (WE W σ) := by
  intro y dy ny nd ne
  have s1 : Same H (upd (upd H dy (.own y)) y (.ins C dy [])) := fun b o h => by rw [upd_ne (ne_of_none h ny), upd_ne (ne_of_none h nd)]; exact h
  have nA : y ∉ A := R.notA ny
  have sm : Same (off A H) (off (y :: A) (upd (upd H dy (.own y)) y (.ins C dy []))) := fun b o h => by
    unfold off at h ⊢
    split at h
    · cases h
    · rename_i hb
      rw [if_neg fun z => (List.mem_cons.mp z).elim (fun e => by rw [e, ny] at h; cases h) hb]
      exact s1 b o h
  have a : ArgsR K mg (y :: A) (upd (upd H dy (.own y)) y (.ins C dy [])) (.inst c [] [] :: ds.map Slot.val) (.ref y :: vs) := by
    refine ⟨by simp [r.length], fun i s v h1 h2 => ?_, fun i j s t b h1 h2 o1 o2 e1 e2 => ?_, fun b hb => ?_⟩
    · cases i with
      | zero =>
        simp at h1 h2
        subst h1 h2
        exact ⟨y, C, dy, [], rfl, List.mem_cons_self, hC, by rw [upd_same]; rfl, rfl, rfl⟩
      | succ i =>
        rw [List.getElem?_cons_succ] at h1 h2
        rw [List.getElem?_map] at h1
        obtain ⟨d, h3, e⟩ := Option.map_eq_some_iff.mp h1
        subst e
        obtain ⟨u, h4, h5⟩ := r.get h3
        rw [h2] at h4
        cases h4
        exact ⟨v, rfl, h5.mono sm⟩
    · have z : ∀ {i : Nat} {s : Slot}, (Slot.inst c [] [] :: ds.map Slot.val)[i]? = some s → s.isOwn = true → i = 0 := fun {i s} h o => by
        cases i with
        | zero => rfl
        | succ i =>
          rw [List.getElem?_cons_succ, List.getElem?_map] at h
          obtain ⟨d, _, e⟩ := Option.map_eq_some_iff.mp h
          subst e
          cases o
      rw [z h1 o1, z h2 o2]
    · rcases List.mem_cons.mp hb with e | hb
      · subst e; rw [upd_same]; simp
      · intro z
        cases e : H b with
        | none => exact R.trk b hb e
        | some o => rw [s1 b o e] at z; cases z
  have back : ∀ {os : List Slot} {H' : Hp}, Post K mg (y :: A) (upd (upd H dy (.own y)) y (.ins C dy [])) (.inst c [] [] :: ds.map Slot.val) (.ref y :: vs) os H' → Same H H' := fun {os H'} p b o h => by
    refine p.keep b o (s1 b o h) fun i s h1 h2 h3 => ?_
    cases i with
    | zero =>
      simp at h3
      rw [← h3, ny] at h
      cases h
    | succ i =>
      rw [List.getElem?_cons_succ, List.getElem?_map] at h1
      obtain ⟨d, _, e⟩ := Option.map_eq_some_iff.mp h1
      subst e
      cases h2
  have sub : ∀ {H' : Hp}, Same (off (y :: A) H') (off A H') := fun {H'} => off_sub fun b hb => List.mem_cons_of_mem _ hb
  refine ⟨y :: A, _, a, ?_⟩
  unfold makeV at q
  cases hf : φ (.inst c [] [] :: ds.map Slot.val) with
  | bad => rw [hf] at q; exact q.elim
  | exc e os =>
    rw [hf] at q
    intro cc dd H' p z
    have sH := back p
    obtain ⟨C', e1, e2, z⟩ := z
    exact q cc dd H' (.of sH) (R.same sH) ⟨C', e1, e2, z.imp id fun ⟨d, fs, y1, y2, y3, y4⟩ => ⟨d, fs, y1, y2, fun m => y3 (List.mem_cons_of_mem _ m), fun i n x g1 g2 => let ⟨v, z1, z2⟩ := y4 i n x g1 g2; ⟨v, z1, z2.mono sub⟩⟩⟩
  | ok d os =>
    rw [hf] at q
    cases d with
    | non =>
      cases os with
      | nil => exact q.elim
      | cons t os =>
        cases t with
        | inst c' ns l =>
          intro v H' p rv
          have sH := back p
          obtain ⟨t', h1, h2, h3⟩ := p.own 0 (.inst c [] []) (.ref y) (by simp) rfl (by simp)
          simp at h1
          subst h1
          obtain ⟨b, C', dx, fvs, e1, m, g1, g2, g3, g4⟩ := h3
          cases e1
          exact ⟨rv, q _ H' (.of sH) (R.same sH) ⟨y, C', dx, fvs, rfl, g1, off_at g2 nA, g3, g4.mono sub⟩⟩
        | _ => exact q.elim
    | _ => exact q.elim
theorem de_make (hC : X.mg x = some (.ref C)) (Mk' : Mk X.K C f) (F : FnOk X.prog X.w X.K X.mg X.base (L2.CX X.prog X.w) k f fd ps (spD X.K X.mg φ)) (hr : Room (k + 1) X.A) (hg : Gl X x) (hb : Binds X.K fd ps []) (ha : DA X (e :: es) as)
    (hdb : (x == ("__debug__" : Str)) = false := by decide) (he : starEach (e :: es) X.env = (false, eval e X.env) :: starEach es X.env := by rfl) (hpl : (backTo pos (starEach es X.env)).any (·.1) = false := by rfl) :
    DE X (.Call (.Name x p) (e :: es) [] pos) (makeF x φ as) := fun W tk =>
  pe_imp (make_S (E := WE W) Mk' F hr hg hC hb (fun σ => passAt tk.t σ) (ha W tk) hdb he hpl) fun σ H Q ⟨w, A, ρ, R, q⟩ => by
    refine ⟨w, A, ρ, R, ?_⟩
    unfold makeF at q
    cases hx : evs as ρ with
    | exc e ρ1 => rw [bnd_exc hx] at q; exact q
    | bad => rw [bnd_bad hx] at q; exact q
    | ok xs ρ1 =>
      rw [bnd_ok hx] at q
      intro vs H1 ex1 R1 r1
      cases hd : dvs xs with
      | none => rw [hd] at q; exact q.elim
      | some ds =>
        rw [hd] at q
        refine make_end hC R1 (dvs_rep r1 hd) ?_
        dsimp only at q
        cases hc : makeV x φ ds ρ1 with
        | ok d ρ2 => rw [hc] at q; exact fun v H2 ex2 R2 r2 => q v H2 (ex1.trans ex2) R2 r2
        | exc e ρ2 => rw [hc] at q; exact fun c dd H2 ex2 R2 r2 => q c dd H2 (ex1.trans ex2) R2 r2
        | bad => rw [hc] at q; exact q
end
end DL
namespace DL
open PySem L2
open PySem.W (ksFn ksEnv kxs_mw)
/-- a name's value among pairs without doubles -/
theorem look_mem {β : Type} {y : Str} {u : β} : ∀ {l : List (Str × β)}, (l.map (·.1)).Nodup → (y, u) ∈ l → l.lookup y = some u
  | [], _, h => by cases h
  | (z, v) :: l, nd, h => by
    have nd' := List.nodup_cons.mp nd
    by_cases hz : y = z
    · subst hz
      rcases List.mem_cons.mp h with q | q
      · cases q; simp [List.lookup]
      · exact absurd (List.mem_map.mpr ⟨_, q, rfl⟩) nd'.1
    · rcases List.mem_cons.mp h with q | q
      · cases q; exact absurd rfl hz
      · have e : (y == z) = false := by simpa using hz
        simp only [List.lookup, e]
        exact look_mem nd'.2 q
theorem zip_fst : ∀ (ps : List Str) (us : List Value), ((ps.zip us).map (·.1)).Sublist ps
  | [], _ => by simp
  | p :: ps, [] => by simp
  | p :: ps, u :: us => by simpa using zip_fst ps us
theorem zip_back {ps : List Str} {us : List Value} {i : Nat} {y : Str} {u : Value} (nd : ps.Nodup) (h1 : ps[i]? = some y) (h2 : us[i]? = some u) : (ps.zip us).reverse.lookup y = some u := by
  refine look_mem ?_ ?_
  · rw [List.map_reverse]
    refine List.pairwise_reverse.mpr (List.Pairwise.imp (fun h => Ne.symm h) ?_)
    exact nd.sublist (zip_fst ps us)
  · rw [List.mem_reverse]
    refine List.mem_of_getElem? (i := i) ?_
    rw [List.getElem?_zip_eq_some]
    exact ⟨h1, h2⟩
/-- the names of such a def -/
structure SupScope (N ps : List Str) (sc : Scope) : Prop where
  kind : sc.kind = .function
  co : sc.isCoroutine = false
  gen : sc.isGenerator = false
  nd : N.Nodup
  pre : N.take ps.length = ps
  par : ∀ x ∈ ps, sc.names.lookup x = some .local
  nocell : ∀ y ∈ sc.names, y.2 ≠ .cell
  fre : ∀ x, sc.names.lookup x = some .free → x = "__class__"
  sup : sc.names.lookup ("super" : Str) = some .globalImplicit
  cls : sc.names.lookup ("__class__" : Str) = some .free
/-- the context of its body -/
def cxS (CX : CXT) (P : Program) (w : World) (K : PySem.W.Frag) (mg : Str → Option Value) (base : Heap) (N : List Str) (qual : Str) (sc : Scope) (f : Addr) (cd : Value) (cc : Addr) (A : Around) (outer : List Env) (s : Shared) (H : Hp) (E : XK) : Cx where
  prog := P
  w := w
  K := K
  mg := mg
  base := base
  A := A.deeper (ksEnv qual sc s.heap.objs.size f cd cc)
  N := N
  s_0 := s
  H_0 := H
  env := ksEnv qual sc s.heap.objs.size f cd cc
  outer := outer
  stack := ksEnv qual sc s.heap.objs.size f cd cc :: outer
  ex := []
  calm := true
  fn := fun _ => false
  pn := []
  xe := fun e s1 => wpAny (model P w) (A.deeper (ksEnv qual sc s.heap.objs.size f cd cc)) (leaving (ksEnv qual sc s.heap.objs.size f cd cc) e) (fun _ s2 => CX outer H s E e s2) (fun e2 s2 => CX outer H s E e2 s2) s1
section
variable {CX : CXT} {P : Program} {w : World} {K : PySem.W.Frag} {mg : Str → Option Value} {base : Heap} {N ps : List Str} {qual : Str} {sc : Scope} {f cc : Addr} {cd : Value} {A : Around} {outer : List Env} {s : Shared} {H : Hp} {E : XK} {us : List Value} {vs : List V}
theorem one_cell {x : Str} {c : Addr} (h : [(("__class__" : Str), cc)].lookup x = some c) : x = "__class__" ∧ c = cc := by
  by_cases e : x = "__class__"
  · subst e
    simp [List.lookup] at h
    exact ⟨rfl, h.symm⟩
  · have e' : (x == ("__class__" : Str)) = false := by simpa using e
    simp [List.lookup, e'] at h
theorem invS {h1 : Heap} {tk : Nat} (S : SupScope N ps sc) (hd : A.handled = none) (e0 : Env0 P w K mg base A outer s H) (hl : vs.length = ps.length) (r : Vals vs us) (ns : h1.Ns s.heap.objs.size fun y => (ps.zip us).reverse.lookup y)
    (hk : ∀ b o, s.heap.get? b = some o → h1.get? b = some o) {oc : Obj} (hcc : base.get? cc = some oc) {v0 : Option Value} (hcv : oc.data = .cell v0) :
    Inv (cxS CX P w K mg base N qual sc f cd cc A outer s H E) [] (L2.start N vs) H { s with heap := h1, toks := tk } := by
  have hpl : ps.length ≤ N.length := by have := congrArg List.length S.pre; rw [List.length_take] at this; omega
  have e1 := (e0.bs _ _ hcc)
  have hcl : cc < s.heap.objs.size := Heap.lt_size e1.1
  refine { ok := ?_, os := rfl, bare := e0.bare, base := Un.kept hk, loc := ⟨_, ns, fun i y v g1 g2 g3 => ?_⟩, cell := fun x c h => ?_, free := e0.hok.fresh (Nat.le_refl _), freeC := fun x c h => ?_, pin := fun p hp => absurd (show p ∈ ([] : List (Addr × Obj)) from hp) (by simp), hok := e0.hok.kept hk, len := ?_ }
  · exact { mod := e0.mod, kind := S.kind, glob := rfl, blt := rfl, above := Nat.le_refl _, inj := fun x y c q1 q2 => (one_cell q1).1.trans (one_cell q2).1.symm
            has := fun x h => by
              rcases (show sc.names.lookup x = some .cell ∨ sc.names.lookup x = some .free from h) with h | h
              · exact absurd rfl (S.nocell _ (PySem.mem_of_lookup h))
              · rw [S.fre x h]
                exact ⟨cc, by show List.lookup _ [(_, cc)] = _; simp [List.lookup]⟩
            cab := fun x c z => by cases z
            hd := fun _ => hd, frames := Around.frames_deeper e0.frames, stk := .inr ⟨rfl, rfl⟩, exf := fun b z => (by cases z)
            bs := e0.bs, bsz := e0.bsz, noex := fun b o _ z => (by cases z), exfs := fun b z => (by cases z), funs := e0.funs, frf := e0.frf }
  · have hi : i < vs.length := by
      unfold L2.start at g2
      by_cases hi : i < vs.length
      · exact hi
      · rw [List.getElem?_append_right (by simpa using hi), List.getElem?_replicate] at g2
        split at g2 <;> cases g2
    have ha : vs[i]? = some v := by
      unfold L2.start at g2
      rw [List.getElem?_append_left (by simpa using hi), List.getElem?_map] at g2
      obtain ⟨v', z1, z2⟩ := Option.map_eq_some_iff.mp g2
      cases z2
      exact z1
    obtain ⟨u, hu, rv⟩ := r.get ha
    have hp : ps[i]? = some y := by
      rw [← S.pre, List.getElem?_take_of_lt (by omega)]; exact g1
    have ndP : ps.Nodup := by rw [← S.pre]; exact S.nd.sublist (List.take_sublist _ _)
    exact ⟨u, rv, .inl ⟨S.par y (List.mem_of_getElem? hp), zip_back ndP hp hu⟩⟩
  · obtain ⟨_, rfl⟩ := one_cell h
    exact ⟨v0, oc, hk _ _ e1.1, hcv⟩
  · obtain ⟨_, rfl⟩ := one_cell h
    exact e1.2
  · show (L2.start N vs).length = N.length
    unfold L2.start
    rw [List.length_append, List.length_map, List.length_replicate]
    omega
end
section
open PySem.W PySem.Calls
variable {prog : Program} {w : World} {A : Around} {E : Value → Shared → Prop} {h : Heap} {g : Array GenState} {d : Drawn} {t : Nat} {os : OsState}
/-- the bound __init__ of ValueError called -/
theorem run_mw {nm q : Str} {C N mw e t0 : Addr} {bs bm : List Value} {hdct : Bool} {sn : List Str} {sub : List Value} {ab : Bool} {col : Option Bool} {dd : Option Addr} {k0 k1 k2 k3 k5 : Option Value} {ar : List Value} {Q : Value → Shared → Prop}
    (hC : h.get? C = some (excClassObj nm q C N bs bm hdct sn sub ab col dd k0 k1 k2 k3 k5 "ValueError.__new__")) (hx : h.get? e = some (HandSPX.excO C t0)) (hm : h.get? mw = some (kxs_mw "ValueError.__init__" e)) (hz : ar.length ≤ sizeLine)
    (fin : ∀ h' t1, (∀ b o, b ≠ e → h.get? b = some o → h'.get? b = some o) → h'.get? e = some (HandSPX.excO C t1) → Q .none ⟨h', g, d, t, os⟩) :
    wpAny (model prog w) A (call (.ref mw) ar) Q E ⟨h, g, d, t, os⟩ := by
  refine wpAny_call (codeAny_of_tree ?_)
  show wpAny (model prog w) A.in1 (callAny (.ref mw) ⟨ar, []⟩) _ _ _
  simp only [callAny]
  refine wpAny_bind (wpAny_load hm ?_)
  simp only [kxs_mw, show (Value.type "method-wrapper" == Value.type "method" || Value.type "method-wrapper" == Value.type "builtin_function_or_method" || Value.type "method-wrapper" == Value.type "method-wrapper") = true from by decide, if_true]
  refine KFB.if_so (by decide) ?_
  refine wpAny_bind (check_bound_init F.excBase_ValueError.toExcCallFacts hC hx rfl ?_)
  refine wpAny_bind (wpAny_pure (wpAny_pure ?_))
  refine ⟨plainId_quiet F.excBase_ValueError.init.plain _, codeAny_builtin F.excBase_ValueError.initEntry ?_⟩
  exact exc_init_tree (cls := .ref C) (t0 := t0) (dv := none) (c2 := .none) (c3 := .none) (b4 := .bool false) hx hz fun h' k1 k2 _ => fin h' _ k1 k2
end
section
open PySem.W PySem.Calls PyProof.Rows
variable {CX : CXT} {P : Program} {w : World} {K : PySem.W.Frag} {mg : Str → Option Value} {base : Heap} {N ps : List Str} {name qual : Str} {sc : Scope} {f cc cda Dc : Addr} {k : Nat} {sp : Sp}
  {params : Arguments} {rest : List Stmt} {e : Expr} {es : List Expr} {p0 p1 p2 p3 p4 : Pos} {dV kV doc pm ct oc ocl ccl : Value} {an od cdd cld : Option Addr} {osl ccs csl : Array (Option Value)} {vs2 : Array Value} {file : Str} {tf : Tok} {ar : PySem.Arg} {cdD : ClassData}
theorem mw_args {M : Model} {A : Around} {E : Value → Shared → Prop} {s : Shared} {pos : Pos} {env : Env} {Q : Value → Shared → Prop} {mw x : Addr}
    (he : starEach (e :: es) env = (false, eval e env) :: starEach es env) (hpl : (backTo pos (starEach es env)).any (·.1) = false)
    (go : wpAny M A (spliced (backTo pos (starEach (e :: es) env))) (fun ws s₁ => KxsAt "ValueError.__init__" mw x s₁.heap ∧ wpAny M A (call (.ref mw) ws) Q E s₁) E s) : wpAny M A (callWith pos (.ref mw) [] (backTo pos (starEach (e :: es) env)) []) Q E s := by
  rw [he] at go ⊢
  refine kxs_callWith (i := "ValueError.__init__") (x := x) ?_ (evalArgs_plain go)
  show (false || (backTo pos (starEach es env)).any (·.1)) = false
  rw [hpl, Bool.false_or]
/-- such a def keeps its promise -/
theorem sup_fn (lk : K.lookup f = some ⟨oc, od, .func (ksFn name qual params (.Expr (.Call (.Attribute (.Call (.Name "super" p0) [] [] p1) "__init__" p2) (e :: es) [] p3) p4 :: rest) sc dV kV doc pm an (.ref cda) ct cc), osl⟩)
    (hcd : codeIn K (.ref cda) qual = true) (S : SupScope N ps sc) (len : ∀ vs H Q E, sp vs H Q E → vs.length = ps.length)
    (hp : (params.posonlyargs ++ params.args).head? = some ar) (h0 : ps[0]? = some ar.arg) (hcode : K.lookup cda = some ⟨ccl, cdd, .fields vs2, ccs⟩) (hvs : vs2[2]? = some (.str file tf)) (hfile : ((P.main.file : Str) == file) = true)
    (hcell : K.lookup cc = some ⟨ocl, cld, .cell (some (.ref Dc)), csl⟩) (hD : clsIn K Dc = some cdD) (hsup : mg "super" = none) (htop : (P.main.scope.names.lookup ("super" : Str)).isSome = false) (hth : nsIn K cStatics "thirdparty.any" = some none)
    (hse : ∀ L : Addr, starEach (e :: es) (ksEnv qual sc L f (.ref cda) cc) = (false, eval e (ksEnv qual sc L f (.ref cda) cc)) :: starEach es (ksEnv qual sc L f (.ref cda) cc))
    (hpl : ∀ L : Addr, (backTo p3 (starEach es (ksEnv qual sc L f (.ref cda) cc))).any (·.1) = false)
    (hsw : ∀ L : Addr, swapsWith (.Call (.Attribute (.Call (.Name "super" p0) [] [] p1) "__init__" p2) (e :: es) [] p3) none p4.line (ksEnv qual sc L f (.ref cda) cc) = pure false)
    {pl : Addr → Sem Bool} (hev : ∀ L : Addr, eval (.Call (.Attribute (.Call (.Name "super" p0) [] [] p1) "__init__" p2) (e :: es) [] p3) (ksEnv qual sc L f (.ref cda) cc) = (do
      let sv ← attributeBase (.Call (.Name "super" p0) [] [] p1) "__init__" (ksEnv qual sc L f (.ref cda) cc) (eval (.Call (.Name "super" p0) [] [] p1) (ksEnv qual sc L f (.ref cda) cc))
      standAt p2.atName
      let (g, fst) ← holding [sv] (getMethod sv "__init__" (pl L))
      callWith p3 g fst (backTo p3 (starEach (e :: es) (ksEnv qual sc L f (.ref cda) cc))) []))
    (hbody : ∀ (A : Around) (outer : List Env) (s : Shared) (H : Hp) (vs : List V) (Q : VK) (E : XK), Room k (A.deeper (ksEnv qual sc s.heap.objs.size f (.ref cda) cc)) → sp vs H Q E →
      ∃ (ta : TA) (t : TS) (a C : Addr) (vr : List V), PA (cxS CX P w K mg base N qual sc f (.ref cda) cc A outer s H E) (e :: es) ta ∧ PSs (cxS CX P w K mg base N qual sc f (.ref cda) cc A outer s H E) rest t ∧ vs = .ref a :: vr ∧ OexC K C ∧
        ks_superIn K C Dc "__init__" = some (some (.builtin "ValueError.__init__")) ∧ subIn K (.ref C) (.type "ValueError") = some true ∧ mroIn K C (.ref Dc) = some true ∧ H a = some (exo a C none) ∧
        ta (L2.start N vs) H fun ws H1 => ws.length ≤ 1000 ∧ H1 a = some (exo a C none) ∧ t { nx := fun _ H' => Q .non H', rt := Q } (L2.start N vs) H1) :
    FnOk P w K mg base CX (k + 1) f (ksFn name qual params (.Expr (.Call (.Attribute (.Call (.Name "super" p0) [] [] p1) "__init__" p2) (e :: es) [] p3) p4 :: rest) sc dV kV doc pm an (.ref cda) ct cc) ps sp := by
  refine ⟨len, fun A outer s H args us vs Q E hr e0 hb r hsp => ?_⟩
  have hl := len _ _ _ _ hsp
  have KX : K.In s.heap := e0.mod.kin.keeps fun b o e => (e0.bs b o e).1
  have lim : s.heap.NoLimit := e0.mod.nolimit.keeps fun b o e => (e0.bs b o e).1
  refine ks_codeAny_call_defAt hr.depth (KX _ _ lk) rfl lim (codeRec_of KX hcd) rfl hb S.nocell (fun y hy => S.par _ (List.of_mem_zip hy).1) (fun h1 ns hk => ?_) S.co S.gen S.kind
  obtain ⟨ta, t, a, C, vr, ha, ht, ev, T, hsi, hve, hmr, ea, q⟩ := hbody A outer s H vs Q E (hr.deeper _) hsp
  have I := invS (CX := CX) (E := E) (cd := .ref cda) (f := f) (qual := qual) (tk := s.toks + (ps.zip us).length) S hr.hd e0 hl r ns hk (e0.mod.kin _ _ hcell) rfl
  obtain ⟨nm, qn, N', bs, bm, sn, sub, ab, col, dd, k0, k1, k2, k3, k5, hC, hbm⟩ := T.cls
  have hcl : clsIn K C = some { name := nm, bases := bs, mro := .ref C :: bm, ns := N', qualname := qn, hasDict := true, slotNames := sn, subclasses := sub, abstract := ab, collection := col, hasDel := false } := by unfold clsIn; rw [hC]
  obtain ⟨oD, gD, dD⟩ : ∃ oD, h1.get? Dc = some oD ∧ oD.data = .cls cdD := by
    unfold clsIn at hD
    split at hD
    · rename_i c d cd' sl ho
      cases hD
      exact ⟨_, hk _ _ (KX _ _ ho), rfl⟩
    · cases hD
  have X1 : K.In h1 := KX.keeps hk
  obtain ⟨t1, hx⟩ := exo_at I.hok ea
  have hsl : L2.start N vs = some (V.ref a) :: (L2.start N vs).tail := by
    rw [ev]; rfl
  have hN0 : N[0]? = some ar.arg := by
    rw [← S.pre, List.getElem?_take] at h0
    split at h0
    · exact h0
    · cases h0
  have par0 : sc.names.lookup ar.arg = some .local := S.par _ (List.mem_of_getElem? h0)
  have self : ∀ {s' : Shared} {pins : List (Addr × Obj)} {H' : Hp}, L2.Inv (cxS CX P w K mg base N qual sc f (.ref cda) cc A outer s H E) pins (L2.start N vs) H' s' → ∃ m, s'.heap.Ns s.heap.objs.size m ∧ m ar.arg = some (.ref a) := fun {s' pins H'} J => by
    obtain ⟨m, hn, hm⟩ := J.loc
    obtain ⟨u, ru, lo⟩ := hm 0 ar.arg (.ref a) hN0 (by rw [hsl]; rfl) (.inl par0)
    obtain rfl : u = Value.ref a := ru
    rcases lo with ⟨_, z⟩ | ⟨z, _⟩
    · exact ⟨m, hn, z⟩
    · rcases z with z | z
      · exact absurd ((show sc.names.lookup ar.arg = some .cell from z).symm.trans par0) (by decide)
      · exact absurd ((show sc.names.lookup ar.arg = some .free from z).symm.trans par0) (by decide)
  have node : ∀ {Q' : Value → Shared → Prop} {E' : Value → Shared → Prop} {body : List Stmt} {whole : Sem Value}, (∀ so h2, (∀ b o, h1.get? b = some o → h2.get? b = some o) → h2.get? so = some (ks_superObj Dc a C) → Q' (.ref so) ⟨h2, s.gens, s.drawn, s.toks + (ps.zip us).length, s.os⟩) →
      _root_.PySem.wpAt (model P w) (A.deeper (ksEnv qual sc s.heap.objs.size f (.ref cda) cc)) (.func body (ksEnv qual sc s.heap.objs.size f (.ref cda) cc))
        (attributeBase (.Call (.Name "super" p0) [] [] p1) "__init__" (ksEnv qual sc s.heap.objs.size f (.ref cda) cc) whole) Q' E' ⟨h1, s.gens, s.drawn, s.toks + (ps.zip us).length, s.os⟩ := fun {Q' E' body whole} q' => by
    refine ks_wpAt_super_base (env := ksEnv qual sc s.heap.objs.size f (.ref cda) cc) S.sup S.cls (by decide) rfl (hk _ _ (KX _ _ lk)) rfl hp rfl (hk _ _ (KX _ _ hcode)) rfl hvs hfile htop ?_
    obtain ⟨mb, z1, z2⟩ := e0.mod.blt
    refine ks_loadName_global S.kind S.sup (loadGlobal_builtin (env := ksEnv qual sc s.heap.objs.size f (.ref cda) cc) (I.mod.glob.keeps I.bk) hsup (z1.keeps I.bk) ((z2 _ (by decide)).trans (by first | rfl | kernel_rfl)) ⟨rfl, ?_⟩)
    refine wpAny_loadName_free S.kind S.cls rfl ⟨_, X1 _ _ hcell, rfl⟩ ?_
    obtain ⟨m, hn, hm⟩ := self I
    refine wpAny_loadName_local S.kind par0 hn hm ?_
    refine ks_wpAny_isType_cls gD dD ⟨rfl, ?_⟩
    refine ks_wpAny_call_super gD dD hx rfl (fun c z => by cases z) (looks_mroIn X1 hmr) fun h2 q1 q2 => ?_
    exact q' _ h2 q2 q1
  show _root_.PySem.wpAt (model P w) (A.deeper (ksEnv qual sc s.heap.objs.size f (.ref cda) cc)) (.func _ (ksEnv qual sc s.heap.objs.size f (.ref cda) cc)) (execs (_ :: rest) (ksEnv qual sc s.heap.objs.size f (.ref cda) cc)) _ _ _
  refine ks_wpAt_execs_cons (ks_wpAt_Expr_any (ks_wpAt_MethodCall (node fun so h2 q1 q2 => ?_) (hev _)) (by unfold interactive; rw [S.kind]; rfl) (hsw _))
  have I2 := I.kept (t' := s.toks + (ps.zip us).length) q1
  have X2 : K.In h2 := X1.keeps q1
  have hne : a ≠ C := ks_ne X2 (show InstAt h2 a _ C none from ⟨q1 _ _ hx, rfl, rfl, trivial⟩) hcl
  have hI : Looks (model P w) h2 (isInstance (.ref a) (.type "ValueError")) true := (show InstAt h2 a _ C none from ⟨q1 _ _ hx, rfl, rfl, trivial⟩).type.andThen (looks_subIn X2 hve)
  have hal : alongIn K "__init__" (((.ref C :: bm : List Value).dropWhile (· != .ref Dc)).drop 1) = some (some (.builtin "ValueError.__init__")) := by
    unfold ks_superIn at hsi
    rw [hcl] at hsi
    exact hsi
  refine kxs_getMethod kxs_ValueError q2 (looks_opaque X2 hth) (l₀ := .ref C :: bm) (fun A Q E s k q => wpAny_bind ((looks_clsIn X2 hcl) A _ E s k (wpAny_pure q))) rfl X2 hal hI hne (by decide) ?_
  have kp : ∀ b o, h2.get? b = some o → (h2.push (kxs_mw "ValueError.__init__" a)).get? b = some o := fun b o z => Heap.get?_push_of_some _ z
  have I3 := I2.kept (t' := s.toks + (ps.zip us).length + 1) kp
  have hmw : (h2.push (kxs_mw "ValueError.__init__" a)).get? h2.objs.size = some (kxs_mw "ValueError.__init__" a) := Heap.get?_push_at rfl rfl
  have I4 : L2.Inv (cxS CX P w K mg base N qual sc f (.ref cda) cc A outer s H E) [(h2.objs.size, kxs_mw "ValueError.__init__" a)] (L2.start N vs) H ⟨h2.push (kxs_mw "ValueError.__init__" a), s.gens, s.drawn, s.toks + (ps.zip us).length + 1, s.os⟩ :=
    ⟨I3.ok, I3.os, I3.bare, I3.base, I3.loc, I3.cell, I3.free, I3.freeC, fun p hp => by
      have e5 : p = (h2.objs.size, kxs_mw "ValueError.__init__" a) := by
        rcases List.mem_append.mp hp with z | z
        · cases z
        · simpa using z
      subst e5
      exact ⟨hmw, I2.hok.fresh (Nat.le_refl _), Nat.ne_of_gt I2.lt, I2.nofs (Nat.le_refl _), fun v z => by cases z⟩, I3.hok, I3.len⟩
  refine mw_args (x := a) (hse _) (hpl _) ?_
  refine L2.thn (ha.run p3 _ _ _ H _ I4 q) fun ws s5 ⟨xs, H1, I5, r5, hz, ea5, q5⟩ => ?_
  have hm5 := (I5.pin (h2.objs.size, kxs_mw "ValueError.__init__" a) (by simp)).1
  obtain ⟨t5, hx5⟩ := exo_at I5.hok ea5
  have hlen : ws.length ≤ sizeLine := by
    rw [← Paired.length r5, sizeLine_eq]
    omega
  refine ⟨hm5, ?_⟩
  obtain ⟨hp5, g5, d5, tk5, os5⟩ := s5
  refine run_mw (I5.kIn _ _ hC) hx5 hm5 hlen fun h6 t6 k6 e6 => ?_
  have I6 := I5.write (t' := tk5) (x := a) (e := a) (o := exo a C none) (by rw [ea5]; exact True.intro) (.inl rfl) k6 ⟨_, e6⟩ (exo_ok e6)
  have eu : upd H1 a (exo a C none) = H1 := funext fun b => by
    by_cases hb : b = a
    · rw [hb, upd_same, ea5]
    · rw [upd_ne hb]
  rw [eu] at I6
  refine wpAt_of_wpAny (wpAny_mono (ht.run [] _ _ H1 _ ⟨I6.ok, I6.os, I6.bare, I6.base, I6.loc, I6.cell, I6.free, I6.freeC, fun p hp => (by cases hp), I6.hok, I6.len⟩ q5) (fun fl s' hs => ?_) fun e s' hs => hs)
  have fin : ∀ {σ' : L2.St} {H' : Hp} {v : V} {u : Value}, L2.Inv (cxS CX P w K mg base N qual sc f (.ref cda) cc A outer s H E) [] σ' H' s' → RelV v u → Q v H' → CE outer P w H s Q u s' :=
    fun {σ' H' v u} J rv q => ⟨v, H', J.os, J.bare, J.base, J.hok, rv, q⟩
  cases fl with
  | ret u =>
    obtain ⟨v, σ', H', J, rv, q⟩ := hs
    exact fin J rv q
  | next =>
    obtain ⟨σ', H', J, q⟩ := hs
    exact fin (v := V.non) (u := Value.none) J rfl q
  | brk =>
    obtain ⟨_, _, _, q⟩ := hs
    cases q
  | cont =>
    obtain ⟨_, _, _, q⟩ := hs
    cases q
end
end DL
namespace DL
open PySem L2
/-- what the __init__ of an error class promises: the fields -/
def spI (C : Addr) (ns : List Str) : Sp := fun vs H Q _ => ∃ (a : Addr) (ys : List V), vs = .ref a :: ys ∧ ys.length = ns.length ∧ H a = some (exo a C none) ∧
  ∀ (dx : Addr) (H2 : Hp), H dx = none → dx ≠ a → H2 a = some (exo a C (some dx)) → H2 dx = some (exd dx (ns.zip ys).reverse) → (∀ b, b ≠ a → b ≠ dx → H2 b = H b) → Q .non H2
/-- an error class with fields -/
def ErrC (P : Program) (w : World) (K : PySem.W.Frag) (mg : Str → Option Value) (base : Heap) (c : Str) (ns : List Str) : Prop :=
  ns.Nodup ∧ ns.length ≤ 900 ∧ ∃ (C fI : Addr) (fd : FuncData) (ps : List Str), mg c = some (.ref C) ∧ OexC K C ∧ PySem.W.findIn K (.ref C) "__init__" = some (some (.ref fI)) ∧ PySem.W.typeIn K (.ref fI) = some (.type "function") ∧
    FnOk P w K mg base CX0 1 fI fd ps (spI C ns) ∧ Binds K fd ps []
def allD : List AV → Option (List D)
  | [] => some []
  | .d d :: r => (allD r).map fun ds => d :: ds
  | .o _ :: _ => none
theorem allD_rep {K : PySem.W.Frag} {mg : Str → Option Value} {A : List Addr} {σ : L2.St} {H : Hp} : ∀ {xs : List AV} {vs : List V} {ds : List D}, AVRs K mg A σ H xs vs → allD xs = some ds → Reps K mg (off A H) ds vs
  | [], vs, ds, h, e => by cases (Option.some.inj e); rw [show vs = [] from h]; exact rfl
  | .d d :: r, vs, ds, ⟨v, vr, e1, h, t⟩, e => by
    obtain ⟨ds', e2, e3⟩ := Option.map_eq_some_iff.mp e
    cases e3
    exact ⟨v, vr, e1, h, allD_rep t e2⟩
  | .o _ :: _, _, _, _, e => by cases e
/-- raise c(..) -/
def sRaise (c : Str) (ns : List Str) (as : List Arg) : S := fun ρ => match evs as ρ with
  | .ok xs ρ' => (match allD xs with
    | some ds => if ds.length = ns.length then .exc ⟨c, ns, ds⟩ ρ' else .bad
    | none => .bad)
  | .exc e ρ' => .exc e ρ'
  | .bad => .bad
theorem zip_sub {α β : Type} : ∀ (ps : List α) (us : List β), ((ps.zip us).map (·.1)).Sublist ps
  | [], _ => by simp
  | p :: ps, [] => by simp
  | p :: ps, u :: us => by simpa using zip_sub ps us
theorem zip_look {β : Type} {ps : List Str} {us : List β} {i : Nat} {y : Str} {u : β} (nd : ps.Nodup) (h1 : ps[i]? = some y) (h2 : us[i]? = some u) : (ps.zip us).reverse.lookup y = some u := by
  refine look_mem ?_ ?_
  · rw [List.map_reverse]
    refine List.pairwise_reverse.mpr (List.Pairwise.imp (fun h => Ne.symm h) ?_)
    exact nd.sublist (zip_sub ps us)
  · rw [List.mem_reverse]
    refine List.mem_of_getElem? (i := i) ?_
    rw [List.getElem?_zip_eq_some]
    exact ⟨h1, h2⟩
section
variable {X : Cx} {x : Str} {p pos pos' : Pos} {e : Expr} {es : List Expr} {as : List Arg} {ns : List Str} {np : Nat}
theorem passes0 : Passes CX0 X (fun _ _ _ => False) := fun _ _ _ _ _ _ _ h => False.elim h
theorem ds_raise (hc : X.calm = true) (T : ErrC X.prog X.w X.K X.mg X.base x ns) (hr : Room 2 X.A) (hg : Gl X x) (ha : DA X (e :: es) as)
    (hdb : (x == ("__debug__" : Str)) = false := by decide) (he : starEach (e :: es) X.env = (false, eval e X.env) :: starEach es X.env := by rfl) (hpl : (backTo pos (starEach es X.env)).any (·.1) = false := by rfl) :
    DS X np (.Raise (some (.Call (.Name x p) (e :: es) [] pos)) none pos') (sRaise x ns as) := fun W tk => by
  obtain ⟨nd, hz, C, fI, fd, ps, hm, O, iC, tI, F, hb⟩ := T
  refine ps_imp (ps_raise hc tk.t (pmk_oex O iC tI F hr hb .nil passes0 hg hm (ha W tk) hdb he hpl)) fun E σ H ⟨w, A, ρ, hnp, R, q⟩ => ?_
  refine ⟨w, A, ρ, R, ?_⟩
  unfold sRaise at q
  cases hx : evs as ρ with
  | bad => rw [hx] at q; exact q.elim
  | exc er ρ1 => rw [hx] at q; exact fun c dd H' ex R' z => q A σ H' c dd ex.off R' z
  | ok xs ρ1 =>
    rw [hx] at q
    intro vs H1 ex R1 r1
    dsimp only at q
    cases hd : allD xs with
    | none => rw [hd] at q; exact q.elim
    | some ds =>
      rw [hd] at q
      dsimp only at q
      by_cases hl : ds.length = ns.length
      · rw [if_pos hl] at q
        have r2 := allD_rep r1 hd
        have hvl : vs.length = ns.length := by rw [← r2.length, hl]
        refine ⟨by omega, fun a na => ⟨a, vs, by simp, hvl, upd_same, fun dx H2 nx ne e1 e2 e3 => ⟨rfl, dx, _, e1, e2, ?_, ?_⟩⟩⟩
        · rwa [upd_ne ne] at nx
        · rw [upd_ne ne] at nx
          have eH : upd (L2.del H2 a) dx (.xd (ns.zip vs).reverse) = upd H1 dx (.xd (ns.zip vs).reverse) := funext fun b => by
            by_cases h1 : b = dx
            · rw [h1, upd_same, upd_same]
            · rw [upd_ne h1, upd_ne h1]
              by_cases h2 : b = a
              · rw [h2, del_same, na]
              · rw [del_ne h2, e3 b h2 h1, upd_ne h2]
          rw [eH]
          refine q A σ _ _ _ (ex.off.trans (off_Same (same_upd nx))) (R1.new nx) ⟨C, rfl, hm, .inr ⟨dx, _, rfl, upd_same, R1.notA nx, fun i n y h1 h2 => ?_⟩⟩
          obtain ⟨v, g1, g2⟩ := r2.get h2
          exact ⟨v, zip_look nd h1 g1, g2.mono (off_Same (same_upd nx))⟩
      · rw [if_neg hl] at q
        exact q.elim
end
end DL
namespace DL
open PySem L2
open PySem.W (ksFn ksEnv)
section
open PySem.W PySem.Calls PyProof.Rows
variable {P : Program} {w : World} {K : PySem.W.Frag} {mg : Str → Option Value} {base : Heap} {c qual : Str} {sc : Scope} {fI cc cda C : Addr} {params : Arguments} {p0 p1 p2 p3 p4 q1 q2 q3 q4 q5 q6 q7 q8 q9 q10 : Pos} {kV doc pm ct oc ocl ccl : Value} {an od cdd cld : Option Addr}
  {osl ccs csl : Array (Option Value)} {vs2 : Array Value} {file : Str} {tf : Tok} {ar : PySem.Arg} {f g v u : Str}
theorem errF1 (O : OexC K C) 
    (lk : K.lookup fI = some ⟨oc, od, .func (ksFn "__init__" qual params [.Expr (.Call (.Attribute (.Call (.Name "super" p0) [] [] p1) "__init__" p2) [.Name v q1] [] p3) p4, .Assign [.Attribute (.Name "self" q2) f q3] (.Name v q4) q5] sc .none kV doc pm an (.ref cda) ct cc), osl⟩)
    (hcd : codeIn K (.ref cda) qual = true) (S : SupScope ["self", v] ["self", v] sc) (hp : (params.posonlyargs ++ params.args).head? = some ar) (h0 : ar.arg = "self")
    (hcode : K.lookup cda = some ⟨ccl, cdd, .fields vs2, ccs⟩) (hvs : vs2[2]? = some (.str file tf)) (hfile : ((P.main.file : Str) == file) = true) (hcell : K.lookup cc = some ⟨ocl, cld, .cell (some (.ref C)), csl⟩) (hsup : mg "super" = none)
    (htop : (P.main.scope.names.lookup ("super" : Str)).isSome = false) (hth : nsIn K cStatics "thirdparty.any" = some none) (hsi : ks_superIn K C C "__init__" = some (some (.builtin "ValueError.__init__"))) (hve : subIn K (.ref C) (.type "ValueError") = some true)
    (hmr : mroIn K C (.ref C) = some true) (hno : findIn K (.ref C) f = some none) (hd : (v == ("__debug__" : Str)) = false) (hd2 : (v == ("__classdict__" : Str)) = false)
    {pl : Addr → Sem Bool} (hev : ∀ L : Addr, eval (.Call (.Attribute (.Call (.Name "super" p0) [] [] p1) "__init__" p2) (.Name v q1 :: []) [] p3) (ksEnv qual sc L fI (.ref cda) cc) = (do
      let sv ← attributeBase (.Call (.Name "super" p0) [] [] p1) "__init__" (ksEnv qual sc L fI (.ref cda) cc) (eval (.Call (.Name "super" p0) [] [] p1) (ksEnv qual sc L fI (.ref cda) cc))
      standAt p2.atName
      let (g, fst) ← holding [sv] (getMethod sv "__init__" (pl L))
      callWith p3 g fst (backTo p3 (starEach (.Name v q1 :: []) (ksEnv qual sc L fI (.ref cda) cc))) [])) :
    FnOk P w K mg base CX0 1 fI (ksFn "__init__" qual params [.Expr (.Call (.Attribute (.Call (.Name "super" p0) [] [] p1) "__init__" p2) [.Name v q1] [] p3) p4, .Assign [.Attribute (.Name "self" q2) f q3] (.Name v q4) q5] sc .none kV doc pm an (.ref cda) ct cc) ["self", v] (spI C [f]) := by
  have hD : ∃ cdD, clsIn K C = some cdD := by
    unfold mroIn at hmr
    cases h : clsIn K C with
    | none => rw [h] at hmr; cases hmr
    | some cd => exact ⟨cd, rfl⟩
  obtain ⟨cdD, hD⟩ := hD
  refine sup_fn (N := ["self", v]) (k := 0) (Dc := C) lk hcd S (fun vs H Q E h => ?_) hp (by rw [h0]; rfl) hcode hvs hfile hcell hD hsup htop hth (fun L => rfl) (fun L => rfl) (fun L => rfl) hev fun A outer s H vs Q E hr h => ?_
  · obtain ⟨a, ys, rfl, h1, _⟩ := h
    simp [h1]
  · obtain ⟨a, ys, rfl, h1, h2, h3⟩ := h
    obtain ⟨y, rfl⟩ : ∃ y, ys = [y] := List.length_eq_one_iff.mp h1
    refine ⟨_, _, a, C, [y], pa_cons (pe_var (i := 1) rfl (.inl (S.par _ (by simp))) hd hd2) pa_nil, pss_one (ps_ost (pe_var (i := 0) rfl (.inl (S.par _ (by simp)))) (pe_var (i := 1) rfl (.inl (S.par _ (by simp))) hd hd2)), rfl, O, hsi, hve, hmr, h2, ?_⟩
    refine ⟨y, rfl, ?_, h2, ?_⟩
    · simp
    · refine ⟨y, rfl, .ref a, rfl, a, C, rfl, O, hno, .inl ⟨h2, fun dx n ne => ?_⟩⟩
      exact h3 dx _ n ne upd_same (by rw [upd_ne ne, upd_same]; rfl) fun b b1 b2 => by rw [upd_ne b1, upd_ne b2]
theorem errC1 (hm : mg c = some (.ref C)) (O : OexC K C) (iC : findIn K (.ref C) "__init__" = some (some (.ref fI))) (tI : typeIn K (.ref fI) = some (.type "function"))
    (lk : K.lookup fI = some ⟨oc, od, .func (ksFn "__init__" qual params [.Expr (.Call (.Attribute (.Call (.Name "super" p0) [] [] p1) "__init__" p2) [.Name v q1] [] p3) p4, .Assign [.Attribute (.Name "self" q2) f q3] (.Name v q4) q5] sc .none kV doc pm an (.ref cda) ct cc), osl⟩)
    (hcd : codeIn K (.ref cda) qual = true) (S : SupScope ["self", v] ["self", v] sc) (hp : (params.posonlyargs ++ params.args).head? = some ar) (h0 : ar.arg = "self")
    (hcode : K.lookup cda = some ⟨ccl, cdd, .fields vs2, ccs⟩) (hvs : vs2[2]? = some (.str file tf)) (hfile : ((P.main.file : Str) == file) = true) (hcell : K.lookup cc = some ⟨ocl, cld, .cell (some (.ref C)), csl⟩) (hsup : mg "super" = none)
    (htop : (P.main.scope.names.lookup ("super" : Str)).isSome = false) (hth : nsIn K cStatics "thirdparty.any" = some none) (hsi : ks_superIn K C C "__init__" = some (some (.builtin "ValueError.__init__"))) (hve : subIn K (.ref C) (.type "ValueError") = some true)
    (hmr : mroIn K C (.ref C) = some true) (hno : findIn K (.ref C) f = some none) (hd : (v == ("__debug__" : Str)) = false) (hd2 : (v == ("__classdict__" : Str)) = false)
    (hb : ∀ us : List Value, us.length = 2 → bindArgs (ksFn "__init__" qual params [.Expr (.Call (.Attribute (.Call (.Name "super" p0) [] [] p1) "__init__" p2) [.Name v q1] [] p3) p4, .Assign [.Attribute (.Name "self" q2) f q3] (.Name v q4) q5] sc .none kV doc pm an (.ref cda) ct cc) ⟨us, []⟩ = pure ((["self", v] : List Str).zip us))
    {pl : Addr → Sem Bool} (hev : ∀ L : Addr, eval (.Call (.Attribute (.Call (.Name "super" p0) [] [] p1) "__init__" p2) (.Name v q1 :: []) [] p3) (ksEnv qual sc L fI (.ref cda) cc) = (do
      let sv ← attributeBase (.Call (.Name "super" p0) [] [] p1) "__init__" (ksEnv qual sc L fI (.ref cda) cc) (eval (.Call (.Name "super" p0) [] [] p1) (ksEnv qual sc L fI (.ref cda) cc))
      standAt p2.atName
      let (g, fst) ← holding [sv] (getMethod sv "__init__" (pl L))
      callWith p3 g fst (backTo p3 (starEach (.Name v q1 :: []) (ksEnv qual sc L fI (.ref cda) cc))) [])) :
    ErrC P w K mg base c [f] :=
  ⟨by simp, by show 1 ≤ 900; omega, C, fI, _, ["self", v], hm, O, iC, tI, errF1 O lk hcd S hp h0 hcode hvs hfile hcell hsup htop hth hsi hve hmr hno hd hd2 hev, .all fun us h => hb us h⟩
theorem errF2 (O : OexC K C) 
    (lk : K.lookup fI = some ⟨oc, od, .func (ksFn "__init__" qual params [.Expr (.Call (.Attribute (.Call (.Name "super" p0) [] [] p1) "__init__" p2) [.Name v q1, .Name u q6] [] p3) p4, .Assign [.Attribute (.Name "self" q2) f q3] (.Name v q4) q5, .Assign [.Attribute (.Name "self" q7) g q8] (.Name u q9) q10] sc .none kV doc pm an (.ref cda) ct cc), osl⟩)
    (hcd : codeIn K (.ref cda) qual = true) (S : SupScope ["self", v, u] ["self", v, u] sc) (hp : (params.posonlyargs ++ params.args).head? = some ar) (h0 : ar.arg = "self")
    (hcode : K.lookup cda = some ⟨ccl, cdd, .fields vs2, ccs⟩) (hvs : vs2[2]? = some (.str file tf)) (hfile : ((P.main.file : Str) == file) = true) (hcell : K.lookup cc = some ⟨ocl, cld, .cell (some (.ref C)), csl⟩) (hsup : mg "super" = none)
    (htop : (P.main.scope.names.lookup ("super" : Str)).isSome = false) (hth : nsIn K cStatics "thirdparty.any" = some none) (hsi : ks_superIn K C C "__init__" = some (some (.builtin "ValueError.__init__"))) (hve : subIn K (.ref C) (.type "ValueError") = some true)
    (hmr : mroIn K C (.ref C) = some true) (hno : findIn K (.ref C) f = some none) (hno2 : findIn K (.ref C) g = some none) (hfg : f ≠ g) (hd3 : (u == ("__debug__" : Str)) = false) (hd4 : (u == ("__classdict__" : Str)) = false) (hd : (v == ("__debug__" : Str)) = false) (hd2 : (v == ("__classdict__" : Str)) = false)
    {pl : Addr → Sem Bool} (hev : ∀ L : Addr, eval (.Call (.Attribute (.Call (.Name "super" p0) [] [] p1) "__init__" p2) (.Name v q1 :: [.Name u q6]) [] p3) (ksEnv qual sc L fI (.ref cda) cc) = (do
      let sv ← attributeBase (.Call (.Name "super" p0) [] [] p1) "__init__" (ksEnv qual sc L fI (.ref cda) cc) (eval (.Call (.Name "super" p0) [] [] p1) (ksEnv qual sc L fI (.ref cda) cc))
      standAt p2.atName
      let (g, fst) ← holding [sv] (getMethod sv "__init__" (pl L))
      callWith p3 g fst (backTo p3 (starEach (.Name v q1 :: [.Name u q6]) (ksEnv qual sc L fI (.ref cda) cc))) [])) :
    FnOk P w K mg base CX0 1 fI (ksFn "__init__" qual params [.Expr (.Call (.Attribute (.Call (.Name "super" p0) [] [] p1) "__init__" p2) [.Name v q1, .Name u q6] [] p3) p4, .Assign [.Attribute (.Name "self" q2) f q3] (.Name v q4) q5, .Assign [.Attribute (.Name "self" q7) g q8] (.Name u q9) q10] sc .none kV doc pm an (.ref cda) ct cc) ["self", v, u] (spI C [f, g]) := by
  have hD : ∃ cdD, clsIn K C = some cdD := by
    unfold mroIn at hmr
    cases h : clsIn K C with
    | none => rw [h] at hmr; cases hmr
    | some cd => exact ⟨cd, rfl⟩
  obtain ⟨cdD, hD⟩ := hD
  refine sup_fn (N := ["self", v, u]) (k := 0) (Dc := C) lk hcd S (fun vs H Q E h => ?_) hp (by rw [h0]; rfl) hcode hvs hfile hcell hD hsup htop hth (fun L => rfl) (fun L => rfl) (fun L => rfl) hev fun A outer s H vs Q E hr h => ?_
  · obtain ⟨a, ys, rfl, h1, _⟩ := h
    simp [h1]
  · obtain ⟨a, ys, rfl, h1, h2, h3⟩ := h
    obtain ⟨y, z, rfl⟩ : ∃ y z, ys = [y, z] := by
      rcases ys with _ | ⟨y, _ | ⟨z, _ | ⟨_, _⟩⟩⟩ <;> first | exact ⟨_, _, rfl⟩ | simp at h1
    have s0 : PE (cxS CX0 P w K mg base ["self", v, u] qual sc fI (.ref cda) cc A outer s H E) (.Name "self" q2) (tVar 0) := pe_var rfl (.inl (S.par _ (by simp)))
    have s0' : PE (cxS CX0 P w K mg base ["self", v, u] qual sc fI (.ref cda) cc A outer s H E) (.Name "self" q7) (tVar 0) := pe_var rfl (.inl (S.par _ (by simp)))
    have s1 : ∀ q, PE (cxS CX0 P w K mg base ["self", v, u] qual sc fI (.ref cda) cc A outer s H E) (.Name v q) (tVar 1) := fun q => pe_var rfl (.inl (S.par _ (by simp))) hd hd2
    have s2 : ∀ q, PE (cxS CX0 P w K mg base ["self", v, u] qual sc fI (.ref cda) cc A outer s H E) (.Name u q) (tVar 2) := fun q => pe_var rfl (.inl (S.par _ (by simp))) hd3 hd4
    refine ⟨_, _, a, C, [y, z], pa_cons (s1 _) (pa_cons (s2 _) pa_nil), pss_cons (ps_ost s0 (s1 _)) (pss_one (ps_ost s0' (s2 _))), rfl, O, hsi, hve, hmr, h2, ?_⟩
    refine ⟨y, rfl, z, rfl, ?_, h2, ?_⟩
    · simp
    · refine ⟨y, rfl, .ref a, rfl, a, C, rfl, O, hno, .inl ⟨h2, fun dx n ne => ?_⟩⟩
      refine ⟨z, rfl, .ref a, rfl, a, C, rfl, O, hno2, .inr ⟨dx, [(f, y)], upd_same, by rw [upd_ne ne, upd_same], by simp, ?_⟩⟩
      exact h3 dx _ n ne (by rw [upd_ne (Ne.symm ne), upd_same]) (by rw [upd_same]; rfl) fun b b1 b2 => by rw [upd_ne b2, upd_ne b1, upd_ne b2]
theorem errC2 (hm : mg c = some (.ref C)) (O : OexC K C) (iC : findIn K (.ref C) "__init__" = some (some (.ref fI))) (tI : typeIn K (.ref fI) = some (.type "function"))
    (lk : K.lookup fI = some ⟨oc, od, .func (ksFn "__init__" qual params [.Expr (.Call (.Attribute (.Call (.Name "super" p0) [] [] p1) "__init__" p2) [.Name v q1, .Name u q6] [] p3) p4, .Assign [.Attribute (.Name "self" q2) f q3] (.Name v q4) q5, .Assign [.Attribute (.Name "self" q7) g q8] (.Name u q9) q10] sc .none kV doc pm an (.ref cda) ct cc), osl⟩)
    (hcd : codeIn K (.ref cda) qual = true) (S : SupScope ["self", v, u] ["self", v, u] sc) (hp : (params.posonlyargs ++ params.args).head? = some ar) (h0 : ar.arg = "self")
    (hcode : K.lookup cda = some ⟨ccl, cdd, .fields vs2, ccs⟩) (hvs : vs2[2]? = some (.str file tf)) (hfile : ((P.main.file : Str) == file) = true) (hcell : K.lookup cc = some ⟨ocl, cld, .cell (some (.ref C)), csl⟩) (hsup : mg "super" = none)
    (htop : (P.main.scope.names.lookup ("super" : Str)).isSome = false) (hth : nsIn K cStatics "thirdparty.any" = some none) (hsi : ks_superIn K C C "__init__" = some (some (.builtin "ValueError.__init__"))) (hve : subIn K (.ref C) (.type "ValueError") = some true)
    (hmr : mroIn K C (.ref C) = some true) (hno : findIn K (.ref C) f = some none) (hno2 : findIn K (.ref C) g = some none) (hfg : f ≠ g) (hd3 : (u == ("__debug__" : Str)) = false) (hd4 : (u == ("__classdict__" : Str)) = false) (hd : (v == ("__debug__" : Str)) = false) (hd2 : (v == ("__classdict__" : Str)) = false)
    (hb : ∀ us : List Value, us.length = 3 → bindArgs (ksFn "__init__" qual params [.Expr (.Call (.Attribute (.Call (.Name "super" p0) [] [] p1) "__init__" p2) [.Name v q1, .Name u q6] [] p3) p4, .Assign [.Attribute (.Name "self" q2) f q3] (.Name v q4) q5, .Assign [.Attribute (.Name "self" q7) g q8] (.Name u q9) q10] sc .none kV doc pm an (.ref cda) ct cc) ⟨us, []⟩ = pure ((["self", v, u] : List Str).zip us))
    {pl : Addr → Sem Bool} (hev : ∀ L : Addr, eval (.Call (.Attribute (.Call (.Name "super" p0) [] [] p1) "__init__" p2) (.Name v q1 :: [.Name u q6]) [] p3) (ksEnv qual sc L fI (.ref cda) cc) = (do
      let sv ← attributeBase (.Call (.Name "super" p0) [] [] p1) "__init__" (ksEnv qual sc L fI (.ref cda) cc) (eval (.Call (.Name "super" p0) [] [] p1) (ksEnv qual sc L fI (.ref cda) cc))
      standAt p2.atName
      let (g, fst) ← holding [sv] (getMethod sv "__init__" (pl L))
      callWith p3 g fst (backTo p3 (starEach (.Name v q1 :: [.Name u q6]) (ksEnv qual sc L fI (.ref cda) cc))) [])) :
    ErrC P w K mg base c [f, g] :=
  ⟨by simp [hfg], by show 2 ≤ 900; omega, C, fI, _, ["self", v, u], hm, O, iC, tI, errF2 O lk hcd S hp h0 hcode hvs hfile hcell hsup htop hth hsi hve hmr hno hno2 hfg hd3 hd4 hd hd2 hev, .all fun us h => hb us h⟩
end
end DL
namespace DL
open PySem L2
section
variable {X : Cx} {np : Nat} {e o ix : Expr} {m mi : M D} {pos pos' : Pos}
def sPut (i : Nat) (mi m : M D) : S := fun ρ => match m ρ with
  | .ok d ρ1 => (match ρ1[i]? with
    | some (.own _) => (match mi ρ1 with
      | .ok (.int k) ρ2 => (match ρ2[i]? with
        | some (.own l) => (match ixN l.length k with
          | some j => .nx (ρ2.set i (.own (l.set j d)))
          | none => .bad)
        | _ => .bad)
      | .exc er ρ2 => .exc er ρ2
      | _ => .bad)
    | _ => .bad)
  | .exc er ρ1 => .exc er ρ1
  | .bad => .bad
theorem ds_put {i : Nat} (ho : PE X o (tVar i)) (hix : DE X ix mi) (h : DE X e m) (hp : ∀ ti : TE, PE X ix ti → PG X (.Subscript o ix pos') (gSub (tVar i) ti rSetL)) (hs : swapsWithSole [.Subscript o ix pos'] e pos.line X.env = pure false := by rfl)
    (hw : swappedStores [.Subscript o ix pos'] e X.env = pure none := by rfl) (h1 : (assignEach [.Subscript o ix pos'] X.env).map (·.2) = [assign (.Subscript o ix pos') X.env] := by rfl) : DS X np (.Assign [.Subscript o ix pos'] e pos) (sPut i mi m) := fun W tk =>
  ps_imp (ps_asg (h W tk) (hp _ (hix W tk)) hs hw h1) fun E σ H q => by
    obtain ⟨w, A, ρ, hn, R, q⟩ := tS_iff.mp q
    refine ⟨w, A, ρ, R, ?_⟩
    unfold sPut at q
    cases hm : m ρ with
    | bad => rw [hm] at q; exact q.elim
    | exc er ρ1 => rw [hm] at q; exact fun c dd H' ex R' z => q A σ H' c dd ex.off R' z
    | ok d ρ1 =>
      rw [hm] at q
      dsimp only at q
      intro v H1 ex1 R1 r1
      cases hs1 : ρ1[i]? with
      | none => rw [hs1] at q; exact q.elim
      | some s1 =>
        rw [hs1] at q
        cases s1 with
        | own l1 =>
          dsimp only at q
          obtain ⟨u, hu⟩ := R1.has hs1 rfl
          refine ⟨u, hu, w, A, ρ1, R1, ?_⟩
          cases hk : mi ρ1 with
          | bad => rw [hk] at q; exact q.elim
          | exc er ρ2 => rw [hk] at q; exact fun c dd H' ex R' z => q A σ H' c dd (ex1.trans ex).off R' z
          | ok kd ρ2 =>
            rw [hk] at q
            intro iv H2 ex2 R2 r2
            cases kd with
            | int k =>
              dsimp only at q
              cases hs2 : ρ2[i]? with
              | none => rw [hs2] at q; exact q.elim
              | some s2 =>
                rw [hs2] at q
                cases s2 with
                | own l =>
                  dsimp only at q
                  cases hj : ixN l.length k with
                  | none => rw [hj] at q; exact q.elim
                  | some j =>
                    rw [hj] at q
                    obtain ⟨p, vs, e1, hA, hh, rr⟩ := R2.slots i _ _ hs2 hu
                    cases e1
                    have rd : Rep X.K X.mg (off A H2) d v := r1.mono ex2.off
                    have R3 := (R2.put (vs := vs) (vs' := vs.set j v) (l' := l.set j d) hs2 hu (rr.set j rd)).2
                    refine ⟨p, vs, k, j, rfl, r2, hh, by rw [← rr.length]; exact hj, ?_⟩
                    refine q A σ _ ?_ R3
                    rw [off_in hA]
                    exact (ex1.trans ex2).off
                | _ => exact q.elim
            | _ => exact q.elim
        | _ => exact q.elim
end
end DL
namespace DL
open PySem L2
def Slot.isEx : Slot → Bool
  | .ex _ => true
  | _ => false
def noEx (ρ : Ev) : Bool := ρ.all fun s => !s.isEx
/-- all but the i-th -/
def noExBut (i : Nat) (ρ : Ev) : Bool := noEx (ρ.set i .no)
section
variable {K : PySem.W.Frag} {mg : Str → Option Value} {w : Wd} {A : List Addr} {ρ : Ev} {σ : L2.St} {H : Hp}
theorem noEx_at {ρ : Ev} (h : noEx ρ = true) {j : Nat} {s : Slot} (hj : ρ[j]? = some s) : s.isEx = false := by
  have := List.all_eq_true.mp h s (List.mem_of_getElem? hj)
  simpa using this
theorem SlotR.xx {xx xx' : Addr × Option Addr × Value} : ∀ {s : Slot} {o : Option V}, s.isEx = false → SlotR K mg xx A H s o → SlotR K mg xx' A H s o
  | .no, _, _, _ => trivial
  | .val _, _, _, h => h
  | .own _, _, _, h => h
  | .dic _ _, _, _, h => h
  | .inst _ _ _, _, _, h => h
  | .ex _, _, e, _ => by cases e
/-- the i-th name holds another thing, none of one's own; another error may be the caught one -/
theorem SR.reslot {i : Nat} {s0 t : Slot} {o : Option V} {y : Addr × Option Addr × Value} (R : SR K mg w A ρ σ H) (h : ρ[i]? = some s0) (ho : s0.isOwn = false) (ht : t.isOwn = false) (ne : noExBut i ρ = true) (r : SlotR K mg y A H t o) :
    SR K mg { w with xx := y } A (ρ.set i t) (σ.set i o) H := by
  have li : i < ρ.length := (List.getElem?_eq_some_iff.mp h).1
  have oth : ∀ {j : Nat} {s : Slot}, (ρ.set i t)[j]? = some s → s.isOwn = true → j ≠ i ∧ ρ[j]? = some s := fun {j s} h1 o1 => by
    by_cases hj : j = i
    · subst hj
      rw [List.getElem?_set_self li] at h1
      cases h1
      rw [ht] at o1
      cases o1
    · rw [List.getElem?_set_ne (Ne.symm hj)] at h1
      exact ⟨hj, h1⟩
  refine { len := by rw [List.length_set, List.length_set, R.len], slots := fun j s o' h1 h2 => ?_, dist := fun j k s u a h1 h2 o1 o2 e1 e2 => ?_, sub := R.sub, trk := R.trk, frame := R.frame, mine := fun j s a h1 o1 e1 => ?_, opB := R.opB, par := fun p hp => ?_ }
  · by_cases hj : j = i
    · subst hj
      rw [List.getElem?_set_self li] at h1
      rw [List.getElem?_set_self (by rw [← R.len]; exact li)] at h2
      cases h1; cases h2
      exact r
    · have nx : s.isEx = false := noEx_at ne (j := j) (s := s) (by rw [List.getElem?_set_ne (Ne.symm hj)] at h1 ⊢; exact h1)
      rw [List.getElem?_set_ne (Ne.symm hj)] at h1 h2
      exact (R.slots j s o' h1 h2).xx nx
  · obtain ⟨n1, g1⟩ := oth h1 o1
    obtain ⟨n2, g2⟩ := oth h2 o2
    rw [List.getElem?_set_ne (Ne.symm n1)] at e1
    rw [List.getElem?_set_ne (Ne.symm n2)] at e2
    exact R.dist j k s u a g1 g2 o1 o2 e1 e2
  · obtain ⟨n1, g1⟩ := oth h1 o1
    rw [List.getElem?_set_ne (Ne.symm n1)] at e1
    exact R.mine j s a g1 o1 e1
  · obtain ⟨p1, p2, s, p3, p4⟩ := R.par p hp
    have n1 : p.1 ≠ i := fun z => by
      rw [z, h] at p3
      cases p3
      rw [ho] at p4
      cases p4
    exact ⟨p1, by rw [List.getElem?_set_ne (Ne.symm n1)]; exact p2, s, by rw [List.getElem?_set_ne (Ne.symm n1)]; exact p3, p4⟩
end
/-- try: body; except .. as the i-th name: suite. known: the classes that may come; tbl: which are caught -/
def sTry (known : List Str) (tbl : Str → Bool) (i : Nat) (body suite : S) : S := fun ρ => match body ρ with
  | .exc e ρ1 => if known.contains e.c then (if tbl e.c then (match ρ1[i]? with
    | some s0 => if s0.isOwn = false ∧ noExBut i ρ1 = true then (match suite (ρ1.set i (.ex e)) with
      | .nx ρ2 => (match ρ2[i]? with
        | some s2 => if s2.isOwn = false ∧ noExBut i ρ2 = true then .nx (ρ2.set i .no) else .bad
        | none => .bad)
      | .rt d ρ2 => (match ρ2[i]? with
        | some s2 => if s2.isOwn = false ∧ noExBut i ρ2 = true then .rt d (ρ2.set i .no) else .bad
        | none => .bad)
      | .bk ρ2 => (match ρ2[i]? with
        | some s2 => if s2.isOwn = false ∧ noExBut i ρ2 = true then .bk (ρ2.set i .no) else .bad
        | none => .bad)
      | .ct ρ2 => (match ρ2[i]? with
        | some s2 => if s2.isOwn = false ∧ noExBut i ρ2 = true then .ct (ρ2.set i .no) else .bad
        | none => .bad)
      | _ => .bad) else .bad
    | none => .bad) else .exc e ρ1) else .bad
  | o => o
section
variable {X : Cx} {x n : Str} {c : Value} {i np : Nat} {body suite : List Stmt} {b0 : Stmt} {npp pos pos' : Pos} {sb ss : S} {known : List Str} {tbl : Str → Bool}
theorem ds_try_as (hc0 : X.calm = true) (hs : X.stack = X.env :: X.outer) (hf : X.env.frame = some X.env.locals) (hN : X.N.Nodup) (hi : X.N[i]? = some n) (hln : X.env.kindOf n = some .local) (hc : Names X x c)
    (htb : ∀ e ∈ known, ∀ C, X.mg e = some (.ref C) → PySem.W.exmOne X.K (.ref C) c = some (tbl e))
    (hb : ∀ (pn : List (Addr × Obj)) (xe : Value → Shared → Prop), PassesOwn (model X.prog X.w) X.A X.env xe → DSs (X.tr pn xe) np body sb)
    (hsu : ∀ (a : Addr) (oe : Obj) (cls : Value) (d : Option Addr) (pn : List (Addr × Obj)), Zc cls d oe → (∃ vs, oe.data = .fields vs) → DSs (X.suite a ((a, oe) :: pn)) np (b0 :: suite) ss) :
    DS X np (.Try body [.ExceptHandler (some (.Name x npp)) (some n) (b0 :: suite) pos'] [] [] pos) (sTry known tbl i sb ss) := fun W tk => by
  refine ps_imp (ps_try_as (i := i) (c := c) (Wout := W.x) (tb := fun W1 => tS X.K X.mg np ⟨W1, W.Z⟩ sb) (ts := fun a cls d => tS X.K X.mg np ⟨fun _ _ _ _ => False, fun w => w.xx = (a, d, cls)⟩ ss) hs hf hN hi hln hc tk.t
    (fun W1 pn xe t1 p1 => hb pn xe p1 ⟨W1, W.Z⟩ ⟨t1, fun h => ?_⟩) (fun a oe cls d pn hz hv => hsu a oe cls d pn hz hv ⟨fun _ _ _ _ => False, fun w => w.xx = (a, d, cls)⟩ ⟨?_, fun _ w hw => ?_⟩)) fun E σ H q => ?_
  · have z : X.calm = false := h
    rw [hc0] at z
    cases z
  · exact takes0
  · exact ⟨oe, by rw [hw]; rfl, by rw [hw]; exact hz.1, by rw [hw]; exact hz.2⟩
  · obtain ⟨w, A, ρ, hn, R, q⟩ := tS_iff.mp q
    refine tS_iff.mpr ⟨⟨w.1, w.2⟩, A, ρ, hn, R, ?_⟩
    unfold sTry at q
    cases hb0 : sb ρ with
    | nx ρ1 => rw [hb0] at q; exact q
    | rt d ρ1 => rw [hb0] at q; exact q
    | bk ρ1 => rw [hb0] at q; exact q
    | ct ρ1 => rw [hb0] at q; exact q
    | bad => rw [hb0] at q; exact q
    | exc e ρ1 =>
      rw [hb0] at q
      dsimp only at q
      intro A1 σ1 H1 cl dd sm1 R1 x1
      have x1' := x1
      obtain ⟨C, e1, mC, _⟩ := x1'
      by_cases hk : known.contains e.c = true
      · rw [if_pos hk] at q
        refine ⟨tbl e.c, by rw [e1]; exact htb e.c (by simpa using hk) C mC, fun hy a ha => ?_, fun hno => ?_⟩
        · rw [if_pos hy] at q
          cases h0 : ρ1[i]? with
          | none => rw [h0] at q; exact q.elim
          | some s0 =>
            rw [h0] at q
            dsimp only at q
            by_cases hg : s0.isOwn = false ∧ noExBut i ρ1 = true
            · rw [if_pos hg] at q
              have R2 : SR X.K X.mg { w.1 with xx := (a, dd, cl) } A1 (ρ1.set i (.ex e)) (σ1.set i (some (.ref a))) H1 := R1.reslot h0 hg.1 rfl hg.2 ⟨rfl, x1⟩
              refine tS_iff.mpr ⟨⟨{ w.1 with xx := (a, dd, cl) }, rfl⟩, A1, _, hn, R2, ?_⟩
              have back : ∀ {A2 : List Addr} {ρ2 : Ev} {σ2 : L2.St} {H2 : Hp} {s2 : Slot}, SR X.K X.mg { w.1 with xx := (a, dd, cl) } A2 ρ2 σ2 H2 → ρ2[i]? = some s2 → s2.isOwn = false → noExBut i ρ2 = true → SR X.K X.mg w.1 A2 (ρ2.set i .no) (σ2.set i none) H2 :=
                fun r h1 h2 h3 => r.reslot (y := w.1.xx) h1 h2 rfl h3 trivial
              cases hss : ss (ρ1.set i (.ex e)) with
              | nx ρ2 =>
                rw [hss] at q
                dsimp only at q
                cases h2 : ρ2[i]? with
                | none => rw [h2] at q; exact q.elim
                | some s2 =>
                  rw [h2] at q
                  dsimp only at q
                  by_cases hg2 : s2.isOwn = false ∧ noExBut i ρ2 = true
                  · rw [if_pos hg2] at q
                    exact fun A2 σ2 H2 sm2 r2 => q A2 _ H2 (sm1.trans sm2) (back r2 h2 hg2.1 hg2.2)
                  · rw [if_neg hg2] at q; exact q.elim
              | rt d ρ2 =>
                rw [hss] at q
                dsimp only at q
                cases h2 : ρ2[i]? with
                | none => rw [h2] at q; exact q.elim
                | some s2 =>
                  rw [h2] at q
                  dsimp only at q
                  by_cases hg2 : s2.isOwn = false ∧ noExBut i ρ2 = true
                  · rw [if_pos hg2] at q
                    exact fun A2 σ2 H2 v r2 rv => q A2 _ H2 v (back r2 h2 hg2.1 hg2.2) rv
                  · rw [if_neg hg2] at q; exact q.elim
              | bk ρ2 =>
                rw [hss] at q
                dsimp only at q
                cases h2 : ρ2[i]? with
                | none => rw [h2] at q; exact q.elim
                | some s2 =>
                  rw [h2] at q
                  dsimp only at q
                  by_cases hg2 : s2.isOwn = false ∧ noExBut i ρ2 = true
                  · rw [if_pos hg2] at q
                    exact fun A2 σ2 H2 sm2 r2 => q A2 _ H2 (sm1.trans sm2) (back r2 h2 hg2.1 hg2.2)
                  · rw [if_neg hg2] at q; exact q.elim
              | ct ρ2 =>
                rw [hss] at q
                dsimp only at q
                cases h2 : ρ2[i]? with
                | none => rw [h2] at q; exact q.elim
                | some s2 =>
                  rw [h2] at q
                  dsimp only at q
                  by_cases hg2 : s2.isOwn = false ∧ noExBut i ρ2 = true
                  · rw [if_pos hg2] at q
                    exact fun A2 σ2 H2 sm2 r2 => q A2 _ H2 (sm1.trans sm2) (back r2 h2 hg2.1 hg2.2)
                  · rw [if_neg hg2] at q; exact q.elim
              | exc e2 ρ2 => rw [hss] at q; exact q.elim
              | bad => rw [hss] at q; exact q.elim
            · rw [if_neg hg] at q; exact q.elim
        · rw [if_neg (by rw [hno]; decide)] at q
          exact q A1 σ1 H1 cl dd sm1 R1 x1
      · rw [if_neg hk] at q; exact q.elim
def exF (i : Nat) (c f : Str) : M D := fun ρ => match ρ[i]? with
  | some (.ex e) => if e.c = c then (match (e.ns.zip e.l).lookup f with
    | some d => .ok d ρ
    | none => .bad) else .bad
  | _ => .bad
theorem zip_lookI {f : Str} {d : D} : ∀ {ns : List Str} {l : List D}, (ns.zip l).lookup f = some d → ∃ j : Nat, ns[j]? = some f ∧ l[j]? = some d
  | [], _, h => by simp at h
  | _ :: _, [], h => by simp at h
  | n :: ns, x :: l, h => by
    rw [List.zip_cons_cons] at h
    by_cases e : f = n
    · subst e
      simp [List.lookup] at h
      exact ⟨0, rfl, by simp [h]⟩
    · have e' : (f == n) = false := by simpa using e
      simp only [List.lookup, e'] at h
      obtain ⟨j, h1, h2⟩ := zip_lookI h
      exact ⟨j + 1, by simpa using h1, by simpa using h2⟩
theorem de_xf {a C : Addr} {oe : Obj} {cls : Value} {d : Option Addr} {pn : List (Addr × Obj)} {e : Expr} {nm f : Str} (T : XfC X.K C) (hno : PySem.W.findIn X.K (.ref C) f = some none) (hm : X.mg nm = some (.ref C)) (hz : Zc cls d oe) (hv : ∃ vs, oe.data = .fields vs)
    (ho : PE (X.suite a ((a, oe) :: pn)) e (tVar i)) (hb : attributeBase e f X.env (eval e X.env) = eval e X.env := by rfl) : DE (X.suite a ((a, oe) :: pn)) (.Attribute e f pos) (exF i nm f) := fun W tk => pe_imp (pe_xf T hno hz hv ho hb) fun σ H Q ⟨w, A, ρ, R, q⟩ => by
  unfold exF at q
  cases hs : ρ[i]? with
  | none => rw [hs] at q; exact q.elim
  | some s0 =>
    rw [hs] at q
    cases s0 with
    | ex er =>
      dsimp only at q
      by_cases hc : er.c = nm
      · rw [if_pos hc] at q
        cases hl : (er.ns.zip er.l).lookup f with
        | none => rw [hl] at q; exact q.elim
        | some dv =>
          rw [hl] at q
          obtain ⟨o, ho', so, C', e1, e2, z⟩ := R.at' hs
          obtain ⟨oe', g1, g2, g3⟩ := tk.z rfl w.1 w.2
          obtain ⟨ga, go⟩ : a = w.1.xx.1 ∧ oe = oe' := by
            have g1' : some (a, oe) = some (w.1.xx.1, oe') := g1
            cases g1'
            exact ⟨rfl, rfl⟩
          subst go
          obtain ⟨j, j1, j2⟩ := zip_lookI hl
          refine ⟨.ref a, by rw [ho', so, ga], rfl, ?_, ?_⟩
          · rw [← hz.1, g2, e1]
            have m2 : X.mg er.c = some (.ref C') := e2
            rw [hc, hm] at m2
            cases m2
            rfl
          · rcases z with z | ⟨d', fs, y1, y2, y3, y4⟩
            · rw [z.1] at j1; simp at j1
            · obtain ⟨v, v1, v2⟩ := y4 j f dv j1 j2
              exact ⟨d', fs, v, by rw [← hz.2, g3, y1], y2, v1, q v H Ext.refl R v2⟩
      · rw [if_neg hc] at q; exact q.elim
    | _ => exact q.elim
end
end DL
namespace DL
open PySem L2
theorem un64 {k : Nat} {A : Around} (r : Room k A) : A.units + 64 < cLine := by have := r.un; omega
theorem un65 {k : Nat} {A : Around} (r : Room k A) : A.units + 65 < cLine := by have := r.un; omega
section
variable {X : Cx} {np : Nat} {e o a b : Expr} {m : M D} {as : List Arg} {pos pos' : Pos}
/-- a module's constant -/
theorem de_glob {x : Str} {d : D} {v : V} {u : Value} (hg : Gl X x) (hm : X.mg x = some u) (r : RelV v u) (hr : ∀ F, Rep X.K X.mg F d v) (hd : (x == ("__debug__" : Str)) = false := by decide) : DE X (.Name x pos) (M.ret d) := de_ret (pe_glob hg hm r hd) hr
theorem de_gint {x : Str} {i : Int} {tk : Tok} (hm : X.mg x = some (.int i tk)) (hg : Gl X x := by rfl) (hd : (x == ("__debug__" : Str)) = false := by decide) : DE X (.Name x pos) (M.ret (.int i)) := de_glob (v := .int i) hg hm ⟨tk, rfl⟩ (fun _ => rfl) hd
/-- a, b = e, e' -/
def sPar (i j : Nat) (as : List Arg) : S := fun ρ => match evs as ρ with
  | .ok xs ρ' => (match dvs xs with
    | some [d1, d2] => (match (gN i d1 ρ').bind (gN j d2) with
      | some ρ2 => .nx ρ2
      | none => .bad)
    | _ => .bad)
  | .exc er ρ' => .exc er ρ'
  | .bad => .bad
theorem gN_slot {i : Nat} {d : D} {ρ ρ1 : Ev} (h : gN i d ρ = some ρ1) : ∃ s, ρ[i]? = some s ∧ s.isOwn = false ∧ ρ1 = ρ.set i (.val d) := by
  unfold gN at h
  cases hs : ρ[i]? with
  | none => rw [hs] at h; cases h
  | some s =>
    rw [hs] at h
    cases ho : s.isOwn with
    | true => simp [ho] at h
    | false =>
      simp [ho] at h
      exact ⟨s, rfl, ho, h.symm⟩
theorem ds_par {i j : Nat} {x y : Str} {px py pt : Pos} {kt k2 pt2} (hc : X.calm = true) (hN : X.N.Nodup) (hi : X.N[i]? = some x) (hj : X.N[j]? = some y) (hij : i ≠ j) (hx : X.env.scope.names.lookup x = some .local) (hy : X.env.scope.names.lookup y = some .local) (ha : DA X [a, b] as)
    (hw : swappedStores [.Tuple [.Name x px, .Name y py] kt pt] (.Tuple [a, b] k2 pt2) X.env = pure (some [x, y]) := by rfl) (hs : swapsWithSole [.Tuple [.Name x px, .Name y py] kt pt] (.Tuple [a, b] k2 pt2) pos.line X.env = pure false := by rfl) :
    DS X np (.Assign [.Tuple [.Name x px, .Name y py] kt pt] (.Tuple [a, b] k2 pt2) pos) (sPar i j as) := fun W tk => ps_imp (ps_par hc hN hi hj hij hx hy (ha W tk) hw hs) fun E σ H q => by
  obtain ⟨w, A, ρ, hn, R, q⟩ := tS_iff.mp q
  refine ⟨w, A, ρ, R, ?_⟩
  unfold sPar at q
  cases hev : evs as ρ with
  | bad => rw [hev] at q; exact q.elim
  | exc er ρ1 => rw [hev] at q; exact fun c dd H' ex R' z => q A σ H' c dd ex.off R' z
  | ok xs ρ1 =>
    rw [hev] at q
    intro vs H1 ex R1 r1
    dsimp only at q
    cases hd : dvs xs with
    | none => rw [hd] at q; exact q.elim
    | some ds =>
      rw [hd] at q
      match ds, hd, q with
      | [d1, d2], hd, q =>
        dsimp only at q
        obtain ⟨v1, r', e1, rd1, v2, r'', e2, rd2, e3⟩ := dvs_rep r1 hd
        subst e1 e2
        rw [show r'' = [] from e3]
        cases hb : (gN i d1 ρ1).bind (gN j d2) with
        | none => rw [hb] at q; exact q.elim
        | some ρ3 =>
          rw [hb] at q
          obtain ⟨ρ2, g1, g2⟩ := Option.bind_eq_some_iff.mp hb
          obtain ⟨s1, k1, k2, rfl⟩ := gN_slot g1
          obtain ⟨s2, k3, k4, rfl⟩ := gN_slot g2
          exact ⟨v1, v2, rfl, q A _ H1 ex.off ((R1.set k1 k2 rd1).set k3 k4 rd2)⟩
      | [], hd, q => exact q.elim
      | [_], hd, q => exact q.elim
      | _ :: _ :: _ :: _, hd, q => exact q.elim
def putN (f : Str) : List Str → List Str
  | [] => [f]
  | n :: r => if n = f then f :: r else n :: putN f r
def putL {α : Type} (f : Str) (d : α) : List Str → List α → List α
  | [], _ => [d]
  | n :: r, x :: xs => if n = f then d :: xs else x :: putL f d r xs
  | _ :: _, [] => []
theorem put_zip {f : Str} {v : V} : ∀ {ns : List Str} {fvs : List V}, ns.length = fvs.length → putF f v (ns.zip fvs) = (putN f ns).zip (putL f v ns fvs) ∧ (putN f ns).length = (putL f v ns fvs).length
  | [], [], _ => ⟨rfl, rfl⟩
  | n :: r, x :: xs, h => by
    have h' : r.length = xs.length := by simpa using h
    rw [List.zip_cons_cons]
    unfold putF putN putL
    by_cases e : n = f
    · subst e; rw [if_pos rfl, if_pos rfl, if_pos rfl]; exact ⟨rfl, by simp [h']⟩
    · rw [if_neg e, if_neg e, if_neg e]
      obtain ⟨h1, h2⟩ := put_zip (f := f) (v := v) h'
      exact ⟨by rw [h1]; rfl, by simp [h2]⟩
theorem put_reps {K : PySem.W.Frag} {mg : Str → Option Value} {F : Hp} {f : Str} {d : D} {v : V} (hr : Rep K mg F d v) : ∀ {ns : List Str} {l : List D} {fvs : List V}, ns.length = fvs.length → Reps K mg F l fvs → Reps K mg F (putL f d ns l) (putL f v ns fvs)
  | [], _, _, _, _ => .cons hr .nil
  | n :: r, x :: l, fv :: fvs, h, ⟨u, us, e, r1, r2⟩ => by
    cases e
    unfold putL
    by_cases e : n = f
    · rw [if_pos e, if_pos e]; exact .cons hr r2
    · rw [if_neg e, if_neg e]; exact .cons r1 (put_reps hr (by simpa using h) r2)
  | n :: r, [], fvs, h, e => by rw [show fvs = [] from e] at h; simp at h
  | n :: r, x :: l, [], h, ⟨_, _, e, _⟩ => by cases e
def sFldSet (i : Nat) (c f : Str) (m : M D) : S := fun ρ => match m ρ with
  | .ok d ρ' => (match ρ'[i]? with
    | some (.inst c' ns l) => if c' = c ∧ ns.length < 1000 then .nx (ρ'.set i (.inst c (putN f ns) (putL f d ns l))) else .bad
    | _ => .bad)
  | .exc er ρ' => .exc er ρ'
  | .bad => .bad
theorem ds_fldset {i : Nat} {c f : Str} (ok : FldOk X.K X.mg c f) (ho : PE X o (tVar i)) (h : DE X e m) (hs : swapsWith e (some (.Attribute o f pos')) pos.line X.env = pure false := by rfl) : DS X np (.Assign [.Attribute o f pos'] e pos) (sFldSet i c f m) := fun W tk =>
  ps_imp (ps_fld ho (h W tk) hs) fun E σ H q => by
    obtain ⟨w, A, ρ, hn, R, q⟩ := tS_iff.mp q
    refine ⟨w, A, ρ, R, ?_⟩
    unfold sFldSet at q
    cases hm : m ρ with
    | bad => rw [hm] at q; exact q.elim
    | exc er ρ1 => rw [hm] at q; exact fun c dd H' ex R' z => q A σ H' c dd ex.off R' z
    | ok d ρ1 =>
      rw [hm] at q
      dsimp only at q
      intro v H1 ex1 R1 r1
      cases hs1 : ρ1[i]? with
      | none => rw [hs1] at q; exact q.elim
      | some s1 =>
        rw [hs1] at q
        cases s1 with
        | inst c' ns l =>
          dsimp only at q
          by_cases hc : c' = c ∧ ns.length < 1000
          · rw [if_pos hc] at q
            obtain ⟨hc, hlen⟩ := hc
            subst hc
            obtain ⟨ou, hu, p, C, dx, fvs, e1, hA, mC, hh, hl, rr⟩ := R1.at' hs1
            subst e1
            obtain ⟨K1, K2⟩ := ok C mC
            obtain ⟨z1, z2⟩ := put_zip (f := f) (v := v) hl
            have eo : off A (upd H1 p (.ins C dx (putF f v (ns.zip fvs)))) = off A H1 := off_in hA
            refine ⟨.ref p, hu, p, C, dx, _, rfl, hh, K1, K2, by simp; omega, q A σ _ (by rw [eo]; exact ex1.off) ?_⟩
            refine R1.upds (ps := [(i, _)]) (fun b u hb nb => ?_) fun j t hj => ?_
            · rw [upd_ne fun y => nb i _ List.mem_cons_self (by rw [y]; exact hu)]; exact hb
            · obtain ⟨rfl, rfl⟩ : j = i ∧ t = _ := by simpa using hj
              exact ⟨⟨_, hs1, rfl⟩, rfl, .ref p, hu, p, C, dx, _, rfl, hA, mC, by rw [upd_same, z1], z2, by rw [eo]; exact put_reps r1 hl rr⟩
          · rw [if_neg hc] at q; exact q.elim
        | _ => exact q.elim
end
end DL
namespace DL
open PySem L2
section
variable (P : Program) (w : World) (K : PySem.W.Frag) (mg : Str → Option Value) (base : Heap)
def DefOk (x : Str) (k : Nat) (φ : Fn) : Prop :=
  ∃ (f : Addr) (fd : FuncData) (ps : List Str), mg x = some (.ref f) ∧ PySem.W.keepIn K (.ref f) = true ∧ Binds K fd ps [] ∧ FnOk P w K mg base (L2.CX P w) k f fd ps (spD K mg φ)
def MethOk (c m : Str) (k : Nat) (φ : Fn) : Prop :=
  ∃ (C f : Addr) (fd : FuncData) (ps : List Str), mg c = some (.ref C) ∧ Cls K C ∧ Meth K C m f ∧ Binds K fd ps [] ∧ FnOk P w K mg base (L2.CX P w) k f fd ps (spD K mg φ)
def MakeOk (c : Str) (k : Nat) (φ : Fn) : Prop :=
  ∃ (C f : Addr) (fd : FuncData) (ps : List Str), mg c = some (.ref C) ∧ Mk K C f ∧ Binds K fd ps [] ∧ FnOk P w K mg base (L2.CX P w) k f fd ps (spD K mg φ)
end
section
variable {X : Cx} {k : Nat} {φ : Fn} {x m : Str} {p pos apos : Pos} {e o : Expr} {es : List Expr} {as : List Arg} {mo : M D}
theorem de_callD (D : DefOk X.prog X.w X.K X.mg X.base x k φ) (hr : Room k X.A) (ha : DA X (e :: es) as) (hg : Gl X x := by rfl) (hdb : (x == ("__debug__" : Str)) = false := by decide) (he : starEach (e :: es) X.env = (false, eval e X.env) :: starEach es X.env := by rfl)
    (hpl : (backTo pos (starEach es X.env)).any (·.1) = false := by rfl) : DE X (.Call (.Name x p) (e :: es) [] pos) (callF φ as) := by
  obtain ⟨f, fd, ps, hm, hk, hb, F⟩ := D
  exact de_call F hr hg hm hk hb ha hdb he hpl
theorem de_makeD (D : MakeOk X.prog X.w X.K X.mg X.base x k φ) (hr : Room (k + 1) X.A) (ha : DA X (e :: es) as) (hg : Gl X x := by rfl) (hdb : (x == ("__debug__" : Str)) = false := by decide) (he : starEach (e :: es) X.env = (false, eval e X.env) :: starEach es X.env := by rfl)
    (hpl : (backTo pos (starEach es X.env)).any (·.1) = false := by rfl) : DE X (.Call (.Name x p) (e :: es) [] pos) (makeF x φ as) := by
  obtain ⟨C, f, fd, ps, hC, M', hb, F⟩ := D
  exact de_make hC M' F hr hg hb ha hdb he hpl
theorem de_methD {c : Str} {pl : Sem Bool} (D : MethOk X.prog X.w X.K X.mg X.base c m k φ) (hr : Room k X.A) (ho : DE X o mo) (ha : DA X (e :: es) as) (hst : starEach (e :: es) X.env = (false, eval e X.env) :: starEach es X.env := by rfl) (hpl : (backTo pos (starEach es X.env)).any (·.1) = false := by rfl)
    (ht : eval (.Call (.Attribute o m apos) (e :: es) [] pos) X.env = (do
      let q ← eval o X.env
      standAt apos.atName
      let (g, fst) ← holding [q] (getMethod q m pl)
      callWith pos g fst (backTo pos (starEach (e :: es) X.env)) (backToKw pos (keywordEach [] X.env))) := by rfl) :
    DE X (.Call (.Attribute o m apos) (e :: es) [] pos) (methF c m φ mo as) := by
  obtain ⟨C, f, fd, ps, hC, hc, hm, hb, F⟩ := D
  exact de_meth hC hc hm F hr hb ho ha hst hpl ht
theorem de_methD0 {c : Str} {pl : Sem Bool} (D : MethOk X.prog X.w X.K X.mg X.base c m k φ) (hr : Room k X.A) (ho : DE X o mo)
    (ht : eval (.Call (.Attribute o m apos) [] [] pos) X.env = (do
      let q ← eval o X.env
      standAt apos.atName
      let (g, fst) ← holding [q] (getMethod q m pl)
      callWith pos g fst (backTo pos (starEach [] X.env)) (backToKw pos (keywordEach [] X.env))) := by rfl) :
    DE X (.Call (.Attribute o m apos) [] [] pos) (methF c m φ mo []) := by
  obtain ⟨C, f, fd, ps, hC, hc, hm, hb, F⟩ := D
  exact de_meth0 hC hc hm F hr hb ho ht
end
section
variable {P : Program} {w : World} {K : PySem.W.Frag} {mg : Str → Option Value} {base : Heap} {x c qual : Str} {st : Stmt} {f C : Addr} {fd : FuncData} {N ps : List Str} {k loc : Nat} {m : S}
theorem def_ok (F : Fun K x qual st f fd) (hm : mg x = some (.ref f)) (hb : Binds K fd ps []) (Sc : FnScope N ps (defScope st)) (hN : N.length = ps.length + loc)
    (hbody : ∀ (cdv : Value) (A : Around) (outer : List Env) (s : Shared) (H : Hp) (E : XK), Room k (A.deeper (PyProof.Rows.envOfC qual (defScope st) s.heap.objs.size f cdv)) →
      DSs (cxOf (L2.CX P w) P w K mg base N qual (defScope st) f cdv A outer s H E) ps.length (defBody st) m) : DefOk P w K mg base x (k + 1) (fnF ps.length loc m) :=
  ⟨f, fd, ps, hm, F.kp, hb, fn_ok F Sc hN hbody⟩
theorem meth_ok (F : Fun K x qual st f fd) (hC : mg c = some (.ref C)) (hc : Cls K C) (hm : Meth K C x f) (hb : Binds K fd ps []) (Sc : FnScope N ps (defScope st)) (hN : N.length = ps.length + loc)
    (hbody : ∀ (cdv : Value) (A : Around) (outer : List Env) (s : Shared) (H : Hp) (E : XK), Room k (A.deeper (PyProof.Rows.envOfC qual (defScope st) s.heap.objs.size f cdv)) →
      DSs (cxOf (L2.CX P w) P w K mg base N qual (defScope st) f cdv A outer s H E) ps.length (defBody st) m) : MethOk P w K mg base c x (k + 1) (fnF ps.length loc m) :=
  ⟨C, f, fd, ps, hC, hc, hm, hb, fn_ok F Sc hN hbody⟩
theorem make_ok (F : Fun K "__init__" qual st f fd) (hC : mg c = some (.ref C)) (hm : Mk K C f) (hb : Binds K fd ps []) (Sc : FnScope N ps (defScope st)) (hN : N.length = ps.length + loc)
    (hbody : ∀ (cdv : Value) (A : Around) (outer : List Env) (s : Shared) (H : Hp) (E : XK), Room k (A.deeper (PyProof.Rows.envOfC qual (defScope st) s.heap.objs.size f cdv)) →
      DSs (cxOf (L2.CX P w) P w K mg base N qual (defScope st) f cdv A outer s H E) ps.length (defBody st) m) : MakeOk P w K mg base c (k + 1) (fnF ps.length loc m) :=
  ⟨C, f, fd, ps, hC, hm, hb, fn_ok F Sc hN hbody⟩
theorem def_bad (F : Fun K x qual st f fd) (hm : mg x = some (.ref f)) (hb : Binds K fd ps []) : DefOk P w K mg base x k (fun _ => .bad) :=
  ⟨f, fd, ps, hm, F.kp, hb, ⟨fun vs H Q E h => by obtain ⟨B, as, a, q⟩ := h; exact q.elim, fun A outer s H args us vs Q E hr e0 hbi r h => by obtain ⟨B, as, a, q⟩ := h; exact q.elim⟩⟩
end
end DL
namespace DL
open PySem L2
abbrev addI : D → D → Option D := fun x y => match x, y with | .int i, .int j => some (.int (i + j)) | _, _ => none
theorem un64m {k : Nat} {A : Around} {v : Option Value} (r : Room k A) : (A.mark v).units + 64 < cLine := (show A.units + 64 < cLine from un64 r)
theorem un65m {k : Nat} {A : Around} {v : Option Value} (r : Room k A) : (A.mark v).units + 65 < cLine := (show A.units + 65 < cLine from un65 r)
theorem bt_int : bootBuiltins "int" = some (.type Ty.int.nm) := by decide +kernel
theorem bt_bool : bootBuiltins "bool" = some (.type Ty.bool.nm) := by decide +kernel
theorem bt_str : bootBuiltins "str" = some (.type Ty.str.nm) := by decide +kernel
theorem bt_list : bootBuiltins "list" = some (.type Ty.list.nm) := by decide +kernel
theorem bt_tuple : bootBuiltins "tuple" = some (.type Ty.tuple.nm) := by decide +kernel
section
variable {X : Cx}
theorem dgn (i : Nat) {x : Str} {pos : Pos} (hN : X.N.Nodup) (hi : X.N[i]? = some x := by rfl) (hx : Loc X.env.scope x := by first | exact Or.inl rfl | exact Or.inr rfl) (hf : X.fn x = true ∨ X.env.scope.names.lookup x = some .local := by first | exact .inl rfl | exact .inr rfl) : DG X (.Name x pos) [i] (gN i) :=
  dg_name (pg_name hN hi hx hf)
end
def isiC (c : Str) : D → Option D
  | .obj c' _ _ => if c' = c then some (.bl true) else none
  | d => d.tn.map fun _ => .bl false
structure InsF (K : PySem.W.Frag) (C : Addr) : Prop where
  cl : Cls K C
  ha : PySem.W.findIn K (.ref C) "__class__" = some (some (.builtin "object.__class__"))
  hn : PySem.W.specialIn K (.builtin "object.__class__") "__get__" = some (some (.builtin "getset_descriptor.__get__"))
  ht : PySem.W.takesIn K (.builtin "object.__class__") = some true
  hm : PySem.W.mroIn K C (.type "object") = some true
def tyNames : List String := ["NoneType", "bool", "int", "str", "list", "tuple"]
def IsCls (K : PySem.W.Frag) (mg : Str → Option Value) (c : Str) : Prop := ∃ C : Addr, mg c = some (.ref C) ∧ InsF K C ∧ tyNames.all (fun n => decide (PySem.W.kitOne K (.type n) (.ref C) = some false)) = true
section
variable {X : Cx} {a : Expr} {x : Arg} {p p2 pos : Pos}
theorem tn_mem {d : D} {n : String} (h : d.tn = some n) : n ∈ tyNames := by
  cases d <;> first | (cases (Option.some.inj h); decide) | cases h
theorem de_isiC {nm : Str} (hg : Gl X "isinstance") (hm : X.mg "isinstance" = none) (hg2 : Gl X nm) (T : IsCls X.K X.mg nm) (ha : DO X a x) (hdb : (nm == ("__debug__" : Str)) = false := by decide)
    (hs : starEach [a, .Name nm p2] X.env = (false, eval a X.env) :: starEach [.Name nm p2] X.env := by rfl) (hs2 : starEach [.Name nm p2] X.env = (false, eval (.Name nm p2) X.env) :: starEach [] X.env := by rfl)
    (hpl : (backTo pos (starEach [.Name nm p2] X.env)).any (·.1) = false := by rfl) : DE X (.Call (.Name "isinstance" p) [a, .Name nm p2] [] pos) (op1 (isiC nm) x) := by
  obtain ⟨C, mC, I, hk⟩ := T
  refine de_one (r := fun v H Q => rIsi X.K [v, .ref C] H Q) (fun ta h => pe_imp (pe_callB call_isi hg hm PyProof.Rows.boot_isinstance (pa_cons h (pa_cons (pe_glob (v := .ref C) hg2 mC rfl hdb) pa_nil hs2) hs) (he := hs) (hpl := hpl)) fun σ H Q q => q) ?_ ha
  intro A H d0 d v Q tk rx e q
  have no : ∀ n, d0.tn = some n → TyX X.K H v (.type n) → d = .bl false → rIsi X.K [v, .ref C] H Q := fun n hn ty e => by
    have k := of_decide_eq_true (List.all_eq_true.mp hk n (tn_mem hn))
    exact ⟨v, .ref C, .type n, .ref C, false, rfl, .own C, ty, k, q _ _ (Same.refl _) (by rw [e]; rfl)⟩
  cases d0 with
  | obj c' ns l =>
    have e : (if c' = nm then some (D.bl true) else none) = some d := e
    by_cases hc : c' = nm
    · rw [if_pos hc] at e
      cases (Option.some.inj e)
      obtain ⟨b, C', dx, fvs, rfl, m, hh, _⟩ := rx
      have m' : X.mg c' = some (.ref C') := m
      rw [hc, mC] at m'
      cases m'
      exact ⟨.ref b, .ref C, .ref C, .ref C, true, rfl, .own C, .base (.ins hh I.cl I.ha I.hn I.ht I.hm), by unfold PySem.W.kitOne; rw [if_pos (by simp)], q _ _ (Same.refl _) rfl⟩
    · rw [if_neg hc] at e; cases e
  | fn _ => cases e
  | non => cases (Option.some.inj e); exact no _ rfl (tyx_of rx rfl) rfl
  | bl _ => cases (Option.some.inj e); exact no _ rfl (tyx_of rx rfl) rfl
  | int _ => cases (Option.some.inj e); exact no _ rfl (tyx_of rx rfl) rfl
  | str _ => cases (Option.some.inj e); exact no _ rfl (tyx_of rx rfl) rfl
  | tup _ => cases (Option.some.inj e); exact no _ rfl (tyx_of rx rfl) rfl
  | lst _ => cases (Option.some.inj e); exact no _ rfl (tyx_of rx rfl) rfl
  | scr _ => cases (Option.some.inj e); exact no _ rfl (tyx_of rx rfl) rfl
end
/-- c is an error class that is caught with its fields fs; tbl: which of the known classes it catches -/
def ExcT (K : PySem.W.Frag) (mg : Str → Option Value) (known : List Str) (tbl : Str → Bool) (c : Str) (fs : List Str) : Prop :=
  ∃ C : Addr, mg c = some (.ref C) ∧ XfC K C ∧ (∀ f ∈ fs, PySem.W.findIn K (.ref C) f = some none) ∧ ∀ e ∈ known, ∀ C', mg e = some (.ref C') → PySem.W.exmOne K (.ref C') (.ref C) = some (tbl e)
section
variable {X : Cx} {x n : Str} {i np : Nat} {body suite : List Stmt} {b0 : Stmt} {npp pos pos' : Pos} {sb ss : S} {known : List Str} {tbl : Str → Bool} {fs : List Str}
theorem ds_tryT (T : ExcT X.K X.mg known tbl x fs) (hc0 : X.calm = true) (hs : X.stack = X.env :: X.outer) (hf : X.env.frame = some X.env.locals) (hN : X.N.Nodup) (hi : X.N[i]? = some n) (hln : X.env.kindOf n = some .local) (hg : Gl X x)
    (hb : ∀ (pn : List (Addr × Obj)) (xe : Value → Shared → Prop), PassesOwn (model X.prog X.w) X.A X.env xe → DSs (X.tr pn xe) np body sb)
    (hsu : ∀ (a : Addr) (oe : Obj) (cls : Value) (d : Option Addr) (pn : List (Addr × Obj)), Zc cls d oe → (∃ vs, oe.data = .fields vs) → DSs (X.suite a ((a, oe) :: pn)) np (b0 :: suite) ss) (hdb : (x == ("__debug__" : Str)) = false := by decide) :
    DS X np (.Try body [.ExceptHandler (some (.Name x npp)) (some n) (b0 :: suite) pos'] [] [] pos) (sTry known tbl i sb ss) := by
  obtain ⟨C, mC, _, _, h4⟩ := T
  exact ds_try_as (c := .ref C) hc0 hs hf hN hi hln ⟨hg, hdb, .inl mC⟩ h4 hb hsu
theorem de_xfT {a : Addr} {oe : Obj} {cls : Value} {d : Option Addr} {pn : List (Addr × Obj)} {e : Expr} {f : Str} (T : ExcT X.K X.mg known tbl x fs) (hff : f ∈ fs) (hz : Zc cls d oe) (hv : ∃ vs, oe.data = .fields vs)
    (ho : PE (X.suite a ((a, oe) :: pn)) e (tVar i)) (hb : attributeBase e f X.env (eval e X.env) = eval e X.env := by rfl) : DE (X.suite a ((a, oe) :: pn)) (.Attribute e f pos) (exF i x f) := by
  obtain ⟨C, mC, h2, h3, _⟩ := T
  exact de_xf h2 (h3 f hff) mC hz hv ho hb
end
end DL
namespace DL
open PySem L2
/-- what a name shall hold: a value, a new list of its own -/
inductive Y where
  | d (d : D) | o (l : List D)
section
variable {K : PySem.W.Frag} {mg : Str → Option Value} {w : Wd} {A A' : List Addr} {ρ ρ' : Ev} {σ σ' : L2.St} {H H' : Hp}
def YR (K : PySem.W.Frag) (mg : Str → Option Value) (w : Wd) (A : List Addr) (ρ : Ev) (σ : L2.St) (H : Hp) : Y → V → Prop
  | .d d, v => Rep K mg (off A H) d v
  | .o l, v => ∃ p vs, v = .ref p ∧ p ∈ A ∧ H p = some (.lst vs) ∧ Reps K mg (off A H) l vs ∧ (∀ (j : Nat) s, ρ[j]? = some s → s.isOwn = true → σ[j]? ≠ some (some (.ref p))) ∧ w.G p = none ∧ p ∉ w.B
inductive YRs (K : PySem.W.Frag) (mg : Str → Option Value) (w : Wd) (A : List Addr) (ρ : Ev) (σ : L2.St) (H : Hp) : List Y → List V → Prop
  | nil : YRs K mg w A ρ σ H [] []
  | cons {y v ys vs} : YR K mg w A ρ σ H y v → YRs K mg w A ρ σ H ys vs → (∀ l l' (k : Nat), y = .o l → ys[k]? = some (.o l') → vs[k]? ≠ some v) → YRs K mg w A ρ σ H (y :: ys) (v :: vs)
structure Grw (A : List Addr) (H : Hp) (A' : List Addr) (H' : Hp) : Prop where
  s : Same H H'
  f : Same (off A H) (off A' H')
  i : ∀ a ∈ A, a ∈ A'
theorem Grw.refl : Grw A H A H := ⟨Same.refl _, Same.refl _, fun _ h => h⟩
theorem Grw.trans {A2 : List Addr} {H2 : Hp} (a : Grw A H A' H') (b : Grw A' H' A2 H2) : Grw A H A2 H2 := ⟨a.s.trans b.s, a.f.trans b.f, fun x h => b.i x (a.i x h)⟩
theorem YR.grw (g : Grw A H A' H') : ∀ {y : Y} {v : V}, YR K mg w A ρ σ H y v → YR K mg w A' ρ σ H' y v
  | .d d, v, r => Rep.mono g.f d v r
  | .o l, v, ⟨p, vs, e, m, h, r, n1, n2, n3⟩ => ⟨p, vs, e, g.i p m, g.s _ _ h, r.mono g.f, n1, n2, n3⟩
def setAll : L2.St → List Nat → List V → L2.St
  | σ, i :: is, v :: vs => setAll (σ.set i (some v)) is vs
  | σ, _, _ => σ
def storeQ (np : Nat) : List Nat → List Y → Ev → Option Ev
  | [], [], ρ => some ρ
  | i :: is, .d d :: ys, ρ => (gN i d ρ).bind (storeQ np is ys)
  | i :: is, .o l :: ys, ρ => match ρ[i]? with
    | some _ => if np ≤ i then storeQ np is ys (ρ.set i (.own l)) else none
    | none => none
  | _, _, _ => none
theorem yrs_slot {i : Nat} {t : Slot} {u : V} : ∀ {ys : List Y} {vs : List V}, (t.isOwn = true → ∀ (k : Nat) l, ys[k]? = some (.o l) → vs[k]? ≠ some u) → YRs K mg w A ρ σ H ys vs → YRs K mg w A (ρ.set i t) (σ.set i (some u)) H ys vs
  | _, _, _, .nil => .nil
  | y :: ys, v :: vs, ht, .cons r t' d => by
    refine .cons ?_ (yrs_slot (fun o k l hk => by simpa using ht o (k + 1) l (by simpa using hk)) t') d
    cases y with
    | d x => exact r
    | o l =>
      obtain ⟨p, ws, e, m, h, rr, n1, n2, n3⟩ := r
      refine ⟨p, ws, e, m, h, rr, fun j s h1 o1 z => ?_, n2, n3⟩
      by_cases hj : j = i
      · subst hj
        by_cases lj : j < ρ.length
        · rw [List.getElem?_set_self lj] at h1
          cases h1
          by_cases ls : j < σ.length
          · rw [List.getElem?_set_self ls] at z
            cases z
            exact ht o1 0 l (by simp) (by simp [e])
          · rw [List.getElem?_eq_none (by simpa using ls)] at z; cases z
        · rw [List.getElem?_eq_none (by simpa using lj)] at h1; cases h1
      · rw [List.getElem?_set_ne (Ne.symm hj)] at h1 z
        exact n1 j s h1 o1 z
theorem store_all {np : Nat} (hn : w.np = np) : ∀ {is : List Nat} {ys : List Y} {vs : List V} {ρ ρ' : Ev} {σ : L2.St}, SR K mg w A ρ σ H → YRs K mg w A ρ σ H ys vs → storeQ np is ys ρ = some ρ' → SR K mg w A ρ' (setAll σ is vs) H
  | [], [], _, ρ, ρ', σ, R, .nil, e => by cases (Option.some.inj e); exact R
  | [], _ :: _, _, ρ, ρ', σ, R, _, e => by cases e
  | _ :: _, [], _, ρ, ρ', σ, R, _, e => by cases e
  | i :: is, .d d :: ys, v :: vs, ρ, ρ', σ, R, .cons r t di, e => by
    have e : (gN i d ρ).bind (storeQ np is ys) = some ρ' := e
    obtain ⟨ρ1, e1, e2⟩ := Option.bind_eq_some_iff.mp e
    obtain ⟨s, k1, k2, rfl⟩ := gN_slot e1
    show SR K mg w A ρ' (setAll (σ.set i (some v)) is vs) H
    exact store_all hn (R.set k1 k2 r) (yrs_slot (t := .val d) (fun o => Bool.noConfusion o) t) e2
  | i :: is, .o l :: ys, v :: vs, ρ, ρ', σ, R, .cons r t di, e => by
    have e : (match ρ[i]? with
      | some _ => if np ≤ i then storeQ np is ys (ρ.set i (.own l)) else none
      | none => none) = some ρ' := e
    cases hs : ρ[i]? with
    | none => rw [hs] at e; cases e
    | some s0 =>
      rw [hs] at e
      dsimp only at e
      by_cases hi : np ≤ i
      · rw [if_pos hi] at e
        obtain ⟨p, ws, rfl, m, h, rr, n1, n2, n3⟩ := r
        show SR K mg w A ρ' (setAll (σ.set i (some (.ref p))) is vs) H
        exact store_all hn (R.hold hs (by omega) h m rr n1 n2 n3) (yrs_slot (fun _ k l' hk => di l l' k rfl hk) t) e
      · rw [if_neg hi] at e; cases e
end
inductive QA where
  | k (d : D) | x (i : Nat) | n (ds : List D) | l (ds : List D)
def QA.ev (ρ : Ev) : QA → Option Y
  | .k d => some (.d d)
  | .x i => match ρ[i]? with
    | some (.val d) => some (.d d)
    | _ => none
  | .n ds => if ds.length ≤ sizeLine then some (.o ds) else none
  | .l ds => if ds.length ≤ sizeLine then some (.d (.lst ds)) else none
def evQ (ρ : Ev) : List QA → Option (List Y)
  | [] => some []
  | q :: qs => (q.ev ρ).bind fun y => (evQ ρ qs).map fun ys => y :: ys
/-- the reading of a quiet row -/
def tQ (K : PySem.W.Frag) (mg : Str → Option Value) (qs : List QA) : TA := fun σ H Q => ∃ w A ρ, SR K mg w A ρ σ H ∧ match evQ ρ qs with
  | some ys => ∀ vs A' H', Grw A H A' H' → SR K mg w A' ρ σ H' → YRs K mg w A' ρ σ H' ys vs → (∀ (k : Nat) l v, ys[k]? = some (.o l) → vs[k]? = some v → ∃ p, v = .ref p ∧ H p = none) → Q vs H'
  | none => False
def DQ (X : Cx) (es : List Expr) (qs : List QA) : Prop := PA X es (tQ X.K X.mg qs)
section
variable {X : Cx} {e : Expr} {es : List Expr} {qs : List QA} {pos : Pos}
theorem dq_nil : DQ X [] [] := pa_imp pa_nil fun σ H Q ⟨w, A, ρ, R, q⟩ => q [] A H .refl R .nil (fun k l v h => by simp at h)
/-- a value that is there -/
theorem dq_v {q : QA} {te : TE} {y : D} (he : PE X e te) (t : DQ X es qs) (hev : ∀ ρ y, q.ev ρ = some y → ∃ d, y = .d d)
    (hr : ∀ w A ρ σ H (Q : VK) d, SR X.K X.mg w A ρ σ H → q.ev ρ = some (.d d) → (∀ v, Rep X.K X.mg (off A H) d v → Q v H) → te σ H Q) (hs : starEach (e :: es) X.env = (false, eval e X.env) :: starEach es X.env := by rfl) : DQ X (e :: es) (q :: qs) :=
  pa_imp (pa_cons he t hs) fun σ H Q ⟨w, A, ρ, R, z⟩ => by
    have e0 : evQ ρ (q :: qs) = (q.ev ρ).bind fun y => (evQ ρ qs).map fun ys => y :: ys := rfl
    rw [e0] at z
    cases h1 : q.ev ρ with
    | none => rw [h1] at z; exact z.elim
    | some y =>
      rw [h1] at z
      obtain ⟨d, rfl⟩ := hev ρ y h1
      refine hr w A ρ σ H _ d R h1 fun v rv => ⟨w, A, ρ, R, ?_⟩
      cases h2 : evQ ρ qs with
      | none => rw [h2] at z; exact z.elim
      | some ys =>
        rw [h2] at z
        intro vs A' H' g R' rs fr
        refine z (v :: vs) A' H' g R' (.cons (Rep.mono g.f d v rv) rs fun l l' k e => by cases e) fun k l u hk hu => ?_
        cases k with
        | zero => simp at hk
        | succ k => exact fr k l u (by simpa using hk) (by simpa using hu)
theorem dq_k {d : D} {v : V} (he : PE X e (tC v)) (hd : ∀ F, Rep X.K X.mg F d v) (t : DQ X es qs) (hs : starEach (e :: es) X.env = (false, eval e X.env) :: starEach es X.env := by rfl) : DQ X (e :: es) (.k d :: qs) :=
  dq_v (y := d) he t (fun ρ y h => ⟨d, (Option.some.inj h).symm⟩) (fun w A ρ σ H Q d' R h q => by cases (Option.some.inj h); exact q v (hd _)) hs
theorem dq_int {i : Int} {j} (t : DQ X es qs) (hs : starEach (.Constant (.int i) j pos :: es) X.env = (false, eval (.Constant (.int i) j pos) X.env) :: starEach es X.env := by rfl) : DQ X (.Constant (.int i) j pos :: es) (.k (.int i) :: qs) := dq_k pe_int (fun _ => rfl) t hs
theorem dq_bl {i : Bool} {j} (t : DQ X es qs) (hs : starEach (.Constant (.bool i) j pos :: es) X.env = (false, eval (.Constant (.bool i) j pos) X.env) :: starEach es X.env := by rfl) : DQ X (.Constant (.bool i) j pos :: es) (.k (.bl i) :: qs) := dq_k pe_bl (fun _ => rfl) t hs
theorem dq_non {j} (t : DQ X es qs) (hs : starEach (.Constant .none j pos :: es) X.env = (false, eval (.Constant .none j pos) X.env) :: starEach es X.env := by rfl) : DQ X (.Constant .none j pos :: es) (.k .non :: qs) := dq_k pe_non (fun _ => rfl) t hs
theorem dq_var {i : Nat} (he : PE X e (tVar i)) (t : DQ X es qs) (hs : starEach (e :: es) X.env = (false, eval e X.env) :: starEach es X.env := by rfl) : DQ X (e :: es) (.x i :: qs) :=
  dq_v (y := .non) he t (fun ρ y h => by
    have h : (match ρ[i]? with
      | some (.val d) => some (Y.d d)
      | _ => none) = some y := h
    split at h
    · rename_i d hd; exact ⟨d, (Option.some.inj h).symm⟩
    · cases h) (fun w A ρ σ H Q d' R h q => by
    have h : (match ρ[i]? with
      | some (.val d) => some (Y.d d)
      | _ => none) = some (.d d') := h
    split at h
    · rename_i d hd
      cases (Option.some.inj h)
      obtain ⟨v, h1, h2⟩ := R.val hd
      exact ⟨v, h1, q v h2⟩
    · cases h) hs
/-- a new list of constants -/
inductive Cs (X : Cx) : List Expr → List D → Prop
  | nil : Cs X [] []
  | cons {e es d ds v} : PE X e (tC v) → (∀ F, Rep X.K X.mg F d v) → starEach (e :: es) X.env = (false, eval e X.env) :: starEach es X.env → Cs X es ds → Cs X (e :: es) (d :: ds)
theorem Cs.pa {es : List Expr} {ds : List D} (c : Cs X es ds) : ∃ vs, PA X es (fun _ H Q => Q vs H) ∧ ∀ F, Reps X.K X.mg F ds vs := by
  induction c with
  | nil => exact ⟨[], pa_nil, fun _ => rfl⟩
  | @cons e es d ds v he hd hs _ ih =>
    obtain ⟨vs, h1, h2⟩ := ih
    exact ⟨v :: vs, pa_imp (pa_cons he h1 hs) fun σ H Q q => q, fun F => .cons (hd F) (h2 F)⟩
theorem dq_new {es0 : List Expr} {ds : List D} (c : Cs X es0 ds) (t : DQ X es qs) (hs : starEach (.List es0 pos :: es) X.env = (false, eval (.List es0 pos) X.env) :: starEach es X.env := by rfl) : DQ X (.List es0 pos :: es) (.n ds :: qs) := by
  obtain ⟨ws, h1, h2⟩ := c.pa
  refine pa_imp (pa_cons (pe_lst h1) t hs) fun σ H Q ⟨w, A, ρ, R, z⟩ => ?_
  have e0 : evQ ρ (.n ds :: qs) = (if ds.length ≤ sizeLine then some (Y.o ds) else none).bind fun y => (evQ ρ qs).map fun ys => y :: ys := rfl
  rw [e0] at z
  by_cases hl : ds.length ≤ sizeLine
  · rw [if_pos hl] at z
    refine ⟨by rw [← (h2 (fun _ => none)).length]; exact hl, fun p hp => ?_⟩
    have nB : p ∉ w.B := fun y => R.trk p (R.sub p y) hp
    have R1 : SR X.K X.mg w (p :: A) ρ σ (upd H p (.lst ws)) := R.growA hp
    have g1 : Grw A H (p :: A) (upd H p (.lst ws)) := ⟨same_upd hp, by rw [off_cons hp]; exact Same.refl _, fun a ha => List.mem_cons_of_mem _ ha⟩
    refine ⟨w, p :: A, ρ, R1, ?_⟩
    cases h3 : evQ ρ qs with
    | none => rw [h3] at z; exact z.elim
    | some ys =>
      rw [h3] at z
      intro vs A' H' g R' rs fr
      have y1 : YR X.K X.mg w (p :: A) ρ σ (upd H p (.lst ws)) (.o ds) (.ref p) := ⟨p, ws, rfl, List.mem_cons_self, upd_same, h2 _, R.stood hp, R.noG hp, nB⟩
      refine z (.ref p :: vs) A' H' (g1.trans g) R' (.cons (y1.grw g) rs fun l l' k e1 hk hv => ?_) fun k l v hk hv => ?_
      · obtain ⟨p', e2, n2⟩ := fr k l' _ hk hv
        cases e2
        rw [upd_same] at n2
        cases n2
      · cases k with
        | zero => simp at hv; exact ⟨p, hv.symm, hp⟩
        | succ k =>
          obtain ⟨p', e2, n2⟩ := fr k l v (by simpa using hk) (by simpa using hv)
          refine ⟨p', e2, ?_⟩
          by_cases hq : p' = p
          · rw [hq]; exact hp
          · rwa [upd_ne hq] at n2
  · rw [if_neg hl] at z; exact z.elim
/-- a new list, as a value -/
theorem dq_lst {es0 : List Expr} {ds : List D} (c : Cs X es0 ds) (t : DQ X es qs) (hs : starEach (.List es0 pos :: es) X.env = (false, eval (.List es0 pos) X.env) :: starEach es X.env := by rfl) : DQ X (.List es0 pos :: es) (.l ds :: qs) := by
  obtain ⟨ws, h1, h2⟩ := c.pa
  refine pa_imp (pa_cons (pe_lst h1) t hs) fun σ H Q ⟨w, A, ρ, R, z⟩ => ?_
  have e0 : evQ ρ (.l ds :: qs) = (if ds.length ≤ sizeLine then some (Y.d (.lst ds)) else none).bind fun y => (evQ ρ qs).map fun ys => y :: ys := rfl
  rw [e0] at z
  by_cases hl : ds.length ≤ sizeLine
  · rw [if_pos hl] at z
    refine ⟨by rw [← (h2 (fun _ => none)).length]; exact hl, fun p hp => ?_⟩
    have R1 : SR X.K X.mg w A ρ σ (upd H p (.lst ws)) := R.new hp
    have g1 : Grw A H A (upd H p (.lst ws)) := ⟨same_upd hp, off_Same (same_upd hp), fun a ha => ha⟩
    refine ⟨w, A, ρ, R1, ?_⟩
    cases h3 : evQ ρ qs with
    | none => rw [h3] at z; exact z.elim
    | some ys =>
      rw [h3] at z
      intro vs A' H' g R' rs fr
      have y1 : YR X.K X.mg w A ρ σ (upd H p (.lst ws)) (.d (.lst ds)) (.ref p) := ⟨p, ws, rfl, off_at upd_same (R.notA hp), h2 _⟩
      refine z (.ref p :: vs) A' H' (g1.trans g) R' (.cons (y1.grw g) rs fun l l' k e1 => by cases e1) fun k l v hk hv => ?_
      cases k with
      | zero => simp at hk
      | succ k =>
        obtain ⟨p', e2, n2⟩ := fr k l v (by simpa using hk) (by simpa using hv)
        refine ⟨p', e2, ?_⟩
        by_cases hq : p' = p
        · rw [hq]; exact hp
        · rwa [upd_ne hq] at n2
  · rw [if_neg hl] at z; exact z.elim
def oneQ (m : Option (M D)) (qs : List QA) : M (List Y) := fun ρ => match m with
  | none => (match evQ ρ qs with
    | some ys => .ok ys ρ
    | none => .bad)
  | some m => (match m ρ with
    | .ok d ρ' => (match evQ ρ' qs with
      | some ys => .ok (.d d :: ys) ρ'
      | none => .bad)
    | .exc e ρ' => .exc e ρ'
    | .bad => .bad)
def tR (K : PySem.W.Frag) (mg : Str → Option Value) (W : WZ) (m : Option (M D)) (qs : List QA) : TA := fun σ H Q => ∃ (w : WS W) (A : List Addr) (ρ : Ev), SR K mg w A ρ σ H ∧ match oneQ m qs ρ with
  | .ok ys ρ' => ∀ vs A' H', Same (off A H) (off A' H') → SR K mg w A' ρ' σ H' → YRs K mg w A' ρ' σ H' ys vs → Q vs H'
  | .exc e ρ' => ∀ c dd H', Ext A H H' → SR K mg w A ρ' σ H' → ExR K mg A H' e c dd → W c dd σ H'
  | .bad => False
def DR (X : Cx) (es : List Expr) (m : Option (M D)) (qs : List QA) : Prop := ∀ W : WZ, TakesZ X W → PA X es (tR X.K X.mg W m qs)
theorem dr_q (h : DQ X es qs) : DR X es none qs := fun W tk => pa_imp h fun σ H Q ⟨w, A, ρ, R, z⟩ => by
  refine ⟨w, A, ρ, R, ?_⟩
  unfold oneQ at z
  dsimp only at z
  cases h1 : evQ ρ qs with
  | none => rw [h1] at z; exact z.elim
  | some ys => rw [h1] at z; exact fun vs A' H' g R' rs _ => z vs A' H' g.f R' rs
theorem dr_v {m : M D} (he : DE X e m) (h : DQ X es qs) (hs : starEach (e :: es) X.env = (false, eval e X.env) :: starEach es X.env := by rfl) : DR X (e :: es) (some m) qs := fun W tk => pa_imp (pa_cons (he W tk) h hs) fun σ H Q ⟨w, A, ρ, R, z⟩ => by
  refine ⟨w, A, ρ, R, ?_⟩
  unfold oneQ at z
  dsimp only at z
  cases h1 : m ρ with
  | bad => rw [h1] at z; exact z.elim
  | exc er ρ1 => rw [h1] at z; exact z
  | ok d ρ1 =>
    rw [h1] at z
    dsimp only at z
    intro v H1 ex1 R1 r1
    refine ⟨w, A, ρ1, R1, ?_⟩
    cases h2 : evQ ρ1 qs with
    | none => rw [h2] at z; exact z.elim
    | some ys => rw [h2] at z; exact fun vs A' H' g R' rs _ => z (v :: vs) A' H' (ex1.off.trans g.f) R' (.cons (Rep.mono g.f d v r1) rs fun l l' k e => by cases e)
def sRow (np : Nat) (is : List Nat) (m : Option (M D)) (qs : List QA) : S := fun ρ => match oneQ m qs ρ with
  | .ok ys ρ' => (match storeQ np is ys ρ' with
    | some ρ2 => .nx ρ2
    | none => .bad)
  | .exc e ρ' => .exc e ρ'
  | .bad => .bad
theorem yrs_len {K : PySem.W.Frag} {mg : Str → Option Value} {w : Wd} {A : List Addr} {ρ : Ev} {σ : L2.St} {H : Hp} : ∀ {ys : List Y} {vs : List V}, YRs K mg w A ρ σ H ys vs → ys.length = vs.length
  | _, _, .nil => rfl
  | _, _, .cons _ t _ => by simp [yrs_len t]
theorem storeQ_len {np : Nat} : ∀ {is : List Nat} {ys : List Y} {ρ ρ' : Ev}, storeQ np is ys ρ = some ρ' → is.length = ys.length
  | [], [], _, _, _ => rfl
  | [], _ :: _, _, _, h => by cases h
  | _ :: _, [], _, _, h => by cases h
  | i :: is, .d d :: ys, ρ, ρ', h => by
    have h : (gN i d ρ).bind (storeQ np is ys) = some ρ' := h
    obtain ⟨ρ1, _, e2⟩ := Option.bind_eq_some_iff.mp h
    simp [storeQ_len e2]
  | i :: is, .o l :: ys, ρ, ρ', h => by
    have h : (match ρ[i]? with
      | some _ => if np ≤ i then storeQ np is ys (ρ.set i (.own l)) else none
      | none => none) = some ρ' := h
    cases hs : ρ[i]? with
    | none => rw [hs] at h; cases h
    | some s0 =>
      rw [hs] at h
      dsimp only at h
      split at h
      · simp [storeQ_len h]
      · cases h
theorem row_end {W : WZ} {E : Ends} {np : Nat} {is : List Nat} {m : Option (M D)} {σ : L2.St} {H : Hp} {G : List V → Hp → Prop} (q : tS X.K X.mg np W (sRow np is m qs) E σ H) (hG : ∀ vs H1, vs.length = is.length → E.nx (setAll σ is vs) H1 → G vs H1) : tR X.K X.mg W m qs σ H G := by
  obtain ⟨w, A, ρ, hn, R, q⟩ := tS_iff.mp q
  refine ⟨w, A, ρ, R, ?_⟩
  unfold sRow at q
  cases h1 : oneQ m qs ρ with
  | bad => rw [h1] at q; exact q.elim
  | exc e ρ1 => rw [h1] at q; exact fun c dd H' ex R' z => q A σ H' c dd ex.off R' z
  | ok ys ρ1 =>
    rw [h1] at q
    dsimp only at q
    intro vs A1 H1 sm R1 rs
    cases h2 : storeQ np is ys ρ1 with
    | none => rw [h2] at q; exact q.elim
    | some ρ2 =>
      rw [h2] at q
      exact hG vs H1 (by rw [← yrs_len rs, storeQ_len h2]) (q A1 _ H1 sm (store_all hn R1 rs h2))
theorem ds_row2 {np i j : Nat} {x y : Str} {a b : Expr} {px py pt : Pos} {kt k2 pt2} {m : Option (M D)} (hc : X.calm = true) (hN : X.N.Nodup) (hi : X.N[i]? = some x) (hj : X.N[j]? = some y) (hij : i ≠ j) (hx : X.env.scope.names.lookup x = some .local) (hy : X.env.scope.names.lookup y = some .local) (ha : DR X [a, b] m qs)
    (hw : swappedStores [.Tuple [.Name x px, .Name y py] kt pt] (.Tuple [a, b] k2 pt2) X.env = pure (some [x, y]) := by rfl) (hs : swapsWithSole [.Tuple [.Name x px, .Name y py] kt pt] (.Tuple [a, b] k2 pt2) pos.line X.env = pure false := by rfl) :
    DS X np (.Assign [.Tuple [.Name x px, .Name y py] kt pt] (.Tuple [a, b] k2 pt2) pos) (sRow np [i, j] m qs) := fun W tk => ps_imp (ps_par hc hN hi hj hij hx hy (ha W tk) hw hs) fun E σ H q => row_end q fun vs H1 hl q => by
  match vs, hl, q with
  | [v, u], _, q => exact ⟨v, u, rfl, q⟩
theorem ds_row3 {np i j l : Nat} {x y z : Str} {a b c : Expr} {px py pz pt : Pos} {kt k2 pt2} {m : Option (M D)} (hc : X.calm = true) (hN : X.N.Nodup) (hi : X.N[i]? = some x) (hj : X.N[j]? = some y) (hl : X.N[l]? = some z) (hij : i ≠ j) (hil : i ≠ l) (hjl : j ≠ l) (hx : X.env.scope.names.lookup x = some .local)
    (hy : X.env.scope.names.lookup y = some .local) (hz : X.env.scope.names.lookup z = some .local) (ha : DR X [a, b, c] m qs)
    (hw : swappedStores [.Tuple [.Name x px, .Name y py, .Name z pz] kt pt] (.Tuple [a, b, c] k2 pt2) X.env = pure (some [x, y, z]) := by rfl) (hs : swapsWithSole [.Tuple [.Name x px, .Name y py, .Name z pz] kt pt] (.Tuple [a, b, c] k2 pt2) pos.line X.env = pure false := by rfl) :
    DS X np (.Assign [.Tuple [.Name x px, .Name y py, .Name z pz] kt pt] (.Tuple [a, b, c] k2 pt2) pos) (sRow np [i, j, l] m qs) := fun W tk => ps_imp (ps_par3 hc hN hi hj hl hij hil hjl hx hy hz (ha W tk) hw hs) fun E σ H q => row_end q fun vs H1 hl q => by
  match vs, hl, q with
  | [u, v, t], _, q => exact ⟨u, v, t, rfl, q⟩
/-- names in a row as targets -/
def gAll : List Nat → TGs
  | [] => gNil
  | i :: is => gCons (gName i) (gAll is)
theorem gAll_run {Q : L2.St → Hp → Prop} {H : Hp} : ∀ {is : List Nat} {vs : List V} {σ : L2.St}, vs.length = is.length → Q (setAll σ is vs) H → gAll is vs σ H Q
  | [], [], _, _, q => ⟨rfl, q⟩
  | [], _ :: _, _, h, _ => by simp at h
  | _ :: _, [], _, h, _ => by simp at h
  | i :: is, v :: vs, σ, h, q => ⟨v, vs, rfl, gAll_run (by simpa using h) q⟩
theorem ds_rowN {np : Nat} {is : List Nat} {ts es : List Expr} {pt : Pos} {kt k2 pt2} {m : Option (M D)} (hc : X.calm = true) (ht : PGs X ts (gAll is)) (hl : is.length ≤ sizeLine) (ha : DR X es m qs) (hn : (assignEach ts X.env).length = is.length := by rfl) (hst : (assignEach ts X.env).findIdx? (·.1) = none := by rfl)
    (hs : swapsWithSole [.Tuple ts kt pt] (.Tuple es k2 pt2) pos.line X.env = pure false := by rfl) (hw : swappedStores [.Tuple ts kt pt] (.Tuple es k2 pt2) X.env = pure none := by rfl) (h1 : (assignEach [.Tuple ts kt pt] X.env).map (·.2) = [assign (.Tuple ts kt pt) X.env] := by rfl) :
    DS X np (.Assign [.Tuple ts kt pt] (.Tuple es k2 pt2) pos) (sRow np is m qs) := fun W tk => by
  refine ⟨fun pins s σ H E I q => (ps_asg (pe_tup (ha W tk)) (pg_tup hc ht hn hst) hs hw h1).run pins s σ H E I ?_⟩
  obtain ⟨w, A, ρ, hnp, R, q⟩ := tS_iff.mp q
  refine ⟨w, A, ρ, R, ?_⟩
  unfold sRow at q
  cases h1 : oneQ m qs ρ with
  | bad => rw [h1] at q; exact q.elim
  | exc e ρ1 => rw [h1] at q; exact fun c dd H' ex R' z => q A σ H' c dd ex.off R' z
  | ok ys ρ1 =>
    rw [h1] at q
    dsimp only at q
    intro vs A1 H1 sm R1 rs
    cases h2 : storeQ np is ys ρ1 with
    | none => rw [h2] at q; exact q.elim
    | some ρ2 =>
      rw [h2] at q
      have hvl : vs.length = is.length := by rw [← yrs_len rs, storeQ_len h2]
      refine ⟨by omega, fun p hp => ⟨p, vs, rfl, .inl (.inl upd_same), hvl, gAll_run hvl ?_⟩⟩
      refine q A1 _ _ (sm.trans (off_Same (same_upd hp))) ?_
      exact (store_all hnp R1 rs h2).new hp
end
end DL
namespace DL
open PySem L2
section
open PySem.W PySem.Calls PyProof.Rows Builtin
variable {prog : Program} {w : World} {A : Around} {E : Value → Shared → Prop} {s : Shared} {K : Frag} {h₀ : Heap} {L x C f : Addr} {m : Str → Option Value} {ox : Obj} {od : Option Obj} {b tb : Value}
/-- a slot of object, by an instance -/
theorem slot_bound {id name : String} {args : List Value} {Q : Option Value → Shared → Prop} (X : K.In s.heap) (I : InstAt s.heap x ox C od) (hs : findIn K (.ref C) name = some (some (.builtin id))) (S : PySem.Slot "object" name id)
    (go : wpAny (model prog w) A (call (.builtin id) (.ref x :: args)) (fun v => Q (some v)) E s) : wpAny (model prog w) A (callSpecialIfBound? (.ref x) name args) Q E s := by
  simp only [callSpecialIfBound?, bindSpecialIfBound?]
  refine wpAny_holding (wpAny_bind (wpAny_bind (wpAny_bind (I.type.here ((looks_findIn X hs).here ?_)))))
  simp only [S.bind]
  have fin : wpAny (model prog w) A (call (.builtin id) ([.ref x] ++ args) >>= fun v => pure (some v)) Q E s := wpAny_bind (wpAny_mono go (fun v s' q => wpAny_pure q) fun _ _ q => q)
  refine wpAny_bind (wpAny_askSetting (wpAny_ite ?_))
  split
  · exact wpAny_bind (wpAny_pure (wpAny_pure fin))
  · exact wpAny_tryCatch (wpAny_bind (wpAny_pure (wpAny_pure fin)))
/-- object.__ne__ asks __eq__ -/
theorem call_ne {Q : Value → Shared → Prop} (X : K.In s.heap) (I : InstAt s.heap x ox C od) (ho : mroIn K C (.type "object") = some true) (hs : findIn K (.ref C) "__eq__" = some (some (.ref f))) (hf : isFn K (.ref f) = true) (hu : A.units + 1 < cLine)
    (go : wpAny (model prog w) A.in1 (call (.ref f) [.ref x, b]) (fun v s' => ∃ k, v = .bool k ∧ Q (.bool (!k)) s') E s) : wpAny (model prog w) A (call (.builtin "object.__ne__") [.ref x, b]) Q E s := by
  have sub : Looks (model prog w) s.heap (isInstance (.ref x) (.type "object")) true := I.type.andThen (looks_mroIn X ho)
  refine wpAny_call (codeAny_call_builtin F.cmp_object.ne.plain F.cmpEntry_ne (@check_slot (model prog w) _ _ s "object.__ne__" "object" "__ne__" (.ref x) [b] [] _ F.cmpKind_ne F.cmpSplit_ne sub (F.cmpArgs_ne _ _) ?_))
  unfold Builtin.«object.__ne__»
  repeat (first
    | with_reducible refine wpAny_cRoomFor (show A.in1.units < cLine from hu) ?_
    | (refine wpAny_bind (m := callSpecialIfBound? (.ref x) (Str.ofString "__eq__") [b]) (ifBound_K X I hs hf (wpAny_mono go (fun v s' q => by
          obtain ⟨k, rfl, q⟩ := q
          repeat (first | exact q | exact wpAny_pure q | exact wpAny_truthy_bool q | (refine wpAny_bind (m := truthy (.bool _)) (wpAny_truthy_bool ?_)) | wp_step)) fun _ _ e => e)))
    | wp_step)
theorem cmp_ne {Q : Value → Shared → Prop} (hu : A.units + 1 < cLine) (F : Fr h₀ L s.heap m) (X₀ : K.In h₀) (I : InstAt s.heap x ox C od) (hb : Looks (model prog w) s.heap (typeOf b) tb) (hn : notFirst K C tb = true) (ho : mroIn K C (.type "object") = some true)
    (hne : findIn K (.ref C) "__ne__" = some (some (.builtin "object.__ne__"))) (hs : findIn K (.ref C) "__eq__" = some (some (.ref f))) (hf : isFn K (.ref f) = true)
    (go : wpAny (model prog w) A.in1 (call (.ref f) [.ref x, b]) (fun v s' => ∃ k, v = .bool k ∧ Q (.bool (!k)) s') E s) : wpAny (model prog w) A (richCompare .NotEq (.ref x) b) Q E s := by
  have X := X₀.keeps F.keep
  have one : wpAny (model prog w) A (tryCompare (.ref x) "__ne__" b) (fun r s' => ∃ k, r = some (.bool k) ∧ Q (.bool k) s') E s := by
    unfold tryCompare
    refine wpAny_bind (slot_bound X I hne PySem.F.cmp_object.ne (call_ne X I ho hs hf hu (wpAny_mono go (fun v s' q => ?_) fun _ _ e => e)))
    obtain ⟨k, rfl, q⟩ := q
    exact ⟨k, rfl, wpAny_pure ⟨_, rfl, q⟩⟩
  unfold richCompare
  simp only [oneThing_ref]
  refine wpAny_holding (wpAny_bind (wpAny_cRoomFor (by omega) ?_))
  refine wpAny_bind (I.type.here (wpAny_bind (hb.here ?_)))
  have z : subIn K tb (.ref C) = some false ∨ tb = .ref C := by
    rcases Bool.or_eq_true_iff.mp hn with e | e
    · exact .inr (beq_iff_eq.mp e)
    · exact .inl (beq_iff_eq.mp e)
  split
  · rename_i q
    rcases z with z | z
    · refine wpAny_bind ((looks_subIn X z).here ?_)
      simp only [Bool.false_eq_true, if_false]
      refine wpAny_bind (wpAny_mono one (fun r s' y => ?_) fun _ _ e => e)
      obtain ⟨k, rfl, y⟩ := y
      exact wpAny_pure y
    · rw [z] at q; simp at q
  · refine wpAny_bind (wpAny_pure ?_)
    simp only [Bool.false_eq_true, if_false]
    refine wpAny_bind (wpAny_mono one (fun r s' y => ?_) fun _ _ e => e)
    obtain ⟨k, rfl, y⟩ := y
    exact wpAny_pure y
end
end DL
namespace DL
open PySem L2
/-- c's own __eq__ keeps φ -/
def EqOk (P : Program) (w : World) (K : PySem.W.Frag) (mg : Str → Option Value) (base : Heap) (c : Str) (k : Nat) (φ : Fn) : Prop :=
  ∃ (C f : Addr) (fd : FuncData) (ps : List Str), mg c = some (.ref C) ∧ InsF K C ∧ PySem.W.findIn K (.ref C) "__eq__" = some (some (.ref f)) ∧ PySem.W.isFn K (.ref f) = true ∧ PySem.W.findIn K (.ref C) "__ne__" = some (some (.builtin "object.__ne__")) ∧
    tyNames.all (fun n => PySem.W.notFirst K C (.type n)) = true ∧ Binds K fd ps [] ∧ FnOk P w K mg base (L2.CX P w) k f fd ps (spD K mg φ)
def cmpO (c : Str) (φ : Fn) (neg : Bool) : D → D → Option D
  | .obj c' ns l, y => if c' = c then (match φ [.val (.obj c' ns l), .val y] with
    | .ok (.bl k) _ => (match y with
      | .obj c2 _ _ => if c2 = c then some (.bl (if neg then !k else k)) else none
      | .fn _ => none
      | _ => some (.bl (if neg then !k else k)))
    | _ => none) else none
  | _, _ => none
theorem Rep1.rep {K : PySem.W.Frag} {mg : Str → Option Value} {A : List Addr} {H : Hp} : ∀ {d : D} {v : V}, Rep1 K mg A H d v → Rep K mg (off [] H) d v := by
  have e : off [] H = H := by funext b; unfold off; simp
  intro d v r
  rw [e]
  cases d with
  | lst l => obtain ⟨a, xs, h1, h2, h3⟩ := r; exact ⟨a, xs, h1, h2, h3.mono off_le⟩
  | obj c ns l => obtain ⟨a, C, dx, fvs, h1, h2, h3, h4, h5⟩ := r; exact ⟨a, C, dx, fvs, h1, h2, h3, h4, h5.mono off_le⟩
  | non => exact r
  | bl _ => exact r
  | int _ => exact r
  | str _ => exact r
  | fn _ => exact r
  | tup l => exact Rep.mono off_le _ _ r
  | scr l => exact Rep.mono off_le _ _ r
/-- what is asked of the two -/
def rOwn (K : PySem.W.Frag) (mg : Str → Option Value) (C : Addr) (φ : Fn) (neg : Bool) : R2 := fun x y H Q => ∃ (a dx : Addr) (fs : List (Str × V)) (t : Value), x = .ref a ∧ H a = some (.ins C dx fs) ∧ TyX K H y t ∧ PySem.W.notFirst K C t = true ∧
  spD K mg φ [x, y] H (fun v H' => ∃ k, v = .bl k ∧ Q (.bl (if neg then !k else k)) H') (fun _ _ _ => False)
section
variable {X : Cx} {C f : Addr} {fd : FuncData} {ps : List Str} {k : Nat} {φ : Fn}
theorem op_own (I0 : InsF X.K C) (hs : PySem.W.findIn X.K (.ref C) "__eq__" = some (some (.ref f))) (hf : PySem.W.isFn X.K (.ref f) = true) (hb : Binds X.K fd ps []) (F : FnOk X.prog X.w X.K X.mg X.base (L2.CX X.prog X.w) k f fd ps (spD X.K X.mg φ)) (hr : Room k X.A) :
    OpR X (compareOp .Eq) (rOwn X.K X.mg C φ false) := by
  intro pins s σ H x y v u Q I rx ry ⟨a, dx, fs, t, e1, ha, ty, nf, sp⟩
  subst e1
  cases rx
  obtain ⟨P0, kx, kp, _⟩ := kit_of I ry ty
  obtain ⟨mA, J, _⟩ := ins_get I.hok ha
  obtain ⟨od, J, _⟩ := J.look
  obtain ⟨m, hF⟩ := I.fr
  show wpAny (model X.prog X.w) X.A (richCompare .Eq (.ref a) u) (EP X pins σ Q) X.xe s
  refine PySem.W.cmp_K (op := .Eq) (tb := t) (by have := hr.un; omega) hF I.ok.mod.kin J (kx.ty _ _ I.kIn kp) nf hs hf ?_
  refine wpAny_mono (run_fnSD (us := [.ref a, u]) (vs := [.ref a, y]) (dvs := []) (E := WE fun _ _ _ _ => False) F hr hb .nil (passAt takes0 σ) I (.cons rfl (.cons ry .nil)) sp) (fun r s' ⟨z, H', I', rz, k', ez, q⟩ => ?_) fun _ _ e => e
  subst ez
  obtain rfl : r = .bool k' := rz
  exact ⟨.bl k', H', I', rfl, q⟩
theorem op_ownNe (I0 : InsF X.K C) (hs : PySem.W.findIn X.K (.ref C) "__eq__" = some (some (.ref f))) (hf : PySem.W.isFn X.K (.ref f) = true) (hne : PySem.W.findIn X.K (.ref C) "__ne__" = some (some (.builtin "object.__ne__"))) (hb : Binds X.K fd ps [])
    (F : FnOk X.prog X.w X.K X.mg X.base (L2.CX X.prog X.w) k f fd ps (spD X.K X.mg φ)) (hr : Room (k + 1) X.A) : OpR X (compareOp .NotEq) (rOwn X.K X.mg C φ true) := by
  intro pins s σ H x y v u Q I rx ry ⟨a, dx, fs, t, e1, ha, ty, nf, sp⟩
  subst e1
  cases rx
  obtain ⟨P0, kx, kp, _⟩ := kit_of I ry ty
  obtain ⟨mA, J, _⟩ := ins_get I.hok ha
  obtain ⟨od, J, _⟩ := J.look
  obtain ⟨m, hF⟩ := I.fr
  show wpAny (model X.prog X.w) X.A (richCompare .NotEq (.ref a) u) (EP X pins σ Q) X.xe s
  refine cmp_ne (tb := t) (by have := hr.un; omega) hF I.ok.mod.kin J (kx.ty _ _ I.kIn kp) nf I0.hm hne hs hf ?_
  have r2 : Vals [V.ref a, y] [Value.ref a, u] := .cons rfl (.cons ry .nil)
  have hl : ([Value.ref a, u] ++ []).length = ps.length := by rw [List.append_nil, ← r2.length]; exact F.len _ _ _ _ sp
  refine wpAny_call (codeAny_mono (F.run X.A.in1 X.stack s H ⟨[.ref a, u], []⟩ [.ref a, u] [.ref a, y] _ (fun _ _ _ => False) hr.in1 I.env0.in1 (by simpa using hb s [.ref a, u] I.kIn hl) r2 sp) fun r s' hq => ?_)
  cases r with
  | error e => exact passAt (takes0 (X := X)) σ pins H s e s' I hq
  | ok fl =>
    cases fl with
    | ret z =>
      obtain ⟨w', H', I', rz, k', ez, q⟩ := I.after hq
      subst ez
      obtain rfl : z = .bool k' := rz
      exact ⟨k', rfl, .bl (!k'), H', I', rfl, q⟩
    | next => exact False.elim hq
    | brk => exact False.elim hq
    | cont => exact False.elim hq
theorem snd_own {K : PySem.W.Frag} {mg : Str → Option Value} {c : Str} {neg : Bool} (mC : mg c = some (.ref C)) (I0 : InsF K C) (hn : tyNames.all (fun n => PySem.W.notFirst K C (.type n)) = true) : Snd2 K mg (rOwn K mg C φ neg) (cmpO c φ neg) := by
  intro A H x y d v u Q tk rx ry e q
  cases x with
  | obj c' ns l =>
    have e : (if c' = c then (match φ [.val (.obj c' ns l), .val y] with
      | .ok (.bl k) _ => (match y with
        | .obj c2 _ _ => if c2 = c then some (D.bl (if neg then !k else k)) else none
        | .fn _ => none
        | _ => some (.bl (if neg then !k else k)))
      | _ => none) else none) = some d := e
    by_cases hc : c' = c
    · rw [if_pos hc] at e
      subst hc
      cases hf : φ [.val (.obj c' ns l), .val y] with
      | bad => rw [hf] at e; cases e
      | exc _ _ => rw [hf] at e; cases e
      | ok r os =>
        rw [hf] at e
        cases r with
        | bl k =>
          dsimp only at e
          have rx0 : Rep K mg (off [] H) (.obj c' ns l) v := Rep1.rep rx
          have ry0 : Rep K mg (off [] H) y u := Rep1.rep ry
          obtain ⟨a, C', dx, fvs, rfl, m, hh, _⟩ := rx
          have m' : mg c' = some (.ref C') := m
          rw [mC] at m'
          cases m'
          have sp : spD K mg φ [.ref a, u] H (fun v H' => ∃ k, v = .bl k ∧ Q (.bl (if neg then !k else k)) H') (fun _ _ _ => False) := by
            refine ⟨[], [.val (.obj c' ns l), .val y], ⟨rfl, fun i s w h1 h2 => ?_, fun i j s t b h1 h2 o1 o2 => ?_, fun b hb => by cases hb⟩, ?_⟩
            · match i, h1, h2 with
              | 0, h1, h2 => cases (Option.some.inj h1); cases (Option.some.inj h2); exact ⟨_, rfl, rx0⟩
              | 1, h1, h2 => cases (Option.some.inj h1); cases (Option.some.inj h2); exact ⟨_, rfl, ry0⟩
              | i + 2, h1, h2 => simp at h1
            · match i, h1 with
              | 0, h1 => cases (Option.some.inj h1); cases o1
              | 1, h1 => cases (Option.some.inj h1); cases o1
              | i + 2, h1 => simp at h1
            · rw [hf]
              intro v' H' p rv
              cases rv
              refine ⟨k, rfl, q _ H' (fun b o hb => p.keep b o hb fun i s h1 o1 => ?_) ?_⟩
              · match i, h1 with
                | 0, h1 => cases (Option.some.inj h1); cases o1
                | 1, h1 => cases (Option.some.inj h1); cases o1
                | i + 2, h1 => simp at h1
              · have ed : d = .bl (if neg then !k else k) := by
                  cases y with
                  | obj c2 ns2 l2 =>
                    have e : (if c2 = c' then some (D.bl (if neg then !k else k)) else none) = some d := e
                    by_cases h2 : c2 = c'
                    · rw [if_pos h2] at e; exact (Option.some.inj e).symm
                    · rw [if_neg h2] at e; cases e
                  | fn _ => cases e
                  | _ => exact (Option.some.inj e).symm
                rw [ed]
                exact rfl
          have fin : ∀ n, y.tn = some n → rOwn K mg C φ neg (.ref a) u H Q := fun n hn' => ⟨a, dx, _, .type n, rfl, hh, tyx_of ry hn', List.all_eq_true.mp hn n (tn_mem hn'), sp⟩
          cases y with
          | obj c2 ns2 l2 =>
            dsimp only at e
            by_cases h2 : c2 = c'
            · subst h2
              obtain ⟨b, C2, dx2, fvs2, rfl, m2, hh2, _⟩ := ry
              have m2' : mg c2 = some (.ref C2) := m2
              rw [mC] at m2'
              cases m2'
              exact ⟨a, dx, _, .ref C, rfl, hh, .base (.ins hh2 I0.cl I0.ha I0.hn I0.ht I0.hm), by simp [PySem.W.notFirst], sp⟩
            · rw [if_neg h2] at e; cases e
          | fn _ => cases e
          | non => exact fin _ rfl
          | bl _ => exact fin _ rfl
          | int _ => exact fin _ rfl
          | str _ => exact fin _ rfl
          | tup _ => exact fin _ rfl
          | lst _ => exact fin _ rfl
          | scr _ => exact fin _ rfl
        | _ => cases e
    · rw [if_neg hc] at e; cases e
  | _ => cases e
variable {a b : Expr} {x y : Arg} {pos : Pos} {c : Str}
theorem de_eqO (T : EqOk X.prog X.w X.K X.mg X.base c k φ) (hr : Room (k + 1) X.A) (ha : DO X a x) (hb : DO X b y) : DE X (.Compare a [.Eq] [b] pos) (op2 (cmpO c φ false) x y) := by
  obtain ⟨C, f, fd, ps, mC, I0, hs, hf, _, hn, hbi, F⟩ := T
  exact de_cmp (op_own I0 hs hf hbi F (hr.mono (Nat.le_succ k))) (snd_own mC I0 hn) (nomark _) ha hb
theorem de_neO (T : EqOk X.prog X.w X.K X.mg X.base c k φ) (hr : Room (k + 1) X.A) (ha : DO X a x) (hb : DO X b y) : DE X (.Compare a [.NotEq] [b] pos) (op2 (cmpO c φ true) x y) := by
  obtain ⟨C, f, fd, ps, mC, I0, hs, hf, hne, hn, hbi, F⟩ := T
  exact de_cmp (op_ownNe I0 hs hf hne hbi F hr) (snd_own mC I0 hn) (nomark _) ha hb
theorem dt_eqO (T : EqOk X.prog X.w X.K X.mg X.base c k φ) (hr : Room (k + 1) X.A) (ha : DO X a x) (hb : DO X b y) : DT X (.Compare a [.Eq] [b] pos) (asTest (op2 (cmpO c φ false) x y)) := by
  obtain ⟨C, f, fd, ps, mC, I0, hs, hf, _, hn, hbi, F⟩ := T
  exact dt_cmp (op_own I0 hs hf hbi F (hr.mono (Nat.le_succ k))) (snd_own mC I0 hn) (nomark _) ha hb
theorem dt_neO (T : EqOk X.prog X.w X.K X.mg X.base c k φ) (hr : Room (k + 1) X.A) (ha : DO X a x) (hb : DO X b y) : DT X (.Compare a [.NotEq] [b] pos) (asTest (op2 (cmpO c φ true) x y)) := by
  obtain ⟨C, f, fd, ps, mC, I0, hs, hf, hne, hn, hbi, F⟩ := T
  exact dt_cmp (op_ownNe I0 hs hf hne hbi F hr) (snd_own mC I0 hn) (nomark _) ha hb
end
end DL
namespace DL
open PySem L2
def DK (X : Cx) (kws : List Keyword) (as : List Arg) : Prop := ∀ W : WZ, TakesZ X W → PK X kws (tA X.K X.mg W as)
def MakeKwOk (P : Program) (w : World) (K : PySem.W.Frag) (mg : Str → Option Value) (base : Heap) (c : Str) (ks : List Str) (k : Nat) (φ : Fn) : Prop :=
  ∃ (C f : Addr) (fd : FuncData) (ps : List Str), mg c = some (.ref C) ∧ Mk K C f ∧ KBn K fd ps 1 ks (fun us ws => us ++ ws) (fun us ws => us ++ ws) ∧ FnOk P w K mg base (L2.CX P w) k f fd ps (spD K mg φ)
/-- C(k = v, ..): no error may come of it -/
def makeKF (c : Str) (φ : Fn) (as : List Arg) : M D := M.bnd (evs as) fun xs => match dvs xs with
  | some ds => fun ρ => match makeV c φ ds ρ with
    | .ok d ρ' => .ok d ρ'
    | _ => .bad
  | none => fun _ => .bad
section
variable {X : Cx} {kws : List Keyword} {as : List Arg} {e : Expr} {kpos p pos : Pos} {nm : Option Str} {x : Arg}
theorem pk_imp {t t' : TA} (h : PK X kws t) (q : ∀ σ H Q, t' σ H Q → t σ H Q) : PK X kws t' := ⟨fun pos pins s σ H Q I hw => h.run pos pins s σ H Q I (q σ H Q hw)⟩
theorem dk_nil : DK X [] [] := fun W _ => pk_imp pk_nil fun σ H Q ⟨w, A, ρ, R, q⟩ => q [] H Ext.refl R rfl
theorem dk_cons (h : DO X e x) (t : DK X kws as) : DK X (⟨nm, e, kpos⟩ :: kws) (x :: as) := fun W tk => pk_imp (pk_cons (h W tk) (t W tk)) fun σ H Q ⟨w, A, ρ, R, q⟩ => by
  refine ⟨w, A, ρ, R, ?_⟩
  have e0 : evs (x :: as) ρ = M.bnd x.ev (fun v => M.bnd (evs as) fun vs => M.ret (v :: vs)) ρ := rfl
  rw [e0] at q
  cases hx : x.ev ρ with
  | exc er ρ1 => rw [bnd_exc hx] at q; exact q
  | bad => rw [bnd_bad hx] at q; exact q
  | ok v0 ρ1 =>
    rw [bnd_ok hx] at q
    intro v H1 ex1 R1 r1
    refine ⟨w, A, ρ1, R1, ?_⟩
    cases hv : evs as ρ1 with
    | exc er ρ2 => rw [bnd_exc hv] at q; exact fun c dd H2 ex2 R2 z => q c dd H2 (ex1.trans ex2) R2 z
    | bad => rw [bnd_bad hv] at q; exact q
    | ok vs0 ρ2 =>
      rw [bnd_ok hv] at q
      exact fun vs H2 ex2 R2 r2 => q (v :: vs) H2 (ex1.trans ex2) R2 ⟨v, vs, rfl, r1.ext ex2, r2⟩
theorem de_makeK {c : Str} {ks : List Str} {k : Nat} {φ : Fn} (T : MakeKwOk X.prog X.w X.K X.mg X.base c ks k φ) (hr : Room (k + 1) X.A) (ha : DK X kws as) (hl : as.length = ks.length) (hg : Gl X c := by rfl)
    (hall : (backToKw pos (keywordEach kws X.env)).all (·.1.isSome) = true := by rfl) (hks : (backToKw pos (keywordEach kws X.env)).filterMap (·.1) = ks := by rfl) (hdb : (c == ("__debug__" : Str)) = false := by decide)
    (hpl : ((backTo pos (starEach [] X.env)).any (·.1) || (backToKw pos (keywordEach kws X.env)).any (·.1.isNone)) = false := by rfl) : DE X (.Call (.Name c p) [] kws pos) (makeKF c φ as) := fun W tk => by
  obtain ⟨C, f, fd, ps, mC, M', hb, F⟩ := T
  refine pe_imp (pe_makeK0 (E := fun _ _ _ => False) M' F hr hg mC hb (fun pins σ H s e s' I c => passAt (takes0 (X := X)) σ pins H s e s' I c) (ha W tk) hall hks hdb hpl) fun σ H Q ⟨w, A, ρ, R, q⟩ => ?_
  refine ⟨w, A, ρ, R, ?_⟩
  unfold makeKF at q
  cases hx : evs as ρ with
  | exc e ρ1 => rw [bnd_exc hx] at q; exact q
  | bad => rw [bnd_bad hx] at q; exact q
  | ok xs ρ1 =>
    rw [bnd_ok hx] at q
    intro vs H1 ex1 R1 r1
    cases hd : dvs xs with
    | none => rw [hd] at q; exact q.elim
    | some ds =>
      rw [hd] at q
      dsimp only at q
      have r2 := dvs_rep r1 hd
      have lx : ∀ {as : List Arg} {ρ ρ' : Ev} {xs : List AV}, evs as ρ = .ok xs ρ' → xs.length = as.length := by
        intro as
        induction as with
        | nil => intro ρ ρ' xs h; cases h; rfl
        | cons a as ih =>
          intro ρ ρ' xs h
          have e0 : evs (a :: as) ρ = M.bnd a.ev (fun v => M.bnd (evs as) fun vs => M.ret (v :: vs)) ρ := rfl
          rw [e0] at h
          cases h1 : a.ev ρ with
          | exc _ _ => rw [bnd_exc h1] at h; cases h
          | bad => rw [bnd_bad h1] at h; cases h
          | ok v ρ1 =>
            rw [bnd_ok h1] at h
            cases h2 : evs as ρ1 with
            | exc _ _ => rw [bnd_exc h2] at h; cases h
            | bad => rw [bnd_bad h2] at h; cases h
            | ok vs ρ2 => rw [bnd_ok h2] at h; cases h; simp [ih h2]
      refine ⟨rfl, by rw [← avrs_len r1, lx hx, hl], fun y dy ny nd ne => ?_⟩
      refine make_end (W := WF) mC R1 r2 ?_ y dy ny nd ne
      cases hm : makeV c φ ds ρ1 with
      | bad => rw [hm] at q; exact q.elim
      | exc e ρ2 => rw [hm] at q; exact q.elim
      | ok d ρ2 => rw [hm] at q; exact fun v H' ex R' r => q v H' (ex1.trans ex) R' r
def D.repr : List D → Option D
  | [.int i] => if i.natAbs.log2 < 1920 then some (.str (toString i)) else none
  | [.bl b] => some (.str (if b then "True" else "False"))
  | _ => none
theorem call_repr_bl : CallR X (.builtin "repr") (fun xs H Q => ∃ b : Bool, xs = [.bl b] ∧ Q (.str (if b then "True" else "False")) H) := by
  intro pins s σ H xs us Q I r h
  obtain ⟨b, rfl, q⟩ := h
  obtain ⟨u, rfl, r1⟩ := vals1 r
  obtain rfl : u = .bool b := r1
  exact PySem.P.repr_of_bool ⟨.str _, H, I.tok _, ⟨_, rfl⟩, q⟩
theorem de_repr {es : List Expr} (hg : Gl X "repr") (hm : X.mg "repr" = none) (ha : DA X (e :: es) as) (he : starEach (e :: es) X.env = (false, eval e X.env) :: starEach es X.env := by rfl) (hpl : (backTo pos (starEach es X.env)).any (·.1) = false := by rfl) :
    DE X (.Call (.Name "repr" p) (e :: es) [] pos) (opN D.repr as) :=
  de_callB ((SkE.call_repr_int).or call_repr_bl) (by
    intro A H xs d vs Q tk rx e q
    match xs, rx, e with
    | [.int i], .cons r .nil, e =>
      have e : (if i.natAbs.log2 < 1920 then some (D.str (toString i)) else none) = some d := e
      cases r
      by_cases hz : i.natAbs.log2 < 1920
      · rw [if_pos hz] at e
        cases (Option.some.inj e)
        exact .inl ⟨i, rfl, hz, q _ _ (Same.refl _) rfl⟩
      · rw [if_neg hz] at e; cases e
    | [.bl b], .cons r .nil, e =>
      cases r
      cases (Option.some.inj e)
      exact .inr ⟨b, rfl, q _ _ (Same.refl _) rfl⟩) (by decide +kernel) (by decide) (by decide) hg hm ha he hpl
end
end DL
namespace DL
open PySem L2
def supB (N ps : List Str) (sc : Scope) : Bool :=
  (match sc.kind with | .function => true | _ => false) && !sc.isCoroutine && !sc.isGenerator && decide N.Nodup && decide (N.take ps.length = ps) && ps.all (fun x => decide (sc.names.lookup x = some .local)) &&
  sc.names.all (fun y => !decide (y.2 = .cell)) && sc.names.all (fun y => !decide (y.2 = .free) || decide (y.1 = "__class__")) && decide (sc.names.lookup ("super" : Str) = some .globalImplicit) && decide (sc.names.lookup ("__class__" : Str) = some .free)
theorem sup_by {N ps : List Str} {sc : Scope} (h : supB N ps sc = true) : SupScope N ps sc := by
  unfold supB at h
  simp only [Bool.and_eq_true, Bool.not_eq_true', decide_eq_true_eq, List.all_eq_true, Bool.or_eq_true, decide_eq_false_iff_not] at h
  obtain ⟨⟨⟨⟨⟨⟨⟨⟨⟨h1, h2⟩, h3⟩, h4⟩, h5⟩, h6⟩, h7⟩, h8⟩, h9⟩, h10⟩ := h
  refine ⟨?_, h2, h3, h4, h5, h6, h7, fun x hx => ?_, h9, h10⟩
  · split at h1
    · assumption
    · cases h1
  · rcases h8 _ (PySem.mem_of_lookup hx) with z | z
    · exact absurd rfl z
    · exact z
theorem fun_kbn {K : PySem.W.Frag} {x qual : Str} {st : Stmt} {f : Addr} {fd : FuncData} {ps ks : List Str} (F : Fun K x qual st f fd)
    (h : ∀ (kV doc pm : Value) (an : Option Addr) (cdv ct : Value) (us ws : List Value), us.length = 1 → ws.length = ks.length → bindArgs (PySem.W.fnOf x qual (defArgs st) (defBody st) (defScope st) .none kV doc pm an cdv ct) ⟨us, ks.zip ws⟩ = pure (ps.zip (us ++ ws))) :
    KBn K fd ps 1 ks (fun us ws => us ++ ws) (fun us ws => us ++ ws) := by
  obtain ⟨oc, od, kV, doc, pm, an, cdv, ct, osl, rfl, lk, hcd⟩ := F.ex
  exact ⟨fun s us ws _ h1 h2 => .of_eq (h kV doc pm an cdv ct us ws h1 h2), fun r1 r2 => r1.append r2⟩
theorem fld_ok {K : PySem.W.Frag} {mg : Str → Option Value} {c f : Str} {C : Addr} (hm : mg c = some (.ref C)) (c1 : Cls K C) (n : NoAttr K C f) : FldOk K mg c f := fun C' h => by
  rw [hm] at h
  cases h
  exact ⟨c1, n⟩
/-- what the law is promised -/
def spScript (K : PySem.W.Frag) : Sp := fun vs H Q _ => ∃ (a : Addr) (ns : List Int), vs = [.ref a] ∧ SqL K H a (ns.map V.int) ∧ ns.length ≤ 63 ∧ ∀ H', Q (.bl true) H'
theorem script_sp {K : PySem.W.Frag} {mg : Str → Option Value} {φ : Fn} (h : ∀ ns : List Int, ns.length ≤ 63 → ∃ os, φ [.val (.scr (ns.map D.int))] = .ok (.bl true) os) (vs : List V) (H : Hp) (Q : VK) (E : XK) (q : spScript K vs H Q E) : spD K mg φ vs H Q E := by
  obtain ⟨a, ns, rfl, hs, hl, q⟩ := q
  obtain ⟨os, e⟩ := h ns hl
  have eo : off [] H = H := by funext b; unfold off; simp
  have reps : ∀ (ns : List Int), Reps K mg (off [] H) (ns.map D.int) (ns.map V.int) := fun ns => by
    induction ns with
    | nil => exact rfl
    | cons n ns ih => exact .cons rfl ih
  refine ⟨[], [.val (.scr (ns.map D.int))], ⟨rfl, fun i s v h1 h2 => ?_, fun i j s t b h1 h2 o1 o2 => ?_, fun b hb => by cases hb⟩, ?_⟩
  · match i, h1, h2 with
    | 0, h1, h2 => cases (Option.some.inj h1); cases (Option.some.inj h2); exact ⟨_, rfl, a, _, rfl, by rw [eo]; exact hs, reps ns⟩
    | i + 1, h1, h2 => simp at h1
  · match i, h1 with
    | 0, h1 => cases (Option.some.inj h1); cases o1
    | i + 1, h1 => simp at h1
  · rw [e]
    intro v H' p rv
    cases rv
    exact q H'
theorem walk_script {l : PySem.W.OpenLaw} {k : Nat} {q : Program} {loose : List Str} {XP : (Str → Option Value) → Heap → Prop} {YP : World → Heap → Prop} {d : DefRec} {K : Params → PySem.W.Frag} (hn : l.most = some 63) (hdf : d.params.defaults = []) (hr : Room k callerA)
    (hY : ∀ (w : World) (h : Heap), YP w h → (K w.params).In h)
    (F : ∀ (w : World) (mg : Str → Option Value) (fa : Addr) (h : Heap), (K w.params).In h → h.Ns mainGlobals mg → mg d.name = some (.ref fa) →
      ∃ fd : FuncData, (∀ (s : Shared) (u : Value), BindsTo s fd ⟨[u], []⟩ [("script", u)]) ∧ ∀ base : Heap, (K w.params).In base → base.Ns mainGlobals mg → FnOk l.prog w (K w.params) mg base (L2.CX l.prog w) k fa fd ["script"] (spScript (K w.params))) :
    PySem.W.WalkO q loose XP YP l.row.toRowW d [] (fun f vs => PySem.call f vs) :=
  L2.walk_of (n := 63) (k := k) (x := "script") (CX := fun w => L2.CX l.prog w) (sp := fun w => spScript (K w.params)) hn (by decide) hdf hr hY F (fun _ _ a ns hl _ hS => ⟨a, ns, rfl, hS, hl, fun _ => rfl⟩) fun _ _ _ _ _ z => by
    obtain ⟨_, _, _, _, _, _, _, _, _, _, _, _, z⟩ := z
    exact z
/-- an error class is caught with its fields -/
theorem excT_mk {K : PySem.W.Frag} {mg : Str → Option Value} {known : List Str} {tbl : Str → Bool} {c : Str} {fs : List Str} {C : Addr} (hm : mg c = some (.ref C)) (x : XfC K C) (hf : ∀ f ∈ fs, PySem.W.findIn K (.ref C) f = some none)
    (hk : ∀ e ∈ known, ∃ Ce : Addr, mg e = some (.ref Ce) ∧ PySem.W.exmOne K (.ref Ce) (.ref C) = some (tbl e)) : ExcT K mg known tbl c fs :=
  ⟨C, hm, x, hf, fun e he C' h => by
    obtain ⟨Ce, h1, h2⟩ := hk e he
    rw [h1] at h
    cases h
    exact h2⟩
end DL
namespace DL
open PySem L2
theorem merge_self : ∀ {a b : Ev}, a.length = b.length → (∀ (j : Nat) s, a[j]? = some s → s.isOwn = true → b[j]? = some s) → mergeE a b = some a
  | [], [], _, _ => rfl
  | [], _ :: _, h, _ => by simp at h
  | _ :: _, [], h, _ => by simp at h
  | x :: a, y :: b, h, q => by
    have h' : a.length = b.length := by simpa using h
    have r := merge_self h' fun j s h1 h2 => by simpa using q (j + 1) s (by simpa using h1) h2
    unfold mergeE
    rw [r]
    cases ho : x.isOwn with
    | false => rfl
    | true =>
      have e := q 0 x rfl ho
      simp at e
      subst e
      simp [ho]
theorem merge_wipe {vs : List Nat} {ρ : Ev} (h : ownAt vs ρ = false) : mergeE ρ (wipeE ρ vs) = some ρ := by
  refine merge_self (wipeE_len vs ρ).symm fun j s h1 h2 => ?_
  rw [wipeE_get]
  by_cases hj : j ∈ vs
  · have := ownAt_no h j hj s h1
    rw [this] at h2
    cases h2
  · rw [if_neg hj]; exact h1
theorem lcL_pure {vs : List Nat} {t : D → Ev → Option Ev} {tt : M Bool} {te : M D} {ρ : Ev} (p : D → Bool) (f : D → D) : ∀ {ds : List D} {acc : List D},
    (∀ d ∈ ds, ∃ ρ1, t d ρ = some ρ1 ∧ tt ρ1 = .ok (p d) ρ1 ∧ (p d = true → te ρ1 = .ok (f d) ρ1) ∧ ownAt vs ρ1 = false ∧ wipeE ρ1 vs = ρ) → lcL vs t tt te ds ρ acc = .ok (acc ++ (ds.filter p).map f) ρ
  | [], acc, _ => by simp [lcL]
  | d :: ds, acc, h => by
    obtain ⟨ρ1, h1, h2, h3, h4, h5⟩ := h d List.mem_cons_self
    have ih := fun acc' => lcL_pure (acc := acc') p f fun x hx => h x (List.mem_cons_of_mem _ hx)
    unfold lcL
    rw [h1]
    dsimp only
    rw [h2]
    cases hp : p d with
    | false =>
      dsimp only
      rw [h4, h5]
      simp [ih, hp]
    | true =>
      dsimp only
      rw [h3 hp]
      dsimp only
      rw [h4, h5]
      simp [ih, hp]
theorem comp_pure {vs : List Nat} {src : M (List D)} {t : D → Ev → Option Ev} {tt : M Bool} {te : M D} {ρ ρ0 : Ev} {ds : List D} (p : D → Bool) (f : D → D) (hs : src ρ0 = .ok ds ρ) (ho : ownAt vs ρ = false)
    (h : ∀ d ∈ ds, ∃ ρ1, t d (wipeE ρ vs) = some ρ1 ∧ tt ρ1 = .ok (p d) ρ1 ∧ (p d = true → te ρ1 = .ok (f d) ρ1) ∧ ownAt vs ρ1 = false ∧ wipeE ρ1 vs = wipeE ρ vs) : compM vs src t tt te ρ0 = .ok (.lst ((ds.filter p).map f)) ρ := by
  unfold compM
  rw [bnd_ok hs, ho]
  simp only [Bool.false_eq_true, if_false]
  rw [lcL_pure p f h]
  dsimp only
  rw [merge_wipe ho]
  simp
theorem set_self {ρ : Ev} {i : Nat} {s : Slot} (h : ρ[i]? = some s) : ρ.set i s = ρ := by
  have hi := (List.getElem?_eq_some_iff.mp h).1
  have e := (List.getElem?_eq_some_iff.mp h).2
  rw [← e]
  exact List.set_getElem_self hi
/-- a loop that looks for the first item with c -/
theorem find_loop {i : Nat} {B : S} (c : D → Bool) (r : D → D) : ∀ {ds : List D} {ρ : Ev} {s0 : Slot}, ρ[i]? = some s0 → s0.isOwn = false → (∀ d ∈ ds, B (ρ.set i (.val d)) = if c d = true then .rt (r d) (ρ.set i (.val d)) else .nx (ρ.set i (.val d))) →
    (∃ d, ds.find? c = some d ∧ forL (gN i) B ds ρ = .rt (r d) (ρ.set i (.val d))) ∨ (ds.find? c = none ∧ ∃ s, s.isOwn = false ∧ forL (gN i) B ds ρ = .nx (ρ.set i s))
  | [], ρ, s0, h0, ho, _ => .inr ⟨rfl, s0, ho, by rw [set_self h0]; rfl⟩
  | d :: ds, ρ, s0, h0, ho, hB => by
    have li : i < ρ.length := (List.getElem?_eq_some_iff.mp h0).1
    have hg : gN i d ρ = some (ρ.set i (.val d)) := by unfold gN; rw [h0]; simp [ho]
    have e1 : forL (gN i) B (d :: ds) ρ = match B (ρ.set i (.val d)) with
      | .nx ρ' => forL (gN i) B ds ρ'
      | .ct ρ' => forL (gN i) B ds ρ'
      | .bk ρ' => .nx ρ'
      | .rt x ρ' => .rt x ρ' | .exc e ρ' => .exc e ρ' | .bad => .bad := by
      show (match gN i d ρ with
        | none => SOut.bad
        | some ρ1 => _) = _
      rw [hg]
      try dsimp only
      all_goals (cases B (ρ.set i (.val d)) <;> rfl)
    have hb := hB d List.mem_cons_self
    by_cases hc : c d = true
    · rw [if_pos hc] at hb
      exact .inl ⟨d, by simp [hc], by rw [e1, hb]⟩
    · rw [if_neg hc] at hb
      rcases find_loop c r (ds := ds) (ρ := ρ.set i (.val d)) (s0 := .val d) (by rw [List.getElem?_set_self li]) rfl (fun x hx => by rw [List.set_set]; exact hB x (List.mem_cons_of_mem _ hx)) with ⟨y, h1, h2⟩ | ⟨h1, s, h2, h3⟩
      · exact .inl ⟨y, by rw [List.find?_cons_of_neg hc]; exact h1, by rw [e1, hb]; dsimp only; rw [h2, List.set_set]⟩
      · exact .inr ⟨by rw [List.find?_cons_of_neg hc]; exact h1, s, h2, by rw [e1, hb]; dsimp only; rw [h3, List.set_set]⟩
theorem rng_nat (lo hi : Int) : rng lo hi = ((List.range (hi - lo).toNat).map fun k : Nat => lo + (k : Int)).map D.int := by
  unfold rng
  rw [List.map_map]
  rfl
theorem callV_1 {φ : Fn} {a : D} {ρ : Ev} : callV φ [.d a] ρ = match φ [.val a] with
    | .ok d (_ :: _) => .ok d ρ
    | .exc e (_ :: _) => .exc e ρ
    | _ => .bad := by
  unfold callV
  simp only [slotsOf, ownIx, Option.map_some, List.nodup_nil, if_true]
  cases φ [.val a] with
  | ok d os => cases os <;> simp [upsOf, updE]
  | exc e os => cases os <;> simp [upsOf, updE]
  | bad => rfl
theorem callV_2 {φ : Fn} {a b : D} {ρ : Ev} : callV φ [.d a, .d b] ρ = match φ [.val a, .val b] with
    | .ok d (_ :: _ :: _) => .ok d ρ
    | .exc e (_ :: _ :: _) => .exc e ρ
    | _ => .bad := by
  unfold callV
  simp only [slotsOf, ownIx, Option.map_some, List.nodup_nil, if_true]
  cases φ [.val a, .val b] with
  | ok d os => rcases os with _ | ⟨_, _ | ⟨_, _⟩⟩ <;> simp [upsOf, updE]
  | exc e os => rcases os with _ | ⟨_, _ | ⟨_, _⟩⟩ <;> simp [upsOf, updE]
  | bad => rfl
theorem callV_3 {φ : Fn} {a b c : D} {ρ : Ev} : callV φ [.d a, .d b, .d c] ρ = match φ [.val a, .val b, .val c] with
    | .ok d (_ :: _ :: _ :: _) => .ok d ρ
    | .exc e (_ :: _ :: _ :: _) => .exc e ρ
    | _ => .bad := by
  unfold callV
  simp only [slotsOf, ownIx, Option.map_some, List.nodup_nil, if_true]
  cases φ [.val a, .val b, .val c] with
  | ok d os => rcases os with _ | ⟨_, _ | ⟨_, _ | ⟨_, _⟩⟩⟩ <;> simp [upsOf, updE]
  | exc e os => rcases os with _ | ⟨_, _ | ⟨_, _ | ⟨_, _⟩⟩⟩ <;> simp [upsOf, updE]
  | bad => rfl
theorem callV_4 {φ : Fn} {a b c g : D} {ρ : Ev} : callV φ [.d a, .d b, .d c, .d g] ρ = match φ [.val a, .val b, .val c, .val g] with
    | .ok d (_ :: _ :: _ :: _ :: _) => .ok d ρ
    | .exc e (_ :: _ :: _ :: _ :: _) => .exc e ρ
    | _ => .bad := by
  unfold callV
  simp only [slotsOf, ownIx, Option.map_some, List.nodup_nil, if_true]
  cases φ [.val a, .val b, .val c, .val g] with
  | ok d os => rcases os with _ | ⟨_, _ | ⟨_, _ | ⟨_, _ | ⟨_, _⟩⟩⟩⟩ <;> simp [upsOf, updE]
  | exc e os => rcases os with _ | ⟨_, _ | ⟨_, _ | ⟨_, _ | ⟨_, _⟩⟩⟩⟩ <;> simp [upsOf, updE]
  | bad => rfl
theorem sz1 : (1 ≤ sizeLine) = True := by rw [sizeLine_eq]; decide
theorem sz2 : (2 ≤ sizeLine) = True := by rw [sizeLine_eq]; decide
theorem sz3 : (3 ≤ sizeLine) = True := by rw [sizeLine_eq]; decide
theorem sz4 : (4 ≤ sizeLine) = True := by rw [sizeLine_eq]; decide
theorem sz5 : (5 ≤ sizeLine) = True := by rw [sizeLine_eq]; decide
theorem sz6 : (6 ≤ sizeLine) = True := by rw [sizeLine_eq]; decide
theorem sz7 : (7 ≤ sizeLine) = True := by rw [sizeLine_eq]; decide
theorem sz8 : (8 ≤ sizeLine) = True := by rw [sizeLine_eq]; decide
theorem sz9 : (9 ≤ sizeLine) = True := by rw [sizeLine_eq]; decide
theorem sz10 : (10 ≤ sizeLine) = True := by rw [sizeLine_eq]; decide
theorem sz11 : (11 ≤ sizeLine) = True := by rw [sizeLine_eq]; decide
theorem sz12 : (12 ≤ sizeLine) = True := by rw [sizeLine_eq]; decide
end DL
namespace DL
open PySem L2
def top (i : Nat) : Stmt := PySem.Challenge.pw_gateskept_k01_whole_stays.main.body.getD i (.Pass ⟨0, 0, 0, 0⟩)
abbrev s_is_whole : Stmt := top 5
abbrev s_is_number : Stmt := top 6
abbrev s_is_row : Stmt := top 7
abbrev s_want_number : Stmt := top 8
abbrev s_is_span : Stmt := top 12
abbrev s_want_spans : Stmt := top 13
abbrev s_StayRule_uuinit__ : Stmt := inClass (top 14) 0
abbrev s_StayRule_uueq__ : Stmt := inClass (top 14) 1
abbrev s_StayRule_inside : Stmt := inClass (top 14) 2
abbrev s_StayRule_first_over : Stmt := inClass (top 14) 3
abbrev s_StayRule_is_lawful : Stmt := inClass (top 14) 4
abbrev s_StayRule_can_stay : Stmt := inClass (top 14) 5
abbrev s_StayRule_longest_stay : Stmt := inClass (top 14) 6
abbrev s_StayRule_longest_up_to : Stmt := inClass (top 14) 8
abbrev s_StayRule_most_days : Stmt := inClass (top 14) 9
abbrev s_StayRule_earliest_days : Stmt := inClass (top 14) 10
abbrev s_ulaw_taken : Stmt := top 16
abbrev s_ulaw_pick : Stmt := top 17
abbrev s_ulaw_alike : Stmt := top 18
abbrev s_ulaw_mixed : Stmt := top 19
abbrev s_ulaw_subsets : Stmt := top 20
abbrev s_ulaw_truth : Stmt := top 21
abbrev s_ulaw_inside : Stmt := top 22
abbrev s_ulaw_lawful : Stmt := top 23
abbrev s_StayRule_first_entry : Stmt := inClass (top 14) 7
abbrev s_ulaw_refused : Stmt := top 24
abbrev s_law : Stmt := top 25
def known : List Str := ["BadItem", "BadNumber"]
def caught (c e : Str) : Bool := e == c || c == "GateError"
def m_is_whole : S := sV (vAnd (op1 (isiB .int) (.o 0)) (vNot (op1 (isiB .bool) (.o 0)))) fun d ρ => .rt d ρ
def f_is_whole : Fn := fnF 1 0 m_is_whole
def m_is_number : S := sV (vAnd (callF f_is_whole [.v (var 0)]) (chain (var 1) (chC D.le (var 0) (chL D.le (var 2))))) fun d ρ => .rt d ρ
def f_is_number : Fn := fnF 3 0 m_is_number
def m_is_row : S := sV (op1 (isi2 .list .tuple) (.o 0)) fun d ρ => .rt d ρ
def f_is_row : Fn := fnF 1 0 m_is_row
def m_want_number : S := sSeq (sIf (bNot (asTest (callF f_is_number [.v (var 0), .v (var 1), .v (var 2)]))) (sRaise "BadNumber" ["value"] [.v (var 0)]) (sNx)) (sV (var 0) fun d ρ => .rt d ρ)
def f_want_number : Fn := fnF 3 0 m_want_number
def m_is_span : S := sSeq (sIf (bOr (bNot (asTest (callF f_is_row [.v (var 0)]))) (bOr (asTest (op2 D.ne (.v (opN D.len [(.o 0)])) (.v (M.ret (.int 2))))) (bOr (bNot (asTest (callF f_is_whole [.v (op2 D.ix (.o 0) (.v (M.ret (.int 0))))]))) (bNot (asTest (callF f_is_whole [.v (op2 D.ix (.o 0) (.v (M.ret (.int 1))))])))))) (sV (M.ret (.bl false)) fun d ρ => .rt d ρ) (sNx)) (sV (chain (M.ret (.int 0)) (chC D.le (op2 D.ix (.o 0) (.v (M.ret (.int 0)))) (chC D.lt (op2 D.ix (.o 0) (.v (M.ret (.int 1)))) (chL D.le (M.ret (.int 9999)))))) fun d ρ => .rt d ρ)
def f_is_span : Fn := fnF 1 0 m_is_span
def b0_want_spans : S := sIf (bOr (bNot (asTest (callF f_is_span [.v (var 2)]))) (bAnd (asTest (op2 D.gt (.o 1) (.v (M.ret (.int 0))))) (asTest (op2 D.lt (.v (op2 D.ix (.o 2) (.v (M.ret (.int 0))))) (.v (op2 D.ix (.v (op2 D.ix (.o 0) (.v (op2 D.sub (.o 1) (.v (M.ret (.int 1))))))) (.v (M.ret (.int 1))))))))) (sRaise "BadItem" ["index"] [.v (var 1)]) (sNx)
def l1_want_spans : S := sFor (srcN D.enum [.v (var 0)]) (gTu (gCo (gN 1) (gCo (gN 2) (gNi))) 2) (b0_want_spans)
def c2_want_spans : M D := opN D.toT [(.o 2)]
def k3_want_spans : M D := compM [2] (seqM (var 0)) (gN 2) (noTest) (c2_want_spans)
def m_want_spans : S := sSeq (sIf (bNot (asTest (callF f_is_row [.v (var 0)]))) (sRaise "BadItem" ["index"] [.v (M.ret .non)]) (sNx)) (sSeq (l1_want_spans) (sV (opN D.toT [(.v (k3_want_spans))]) fun d ρ => .rt d ρ))
def f_want_spans : Fn := fnF 1 2 m_want_spans
def m_StayRule_uuinit__ : S := sSeq (sFldSet 0 "StayRule" "most" (callF f_want_number [.v (var 1), .v (M.ret (.int 0)), .v (M.ret (.int 400))])) (sFldSet 0 "StayRule" "window" (callF f_want_number [.v (var 2), .v (M.ret (.int 1)), .v (M.ret (.int 400))]))
def f_StayRule_uuinit__ : Fn := fnF 3 0 m_StayRule_uuinit__
def m_StayRule_uueq__ : S := sV (vAnd (op1 (isiC "StayRule") (.o 1)) (op2 D.eq (.v (opV D.mkT [.v (op1 (D.fld "StayRule" "most") (.o 0)), .v (op1 (D.fld "StayRule" "window") (.o 0))])) (.v (opV D.mkT [.v (op1 (D.fld "StayRule" "most") (.o 1)), .v (op1 (D.fld "StayRule" "window") (.o 1))])))) fun d ρ => .rt d ρ
def f_StayRule_uueq__ : Fn := fnF 2 0 m_StayRule_uueq__
def c0_StayRule_inside : M D := opN D.max [(.v (M.ret (.int 0))), (.v (op2 D.sub (.v (opN D.min [(.o 5), (.v (op2 D.add (.o 2) (.v (M.ret (.int 1)))))])) (.v (opN D.max [(.o 4), (.o 3)]))))]
def k1_StayRule_inside : M D := compM [4, 5] (seqM (callF f_want_spans [.v (var 1)])) (gTu (gCo (gN 4) (gCo (gN 5) (gNi))) 2) (noTest) (c0_StayRule_inside)
def m_StayRule_inside : S := sSeq (sAsg (op2 D.add (.v (op2 D.sub (.o 2) (.v (op1 (D.fld "StayRule" "window") (.o 0))))) (.v (M.ret (.int 1)))) (gN 3)) (sV (opN D.sum [(.v (k1_StayRule_inside))]) fun d ρ => .rt d ρ)
def f_StayRule_inside : Fn := fnF 3 3 m_StayRule_inside
def b0_StayRule_first_over : S := sIf (asTest (op2 D.gt (.v (methF "StayRule" "inside" f_StayRule_inside (var 0) [.v (var 1), .v (var 4)])) (.v (op1 (D.fld "StayRule" "most") (.o 0))))) (sV (var 4) fun d ρ => .rt d ρ) (sNx)
def l1_StayRule_first_over : S := sFor (srcN D.rng2 [.v (var 2), .v (var 3)]) (gN 4) (b0_StayRule_first_over)
def b2_StayRule_first_over : S := l1_StayRule_first_over
def l3_StayRule_first_over : S := sFor (seqM (callF f_want_spans [.v (var 1)])) (gTu (gCo (gN 2) (gCo (gN 3) (gNi))) 2) (b2_StayRule_first_over)
def m_StayRule_first_over : S := sSeq (l3_StayRule_first_over) (sV (M.ret .non) fun d ρ => .rt d ρ)
def f_StayRule_first_over : Fn := fnF 2 3 m_StayRule_first_over
def m_StayRule_is_lawful : S := sV (op2 D.isN (.v (methF "StayRule" "first_over" f_StayRule_first_over (var 0) [.v (var 1)])) (.v (M.ret .non))) fun d ρ => .rt d ρ
def f_StayRule_is_lawful : Fn := fnF 2 0 m_StayRule_is_lawful
def m_StayRule_can_stay : S := sSeq (sAsg (callF f_want_spans [.v (var 1)]) (gN 3)) (sV (op2 D.le (.v (methF "StayRule" "inside" f_StayRule_inside (var 0) [.v (op2 D.add (.o 3) (.v (opV D.mkT [.v (opV D.mkT [.v (var 2), .v (op2 D.add (.o 2) (.v (M.ret (.int 1))))])]))), .v (var 2)])) (.v (op1 (D.fld "StayRule" "most") (.o 0)))) fun d ρ => .rt d ρ)
def f_StayRule_can_stay : Fn := fnF 3 1 m_StayRule_can_stay
def b0_StayRule_longest_stay : S := sAug addI 4 (M.ret (.int 1))
def l1_StayRule_longest_stay : S := whL (bAnd (asTest (op2 D.lt (.o 4) (.v (M.ret (.int 9999))))) (asTest (op2 D.le (.v (methF "StayRule" "inside" f_StayRule_inside (var 0) [.v (op2 D.add (.o 3) (.v (opV D.mkT [.v (opV D.mkT [.v (var 2), .v (op2 D.add (.o 4) (.v (M.ret (.int 1))))])]))), .v (var 4)])) (.v (op1 (D.fld "StayRule" "most") (.o 0)))))) (b0_StayRule_longest_stay) 20000
def m_StayRule_longest_stay : S := sSeq (sPar 3 4 [.v (callF f_want_spans [.v (var 1)]), .v (var 2)]) (sSeq (l1_StayRule_longest_stay) (sV (op2 D.sub (.o 4) (.o 2)) fun d ρ => .rt d ρ))
def f_StayRule_longest_stay : Fn := fnF 3 2 m_StayRule_longest_stay
def b0_StayRule_longest_up_to : S := sIf (asTest (op2 D.gt (.v (methF "StayRule" "inside" f_StayRule_inside (var 0) [.v (op2 D.add (.o 1) (.v (opV D.mkT [.v (opV D.mkT [.v (var 2), .v (op2 D.add (.o 4) (.v (M.ret (.int 1))))])]))), .v (var 4)])) (.v (op1 (D.fld "StayRule" "most") (.o 0))))) (sV (M.ret (.bl false)) fun d ρ => .rt d ρ) (sNx)
def l1_StayRule_longest_up_to : S := sFor (srcN D.rng2 [.v (var 2), .v (op2 D.add (.o 2) (.o 3))]) (gN 4) (b0_StayRule_longest_up_to)
def m_StayRule_longest_up_to : S := sSeq (sIf (asTest (op2 D.gt (.v (op2 D.add (.o 2) (.o 3))) (.v (M.ret (.int 9999))))) (sV (M.ret (.bl false)) fun d ρ => .rt d ρ) (sNx)) (sSeq (l1_StayRule_longest_up_to) (sV (M.ret (.bl true)) fun d ρ => .rt d ρ))
def f_StayRule_longest_up_to : Fn := fnF 4 1 m_StayRule_longest_up_to
def m_StayRule_most_days : S := sSeq (sPar 2 3 [.v (op2 D.fdiv (.o 1) (.v (op1 (D.fld "StayRule" "window") (.o 0)))), .v (op2 D.mod (.o 1) (.v (op1 (D.fld "StayRule" "window") (.o 0))))]) (sV (op2 D.add (.v (op2 D.mul (.o 2) (.v (opN D.min [(.v (op1 (D.fld "StayRule" "most") (.o 0))), (.v (op1 (D.fld "StayRule" "window") (.o 0)))])))) (.v (opN D.min [(.v (op1 (D.fld "StayRule" "most") (.o 0))), (.o 3)]))) fun d ρ => .rt d ρ)
def f_StayRule_most_days : Fn := fnF 2 2 m_StayRule_most_days
def k0_StayRule_earliest_days : M D := compM [2] (srcN D.rng1 [.v (var 1)]) (gN 2) (asTest (op2 D.lt (.v (op2 D.mod (.o 2) (.v (op1 (D.fld "StayRule" "window") (.o 0))))) (.v (op1 (D.fld "StayRule" "most") (.o 0))))) (var 2)
def m_StayRule_earliest_days : S := sV (opN D.toT [(.v (k0_StayRule_earliest_days))]) fun d ρ => .rt d ρ
def f_StayRule_earliest_days : Fn := fnF 2 1 m_StayRule_earliest_days
def m_ulaw_taken : S := sSeq (sIf (asTest (op2 D.gt (.v (op2 D.ix (.o 0) (.v (M.ret (.int 3))))) (.v (M.ret (.int 0))))) (sSeq (sAsg (op2 D.mod (.v (opN D.toI [(.v (op2 D.ix (.o 0) (.v (M.ret (.int 3)))))])) (.o 1)) (gN 3)) (sSeq (sPut 0 (M.ret (.int 3)) (op2 D.fdiv (.v (op2 D.ix (.o 0) (.v (M.ret (.int 3))))) (.o 1))) (sV (var 3) fun d ρ => .rt d ρ))) (sNx)) (sSeq (sPut 0 (M.ret (.int 1)) (op2 D.add (.v (op2 D.ix (.o 0) (.v (M.ret (.int 1))))) (.v (M.ret (.int 1))))) (sSeq (sIf (asTest (op2 D.gt (.v (op2 D.ix (.o 0) (.v (M.ret (.int 1))))) (.v (opN D.len [(.v (op2 D.ix (.o 0) (.v (M.ret (.int 0)))))])))) (sSeq (sPut 0 (M.ret (.int 2)) (op2 D.mod (.v (opN D.toI [(.v (op2 D.add (.v (op2 D.mul (.v (op2 D.ix (.o 0) (.v (M.ret (.int 2))))) (.v (M.ret (.int 48271))))) (.v (M.ret (.int 11)))))])) (.v (M.ret (.int 2147483647))))) (sV (op2 D.mod (.v (opN D.toI [(.v (op2 D.fdiv (.v (op2 D.ix (.o 0) (.v (M.ret (.int 2))))) (.v (M.ret (.int 7)))))])) (.o 1)) fun d ρ => .rt d ρ)) (sNx)) (sSeq (sAsg (op2 D.ix (.v (op2 D.ix (.o 0) (.v (M.ret (.int 0))))) (.v (op2 D.sub (.v (op2 D.ix (.o 0) (.v (M.ret (.int 1))))) (.v (M.ret (.int 1)))))) (gN 2)) (sSeq (sPut 0 (M.ret (.int 2)) (op2 D.mod (.v (opN D.toI [(.v (op2 D.add (.v (op2 D.add (.v (op2 D.mul (.v (op2 D.ix (.o 0) (.v (M.ret (.int 2))))) (.v (M.ret (.int 48271))))) (.o 2))) (.v (M.ret (.int 11)))))])) (.v (M.ret (.int 2147483647))))) (sSeq (sIf (asTest (op2 D.ge (.o 2) (.v (op2 D.pow (.v (M.ret (.int 10))) (.v (M.ret (.int 18))))))) (sPut 0 (M.ret (.int 3)) (op2 D.fdiv (.o 2) (.o 1))) (sNx)) (sV (op2 D.mod (.v (opN D.toI [(.o 2)])) (.o 1)) fun d ρ => .rt d ρ))))))
def f_ulaw_taken : Fn := fnF 2 2 m_ulaw_taken
def m_ulaw_pick : S := sV (op2 D.ix (.o 1) (.v (callF f_ulaw_taken [(.o 0), .v (opN D.len [(.o 1)])]))) fun d ρ => .rt d ρ
def f_ulaw_pick : Fn := fnF 2 0 m_ulaw_pick
def k0_ulaw_alike (rec : Fn) : M D := compM [2] (srcN D.rng1 [.v (opN D.len [(.o 1)])]) (gN 2) (bNot (asTest (callF rec [.v (op2 D.ix (.o 0) (.o 2)), .v (op2 D.ix (.o 1) (.o 2))]))) (var 2)
def m_ulaw_alike (rec : Fn) : S := sSeq (sIf (asTest (op1 (isi2 .tuple .list) (.o 1))) (sSeq (sIf (bOr (bNot (asTest (op1 (isi2 .tuple .list) (.o 0)))) (asTest (op2 D.ne (.v (op1 (isiB .list) (.o 0))) (.v (op1 (isiB .list) (.o 1)))))) (sV (M.ret (.bl false)) fun d ρ => .rt d ρ) (sNx)) (sSeq (sIf (asTest (op2 D.ne (.v (opN D.len [(.o 0)])) (.v (opN D.len [(.o 1)])))) (sV (M.ret (.bl false)) fun d ρ => .rt d ρ) (sNx)) (sV (op2 D.eq (.v (k0_ulaw_alike rec)) (.v (opV D.mkL []))) fun d ρ => .rt d ρ))) (sNx)) (sSeq (sIf (bOr (asTest (op2 D.isN (.o 1) (.v (M.ret .non)))) (asTest (op1 (isiB .str) (.o 1)))) (sV (vAnd (op2 D.eq (.o 0) (.o 1)) (op2 D.eq (.v (op1 (isiB .str) (.o 0))) (.v (op1 (isiB .str) (.o 1))))) fun d ρ => .rt d ρ) (sNx)) (sV (vAnd (op1 (isiB .int) (.o 0)) (vAnd (op2 D.eq (.v (op1 (isiB .bool) (.o 0))) (.v (op1 (isiB .bool) (.o 1)))) (op2 D.eq (.o 0) (.o 1)))) fun d ρ => .rt d ρ))
def f_ulaw_alike : Nat → Fn
  | 0 => fun _ => .bad
  | n + 1 => fnF 2 1 (m_ulaw_alike (f_ulaw_alike n))
def m_ulaw_mixed : S := sSeq (sIf (asTest (op2 D.eq (.v (callF f_ulaw_taken [(.o 0), .v (M.ret (.int 2))])) (.v (M.ret (.int 0))))) (sV (opN D.toL [(.o 1)]) fun d ρ => .rt d ρ) (sNx)) (sV (opN D.toT [(.o 1)]) fun d ρ => .rt d ρ)
def f_ulaw_mixed : Fn := fnF 2 0 m_ulaw_mixed
def c0_ulaw_subsets : M D := op2 D.add (.o 3) (.v (opV D.mkL [.v (var 2)]))
def k1_ulaw_subsets : M D := compM [3] (seqM (var 1)) (gN 3) (noTest) (c0_ulaw_subsets)
def b2_ulaw_subsets : S := sAsg (op2 D.add (.o 1) (.v (k1_ulaw_subsets))) (gN 1)
def l3_ulaw_subsets : S := sFor (srcN D.rng1 [.v (var 0)]) (gN 2) (b2_ulaw_subsets)
def m_ulaw_subsets : S := sSeq (sAsg (opV D.mkL [.v (opV D.mkL [])]) (gN 1)) (sSeq (l3_ulaw_subsets) (sV (var 1) fun d ρ => .rt d ρ))
def f_ulaw_subsets : Fn := fnF 1 3 m_ulaw_subsets
def m_ulaw_truth : S := sV (vAnd (op1 (isiB .bool) (.o 0)) (op2 D.eq (.o 0) (.o 1))) fun d ρ => .rt d ρ
def f_ulaw_truth : Fn := fnF 2 0 m_ulaw_truth
def k0_ulaw_inside : M D := compM [4] (seqM (var 0)) (gN 4) (asTest (chain (op2 D.sub (.o 3) (.o 2)) (chC D.lt (var 4) (chL D.le (var 3))))) (var 4)
def m_ulaw_inside : S := sV (opN D.len [(.v (k0_ulaw_inside))]) fun d ρ => .rt d ρ
def f_ulaw_inside : Fn := fnF 4 1 m_ulaw_inside
def k0_ulaw_lawful : M D := compM [3] (seqM (var 0)) (gN 3) (asTest (op2 D.gt (.v (callF f_ulaw_inside [.v (var 0), .v (var 1), .v (var 2), .v (var 3)])) (.o 1))) (var 3)
def m_ulaw_lawful : S := sV (op2 D.eq (.v (k0_ulaw_lawful)) (.v (opV D.mkL []))) fun d ρ => .rt d ρ
def f_ulaw_lawful : Fn := fnF 3 1 m_ulaw_lawful
def b0_StayRule_first_entry : S := sIf (asTest (methF "StayRule" "longest_up_to" f_StayRule_longest_up_to (var 0) [.v (var 4), .v (var 5), .v (var 3)])) (sV (var 5) fun d ρ => .rt d ρ) (sNx)
def l1_StayRule_first_entry : S := sFor (srcN D.rng2 [.v (var 2), .v (op2 D.add (.v (op2 D.add (.o 2) (.v (op2 D.mul (.v (M.ret (.int 2))) (.v (op1 (D.fld "StayRule" "window") (.o 0))))))) (.v (M.ret (.int 1))))]) (gN 5) (b0_StayRule_first_entry)
def m_StayRule_first_entry : S := sSeq (sAsg (callF f_want_spans [.v (var 1)]) (gN 4)) (sSeq (sIf (bAnd (asTest (op2 D.gt (.o 3) (.v (opN D.min [(.v (op1 (D.fld "StayRule" "most") (.o 0))), (.v (op1 (D.fld "StayRule" "window") (.o 0)))])))) (asTest (op2 D.lt (.v (op1 (D.fld "StayRule" "most") (.o 0))) (.v (op1 (D.fld "StayRule" "window") (.o 0)))))) (sV (M.ret .non) fun d ρ => .rt d ρ) (sNx)) (sSeq (l1_StayRule_first_entry) (sV (M.ret .non) fun d ρ => .rt d ρ)))
def f_StayRule_first_entry : Fn := fnF 4 2 m_StayRule_first_entry
def m_ulaw_refused : S := sSeq (sTry known (caught "BadItem") 3 (sIf (asTest (op2 D.eq (.o 2) (.v (M.ret (.int 0))))) (sV (methF "StayRule" "inside" f_StayRule_inside (var 0) [.v (var 1), .v (M.ret (.int 50))]) fun _ => sNx) (sIf (asTest (op2 D.eq (.o 2) (.v (M.ret (.int 1))))) (sV (methF "StayRule" "first_over" f_StayRule_first_over (var 0) [.v (var 1)]) fun _ => sNx) (sIf (asTest (op2 D.eq (.o 2) (.v (M.ret (.int 2))))) (sV (methF "StayRule" "is_lawful" f_StayRule_is_lawful (var 0) [.v (var 1)]) fun _ => sNx) (sIf (asTest (op2 D.eq (.o 2) (.v (M.ret (.int 3))))) (sV (methF "StayRule" "can_stay" f_StayRule_can_stay (var 0) [.v (var 1), .v (M.ret (.int 50))]) fun _ => sNx) (sIf (asTest (op2 D.eq (.o 2) (.v (M.ret (.int 4))))) (sV (methF "StayRule" "longest_stay" f_StayRule_longest_stay (var 0) [.v (var 1), .v (M.ret (.int 50))]) fun _ => sNx) (sV (methF "StayRule" "first_entry" f_StayRule_first_entry (var 0) [.v (var 1), .v (M.ret (.int 50)), .v (M.ret (.int 1))]) fun _ => sNx)))))) (sV (opV D.mkT [.v (M.ret (.str "item")), .v (exF 3 "BadItem" "index")]) fun d ρ => .rt d ρ)) (sV (M.ret .non) fun d ρ => .rt d ρ)
def f_ulaw_refused : Fn := fnF 3 1 m_ulaw_refused
def x0_law : S := sOwn 1 1 [.v (var 0), .v (M.ret (.int 0)), .v (M.ret (.int 19)), .v (M.ret (.int 0))]
def x1_law : S := sAsg (opV D.mkT [.v (callF f_ulaw_taken [(.o 1), .v (M.ret (.int 8))]), .v (op2 D.add (.v (M.ret (.int 1))) (.v (callF f_ulaw_taken [(.o 1), .v (M.ret (.int 12))])))]) (gTu (gCo (gN 15) (gCo (gN 16) (gNi))) 2)
def x2_law : S := sRow 1 [17, 18, 19, 20] (some (makeF "StayRule" f_StayRule_uuinit__ [.v (var 15), .v (var 16)])) [.n [], .l [], .k (.int 0)]
def b3_law : S := sSeq (sAsg (op2 D.add (.o 20) (.v (callF f_ulaw_taken [(.o 1), .v (M.ret (.int 7))]))) (gN 21)) (sSeq (sAsg (op2 D.add (.v (op2 D.add (.o 21) (.v (M.ret (.int 1))))) (.v (callF f_ulaw_taken [(.o 1), .v (M.ret (.int 5))]))) (gN 20)) (sSeq (sApp 18 (opV D.mkT [.v (var 21), .v (var 20)])) (sAsg (op2 D.add (.o 19) (.v (opN D.listRng [.v (var 21), .v (var 20)]))) (gN 19))))
def l4_law : S := sFor (srcN D.rng1 [.v (callF f_ulaw_taken [(.o 1), .v (M.ret (.int 5))])]) (gN 2) (b3_law)
def c5_law : M D := callF f_ulaw_mixed [(.o 1), .v (var 27)]
def k6_law : M D := compM [27] (seqM (var 18)) (gN 27) (noTest) (c5_law)
def x7_law : S := sSeq (sFrz 18 1) (sAsg (callF f_ulaw_mixed [(.o 1), .v (k6_law)]) (gN 3))
def x8_law : S := sIf (bOr (bNot (asTest (callF (f_ulaw_alike 8) [.v (opV D.mkT [.v (op1 (D.fld "StayRule" "most") (.o 17)), .v (op1 (D.fld "StayRule" "window") (.o 17))]), .v (opV D.mkT [.v (var 15), .v (var 16)])]))) (bOr (asTest (op2 (cmpO "StayRule" f_StayRule_uueq__ true) (.o 17) (.v (makeKF "StayRule" f_StayRule_uuinit__ [.v (var 15), .v (var 16)])))) (bOr (asTest (op2 (cmpO "StayRule" f_StayRule_uueq__ false) (.o 17) (.v (makeF "StayRule" f_StayRule_uuinit__ [.v (op2 D.add (.o 15) (.v (M.ret (.int 1)))), .v (var 16)])))) (asTest (op2 (cmpO "StayRule" f_StayRule_uueq__ false) (.o 17) (.v (opV D.mkT [.v (var 15), .v (var 16)]))))))) (sV (M.ret (.bl false)) fun d ρ => .rt d ρ) (sNx)
def b9_law : S := sSeq (sAsg (callF f_ulaw_taken [(.o 1), .v (M.ret (.int 60))]) (gN 6)) (sIf (bNot (asTest (callF (f_ulaw_alike 8) [.v (methF "StayRule" "inside" f_StayRule_inside (var 17) [.v (var 3), .v (var 6)]), .v (callF f_ulaw_inside [.v (var 19), .v (var 15), .v (var 16), .v (var 6)])]))) (sV (M.ret (.bl false)) fun d ρ => .rt d ρ) (sNx))
def l10_law : S := sFor (srcN D.rng1 [.v (M.ret (.int 4))]) (gN 4) (b9_law)
def k11_law : M D := compM [6] (seqM (var 19)) (gN 6) (asTest (op2 D.gt (.v (callF f_ulaw_inside [.v (var 19), .v (var 15), .v (var 16), .v (var 6)])) (.o 15))) (var 6)
def x12_law : S := sAsg (k11_law) (gN 5)
def x13_law : S := sIf (bOr (bNot (asTest (callF (f_ulaw_alike 8) [.v (methF "StayRule" "first_over" f_StayRule_first_over (var 17) [.v (var 3)]), .v (op2 D.ix (.v (op2 D.add (.o 5) (.v (opV D.mkL [.v (M.ret .non)])))) (.v (M.ret (.int 0))))]))) (bNot (asTest (callF f_ulaw_truth [.v (methF "StayRule" "is_lawful" f_StayRule_is_lawful (var 17) [.v (var 3)]), .v (op2 D.eq (.o 5) (.v (opV D.mkL [])))])))) (sV (M.ret (.bl false)) fun d ρ => .rt d ρ) (sNx)
def x14_law : S := sAsg (op2 D.add (.o 20) (.v (callF f_ulaw_taken [(.o 1), .v (M.ret (.int 9))]))) (gN 6)
def x15_law : S := sIf (bNot (asTest (callF f_ulaw_truth [.v (methF "StayRule" "can_stay" f_StayRule_can_stay (var 17) [.v (var 3), .v (var 6)]), .v (op2 D.le (.v (callF f_ulaw_inside [.v (op2 D.add (.o 19) (.v (opV D.mkL [.v (var 6)]))), .v (var 15), .v (var 16), .v (var 6)])) (.o 15))]))) (sV (M.ret (.bl false)) fun d ρ => .rt d ρ) (sNx)
def x16_law : S := sAsg (M.ret (.int 0)) (gN 7)
def b17_law : S := sSeq (sIf (asTest (op2 D.gt (.v (callF f_ulaw_inside [.v (op2 D.add (.o 19) (.v (opN D.listRng [.v (var 6), .v (op2 D.add (.o 6) (.o 8))]))), .v (var 15), .v (var 16), .v (op2 D.sub (.v (op2 D.add (.o 6) (.o 8))) (.v (M.ret (.int 1))))])) (.o 15))) ((fun ρ => .bk ρ)) (sNx)) (sAsg (var 8) (gN 7))
def l18_law : S := sFor (srcN D.rng2 [.v (M.ret (.int 1)), .v (M.ret (.int 30))]) (gN 8) (b17_law)
def x19_law : S := sIf (asTest (op2 D.ge (.o 15) (.o 16))) (sAsg (op2 D.sub (.v (M.ret (.int 9999))) (.o 6)) (gN 7)) (sNx)
def x20_law : S := sIf (bNot (asTest (callF (f_ulaw_alike 8) [.v (methF "StayRule" "longest_stay" f_StayRule_longest_stay (var 17) [.v (var 3), .v (var 6)]), .v (var 7)]))) (sV (M.ret (.bl false)) fun d ρ => .rt d ρ) (sNx)
def x21_law : S := sAsg (callF f_ulaw_taken [(.o 1), .v (M.ret (.int 9))]) (gN 8)
def k22_law : M D := compM [26] (seqM (var 22)) (gN 26) (asTest (op2 D.gt (.v (callF f_ulaw_inside [.v (op2 D.add (.o 19) (.o 22)), .v (var 15), .v (var 16), .v (var 26)])) (.o 15))) (var 26)
def b23_law : S := sSeq (sAsg (opN D.listRng [.v (var 10), .v (op2 D.add (.o 10) (.o 8))]) (gN 22)) (sIf (asTest (op2 D.eq (.v (k22_law)) (.v (opV D.mkL [])))) (sApp 9 (var 10)) (sNx))
def l24_law : S := sFor (srcN D.rng2 [.v (var 6), .v (op2 D.add (.o 6) (.v (M.ret (.int 40))))]) (gN 10) (b23_law)
def x25_law : S := sIf (bNot (asTest (callF (f_ulaw_alike 8) [.v (methF "StayRule" "first_entry" f_StayRule_first_entry (var 17) [.v (var 3), .v (var 6), .v (var 8)]), .v (op2 D.ix (.v (op2 D.add (.o 9) (.v (opV D.mkL [.v (M.ret .non)])))) (.v (M.ret (.int 0))))]))) (sV (M.ret (.bl false)) fun d ρ => .rt d ρ) (sNx)
def x26_law : S := sAsg (callF f_ulaw_taken [(.o 1), .v (M.ret (.int 10))]) (gN 11)
def c27_law : M D := opN D.len [(.o 28)]
def k28_law : M D := compM [28] (seqM (callF f_ulaw_subsets [.v (var 11)])) (gN 28) (asTest (callF f_ulaw_lawful [.v (var 28), .v (var 15), .v (var 16)])) (c27_law)
def x29_law : S := sAsg (opN D.max [(.v (k28_law))]) (gN 12)
def k30_law : M D := compM [26] (srcN D.rng1 [.v (var 11)]) (gN 26) (asTest (op2 D.lt (.v (opN D.toI [(.v (op2 D.mod (.o 26) (.o 16)))])) (.o 15))) (var 26)
def x31_law : S := sAsg (k30_law) (gN 13)
def x32_law : S := sIf (bOr (bNot (asTest (callF (f_ulaw_alike 8) [.v (opV D.mkT [.v (methF "StayRule" "most_days" f_StayRule_most_days (var 17) [.v (var 11)]), .v (methF "StayRule" "earliest_days" f_StayRule_earliest_days (var 17) [.v (var 11)])]), .v (opV D.mkT [.v (var 12), .v (opN D.toT [(.o 13)])])]))) (bOr (bNot (asTest (callF f_ulaw_lawful [.v (var 13), .v (var 15), .v (var 16)]))) (asTest (op2 D.ne (.v (opN D.len [(.o 13)])) (.o 12))))) (sV (M.ret (.bl false)) fun d ρ => .rt d ρ) (sNx)
def x33_law : S := sAsg (callF f_ulaw_pick [(.o 1), .v (opV D.mkL [.v (opV D.mkT [.v (M.ret (.int 1)), .v (M.ret (.int 1))]), .v (opV D.mkT [.v (op1 D.neg (.v (M.ret (.int 1)))), .v (M.ret (.int 2))]), .v (opV D.mkT [.v (M.ret (.int 60)), .v (M.ret (.int 10000))]), .v (opV D.mkT [.v (M.ret (.bl true)), .v (M.ret (.int 60))]), .v (opV D.mkT [.v (M.ret (.int 61))]), .v (M.ret .non), .v (opV D.mkT [.v (M.ret (.int 0)), .v (M.ret (.int 61))])])]) (gN 14)
def x34_law : S := sIf (bAnd (asTest (op2 D.eq (.o 18) (.v (opV D.mkL [])))) (asTest (op2 D.eq (.o 14) (.v (opV D.mkT [.v (M.ret (.int 0)), .v (M.ret (.int 61))]))))) (sAsg (M.ret .non) (gN 14)) (sNx)
def b35_law : S := sIf (bOr (asTest (op2 D.ne (.v (callF f_ulaw_refused [.v (var 17), .v (op2 D.add (.o 18) (.v (opV D.mkL [.v (var 14)]))), .v (var 4)])) (.v (opV D.mkT [.v (M.ret (.str "item")), .v (opN D.len [(.o 18)])])))) (asTest (op2 D.ne (.v (callF f_ulaw_refused [.v (var 17), .v (M.ret .non), .v (var 4)])) (.v (opV D.mkT [.v (M.ret (.str "item")), .v (M.ret .non)]))))) (sV (M.ret (.bl false)) fun d ρ => .rt d ρ) (sNx)
def l36_law : S := sFor (srcN D.rng1 [.v (M.ret (.int 6))]) (gN 4) (b35_law)
def b37_law : S := sTry known (caught "BadNumber") 25 (sSeq (sV (makeF "StayRule" f_StayRule_uuinit__ [.v (op2 D.ix (.o 23) (.v (M.ret (.int 0)))), .v (op2 D.ix (.o 23) (.v (M.ret (.int 1))))]) fun _ => sNx) (sV (M.ret (.bl false)) fun d ρ => .rt d ρ)) (sIf (asTest (op2 D.ne (.v (opN D.repr [.v (exF 25 "BadNumber" "value")])) (.v (opN D.repr [.v (var 24)])))) (sV (M.ret (.bl false)) fun d ρ => .rt d ρ) (sNx))
def l38_law : S := sFor (seqM (opV D.mkL [.v (opV D.mkT [.v (opV D.mkT [.v (M.ret (.int 401)), .v (M.ret (.int 0))]), .v (M.ret (.int 401))]), .v (opV D.mkT [.v (opV D.mkT [.v (M.ret (.int 400)), .v (M.ret (.int 0))]), .v (M.ret (.int 0))]), .v (opV D.mkT [.v (opV D.mkT [.v (M.ret (.int 0)), .v (M.ret (.int 401))]), .v (M.ret (.int 401))]), .v (opV D.mkT [.v (opV D.mkT [.v (M.ret (.bl true)), .v (M.ret (.int 1))]), .v (M.ret (.bl true))]), .v (opV D.mkT [.v (opV D.mkT [.v (op1 D.neg (.v (M.ret (.int 1)))), .v (M.ret (.int 0))]), .v (op1 D.neg (.v (M.ret (.int 1))))])])) (gTu (gCo (gN 23) (gCo (gN 24) (gNi))) 2) (b37_law)
def x39_law : S := sV (M.ret (.bl true)) fun d ρ => .rt d ρ
def m_law : S := sSeq (x0_law) (sSeq (x1_law) (sSeq (x2_law) (sSeq (l4_law) (sSeq (x7_law) (sSeq (x8_law) (sSeq (l10_law) (sSeq (x12_law) (sSeq (x13_law) (sSeq (x14_law) (sSeq (x15_law) (sSeq (x16_law) (sSeq (l18_law) (sSeq (x19_law) (sSeq (x20_law) (sSeq (x21_law) (sSeq (sOwn 9 1 []) (sSeq (l24_law) (sSeq (x25_law) (sSeq (x26_law) (sSeq (x29_law) (sSeq (x31_law) (sSeq (x32_law) (sSeq (x33_law) (sSeq (x34_law) (sSeq (l36_law) (sSeq (l38_law) (x39_law)))))))))))))))))))))))))))
def f_law : Fn := fnF 1 28 m_law
structure Txt (P : Program) (w : World) (K : PySem.W.Frag) (mg : Str → Option Value) (base : Heap) : Prop where
  c_LAST_DAY : ∃ t, mg "LAST_DAY" = some (.int 9999 t)
  c_MOST_WINDOW : ∃ t, mg "MOST_WINDOW" = some (.int 400 t)
  e_BadItem : ErrC P w K mg base "BadItem" ["index"]
  e_BadNumber : ErrC P w K mg base "BadNumber" ["value"]
  f_StayRule_most : FldOk K mg "StayRule" "most"
  f_StayRule_window : FldOk K mg "StayRule" "window"
  i_StayRule : IsCls K mg "StayRule"
  n_bool : mg "bool" = none
  n_enumerate : mg "enumerate" = none
  n_int : mg "int" = none
  n_isinstance : mg "isinstance" = none
  n_len : mg "len" = none
  n_list : mg "list" = none
  n_max : mg "max" = none
  n_min : mg "min" = none
  n_range : mg "range" = none
  n_repr : mg "repr" = none
  n_str : mg "str" = none
  n_sum : mg "sum" = none
  n_tuple : mg "tuple" = none
  x_BadItem : ExcT K mg known (caught "BadItem") "BadItem" ["index"]
  x_BadNumber : ExcT K mg known (caught "BadNumber") "BadNumber" ["value"]
  ok : True
section
variable {P : Program} {w : World} {K : PySem.W.Frag} {mg : Str → Option Value} {base : Heap}
theorem sc_is_whole : FnScope ["value"] ["value"] (defScope s_is_whole) := ⟨rfl, rfl, rfl, by decide +kernel, rfl, by decide +kernel, by decide +kernel⟩
theorem nd_is_whole : (["value"] : List Str).Nodup := by decide +kernel
theorem ok_is_whole {f : Addr} {fd : FuncData} (T : Txt P w K mg base) (F : Fun K "is_whole" "is_whole" s_is_whole f fd) (hm : mg "is_whole" = some (.ref f)) : DefOk P w K mg base "is_whole" 1 f_is_whole :=
  def_ok (N := ["value"]) (ps := ["value"]) (loc := 0) F hm (F.binds (ps := ["value"]) fun _ _ _ _ _ _ us hl => match us, hl with | [_], _ => rfl) sc_is_whole rfl <| fun cdv A outer s H E hr => by
    have hN := nd_is_whole
    have hp : PassesOwn (model P w) (A.deeper (PyProof.Rows.envOfC "is_whole" (defScope s_is_whole) s.heap.objs.size f cdv)) (PyProof.Rows.envOfC "is_whole" (defScope s_is_whole) s.heap.objs.size f cdv) (cxOf (L2.CX P w) P w K mg base ["value"] "is_whole" (defScope s_is_whole) f cdv A outer s H E).xe := passes_of rfl
    exact dss_one (ds_ret (de_and (de_isi .int (by rfl) T.n_isinstance (by rfl) T.n_int bt_int (do_o (pv 0))) (de_one1 (de_not (de_isi .bool (by rfl) T.n_isinstance (by rfl) T.n_bool bt_bool (do_o (pv 0)))))))
theorem sc_is_number : FnScope ["value", "least", "most"] ["value", "least", "most"] (defScope s_is_number) := ⟨rfl, rfl, rfl, by decide +kernel, rfl, by decide +kernel, by decide +kernel⟩
theorem nd_is_number : (["value", "least", "most"] : List Str).Nodup := by decide +kernel
theorem ok_is_number {f : Addr} {fd : FuncData} (T : Txt P w K mg base) (F : Fun K "is_number" "is_number" s_is_number f fd) (hm : mg "is_number" = some (.ref f)) (D_is_whole : DefOk P w K mg base "is_whole" 1 f_is_whole) : DefOk P w K mg base "is_number" 2 f_is_number :=
  def_ok (N := ["value", "least", "most"]) (ps := ["value", "least", "most"]) (loc := 0) F hm (F.binds (ps := ["value", "least", "most"]) fun _ _ _ _ _ _ us hl => match us, hl with | [_, _, _], _ => rfl) sc_is_number rfl <| fun cdv A outer s H E hr => by
    have hN := nd_is_number
    have hp : PassesOwn (model P w) (A.deeper (PyProof.Rows.envOfC "is_number" (defScope s_is_number) s.heap.objs.size f cdv)) (PyProof.Rows.envOfC "is_number" (defScope s_is_number) s.heap.objs.size f cdv) (cxOf (L2.CX P w) P w K mg base ["value", "least", "most"] "is_number" (defScope s_is_number) f cdv A outer s H E).xe := passes_of rfl
    exact dss_one (ds_ret (de_and (de_callD D_is_whole (hr.mono (by decide)) (da_cons (do_v (de_var (pv 0))) (da_nil))) (de_one1 (de_chain (de_var (pv 1)) (ch_cons op_le snd_cmpI (de_var (pv 0)) (ch_last op_le snd_cmpI (de_var (pv 2))))))))
theorem sc_is_row : FnScope ["value"] ["value"] (defScope s_is_row) := ⟨rfl, rfl, rfl, by decide +kernel, rfl, by decide +kernel, by decide +kernel⟩
theorem nd_is_row : (["value"] : List Str).Nodup := by decide +kernel
theorem ok_is_row {f : Addr} {fd : FuncData} (T : Txt P w K mg base) (F : Fun K "is_row" "is_row" s_is_row f fd) (hm : mg "is_row" = some (.ref f)) : DefOk P w K mg base "is_row" 1 f_is_row :=
  def_ok (N := ["value"]) (ps := ["value"]) (loc := 0) F hm (F.binds (ps := ["value"]) fun _ _ _ _ _ _ us hl => match us, hl with | [_], _ => rfl) sc_is_row rfl <| fun cdv A outer s H E hr => by
    have hN := nd_is_row
    have hp : PassesOwn (model P w) (A.deeper (PyProof.Rows.envOfC "is_row" (defScope s_is_row) s.heap.objs.size f cdv)) (PyProof.Rows.envOfC "is_row" (defScope s_is_row) s.heap.objs.size f cdv) (cxOf (L2.CX P w) P w K mg base ["value"] "is_row" (defScope s_is_row) f cdv A outer s H E).xe := passes_of rfl
    exact dss_one (ds_ret (de_isi2 .list .tuple (by rfl) T.n_isinstance (by rfl) T.n_list bt_list (by rfl) T.n_tuple bt_tuple (do_o (pv 0))))
theorem sc_want_number : FnScope ["value", "least", "most"] ["value", "least", "most"] (defScope s_want_number) := ⟨rfl, rfl, rfl, by decide +kernel, rfl, by decide +kernel, by decide +kernel⟩
theorem nd_want_number : (["value", "least", "most"] : List Str).Nodup := by decide +kernel
theorem ok_want_number {f : Addr} {fd : FuncData} (T : Txt P w K mg base) (F : Fun K "want_number" "want_number" s_want_number f fd) (hm : mg "want_number" = some (.ref f)) (D_is_number : DefOk P w K mg base "is_number" 2 f_is_number) : DefOk P w K mg base "want_number" 3 f_want_number :=
  def_ok (N := ["value", "least", "most"]) (ps := ["value", "least", "most"]) (loc := 0) F hm (F.binds (ps := ["value", "least", "most"]) fun _ _ _ _ _ _ us hl => match us, hl with | [_, _, _], _ => rfl) sc_want_number rfl <| fun cdv A outer s H E hr => by
    have hN := nd_want_number
    have hp : PassesOwn (model P w) (A.deeper (PyProof.Rows.envOfC "want_number" (defScope s_want_number) s.heap.objs.size f cdv)) (PyProof.Rows.envOfC "want_number" (defScope s_want_number) s.heap.objs.size f cdv) (cxOf (L2.CX P w) P w K mg base ["value", "least", "most"] "want_number" (defScope s_want_number) f cdv A outer s H E).xe := passes_of rfl
    exact dss_cons (ds_if (dt_not (dt_val (de_callD D_is_number (hr.mono (by decide)) (da_cons (do_v (de_var (pv 0))) (da_cons (do_v (de_var (pv 1))) (da_cons (do_v (de_var (pv 2))) (da_nil))))))) (dss_one (ds_raise (by rfl) T.e_BadNumber (hr.mono (by decide)) (by rfl) (da_cons (do_v (de_var (pv 0))) (da_nil)))) (dss_nil)) (dss_one (ds_ret (de_var (pv 0))))
theorem sc_is_span : FnScope ["value"] ["value"] (defScope s_is_span) := ⟨rfl, rfl, rfl, by decide +kernel, rfl, by decide +kernel, by decide +kernel⟩
theorem nd_is_span : (["value"] : List Str).Nodup := by decide +kernel
theorem ok_is_span {f : Addr} {fd : FuncData} (T : Txt P w K mg base) (F : Fun K "is_span" "is_span" s_is_span f fd) (hm : mg "is_span" = some (.ref f)) (D_is_row : DefOk P w K mg base "is_row" 1 f_is_row) (D_is_whole : DefOk P w K mg base "is_whole" 1 f_is_whole) : DefOk P w K mg base "is_span" 2 f_is_span :=
  def_ok (N := ["value"]) (ps := ["value"]) (loc := 0) F hm (F.binds (ps := ["value"]) fun _ _ _ _ _ _ us hl => match us, hl with | [_], _ => rfl) sc_is_span rfl <| fun cdv A outer s H E hr => by
    have hN := nd_is_span
    have hp : PassesOwn (model P w) (A.deeper (PyProof.Rows.envOfC "is_span" (defScope s_is_span) s.heap.objs.size f cdv)) (PyProof.Rows.envOfC "is_span" (defScope s_is_span) s.heap.objs.size f cdv) (cxOf (L2.CX P w) P w K mg base ["value"] "is_span" (defScope s_is_span) f cdv A outer s H E).xe := passes_of rfl
    exact dss_cons (ds_if (dt_w (dw_or (dt_not (dt_val (de_callD D_is_row (hr.mono (by decide)) (da_cons (do_v (de_var (pv 0))) (da_nil))))) (dw_or (dt_ne (un64 hr) (do_v (de_len (by rfl) T.n_len (da_cons ((do_o (pv 0))) (da_nil)))) (do_v (de_int))) (dw_or (dt_not (dt_val (de_callD D_is_whole (hr.mono (by decide)) (da_cons (do_v (de_ix (do_o (pv 0)) (do_v (de_int)))) (da_nil))))) (dw_or1 (dt_not (dt_val (de_callD D_is_whole (hr.mono (by decide)) (da_cons (do_v (de_ix (do_o (pv 0)) (do_v (de_int)))) (da_nil)))))))))) (dss_one (ds_ret (de_bl))) (dss_nil)) (dss_one (ds_ret (de_chain (de_int) (ch_cons op_le snd_cmpI (de_ix (do_o (pv 0)) (do_v (de_int))) (ch_cons op_lt snd_cmpI (de_ix (do_o (pv 0)) (do_v (de_int))) (ch_last op_le snd_cmpI (de_gint T.c_LAST_DAY.choose_spec)))))))
theorem sc_want_spans : FnScope ["spans", "index", "span"] ["spans"] (defScope s_want_spans) := ⟨rfl, rfl, rfl, by decide +kernel, rfl, by decide +kernel, by decide +kernel⟩
theorem nd_want_spans : (["spans", "index", "span"] : List Str).Nodup := by decide +kernel
theorem ok_want_spans {f : Addr} {fd : FuncData} (T : Txt P w K mg base) (F : Fun K "want_spans" "want_spans" s_want_spans f fd) (hm : mg "want_spans" = some (.ref f)) (D_is_row : DefOk P w K mg base "is_row" 1 f_is_row) (D_is_span : DefOk P w K mg base "is_span" 2 f_is_span) : DefOk P w K mg base "want_spans" 3 f_want_spans :=
  def_ok (N := ["spans", "index", "span"]) (ps := ["spans"]) (loc := 2) F hm (F.binds (ps := ["spans"]) fun _ _ _ _ _ _ us hl => match us, hl with | [_], _ => rfl) sc_want_spans rfl <| fun cdv A outer s H E hr => by
    have hN := nd_want_spans
    have hp : PassesOwn (model P w) (A.deeper (PyProof.Rows.envOfC "want_spans" (defScope s_want_spans) s.heap.objs.size f cdv)) (PyProof.Rows.envOfC "want_spans" (defScope s_want_spans) s.heap.objs.size f cdv) (cxOf (L2.CX P w) P w K mg base ["spans", "index", "span"] "want_spans" (defScope s_want_spans) f cdv A outer s H E).xe := passes_of rfl
    exact dss_cons (ds_if (dt_not (dt_val (de_callD D_is_row (hr.mono (by decide)) (da_cons (do_v (de_var (pv 0))) (da_nil))))) (dss_one (ds_raise (by rfl) T.e_BadItem (hr.mono (by decide)) (by rfl) (da_cons (do_v (de_non)) (da_nil)))) (dss_nil)) (dss_cons (ds_for hp (by rfl) (di_enum (by rfl) T.n_enumerate (da_cons (do_v (de_var (pv 0))) (da_nil))) (dg_tup (by rfl) (dgs_cons (dgn 1 hN) (dgs_cons (dgn 2 hN) (dgs_nil)))) (dss_one (ds_if (dt_w (dw_or (dt_not (dt_val (de_callD D_is_span (hr.mono (by decide)) (da_cons (do_v (de_var (pv 2))) (da_nil))))) (dw_or1 (dt_w (dw_and (dt_gt (do_o (pv 1)) (do_v (de_int))) (dw_and1 (dt_lt (do_v (de_ix (do_o (pv 2)) (do_v (de_int)))) (do_v (de_ix (do_v (de_ix (do_o (pv 0)) (do_v (de_sub (do_o (pv 1)) (do_v (de_int)))))) (do_v (de_int))))))))))) (dss_one (ds_raise (by rfl) T.e_BadItem (hr.mono (by decide)) (by rfl) (da_cons (do_v (de_var (pv 1))) (da_nil)))) (dss_nil)))) (dss_one (ds_ret (de_tuple (by rfl) T.n_tuple (da_cons ((do_v (de_lc (own := [("span", 2)]) (by rfl) hN (di_seq (de_var (pv 0))) (by rfl) (fun _ _ _ _ _ => dgn 2 hN) (fun _ _ _ _ _ => dts_nil) (fun _ _ _ _ _ => de_tuple (by rfl) T.n_tuple (da_cons ((do_o (pv 2))) (da_nil)))))) (da_nil))))))
theorem sc_StayRule_uuinit__ : FnScope ["self", "most", "window"] ["self", "most", "window"] (defScope s_StayRule_uuinit__) := ⟨rfl, rfl, rfl, by decide +kernel, rfl, by decide +kernel, by decide +kernel⟩
theorem nd_StayRule_uuinit__ : (["self", "most", "window"] : List Str).Nodup := by decide +kernel
theorem fnk_StayRule_uuinit__ {f : Addr} {fd : FuncData} (T : Txt P w K mg base) (F : Fun K "__init__" "StayRule.__init__" s_StayRule_uuinit__ f fd) (D_want_number : DefOk P w K mg base "want_number" 3 f_want_number) : FnOk P w K mg base (L2.CX P w) 4 f fd ["self", "most", "window"] (spD K mg f_StayRule_uuinit__) :=
  fn_ok (N := ["self", "most", "window"]) (ps := ["self", "most", "window"]) (loc := 0) F sc_StayRule_uuinit__ rfl <| fun cdv A outer s H E hr => by
    have hN := nd_StayRule_uuinit__
    have hp : PassesOwn (model P w) (A.deeper (PyProof.Rows.envOfC "StayRule.__init__" (defScope s_StayRule_uuinit__) s.heap.objs.size f cdv)) (PyProof.Rows.envOfC "StayRule.__init__" (defScope s_StayRule_uuinit__) s.heap.objs.size f cdv) (cxOf (L2.CX P w) P w K mg base ["self", "most", "window"] "StayRule.__init__" (defScope s_StayRule_uuinit__) f cdv A outer s H E).xe := passes_of rfl
    exact dss_cons (ds_fldset T.f_StayRule_most (pv 0) (de_callD D_want_number (hr.mono (by decide)) (da_cons (do_v (de_var (pv 1))) (da_cons (do_v (de_int)) (da_cons (do_v (de_gint T.c_MOST_WINDOW.choose_spec)) (da_nil)))))) (dss_one (ds_fldset T.f_StayRule_window (pv 0) (de_callD D_want_number (hr.mono (by decide)) (da_cons (do_v (de_var (pv 2))) (da_cons (do_v (de_int)) (da_cons (do_v (de_gint T.c_MOST_WINDOW.choose_spec)) (da_nil)))))))
theorem ok_StayRule_uuinit__ {f C : Addr} {fd : FuncData} (T : Txt P w K mg base) (F : Fun K "__init__" "StayRule.__init__" s_StayRule_uuinit__ f fd) (hC : mg "StayRule" = some (.ref C)) (hm : Mk K C f) (D_want_number : DefOk P w K mg base "want_number" 3 f_want_number) : MakeOk P w K mg base "StayRule" 4 f_StayRule_uuinit__ :=
  make_ok (N := ["self", "most", "window"]) (ps := ["self", "most", "window"]) (loc := 0) F hC hm (F.binds (ps := ["self", "most", "window"]) fun _ _ _ _ _ _ us hl => match us, hl with | [_, _, _], _ => rfl) sc_StayRule_uuinit__ rfl <| fun cdv A outer s H E hr => by
    have hN := nd_StayRule_uuinit__
    have hp : PassesOwn (model P w) (A.deeper (PyProof.Rows.envOfC "StayRule.__init__" (defScope s_StayRule_uuinit__) s.heap.objs.size f cdv)) (PyProof.Rows.envOfC "StayRule.__init__" (defScope s_StayRule_uuinit__) s.heap.objs.size f cdv) (cxOf (L2.CX P w) P w K mg base ["self", "most", "window"] "StayRule.__init__" (defScope s_StayRule_uuinit__) f cdv A outer s H E).xe := passes_of rfl
    exact dss_cons (ds_fldset T.f_StayRule_most (pv 0) (de_callD D_want_number (hr.mono (by decide)) (da_cons (do_v (de_var (pv 1))) (da_cons (do_v (de_int)) (da_cons (do_v (de_gint T.c_MOST_WINDOW.choose_spec)) (da_nil)))))) (dss_one (ds_fldset T.f_StayRule_window (pv 0) (de_callD D_want_number (hr.mono (by decide)) (da_cons (do_v (de_var (pv 2))) (da_cons (do_v (de_int)) (da_cons (do_v (de_gint T.c_MOST_WINDOW.choose_spec)) (da_nil)))))))
theorem sc_StayRule_uueq__ : FnScope ["self", "other"] ["self", "other"] (defScope s_StayRule_uueq__) := ⟨rfl, rfl, rfl, by decide +kernel, rfl, by decide +kernel, by decide +kernel⟩
theorem nd_StayRule_uueq__ : (["self", "other"] : List Str).Nodup := by decide +kernel
theorem fnk_StayRule_uueq__ {f : Addr} {fd : FuncData} (T : Txt P w K mg base) (F : Fun K "__eq__" "StayRule.__eq__" s_StayRule_uueq__ f fd) : FnOk P w K mg base (L2.CX P w) 1 f fd ["self", "other"] (spD K mg f_StayRule_uueq__) :=
  fn_ok (N := ["self", "other"]) (ps := ["self", "other"]) (loc := 0) F sc_StayRule_uueq__ rfl <| fun cdv A outer s H E hr => by
    have hN := nd_StayRule_uueq__
    have hp : PassesOwn (model P w) (A.deeper (PyProof.Rows.envOfC "StayRule.__eq__" (defScope s_StayRule_uueq__) s.heap.objs.size f cdv)) (PyProof.Rows.envOfC "StayRule.__eq__" (defScope s_StayRule_uueq__) s.heap.objs.size f cdv) (cxOf (L2.CX P w) P w K mg base ["self", "other"] "StayRule.__eq__" (defScope s_StayRule_uueq__) f cdv A outer s H E).xe := passes_of rfl
    exact dss_one (ds_ret (de_and (de_isiC (by rfl) T.n_isinstance (by rfl) T.i_StayRule (do_o (pv 1))) (de_one1 (de_eq (un64 hr) (do_v (de_tup (da_cons (do_v (de_fld T.f_StayRule_most (do_o (pv 0)))) (da_cons (do_v (de_fld T.f_StayRule_window (do_o (pv 0)))) (da_nil))))) (do_v (de_tup (da_cons (do_v (de_fld T.f_StayRule_most (do_o (pv 1)))) (da_cons (do_v (de_fld T.f_StayRule_window (do_o (pv 1)))) (da_nil)))))))))
theorem ok_StayRule_uueq__ {f C : Addr} {fd : FuncData} (T : Txt P w K mg base) (F : Fun K "__eq__" "StayRule.__eq__" s_StayRule_uueq__ f fd) (hC : mg "StayRule" = some (.ref C)) (hc : Cls K C) (hm : Meth K C "__eq__" f) : MethOk P w K mg base "StayRule" "__eq__" 1 f_StayRule_uueq__ :=
  meth_ok (N := ["self", "other"]) (ps := ["self", "other"]) (loc := 0) F hC hc hm (F.binds (ps := ["self", "other"]) fun _ _ _ _ _ _ us hl => match us, hl with | [_, _], _ => rfl) sc_StayRule_uueq__ rfl <| fun cdv A outer s H E hr => by
    have hN := nd_StayRule_uueq__
    have hp : PassesOwn (model P w) (A.deeper (PyProof.Rows.envOfC "StayRule.__eq__" (defScope s_StayRule_uueq__) s.heap.objs.size f cdv)) (PyProof.Rows.envOfC "StayRule.__eq__" (defScope s_StayRule_uueq__) s.heap.objs.size f cdv) (cxOf (L2.CX P w) P w K mg base ["self", "other"] "StayRule.__eq__" (defScope s_StayRule_uueq__) f cdv A outer s H E).xe := passes_of rfl
    exact dss_one (ds_ret (de_and (de_isiC (by rfl) T.n_isinstance (by rfl) T.i_StayRule (do_o (pv 1))) (de_one1 (de_eq (un64 hr) (do_v (de_tup (da_cons (do_v (de_fld T.f_StayRule_most (do_o (pv 0)))) (da_cons (do_v (de_fld T.f_StayRule_window (do_o (pv 0)))) (da_nil))))) (do_v (de_tup (da_cons (do_v (de_fld T.f_StayRule_most (do_o (pv 1)))) (da_cons (do_v (de_fld T.f_StayRule_window (do_o (pv 1)))) (da_nil)))))))))
theorem sc_StayRule_inside : FnScope ["self", "spans", "day", "begin", "first", "leave"] ["self", "spans", "day"] (defScope s_StayRule_inside) := ⟨rfl, rfl, rfl, by decide +kernel, rfl, by decide +kernel, by decide +kernel⟩
theorem nd_StayRule_inside : (["self", "spans", "day", "begin", "first", "leave"] : List Str).Nodup := by decide +kernel
theorem ok_StayRule_inside {f C : Addr} {fd : FuncData} (T : Txt P w K mg base) (F : Fun K "inside" "StayRule.inside" s_StayRule_inside f fd) (hC : mg "StayRule" = some (.ref C)) (hc : Cls K C) (hm : Meth K C "inside" f) (D_want_spans : DefOk P w K mg base "want_spans" 3 f_want_spans) : MethOk P w K mg base "StayRule" "inside" 4 f_StayRule_inside :=
  meth_ok (N := ["self", "spans", "day", "begin", "first", "leave"]) (ps := ["self", "spans", "day"]) (loc := 3) F hC hc hm (F.binds (ps := ["self", "spans", "day"]) fun _ _ _ _ _ _ us hl => match us, hl with | [_, _, _], _ => rfl) sc_StayRule_inside rfl <| fun cdv A outer s H E hr => by
    have hN := nd_StayRule_inside
    have hp : PassesOwn (model P w) (A.deeper (PyProof.Rows.envOfC "StayRule.inside" (defScope s_StayRule_inside) s.heap.objs.size f cdv)) (PyProof.Rows.envOfC "StayRule.inside" (defScope s_StayRule_inside) s.heap.objs.size f cdv) (cxOf (L2.CX P w) P w K mg base ["self", "spans", "day", "begin", "first", "leave"] "StayRule.inside" (defScope s_StayRule_inside) f cdv A outer s H E).xe := passes_of rfl
    exact dss_cons (ds_set hN (by rfl) (by first | exact .inl rfl | exact .inr rfl) (de_add (do_v (de_sub (do_o (pv 2)) (do_v (de_fld T.f_StayRule_window (do_o (pv 0)))))) (do_v (de_int)))) (dss_one (ds_ret (de_sum (by rfl) (by rfl) T.n_sum (da_cons ((do_v (de_lc (own := [("first", 4), ("leave", 5)]) (by rfl) hN (di_seq (de_callD D_want_spans (hr.mono (by decide)) (da_cons (do_v (de_var (pv 1))) (da_nil)))) (by rfl) (fun _ _ _ _ _ => dg_tup (by rfl) (dgs_cons (dgn 4 hN) (dgs_cons (dgn 5 hN) (dgs_nil)))) (fun _ _ _ _ _ => dts_nil) (fun _ _ _ _ _ => de_max (by rfl) (by rfl) T.n_max (da_cons ((do_v (de_int))) (da_cons ((do_v (de_sub (do_v (de_min (by rfl) (by rfl) T.n_min (da_cons ((do_o (pv 5))) (da_cons ((do_v (de_add (do_o (pv 2)) (do_v (de_int))))) (da_nil))))) (do_v (de_max (by rfl) (by rfl) T.n_max (da_cons ((do_o (pv 4))) (da_cons ((do_o (pv 3))) (da_nil)))))))) (da_nil))))))) (da_nil)))))
theorem sc_StayRule_first_over : FnScope ["self", "spans", "first", "leave", "day"] ["self", "spans"] (defScope s_StayRule_first_over) := ⟨rfl, rfl, rfl, by decide +kernel, rfl, by decide +kernel, by decide +kernel⟩
theorem nd_StayRule_first_over : (["self", "spans", "first", "leave", "day"] : List Str).Nodup := by decide +kernel
theorem ok_StayRule_first_over {f C : Addr} {fd : FuncData} (T : Txt P w K mg base) (F : Fun K "first_over" "StayRule.first_over" s_StayRule_first_over f fd) (hC : mg "StayRule" = some (.ref C)) (hc : Cls K C) (hm : Meth K C "first_over" f) (D_want_spans : DefOk P w K mg base "want_spans" 3 f_want_spans) (D_StayRule_inside : MethOk P w K mg base "StayRule" "inside" 4 f_StayRule_inside) : MethOk P w K mg base "StayRule" "first_over" 5 f_StayRule_first_over :=
  meth_ok (N := ["self", "spans", "first", "leave", "day"]) (ps := ["self", "spans"]) (loc := 3) F hC hc hm (F.binds (ps := ["self", "spans"]) fun _ _ _ _ _ _ us hl => match us, hl with | [_, _], _ => rfl) sc_StayRule_first_over rfl <| fun cdv A outer s H E hr => by
    have hN := nd_StayRule_first_over
    have hp : PassesOwn (model P w) (A.deeper (PyProof.Rows.envOfC "StayRule.first_over" (defScope s_StayRule_first_over) s.heap.objs.size f cdv)) (PyProof.Rows.envOfC "StayRule.first_over" (defScope s_StayRule_first_over) s.heap.objs.size f cdv) (cxOf (L2.CX P w) P w K mg base ["self", "spans", "first", "leave", "day"] "StayRule.first_over" (defScope s_StayRule_first_over) f cdv A outer s H E).xe := passes_of rfl
    exact dss_cons (ds_for hp (by rfl) (di_seq (de_callD D_want_spans (hr.mono (by decide)) (da_cons (do_v (de_var (pv 1))) (da_nil)))) (dg_tup (by rfl) (dgs_cons (dgn 2 hN) (dgs_cons (dgn 3 hN) (dgs_nil)))) (dss_one (ds_for hp (by rfl) (di_range2 (by rfl) T.n_range (da_cons (do_v (de_var (pv 2))) (da_cons (do_v (de_var (pv 3))) (da_nil)))) (dgn 4 hN) (dss_one (ds_if (dt_gt (do_v (de_methD D_StayRule_inside (hr.mono (by decide)) (de_var (pv 0)) (da_cons (do_v (de_var (pv 1))) (da_cons (do_v (de_var (pv 4))) (da_nil))))) (do_v (de_fld T.f_StayRule_most (do_o (pv 0))))) (dss_one (ds_ret (de_var (pv 4)))) (dss_nil)))))) (dss_one (ds_ret (de_non)))
theorem sc_StayRule_is_lawful : FnScope ["self", "spans"] ["self", "spans"] (defScope s_StayRule_is_lawful) := ⟨rfl, rfl, rfl, by decide +kernel, rfl, by decide +kernel, by decide +kernel⟩
theorem nd_StayRule_is_lawful : (["self", "spans"] : List Str).Nodup := by decide +kernel
theorem ok_StayRule_is_lawful {f C : Addr} {fd : FuncData} (T : Txt P w K mg base) (F : Fun K "is_lawful" "StayRule.is_lawful" s_StayRule_is_lawful f fd) (hC : mg "StayRule" = some (.ref C)) (hc : Cls K C) (hm : Meth K C "is_lawful" f) (D_StayRule_first_over : MethOk P w K mg base "StayRule" "first_over" 5 f_StayRule_first_over) : MethOk P w K mg base "StayRule" "is_lawful" 6 f_StayRule_is_lawful :=
  meth_ok (N := ["self", "spans"]) (ps := ["self", "spans"]) (loc := 0) F hC hc hm (F.binds (ps := ["self", "spans"]) fun _ _ _ _ _ _ us hl => match us, hl with | [_, _], _ => rfl) sc_StayRule_is_lawful rfl <| fun cdv A outer s H E hr => by
    have hN := nd_StayRule_is_lawful
    have hp : PassesOwn (model P w) (A.deeper (PyProof.Rows.envOfC "StayRule.is_lawful" (defScope s_StayRule_is_lawful) s.heap.objs.size f cdv)) (PyProof.Rows.envOfC "StayRule.is_lawful" (defScope s_StayRule_is_lawful) s.heap.objs.size f cdv) (cxOf (L2.CX P w) P w K mg base ["self", "spans"] "StayRule.is_lawful" (defScope s_StayRule_is_lawful) f cdv A outer s H E).xe := passes_of rfl
    exact dss_one (ds_ret (de_isN (do_v (de_methD D_StayRule_first_over (hr.mono (by decide)) (de_var (pv 0)) (da_cons (do_v (de_var (pv 1))) (da_nil)))) (do_v (de_non))))
theorem sc_StayRule_can_stay : FnScope ["self", "spans", "day", "told"] ["self", "spans", "day"] (defScope s_StayRule_can_stay) := ⟨rfl, rfl, rfl, by decide +kernel, rfl, by decide +kernel, by decide +kernel⟩
theorem nd_StayRule_can_stay : (["self", "spans", "day", "told"] : List Str).Nodup := by decide +kernel
theorem ok_StayRule_can_stay {f C : Addr} {fd : FuncData} (T : Txt P w K mg base) (F : Fun K "can_stay" "StayRule.can_stay" s_StayRule_can_stay f fd) (hC : mg "StayRule" = some (.ref C)) (hc : Cls K C) (hm : Meth K C "can_stay" f) (D_want_spans : DefOk P w K mg base "want_spans" 3 f_want_spans) (D_StayRule_inside : MethOk P w K mg base "StayRule" "inside" 4 f_StayRule_inside) : MethOk P w K mg base "StayRule" "can_stay" 5 f_StayRule_can_stay :=
  meth_ok (N := ["self", "spans", "day", "told"]) (ps := ["self", "spans", "day"]) (loc := 1) F hC hc hm (F.binds (ps := ["self", "spans", "day"]) fun _ _ _ _ _ _ us hl => match us, hl with | [_, _, _], _ => rfl) sc_StayRule_can_stay rfl <| fun cdv A outer s H E hr => by
    have hN := nd_StayRule_can_stay
    have hp : PassesOwn (model P w) (A.deeper (PyProof.Rows.envOfC "StayRule.can_stay" (defScope s_StayRule_can_stay) s.heap.objs.size f cdv)) (PyProof.Rows.envOfC "StayRule.can_stay" (defScope s_StayRule_can_stay) s.heap.objs.size f cdv) (cxOf (L2.CX P w) P w K mg base ["self", "spans", "day", "told"] "StayRule.can_stay" (defScope s_StayRule_can_stay) f cdv A outer s H E).xe := passes_of rfl
    exact dss_cons (ds_set hN (by rfl) (by first | exact .inl rfl | exact .inr rfl) (de_callD D_want_spans (hr.mono (by decide)) (da_cons (do_v (de_var (pv 1))) (da_nil)))) (dss_one (ds_ret (de_le (do_v (de_methD D_StayRule_inside (hr.mono (by decide)) (de_var (pv 0)) (da_cons (do_v (de_add (do_o (pv 3)) (do_v (de_tup (da_cons (do_v (de_tup (da_cons (do_v (de_var (pv 2))) (da_cons (do_v (de_add (do_o (pv 2)) (do_v (de_int)))) (da_nil))))) (da_nil)))))) (da_cons (do_v (de_var (pv 2))) (da_nil))))) (do_v (de_fld T.f_StayRule_most (do_o (pv 0)))))))
theorem sc_StayRule_longest_stay : FnScope ["self", "spans", "day", "told", "here"] ["self", "spans", "day"] (defScope s_StayRule_longest_stay) := ⟨rfl, rfl, rfl, by decide +kernel, rfl, by decide +kernel, by decide +kernel⟩
theorem nd_StayRule_longest_stay : (["self", "spans", "day", "told", "here"] : List Str).Nodup := by decide +kernel
theorem ok_StayRule_longest_stay {f C : Addr} {fd : FuncData} (T : Txt P w K mg base) (F : Fun K "longest_stay" "StayRule.longest_stay" s_StayRule_longest_stay f fd) (hC : mg "StayRule" = some (.ref C)) (hc : Cls K C) (hm : Meth K C "longest_stay" f) (D_want_spans : DefOk P w K mg base "want_spans" 3 f_want_spans) (D_StayRule_inside : MethOk P w K mg base "StayRule" "inside" 4 f_StayRule_inside) : MethOk P w K mg base "StayRule" "longest_stay" 5 f_StayRule_longest_stay :=
  meth_ok (N := ["self", "spans", "day", "told", "here"]) (ps := ["self", "spans", "day"]) (loc := 2) F hC hc hm (F.binds (ps := ["self", "spans", "day"]) fun _ _ _ _ _ _ us hl => match us, hl with | [_, _, _], _ => rfl) sc_StayRule_longest_stay rfl <| fun cdv A outer s H E hr => by
    have hN := nd_StayRule_longest_stay
    have hp : PassesOwn (model P w) (A.deeper (PyProof.Rows.envOfC "StayRule.longest_stay" (defScope s_StayRule_longest_stay) s.heap.objs.size f cdv)) (PyProof.Rows.envOfC "StayRule.longest_stay" (defScope s_StayRule_longest_stay) s.heap.objs.size f cdv) (cxOf (L2.CX P w) P w K mg base ["self", "spans", "day", "told", "here"] "StayRule.longest_stay" (defScope s_StayRule_longest_stay) f cdv A outer s H E).xe := passes_of rfl
    exact dss_cons (ds_par (by rfl) hN (by rfl) (by rfl) (by decide) (by rfl) (by rfl) (da_cons (do_v (de_callD D_want_spans (hr.mono (by decide)) (da_cons (do_v (de_var (pv 1))) (da_nil)))) (da_cons (do_v (de_var (pv 2))) (da_nil)))) (dss_cons (ds_while 20000 hp (dt_w (dw_and (dt_lt (do_o (pv 4)) (do_v (de_gint T.c_LAST_DAY.choose_spec))) (dw_and1 (dt_le (do_v (de_methD D_StayRule_inside (hr.mono (by decide)) (de_var (pv 0)) (da_cons (do_v (de_add (do_o (pv 3)) (do_v (de_tup (da_cons (do_v (de_tup (da_cons (do_v (de_var (pv 2))) (da_cons (do_v (de_add (do_o (pv 4)) (do_v (de_int)))) (da_nil))))) (da_nil)))))) (da_cons (do_v (de_var (pv 4))) (da_nil))))) (do_v (de_fld T.f_StayRule_most (do_o (pv 0)))))))) (dss_one (ds_iadd hN (by rfl) (by first | exact .inl rfl | exact .inr rfl) (de_int)))) (dss_one (ds_ret (de_sub (do_o (pv 4)) (do_o (pv 2))))))
theorem sc_StayRule_longest_up_to : FnScope ["self", "spans", "begin", "many", "day"] ["self", "spans", "begin", "many"] (defScope s_StayRule_longest_up_to) := ⟨rfl, rfl, rfl, by decide +kernel, rfl, by decide +kernel, by decide +kernel⟩
theorem nd_StayRule_longest_up_to : (["self", "spans", "begin", "many", "day"] : List Str).Nodup := by decide +kernel
theorem ok_StayRule_longest_up_to {f C : Addr} {fd : FuncData} (T : Txt P w K mg base) (F : Fun K "longest_up_to" "StayRule.longest_up_to" s_StayRule_longest_up_to f fd) (hC : mg "StayRule" = some (.ref C)) (hc : Cls K C) (hm : Meth K C "longest_up_to" f) (D_StayRule_inside : MethOk P w K mg base "StayRule" "inside" 4 f_StayRule_inside) : MethOk P w K mg base "StayRule" "longest_up_to" 5 f_StayRule_longest_up_to :=
  meth_ok (N := ["self", "spans", "begin", "many", "day"]) (ps := ["self", "spans", "begin", "many"]) (loc := 1) F hC hc hm (F.binds (ps := ["self", "spans", "begin", "many"]) fun _ _ _ _ _ _ us hl => match us, hl with | [_, _, _, _], _ => rfl) sc_StayRule_longest_up_to rfl <| fun cdv A outer s H E hr => by
    have hN := nd_StayRule_longest_up_to
    have hp : PassesOwn (model P w) (A.deeper (PyProof.Rows.envOfC "StayRule.longest_up_to" (defScope s_StayRule_longest_up_to) s.heap.objs.size f cdv)) (PyProof.Rows.envOfC "StayRule.longest_up_to" (defScope s_StayRule_longest_up_to) s.heap.objs.size f cdv) (cxOf (L2.CX P w) P w K mg base ["self", "spans", "begin", "many", "day"] "StayRule.longest_up_to" (defScope s_StayRule_longest_up_to) f cdv A outer s H E).xe := passes_of rfl
    exact dss_cons (ds_if (dt_gt (do_v (de_add (do_o (pv 2)) (do_o (pv 3)))) (do_v (de_gint T.c_LAST_DAY.choose_spec))) (dss_one (ds_ret (de_bl))) (dss_nil)) (dss_cons (ds_for hp (by rfl) (di_range2 (by rfl) T.n_range (da_cons (do_v (de_var (pv 2))) (da_cons (do_v (de_add (do_o (pv 2)) (do_o (pv 3)))) (da_nil)))) (dgn 4 hN) (dss_one (ds_if (dt_gt (do_v (de_methD D_StayRule_inside (hr.mono (by decide)) (de_var (pv 0)) (da_cons (do_v (de_add (do_o (pv 1)) (do_v (de_tup (da_cons (do_v (de_tup (da_cons (do_v (de_var (pv 2))) (da_cons (do_v (de_add (do_o (pv 4)) (do_v (de_int)))) (da_nil))))) (da_nil)))))) (da_cons (do_v (de_var (pv 4))) (da_nil))))) (do_v (de_fld T.f_StayRule_most (do_o (pv 0))))) (dss_one (ds_ret (de_bl))) (dss_nil)))) (dss_one (ds_ret (de_bl))))
theorem sc_StayRule_most_days : FnScope ["self", "days", "whole", "rest"] ["self", "days"] (defScope s_StayRule_most_days) := ⟨rfl, rfl, rfl, by decide +kernel, rfl, by decide +kernel, by decide +kernel⟩
theorem nd_StayRule_most_days : (["self", "days", "whole", "rest"] : List Str).Nodup := by decide +kernel
theorem ok_StayRule_most_days {f C : Addr} {fd : FuncData} (T : Txt P w K mg base) (F : Fun K "most_days" "StayRule.most_days" s_StayRule_most_days f fd) (hC : mg "StayRule" = some (.ref C)) (hc : Cls K C) (hm : Meth K C "most_days" f) : MethOk P w K mg base "StayRule" "most_days" 1 f_StayRule_most_days :=
  meth_ok (N := ["self", "days", "whole", "rest"]) (ps := ["self", "days"]) (loc := 2) F hC hc hm (F.binds (ps := ["self", "days"]) fun _ _ _ _ _ _ us hl => match us, hl with | [_, _], _ => rfl) sc_StayRule_most_days rfl <| fun cdv A outer s H E hr => by
    have hN := nd_StayRule_most_days
    have hp : PassesOwn (model P w) (A.deeper (PyProof.Rows.envOfC "StayRule.most_days" (defScope s_StayRule_most_days) s.heap.objs.size f cdv)) (PyProof.Rows.envOfC "StayRule.most_days" (defScope s_StayRule_most_days) s.heap.objs.size f cdv) (cxOf (L2.CX P w) P w K mg base ["self", "days", "whole", "rest"] "StayRule.most_days" (defScope s_StayRule_most_days) f cdv A outer s H E).xe := passes_of rfl
    exact dss_cons (ds_par (by rfl) hN (by rfl) (by rfl) (by decide) (by rfl) (by rfl) (da_cons (do_v (de_fdiv (do_o (pv 1)) (do_v (de_fld T.f_StayRule_window (do_o (pv 0)))))) (da_cons (do_v (de_mod (do_o (pv 1)) (do_v (de_fld T.f_StayRule_window (do_o (pv 0)))))) (da_nil)))) (dss_one (ds_ret (de_add (do_v (de_mul (do_o (pv 2)) (do_v (de_min (by rfl) (by rfl) T.n_min (da_cons ((do_v (de_fld T.f_StayRule_most (do_o (pv 0))))) (da_cons ((do_v (de_fld T.f_StayRule_window (do_o (pv 0))))) (da_nil))))))) (do_v (de_min (by rfl) (by rfl) T.n_min (da_cons ((do_v (de_fld T.f_StayRule_most (do_o (pv 0))))) (da_cons ((do_o (pv 3))) (da_nil))))))))
theorem sc_StayRule_earliest_days : FnScope ["self", "days", "day"] ["self", "days"] (defScope s_StayRule_earliest_days) := ⟨rfl, rfl, rfl, by decide +kernel, rfl, by decide +kernel, by decide +kernel⟩
theorem nd_StayRule_earliest_days : (["self", "days", "day"] : List Str).Nodup := by decide +kernel
theorem ok_StayRule_earliest_days {f C : Addr} {fd : FuncData} (T : Txt P w K mg base) (F : Fun K "earliest_days" "StayRule.earliest_days" s_StayRule_earliest_days f fd) (hC : mg "StayRule" = some (.ref C)) (hc : Cls K C) (hm : Meth K C "earliest_days" f) : MethOk P w K mg base "StayRule" "earliest_days" 1 f_StayRule_earliest_days :=
  meth_ok (N := ["self", "days", "day"]) (ps := ["self", "days"]) (loc := 1) F hC hc hm (F.binds (ps := ["self", "days"]) fun _ _ _ _ _ _ us hl => match us, hl with | [_, _], _ => rfl) sc_StayRule_earliest_days rfl <| fun cdv A outer s H E hr => by
    have hN := nd_StayRule_earliest_days
    have hp : PassesOwn (model P w) (A.deeper (PyProof.Rows.envOfC "StayRule.earliest_days" (defScope s_StayRule_earliest_days) s.heap.objs.size f cdv)) (PyProof.Rows.envOfC "StayRule.earliest_days" (defScope s_StayRule_earliest_days) s.heap.objs.size f cdv) (cxOf (L2.CX P w) P w K mg base ["self", "days", "day"] "StayRule.earliest_days" (defScope s_StayRule_earliest_days) f cdv A outer s H E).xe := passes_of rfl
    exact dss_one (ds_ret (de_tuple (by rfl) T.n_tuple (da_cons ((do_v (de_lc (own := [("day", 2)]) (by rfl) hN (di_range1 (by rfl) T.n_range (da_cons (do_v (de_var (pv 1))) (da_nil))) (by rfl) (fun _ _ _ _ _ => dgn 2 hN) (fun _ _ _ _ _ => dts_one (dt_lt (do_v (de_mod (do_o (pv 2)) (do_v (de_fld T.f_StayRule_window (do_o (pv 0)))))) (do_v (de_fld T.f_StayRule_most (do_o (pv 0)))))) (fun _ _ _ _ _ => de_var (pv 2))))) (da_nil))))
theorem sc_ulaw_taken : FnScope ["row", "many", "cell", "found"] ["row", "many"] (defScope s_ulaw_taken) := ⟨rfl, rfl, rfl, by decide +kernel, rfl, by decide +kernel, by decide +kernel⟩
theorem nd_ulaw_taken : (["row", "many", "cell", "found"] : List Str).Nodup := by decide +kernel
theorem ok_ulaw_taken {f : Addr} {fd : FuncData} (T : Txt P w K mg base) (F : Fun K "_law_taken" "_law_taken" s_ulaw_taken f fd) (hm : mg "_law_taken" = some (.ref f)) : DefOk P w K mg base "_law_taken" 1 f_ulaw_taken :=
  def_ok (N := ["row", "many", "cell", "found"]) (ps := ["row", "many"]) (loc := 2) F hm (F.binds (ps := ["row", "many"]) fun _ _ _ _ _ _ us hl => match us, hl with | [_, _], _ => rfl) sc_ulaw_taken rfl <| fun cdv A outer s H E hr => by
    have hN := nd_ulaw_taken
    have hp : PassesOwn (model P w) (A.deeper (PyProof.Rows.envOfC "_law_taken" (defScope s_ulaw_taken) s.heap.objs.size f cdv)) (PyProof.Rows.envOfC "_law_taken" (defScope s_ulaw_taken) s.heap.objs.size f cdv) (cxOf (L2.CX P w) P w K mg base ["row", "many", "cell", "found"] "_law_taken" (defScope s_ulaw_taken) f cdv A outer s H E).xe := passes_of rfl
    exact dss_cons (ds_if (dt_gt (do_v (de_ix (do_o (pv 0)) (do_v (de_int)))) (do_v (de_int))) (dss_cons (ds_set hN (by rfl) (by first | exact .inl rfl | exact .inr rfl) (de_mod (do_v (de_intc (by rfl) T.n_int (da_cons ((do_v (de_ix (do_o (pv 0)) (do_v (de_int))))) (da_nil)))) (do_o (pv 1)))) (dss_cons (ds_put (pv 0) (de_int) (de_fdiv (do_v (de_ix (do_o (pv 0)) (do_v (de_int)))) (do_o (pv 1))) (fun _ h => pg_sub (pv 0) h set_list)) (dss_one (ds_ret (de_var (pv 3)))))) (dss_nil)) (dss_cons (ds_put (pv 0) (de_int) (de_add (do_v (de_ix (do_o (pv 0)) (do_v (de_int)))) (do_v (de_int))) (fun _ h => pg_sub (pv 0) h set_list)) (dss_cons (ds_if (dt_gt (do_v (de_ix (do_o (pv 0)) (do_v (de_int)))) (do_v (de_len (by rfl) T.n_len (da_cons ((do_v (de_ix (do_o (pv 0)) (do_v (de_int))))) (da_nil))))) (dss_cons (ds_put (pv 0) (de_int) (de_mod (do_v (de_intc (by rfl) T.n_int (da_cons ((do_v (de_add (do_v (de_mul (do_v (de_ix (do_o (pv 0)) (do_v (de_int)))) (do_v (de_int)))) (do_v (de_int))))) (da_nil)))) (do_v (de_int))) (fun _ h => pg_sub (pv 0) h set_list)) (dss_one (ds_ret (de_mod (do_v (de_intc (by rfl) T.n_int (da_cons ((do_v (de_fdiv (do_v (de_ix (do_o (pv 0)) (do_v (de_int)))) (do_v (de_int))))) (da_nil)))) (do_o (pv 1)))))) (dss_nil)) (dss_cons (ds_set hN (by rfl) (by first | exact .inl rfl | exact .inr rfl) (de_ix (do_v (de_ix (do_o (pv 0)) (do_v (de_int)))) (do_v (de_sub (do_v (de_ix (do_o (pv 0)) (do_v (de_int)))) (do_v (de_int)))))) (dss_cons (ds_put (pv 0) (de_int) (de_mod (do_v (de_intc (by rfl) T.n_int (da_cons ((do_v (de_add (do_v (de_add (do_v (de_mul (do_v (de_ix (do_o (pv 0)) (do_v (de_int)))) (do_v (de_int)))) (do_o (pv 2)))) (do_v (de_int))))) (da_nil)))) (do_v (de_int))) (fun _ h => pg_sub (pv 0) h set_list)) (dss_cons (ds_if (dt_ge (do_o (pv 2)) (do_v (de_pow (do_v (de_int)) (do_v (de_int))))) (dss_one (ds_put (pv 0) (de_int) (de_fdiv (do_o (pv 2)) (do_o (pv 1))) (fun _ h => pg_sub (pv 0) h set_list))) (dss_nil)) (dss_one (ds_ret (de_mod (do_v (de_intc (by rfl) T.n_int (da_cons ((do_o (pv 2))) (da_nil)))) (do_o (pv 1))))))))))
theorem sc_ulaw_pick : FnScope ["row", "kinds"] ["row", "kinds"] (defScope s_ulaw_pick) := ⟨rfl, rfl, rfl, by decide +kernel, rfl, by decide +kernel, by decide +kernel⟩
theorem nd_ulaw_pick : (["row", "kinds"] : List Str).Nodup := by decide +kernel
theorem ok_ulaw_pick {f : Addr} {fd : FuncData} (T : Txt P w K mg base) (F : Fun K "_law_pick" "_law_pick" s_ulaw_pick f fd) (hm : mg "_law_pick" = some (.ref f)) (D_ulaw_taken : DefOk P w K mg base "_law_taken" 1 f_ulaw_taken) : DefOk P w K mg base "_law_pick" 2 f_ulaw_pick :=
  def_ok (N := ["row", "kinds"]) (ps := ["row", "kinds"]) (loc := 0) F hm (F.binds (ps := ["row", "kinds"]) fun _ _ _ _ _ _ us hl => match us, hl with | [_, _], _ => rfl) sc_ulaw_pick rfl <| fun cdv A outer s H E hr => by
    have hN := nd_ulaw_pick
    have hp : PassesOwn (model P w) (A.deeper (PyProof.Rows.envOfC "_law_pick" (defScope s_ulaw_pick) s.heap.objs.size f cdv)) (PyProof.Rows.envOfC "_law_pick" (defScope s_ulaw_pick) s.heap.objs.size f cdv) (cxOf (L2.CX P w) P w K mg base ["row", "kinds"] "_law_pick" (defScope s_ulaw_pick) f cdv A outer s H E).xe := passes_of rfl
    exact dss_one (ds_ret (de_ix (do_o (pv 1)) (do_v (de_callD D_ulaw_taken (hr.mono (by decide)) (da_cons ((do_o (pv 0))) (da_cons (do_v (de_len (by rfl) T.n_len (da_cons ((do_o (pv 1))) (da_nil)))) (da_nil)))))))
theorem sc_ulaw_alike : FnScope ["found", "due", "k"] ["found", "due"] (defScope s_ulaw_alike) := ⟨rfl, rfl, rfl, by decide +kernel, rfl, by decide +kernel, by decide +kernel⟩
theorem nd_ulaw_alike : (["found", "due", "k"] : List Str).Nodup := by decide +kernel
theorem ok_ulaw_alike {f : Addr} {fd : FuncData} (T : Txt P w K mg base) (F : Fun K "_law_alike" "_law_alike" s_ulaw_alike f fd) (hm : mg "_law_alike" = some (.ref f)) : ∀ n, DefOk P w K mg base "_law_alike" (1 + n) (f_ulaw_alike n)
  | 0 => def_bad (ps := ["found", "due"]) F hm (F.binds (ps := ["found", "due"]) fun _ _ _ _ _ _ us hl => match us, hl with | [_, _], _ => rfl)
  | n + 1 => by
    have D_rec := ok_ulaw_alike T F hm n
    exact def_ok (N := ["found", "due", "k"]) (ps := ["found", "due"]) (loc := 1) (k := 1 + n) F hm (F.binds (ps := ["found", "due"]) fun _ _ _ _ _ _ us hl => match us, hl with | [_, _], _ => rfl) sc_ulaw_alike rfl <| fun cdv A outer s H E hr => by
        have hN := nd_ulaw_alike
        have hp : PassesOwn (model P w) (A.deeper (PyProof.Rows.envOfC "_law_alike" (defScope s_ulaw_alike) s.heap.objs.size f cdv)) (PyProof.Rows.envOfC "_law_alike" (defScope s_ulaw_alike) s.heap.objs.size f cdv) (cxOf (L2.CX P w) P w K mg base ["found", "due", "k"] "_law_alike" (defScope s_ulaw_alike) f cdv A outer s H E).xe := passes_of rfl
        exact dss_cons (ds_if (dt_val (de_isi2 .tuple .list (by rfl) T.n_isinstance (by rfl) T.n_tuple bt_tuple (by rfl) T.n_list bt_list (do_o (pv 1)))) (dss_cons (ds_if (dt_w (dw_or (dt_not (dt_val (de_isi2 .tuple .list (by rfl) T.n_isinstance (by rfl) T.n_tuple bt_tuple (by rfl) T.n_list bt_list (do_o (pv 0))))) (dw_or1 (dt_ne (un64 hr) (do_v (de_isi .list (by rfl) T.n_isinstance (by rfl) T.n_list bt_list (do_o (pv 0)))) (do_v (de_isi .list (by rfl) T.n_isinstance (by rfl) T.n_list bt_list (do_o (pv 1)))))))) (dss_one (ds_ret (de_bl))) (dss_nil)) (dss_cons (ds_if (dt_ne (un64 hr) (do_v (de_len (by rfl) T.n_len (da_cons ((do_o (pv 0))) (da_nil)))) (do_v (de_len (by rfl) T.n_len (da_cons ((do_o (pv 1))) (da_nil))))) (dss_one (ds_ret (de_bl))) (dss_nil)) (dss_one (ds_ret (de_eq (un64 hr) (do_v (de_lc (own := [("k", 2)]) (by rfl) hN (di_range1 (by rfl) T.n_range (da_cons (do_v (de_len (by rfl) T.n_len (da_cons ((do_o (pv 1))) (da_nil)))) (da_nil))) (by rfl) (fun _ _ _ _ _ => dgn 2 hN) (fun _ _ _ _ _ => dts_one (dt_not (dt_val (de_callD D_rec (hr.mono (Nat.le_refl _)) (da_cons (do_v (de_ix (do_o (pv 0)) (do_o (pv 2)))) (da_cons (do_v (de_ix (do_o (pv 1)) (do_o (pv 2)))) (da_nil))))))) (fun _ _ _ _ _ => de_var (pv 2)))) (do_v (de_lst (da_nil)))))))) (dss_nil)) (dss_cons (ds_if (dt_w (dw_or (dt_isN (do_o (pv 1)) (do_v (de_non))) (dw_or1 (dt_val (de_isi .str (by rfl) T.n_isinstance (by rfl) T.n_str bt_str (do_o (pv 1))))))) (dss_one (ds_ret (de_and (de_eq (un64 hr) (do_o (pv 0)) (do_o (pv 1))) (de_one1 (de_eq (un64 hr) (do_v (de_isi .str (by rfl) T.n_isinstance (by rfl) T.n_str bt_str (do_o (pv 0)))) (do_v (de_isi .str (by rfl) T.n_isinstance (by rfl) T.n_str bt_str (do_o (pv 1))))))))) (dss_nil)) (dss_one (ds_ret (de_and (de_isi .int (by rfl) T.n_isinstance (by rfl) T.n_int bt_int (do_o (pv 0))) (de_and (de_eq (un64 hr) (do_v (de_isi .bool (by rfl) T.n_isinstance (by rfl) T.n_bool bt_bool (do_o (pv 0)))) (do_v (de_isi .bool (by rfl) T.n_isinstance (by rfl) T.n_bool bt_bool (do_o (pv 1))))) (de_one1 (de_eq (un64 hr) (do_o (pv 0)) (do_o (pv 1)))))))))
theorem sc_ulaw_mixed : FnScope ["row", "value"] ["row", "value"] (defScope s_ulaw_mixed) := ⟨rfl, rfl, rfl, by decide +kernel, rfl, by decide +kernel, by decide +kernel⟩
theorem nd_ulaw_mixed : (["row", "value"] : List Str).Nodup := by decide +kernel
theorem ok_ulaw_mixed {f : Addr} {fd : FuncData} (T : Txt P w K mg base) (F : Fun K "_law_mixed" "_law_mixed" s_ulaw_mixed f fd) (hm : mg "_law_mixed" = some (.ref f)) (D_ulaw_taken : DefOk P w K mg base "_law_taken" 1 f_ulaw_taken) : DefOk P w K mg base "_law_mixed" 2 f_ulaw_mixed :=
  def_ok (N := ["row", "value"]) (ps := ["row", "value"]) (loc := 0) F hm (F.binds (ps := ["row", "value"]) fun _ _ _ _ _ _ us hl => match us, hl with | [_, _], _ => rfl) sc_ulaw_mixed rfl <| fun cdv A outer s H E hr => by
    have hN := nd_ulaw_mixed
    have hp : PassesOwn (model P w) (A.deeper (PyProof.Rows.envOfC "_law_mixed" (defScope s_ulaw_mixed) s.heap.objs.size f cdv)) (PyProof.Rows.envOfC "_law_mixed" (defScope s_ulaw_mixed) s.heap.objs.size f cdv) (cxOf (L2.CX P w) P w K mg base ["row", "value"] "_law_mixed" (defScope s_ulaw_mixed) f cdv A outer s H E).xe := passes_of rfl
    exact dss_cons (ds_if (dt_eq (un64 hr) (do_v (de_callD D_ulaw_taken (hr.mono (by decide)) (da_cons ((do_o (pv 0))) (da_cons (do_v (de_int)) (da_nil))))) (do_v (de_int))) (dss_one (ds_ret (de_list (by rfl) T.n_list (da_cons ((do_o (pv 1))) (da_nil))))) (dss_nil)) (dss_one (ds_ret (de_tuple (by rfl) T.n_tuple (da_cons ((do_o (pv 1))) (da_nil)))))
theorem sc_ulaw_subsets : FnScope ["many", "found", "k", "chosen"] ["many"] (defScope s_ulaw_subsets) := ⟨rfl, rfl, rfl, by decide +kernel, rfl, by decide +kernel, by decide +kernel⟩
theorem nd_ulaw_subsets : (["many", "found", "k", "chosen"] : List Str).Nodup := by decide +kernel
theorem ok_ulaw_subsets {f : Addr} {fd : FuncData} (T : Txt P w K mg base) (F : Fun K "_law_subsets" "_law_subsets" s_ulaw_subsets f fd) (hm : mg "_law_subsets" = some (.ref f)) : DefOk P w K mg base "_law_subsets" 1 f_ulaw_subsets :=
  def_ok (N := ["many", "found", "k", "chosen"]) (ps := ["many"]) (loc := 3) F hm (F.binds (ps := ["many"]) fun _ _ _ _ _ _ us hl => match us, hl with | [_], _ => rfl) sc_ulaw_subsets rfl <| fun cdv A outer s H E hr => by
    have hN := nd_ulaw_subsets
    have hp : PassesOwn (model P w) (A.deeper (PyProof.Rows.envOfC "_law_subsets" (defScope s_ulaw_subsets) s.heap.objs.size f cdv)) (PyProof.Rows.envOfC "_law_subsets" (defScope s_ulaw_subsets) s.heap.objs.size f cdv) (cxOf (L2.CX P w) P w K mg base ["many", "found", "k", "chosen"] "_law_subsets" (defScope s_ulaw_subsets) f cdv A outer s H E).xe := passes_of rfl
    exact dss_cons (ds_set hN (by rfl) (by first | exact .inl rfl | exact .inr rfl) (de_lst (da_cons (do_v (de_lst (da_nil))) (da_nil)))) (dss_cons (ds_for hp (by rfl) (di_range1 (by rfl) T.n_range (da_cons (do_v (de_var (pv 0))) (da_nil))) (dgn 2 hN) (dss_one (ds_set hN (by rfl) (by first | exact .inl rfl | exact .inr rfl) (de_add (do_o (pv 1)) (do_v (de_lc (own := [("chosen", 3)]) (by rfl) hN (di_seq (de_var (pv 1))) (by rfl) (fun _ _ _ _ _ => dgn 3 hN) (fun _ _ _ _ _ => dts_nil) (fun _ _ _ _ _ => de_add (do_o (pv 3)) (do_v (de_lst (da_cons (do_v (de_var (pv 2))) (da_nil))))))))))) (dss_one (ds_ret (de_var (pv 1)))))
theorem sc_ulaw_truth : FnScope ["found", "due"] ["found", "due"] (defScope s_ulaw_truth) := ⟨rfl, rfl, rfl, by decide +kernel, rfl, by decide +kernel, by decide +kernel⟩
theorem nd_ulaw_truth : (["found", "due"] : List Str).Nodup := by decide +kernel
theorem ok_ulaw_truth {f : Addr} {fd : FuncData} (T : Txt P w K mg base) (F : Fun K "_law_truth" "_law_truth" s_ulaw_truth f fd) (hm : mg "_law_truth" = some (.ref f)) : DefOk P w K mg base "_law_truth" 1 f_ulaw_truth :=
  def_ok (N := ["found", "due"]) (ps := ["found", "due"]) (loc := 0) F hm (F.binds (ps := ["found", "due"]) fun _ _ _ _ _ _ us hl => match us, hl with | [_, _], _ => rfl) sc_ulaw_truth rfl <| fun cdv A outer s H E hr => by
    have hN := nd_ulaw_truth
    have hp : PassesOwn (model P w) (A.deeper (PyProof.Rows.envOfC "_law_truth" (defScope s_ulaw_truth) s.heap.objs.size f cdv)) (PyProof.Rows.envOfC "_law_truth" (defScope s_ulaw_truth) s.heap.objs.size f cdv) (cxOf (L2.CX P w) P w K mg base ["found", "due"] "_law_truth" (defScope s_ulaw_truth) f cdv A outer s H E).xe := passes_of rfl
    exact dss_one (ds_ret (de_and (de_isi .bool (by rfl) T.n_isinstance (by rfl) T.n_bool bt_bool (do_o (pv 0))) (de_one1 (de_eq (un64 hr) (do_o (pv 0)) (do_o (pv 1))))))
theorem sc_ulaw_inside : FnScope ["days", "most", "window", "day", "one"] ["days", "most", "window", "day"] (defScope s_ulaw_inside) := ⟨rfl, rfl, rfl, by decide +kernel, rfl, by decide +kernel, by decide +kernel⟩
theorem nd_ulaw_inside : (["days", "most", "window", "day", "one"] : List Str).Nodup := by decide +kernel
theorem ok_ulaw_inside {f : Addr} {fd : FuncData} (T : Txt P w K mg base) (F : Fun K "_law_inside" "_law_inside" s_ulaw_inside f fd) (hm : mg "_law_inside" = some (.ref f)) : DefOk P w K mg base "_law_inside" 1 f_ulaw_inside :=
  def_ok (N := ["days", "most", "window", "day", "one"]) (ps := ["days", "most", "window", "day"]) (loc := 1) F hm (F.binds (ps := ["days", "most", "window", "day"]) fun _ _ _ _ _ _ us hl => match us, hl with | [_, _, _, _], _ => rfl) sc_ulaw_inside rfl <| fun cdv A outer s H E hr => by
    have hN := nd_ulaw_inside
    have hp : PassesOwn (model P w) (A.deeper (PyProof.Rows.envOfC "_law_inside" (defScope s_ulaw_inside) s.heap.objs.size f cdv)) (PyProof.Rows.envOfC "_law_inside" (defScope s_ulaw_inside) s.heap.objs.size f cdv) (cxOf (L2.CX P w) P w K mg base ["days", "most", "window", "day", "one"] "_law_inside" (defScope s_ulaw_inside) f cdv A outer s H E).xe := passes_of rfl
    exact dss_one (ds_ret (de_len (by rfl) T.n_len (da_cons ((do_v (de_lc (own := [("one", 4)]) (by rfl) hN (di_seq (de_var (pv 0))) (by rfl) (fun _ _ _ _ _ => dgn 4 hN) (fun _ _ _ _ _ => dts_one (dt_chain (de_sub (do_o (pv 3)) (do_o (pv 2))) (ch_cons op_lt snd_cmpI (de_var (pv 4)) (ch_last op_le snd_cmpI (de_var (pv 3)))))) (fun _ _ _ _ _ => de_var (pv 4))))) (da_nil))))
theorem sc_ulaw_lawful : FnScope ["days", "most", "window", "day"] ["days", "most", "window"] (defScope s_ulaw_lawful) := ⟨rfl, rfl, rfl, by decide +kernel, rfl, by decide +kernel, by decide +kernel⟩
theorem nd_ulaw_lawful : (["days", "most", "window", "day"] : List Str).Nodup := by decide +kernel
theorem ok_ulaw_lawful {f : Addr} {fd : FuncData} (T : Txt P w K mg base) (F : Fun K "_law_lawful" "_law_lawful" s_ulaw_lawful f fd) (hm : mg "_law_lawful" = some (.ref f)) (D_ulaw_inside : DefOk P w K mg base "_law_inside" 1 f_ulaw_inside) : DefOk P w K mg base "_law_lawful" 2 f_ulaw_lawful :=
  def_ok (N := ["days", "most", "window", "day"]) (ps := ["days", "most", "window"]) (loc := 1) F hm (F.binds (ps := ["days", "most", "window"]) fun _ _ _ _ _ _ us hl => match us, hl with | [_, _, _], _ => rfl) sc_ulaw_lawful rfl <| fun cdv A outer s H E hr => by
    have hN := nd_ulaw_lawful
    have hp : PassesOwn (model P w) (A.deeper (PyProof.Rows.envOfC "_law_lawful" (defScope s_ulaw_lawful) s.heap.objs.size f cdv)) (PyProof.Rows.envOfC "_law_lawful" (defScope s_ulaw_lawful) s.heap.objs.size f cdv) (cxOf (L2.CX P w) P w K mg base ["days", "most", "window", "day"] "_law_lawful" (defScope s_ulaw_lawful) f cdv A outer s H E).xe := passes_of rfl
    exact dss_one (ds_ret (de_eq (un64 hr) (do_v (de_lc (own := [("day", 3)]) (by rfl) hN (di_seq (de_var (pv 0))) (by rfl) (fun _ _ _ _ _ => dgn 3 hN) (fun _ _ _ _ _ => dts_one (dt_gt (do_v (de_callD D_ulaw_inside (hr.mono (by decide)) (da_cons (do_v (de_var (pv 0))) (da_cons (do_v (de_var (pv 1))) (da_cons (do_v (de_var (pv 2))) (da_cons (do_v (de_var (pv 3))) (da_nil))))))) (do_o (pv 1)))) (fun _ _ _ _ _ => de_var (pv 3)))) (do_v (de_lst (da_nil)))))
theorem sc_StayRule_first_entry : FnScope ["self", "spans", "day", "many", "told", "begin"] ["self", "spans", "day", "many"] (defScope s_StayRule_first_entry) := ⟨rfl, rfl, rfl, by decide +kernel, rfl, by decide +kernel, by decide +kernel⟩
theorem nd_StayRule_first_entry : (["self", "spans", "day", "many", "told", "begin"] : List Str).Nodup := by decide +kernel
theorem ok_StayRule_first_entry {f C : Addr} {fd : FuncData} (T : Txt P w K mg base) (F : Fun K "first_entry" "StayRule.first_entry" s_StayRule_first_entry f fd) (hC : mg "StayRule" = some (.ref C)) (hc : Cls K C) (hm : Meth K C "first_entry" f) (D_want_spans : DefOk P w K mg base "want_spans" 3 f_want_spans) (D_StayRule_longest_up_to : MethOk P w K mg base "StayRule" "longest_up_to" 5 f_StayRule_longest_up_to) : MethOk P w K mg base "StayRule" "first_entry" 6 f_StayRule_first_entry :=
  meth_ok (N := ["self", "spans", "day", "many", "told", "begin"]) (ps := ["self", "spans", "day", "many"]) (loc := 2) F hC hc hm (F.binds (ps := ["self", "spans", "day", "many"]) fun _ _ _ _ _ _ us hl => match us, hl with | [_, _, _, _], _ => rfl) sc_StayRule_first_entry rfl <| fun cdv A outer s H E hr => by
    have hN := nd_StayRule_first_entry
    have hp : PassesOwn (model P w) (A.deeper (PyProof.Rows.envOfC "StayRule.first_entry" (defScope s_StayRule_first_entry) s.heap.objs.size f cdv)) (PyProof.Rows.envOfC "StayRule.first_entry" (defScope s_StayRule_first_entry) s.heap.objs.size f cdv) (cxOf (L2.CX P w) P w K mg base ["self", "spans", "day", "many", "told", "begin"] "StayRule.first_entry" (defScope s_StayRule_first_entry) f cdv A outer s H E).xe := passes_of rfl
    exact dss_cons (ds_set hN (by rfl) (by first | exact .inl rfl | exact .inr rfl) (de_callD D_want_spans (hr.mono (by decide)) (da_cons (do_v (de_var (pv 1))) (da_nil)))) (dss_cons (ds_if (dt_w (dw_and (dt_gt (do_o (pv 3)) (do_v (de_min (by rfl) (by rfl) T.n_min (da_cons ((do_v (de_fld T.f_StayRule_most (do_o (pv 0))))) (da_cons ((do_v (de_fld T.f_StayRule_window (do_o (pv 0))))) (da_nil)))))) (dw_and1 (dt_lt (do_v (de_fld T.f_StayRule_most (do_o (pv 0)))) (do_v (de_fld T.f_StayRule_window (do_o (pv 0)))))))) (dss_one (ds_ret (de_non))) (dss_nil)) (dss_cons (ds_for hp (by rfl) (di_range2 (by rfl) T.n_range (da_cons (do_v (de_var (pv 2))) (da_cons (do_v (de_add (do_v (de_add (do_o (pv 2)) (do_v (de_mul (do_v (de_int)) (do_v (de_fld T.f_StayRule_window (do_o (pv 0)))))))) (do_v (de_int)))) (da_nil)))) (dgn 5 hN) (dss_one (ds_if (dt_val (de_methD D_StayRule_longest_up_to (hr.mono (by decide)) (de_var (pv 0)) (da_cons (do_v (de_var (pv 4))) (da_cons (do_v (de_var (pv 5))) (da_cons (do_v (de_var (pv 3))) (da_nil)))))) (dss_one (ds_ret (de_var (pv 5)))) (dss_nil)))) (dss_one (ds_ret (de_non)))))
theorem sc_ulaw_refused : FnScope ["made", "spans", "turn", "e"] ["made", "spans", "turn"] (defScope s_ulaw_refused) := ⟨rfl, rfl, rfl, by decide +kernel, rfl, by decide +kernel, by decide +kernel⟩
theorem nd_ulaw_refused : (["made", "spans", "turn", "e"] : List Str).Nodup := by decide +kernel
theorem ok_ulaw_refused {f : Addr} {fd : FuncData} (T : Txt P w K mg base) (F : Fun K "_law_refused" "_law_refused" s_ulaw_refused f fd) (hm : mg "_law_refused" = some (.ref f)) (D_StayRule_inside : MethOk P w K mg base "StayRule" "inside" 4 f_StayRule_inside) (D_StayRule_first_over : MethOk P w K mg base "StayRule" "first_over" 5 f_StayRule_first_over) (D_StayRule_is_lawful : MethOk P w K mg base "StayRule" "is_lawful" 6 f_StayRule_is_lawful) (D_StayRule_can_stay : MethOk P w K mg base "StayRule" "can_stay" 5 f_StayRule_can_stay) (D_StayRule_longest_stay : MethOk P w K mg base "StayRule" "longest_stay" 5 f_StayRule_longest_stay) (D_StayRule_first_entry : MethOk P w K mg base "StayRule" "first_entry" 6 f_StayRule_first_entry) : DefOk P w K mg base "_law_refused" 7 f_ulaw_refused :=
  def_ok (N := ["made", "spans", "turn", "e"]) (ps := ["made", "spans", "turn"]) (loc := 1) F hm (F.binds (ps := ["made", "spans", "turn"]) fun _ _ _ _ _ _ us hl => match us, hl with | [_, _, _], _ => rfl) sc_ulaw_refused rfl <| fun cdv A outer s H E hr => by
    have hN := nd_ulaw_refused
    have hp : PassesOwn (model P w) (A.deeper (PyProof.Rows.envOfC "_law_refused" (defScope s_ulaw_refused) s.heap.objs.size f cdv)) (PyProof.Rows.envOfC "_law_refused" (defScope s_ulaw_refused) s.heap.objs.size f cdv) (cxOf (L2.CX P w) P w K mg base ["made", "spans", "turn", "e"] "_law_refused" (defScope s_ulaw_refused) f cdv A outer s H E).xe := passes_of rfl
    exact dss_cons (ds_tryT T.x_BadItem (by rfl) (by rfl) (by rfl) hN (by rfl) (by rfl) (by rfl) (fun pn xe hp => dss_one (ds_if (dt_eq (un64 hr) (do_o (pv 2)) (do_v (de_int))) (dss_one (ds_expr (de_methD D_StayRule_inside (hr.mono (by decide)) (de_var (pv 0)) (da_cons (do_v (de_var (pv 1))) (da_cons (do_v (de_int)) (da_nil)))))) (dss_one (ds_if (dt_eq (un64 hr) (do_o (pv 2)) (do_v (de_int))) (dss_one (ds_expr (de_methD D_StayRule_first_over (hr.mono (by decide)) (de_var (pv 0)) (da_cons (do_v (de_var (pv 1))) (da_nil))))) (dss_one (ds_if (dt_eq (un64 hr) (do_o (pv 2)) (do_v (de_int))) (dss_one (ds_expr (de_methD D_StayRule_is_lawful (hr.mono (by decide)) (de_var (pv 0)) (da_cons (do_v (de_var (pv 1))) (da_nil))))) (dss_one (ds_if (dt_eq (un64 hr) (do_o (pv 2)) (do_v (de_int))) (dss_one (ds_expr (de_methD D_StayRule_can_stay (hr.mono (by decide)) (de_var (pv 0)) (da_cons (do_v (de_var (pv 1))) (da_cons (do_v (de_int)) (da_nil)))))) (dss_one (ds_if (dt_eq (un64 hr) (do_o (pv 2)) (do_v (de_int))) (dss_one (ds_expr (de_methD D_StayRule_longest_stay (hr.mono (by decide)) (de_var (pv 0)) (da_cons (do_v (de_var (pv 1))) (da_cons (do_v (de_int)) (da_nil)))))) (dss_one (ds_expr (de_methD D_StayRule_first_entry (hr.mono (by decide)) (de_var (pv 0)) (da_cons (do_v (de_var (pv 1))) (da_cons (do_v (de_int)) (da_cons (do_v (de_int)) (da_nil))))))))))))))))) (fun a oe cls d pn hz hv => dss_one (ds_ret (de_tup (da_cons (do_v (de_str)) (da_cons (do_v (de_xfT T.x_BadItem (by decide) hz hv (pv 3))) (da_nil))))))) (dss_one (ds_ret (de_non)))
theorem sc_law : FnScope ["script", "row", "k", "handed", "turn", "over", "day", "long", "many", "good", "begin", "size", "best", "early", "wrong", "most", "window", "made", "spans", "days", "last", "first", "stay", "parts", "value", "e", "one", "span", "some"] ["script"] (defScope s_law) := ⟨rfl, rfl, rfl, by decide +kernel, rfl, by decide +kernel, by decide +kernel⟩
theorem nd_law : (["script", "row", "k", "handed", "turn", "over", "day", "long", "many", "good", "begin", "size", "best", "early", "wrong", "most", "window", "made", "spans", "days", "last", "first", "stay", "parts", "value", "e", "one", "span", "some"] : List Str).Nodup := by decide +kernel
theorem ok_law {f : Addr} {fd : FuncData} (T : Txt P w K mg base) (F : Fun K "law" "law" s_law f fd) (D_ulaw_taken : DefOk P w K mg base "_law_taken" 1 f_ulaw_taken) (D_StayRule : MakeOk P w K mg base "StayRule" 4 f_StayRule_uuinit__) (D_ulaw_mixed : DefOk P w K mg base "_law_mixed" 2 f_ulaw_mixed) (D_ulaw_alike : DefOk P w K mg base "_law_alike" 9 (f_ulaw_alike 8)) (KW_StayRule : MakeKwOk P w K mg base "StayRule" ["most", "window"] 4 f_StayRule_uuinit__) (Q_StayRule : EqOk P w K mg base "StayRule" 1 f_StayRule_uueq__) (D_StayRule_inside : MethOk P w K mg base "StayRule" "inside" 4 f_StayRule_inside) (D_ulaw_inside : DefOk P w K mg base "_law_inside" 1 f_ulaw_inside) (D_StayRule_first_over : MethOk P w K mg base "StayRule" "first_over" 5 f_StayRule_first_over) (D_StayRule_is_lawful : MethOk P w K mg base "StayRule" "is_lawful" 6 f_StayRule_is_lawful) (D_ulaw_truth : DefOk P w K mg base "_law_truth" 1 f_ulaw_truth) (D_StayRule_can_stay : MethOk P w K mg base "StayRule" "can_stay" 5 f_StayRule_can_stay) (D_StayRule_longest_stay : MethOk P w K mg base "StayRule" "longest_stay" 5 f_StayRule_longest_stay) (D_StayRule_first_entry : MethOk P w K mg base "StayRule" "first_entry" 6 f_StayRule_first_entry) (D_ulaw_subsets : DefOk P w K mg base "_law_subsets" 1 f_ulaw_subsets) (D_ulaw_lawful : DefOk P w K mg base "_law_lawful" 2 f_ulaw_lawful) (D_StayRule_most_days : MethOk P w K mg base "StayRule" "most_days" 1 f_StayRule_most_days) (D_StayRule_earliest_days : MethOk P w K mg base "StayRule" "earliest_days" 1 f_StayRule_earliest_days) (D_ulaw_pick : DefOk P w K mg base "_law_pick" 2 f_ulaw_pick) (D_ulaw_refused : DefOk P w K mg base "_law_refused" 7 f_ulaw_refused) : FnOk P w K mg base (L2.CX P w) 10 f fd ["script"] (spD K mg f_law) :=
  fn_ok (N := ["script", "row", "k", "handed", "turn", "over", "day", "long", "many", "good", "begin", "size", "best", "early", "wrong", "most", "window", "made", "spans", "days", "last", "first", "stay", "parts", "value", "e", "one", "span", "some"]) (ps := ["script"]) (loc := 28) F sc_law rfl <| fun cdv A outer s H E hr => by
    have hN := nd_law
    have hp : PassesOwn (model P w) (A.deeper (PyProof.Rows.envOfC "law" (defScope s_law) s.heap.objs.size f cdv)) (PyProof.Rows.envOfC "law" (defScope s_law) s.heap.objs.size f cdv) (cxOf (L2.CX P w) P w K mg base ["script", "row", "k", "handed", "turn", "over", "day", "long", "many", "good", "begin", "size", "best", "early", "wrong", "most", "window", "made", "spans", "days", "last", "first", "stay", "parts", "value", "e", "one", "span", "some"] "law" (defScope s_law) f cdv A outer s H E).xe := passes_of rfl
    exact dss_cons (ds_own hN (by rfl) (by first | exact .inl rfl | exact .inr rfl) (da_cons (do_v (de_var (pv 0))) (da_cons (do_v (de_int)) (da_cons (do_v (de_int)) (da_cons (do_v (de_int)) (da_nil)))))) (dss_cons (ds_asg (de_tup (da_cons (do_v (de_callD D_ulaw_taken (hr.mono (by decide)) (da_cons ((do_o (pv 1))) (da_cons (do_v (de_int)) (da_nil))))) (da_cons (do_v (de_add (do_v (de_int)) (do_v (de_callD D_ulaw_taken (hr.mono (by decide)) (da_cons ((do_o (pv 1))) (da_cons (do_v (de_int)) (da_nil))))))) (da_nil)))) (dg_tup (by rfl) (dgs_cons (dgn 15 hN) (dgs_cons (dgn 16 hN) (dgs_nil))))) (dss_cons (ds_rowN (is := [17, 18, 19, 20]) (by rfl) (pgs_cons (pg_name hN (by rfl) (by first | exact .inl rfl | exact .inr rfl)) (pgs_cons (pg_name hN (by rfl) (by first | exact .inl rfl | exact .inr rfl)) (pgs_cons (pg_name hN (by rfl) (by first | exact .inl rfl | exact .inr rfl)) (pgs_cons (pg_name hN (by rfl) (by first | exact .inl rfl | exact .inr rfl)) (pgs_nil))))) (by decide) (dr_v (de_makeD D_StayRule (hr.mono (by decide)) (da_cons (do_v (de_var (pv 15))) (da_cons (do_v (de_var (pv 16))) (da_nil)))) (dq_new .nil (dq_lst .nil (dq_int (dq_nil)))))) (dss_cons (ds_for hp (by rfl) (di_range1 (by rfl) T.n_range (da_cons (do_v (de_callD D_ulaw_taken (hr.mono (by decide)) (da_cons ((do_o (pv 1))) (da_cons (do_v (de_int)) (da_nil))))) (da_nil))) (dgn 2 hN) (dss_cons (ds_set hN (by rfl) (by first | exact .inl rfl | exact .inr rfl) (de_add (do_o (pv 20)) (do_v (de_callD D_ulaw_taken (hr.mono (by decide)) (da_cons ((do_o (pv 1))) (da_cons (do_v (de_int)) (da_nil))))))) (dss_cons (ds_set hN (by rfl) (by first | exact .inl rfl | exact .inr rfl) (de_add (do_v (de_add (do_o (pv 21)) (do_v (de_int)))) (do_v (de_callD D_ulaw_taken (hr.mono (by decide)) (da_cons ((do_o (pv 1))) (da_cons (do_v (de_int)) (da_nil))))))) (dss_cons (ds_append (pv 18) (de_tup (da_cons (do_v (de_var (pv 21))) (da_cons (do_v (de_var (pv 20))) (da_nil)))) (fun _ h => pe_bm PySem.F.plainAttrs_list PySem.F.slot_list_append PySem.F.type_list_append mt_append (pv 18) (pa_cons h pa_nil))) (dss_one (ds_set hN (by rfl) (by first | exact .inl rfl | exact .inr rfl) (de_add (do_o (pv 19)) (do_v (de_listrng (by rfl) (by rfl) T.n_list (by rfl) T.n_range (da_cons (do_v (de_var (pv 21))) (da_cons (do_v (de_var (pv 20))) (da_nil)))))))))))) (dss_cons (ds_frz 18 (ds_set hN (by rfl) (by first | exact .inl rfl | exact .inr rfl) (de_callD D_ulaw_mixed (hr.mono (by decide)) (da_cons ((do_o (pv 1))) (da_cons (do_v (de_lc (own := [("span", 27)]) (by rfl) hN (di_seq (de_var (pv 18))) (by rfl) (fun _ _ _ _ _ => dgn 27 hN) (fun _ _ _ _ _ => dts_nil) (fun _ _ _ _ _ => de_callD D_ulaw_mixed (hr.mono (by decide)) (da_cons ((do_o (pv 1))) (da_cons (do_v (de_var (pv 27))) (da_nil)))))) (da_nil)))))) (dss_cons (ds_if (dt_w (dw_or (dt_not (dt_val (de_callD D_ulaw_alike (hr.mono (by decide)) (da_cons (do_v (de_tup (da_cons (do_v (de_fld T.f_StayRule_most (do_o (pv 17)))) (da_cons (do_v (de_fld T.f_StayRule_window (do_o (pv 17)))) (da_nil))))) (da_cons (do_v (de_tup (da_cons (do_v (de_var (pv 15))) (da_cons (do_v (de_var (pv 16))) (da_nil))))) (da_nil)))))) (dw_or (dt_neO Q_StayRule (hr.mono (by decide)) (do_o (pv 17)) (do_v (de_makeK KW_StayRule (hr.mono (by decide)) (dk_cons (do_v (de_var (pv 15))) (dk_cons (do_v (de_var (pv 16))) (dk_nil))) (by rfl)))) (dw_or (dt_eqO Q_StayRule (hr.mono (by decide)) (do_o (pv 17)) (do_v (de_makeD D_StayRule (hr.mono (by decide)) (da_cons (do_v (de_add (do_o (pv 15)) (do_v (de_int)))) (da_cons (do_v (de_var (pv 16))) (da_nil)))))) (dw_or1 (dt_eqO Q_StayRule (hr.mono (by decide)) (do_o (pv 17)) (do_v (de_tup (da_cons (do_v (de_var (pv 15))) (da_cons (do_v (de_var (pv 16))) (da_nil))))))))))) (dss_one (ds_ret (de_bl))) (dss_nil)) (dss_cons (ds_for hp (by rfl) (di_range1 (by rfl) T.n_range (da_cons (do_v (de_int)) (da_nil))) (dgn 4 hN) (dss_cons (ds_set hN (by rfl) (by first | exact .inl rfl | exact .inr rfl) (de_callD D_ulaw_taken (hr.mono (by decide)) (da_cons ((do_o (pv 1))) (da_cons (do_v (de_int)) (da_nil))))) (dss_one (ds_if (dt_not (dt_val (de_callD D_ulaw_alike (hr.mono (by decide)) (da_cons (do_v (de_methD D_StayRule_inside (hr.mono (by decide)) (de_var (pv 17)) (da_cons (do_v (de_var (pv 3))) (da_cons (do_v (de_var (pv 6))) (da_nil))))) (da_cons (do_v (de_callD D_ulaw_inside (hr.mono (by decide)) (da_cons (do_v (de_var (pv 19))) (da_cons (do_v (de_var (pv 15))) (da_cons (do_v (de_var (pv 16))) (da_cons (do_v (de_var (pv 6))) (da_nil))))))) (da_nil)))))) (dss_one (ds_ret (de_bl))) (dss_nil))))) (dss_cons (ds_setLc (own := [("day", 6)]) (by rfl) hN (by rfl) (by rfl) (by rfl) (di_seq (de_var (pv 19))) (by rfl) (fun _ _ _ _ _ => dgn 6 hN) (fun _ _ _ _ _ => dts_one (dt_gt (do_v (de_callD D_ulaw_inside (hr.mono (by decide)) (da_cons (do_v (de_var (pv 19))) (da_cons (do_v (de_var (pv 15))) (da_cons (do_v (de_var (pv 16))) (da_cons (do_v (de_var (pv 6))) (da_nil))))))) (do_o (pv 15)))) (fun _ _ _ _ _ => de_var (pv 6))) (dss_cons (ds_if (dt_w (dw_or (dt_not (dt_val (de_callD D_ulaw_alike (hr.mono (by decide)) (da_cons (do_v (de_methD D_StayRule_first_over (hr.mono (by decide)) (de_var (pv 17)) (da_cons (do_v (de_var (pv 3))) (da_nil)))) (da_cons (do_v (de_ix (do_v (de_add (do_o (pv 5)) (do_v (de_lst (da_cons (do_v (de_non)) (da_nil)))))) (do_v (de_int)))) (da_nil)))))) (dw_or1 (dt_not (dt_val (de_callD D_ulaw_truth (hr.mono (by decide)) (da_cons (do_v (de_methD D_StayRule_is_lawful (hr.mono (by decide)) (de_var (pv 17)) (da_cons (do_v (de_var (pv 3))) (da_nil)))) (da_cons (do_v (de_eq (un64 hr) (do_o (pv 5)) (do_v (de_lst (da_nil))))) (da_nil))))))))) (dss_one (ds_ret (de_bl))) (dss_nil)) (dss_cons (ds_set hN (by rfl) (by first | exact .inl rfl | exact .inr rfl) (de_add (do_o (pv 20)) (do_v (de_callD D_ulaw_taken (hr.mono (by decide)) (da_cons ((do_o (pv 1))) (da_cons (do_v (de_int)) (da_nil))))))) (dss_cons (ds_if (dt_not (dt_val (de_callD D_ulaw_truth (hr.mono (by decide)) (da_cons (do_v (de_methD D_StayRule_can_stay (hr.mono (by decide)) (de_var (pv 17)) (da_cons (do_v (de_var (pv 3))) (da_cons (do_v (de_var (pv 6))) (da_nil))))) (da_cons (do_v (de_le (do_v (de_callD D_ulaw_inside (hr.mono (by decide)) (da_cons (do_v (de_add (do_o (pv 19)) (do_v (de_lst (da_cons (do_v (de_var (pv 6))) (da_nil)))))) (da_cons (do_v (de_var (pv 15))) (da_cons (do_v (de_var (pv 16))) (da_cons (do_v (de_var (pv 6))) (da_nil))))))) (do_o (pv 15)))) (da_nil)))))) (dss_one (ds_ret (de_bl))) (dss_nil)) (dss_cons (ds_set hN (by rfl) (by first | exact .inl rfl | exact .inr rfl) (de_int)) (dss_cons (ds_for hp (by rfl) (di_range2 (by rfl) T.n_range (da_cons (do_v (de_int)) (da_cons (do_v (de_int)) (da_nil)))) (dgn 8 hN) (dss_cons (ds_if (dt_gt (do_v (de_callD D_ulaw_inside (hr.mono (by decide)) (da_cons (do_v (de_add (do_o (pv 19)) (do_v (de_listrng (by rfl) (by rfl) T.n_list (by rfl) T.n_range (da_cons (do_v (de_var (pv 6))) (da_cons (do_v (de_add (do_o (pv 6)) (do_o (pv 8)))) (da_nil))))))) (da_cons (do_v (de_var (pv 15))) (da_cons (do_v (de_var (pv 16))) (da_cons (do_v (de_sub (do_v (de_add (do_o (pv 6)) (do_o (pv 8)))) (do_v (de_int)))) (da_nil))))))) (do_o (pv 15))) (dss_one (ds_break)) (dss_nil)) (dss_one (ds_set hN (by rfl) (by first | exact .inl rfl | exact .inr rfl) (de_var (pv 8)))))) (dss_cons (ds_if (dt_ge (do_o (pv 15)) (do_o (pv 16))) (dss_one (ds_set hN (by rfl) (by first | exact .inl rfl | exact .inr rfl) (de_sub (do_v (de_int)) (do_o (pv 6))))) (dss_nil)) (dss_cons (ds_if (dt_not (dt_val (de_callD D_ulaw_alike (hr.mono (by decide)) (da_cons (do_v (de_methD D_StayRule_longest_stay (hr.mono (by decide)) (de_var (pv 17)) (da_cons (do_v (de_var (pv 3))) (da_cons (do_v (de_var (pv 6))) (da_nil))))) (da_cons (do_v (de_var (pv 7))) (da_nil)))))) (dss_one (ds_ret (de_bl))) (dss_nil)) (dss_cons (ds_set hN (by rfl) (by first | exact .inl rfl | exact .inr rfl) (de_callD D_ulaw_taken (hr.mono (by decide)) (da_cons ((do_o (pv 1))) (da_cons (do_v (de_int)) (da_nil))))) (dss_cons (ds_own hN (by rfl) (by first | exact .inl rfl | exact .inr rfl) (da_nil)) (dss_cons (ds_for hp (by rfl) (di_range2 (by rfl) T.n_range (da_cons (do_v (de_var (pv 6))) (da_cons (do_v (de_add (do_o (pv 6)) (do_v (de_int)))) (da_nil)))) (dgn 10 hN) (dss_cons (ds_set hN (by rfl) (by first | exact .inl rfl | exact .inr rfl) (de_listrng (by rfl) (by rfl) T.n_list (by rfl) T.n_range (da_cons (do_v (de_var (pv 10))) (da_cons (do_v (de_add (do_o (pv 10)) (do_o (pv 8)))) (da_nil))))) (dss_one (ds_if (dt_eq (un64 hr) (do_v (de_lc (own := [("one", 26)]) (by rfl) hN (di_seq (de_var (pv 22))) (by rfl) (fun _ _ _ _ _ => dgn 26 hN) (fun _ _ _ _ _ => dts_one (dt_gt (do_v (de_callD D_ulaw_inside (hr.mono (by decide)) (da_cons (do_v (de_add (do_o (pv 19)) (do_o (pv 22)))) (da_cons (do_v (de_var (pv 15))) (da_cons (do_v (de_var (pv 16))) (da_cons (do_v (de_var (pv 26))) (da_nil))))))) (do_o (pv 15)))) (fun _ _ _ _ _ => de_var (pv 26)))) (do_v (de_lst (da_nil)))) (dss_one (ds_append (pv 9) (de_var (pv 10)) (fun _ h => pe_bm PySem.F.plainAttrs_list PySem.F.slot_list_append PySem.F.type_list_append mt_append (pv 9) (pa_cons h pa_nil)))) (dss_nil))))) (dss_cons (ds_if (dt_not (dt_val (de_callD D_ulaw_alike (hr.mono (by decide)) (da_cons (do_v (de_methD D_StayRule_first_entry (hr.mono (by decide)) (de_var (pv 17)) (da_cons (do_v (de_var (pv 3))) (da_cons (do_v (de_var (pv 6))) (da_cons (do_v (de_var (pv 8))) (da_nil)))))) (da_cons (do_v (de_ix (do_v (de_add (do_o (pv 9)) (do_v (de_lst (da_cons (do_v (de_non)) (da_nil)))))) (do_v (de_int)))) (da_nil)))))) (dss_one (ds_ret (de_bl))) (dss_nil)) (dss_cons (ds_set hN (by rfl) (by first | exact .inl rfl | exact .inr rfl) (de_callD D_ulaw_taken (hr.mono (by decide)) (da_cons ((do_o (pv 1))) (da_cons (do_v (de_int)) (da_nil))))) (dss_cons (ds_set hN (by rfl) (by first | exact .inl rfl | exact .inr rfl) (de_max (by rfl) (by rfl) T.n_max (da_cons ((do_v (de_lc (own := [("some", 28)]) (by rfl) hN (di_seq (de_callD D_ulaw_subsets (hr.mono (by decide)) (da_cons (do_v (de_var (pv 11))) (da_nil)))) (by rfl) (fun _ _ _ _ _ => dgn 28 hN) (fun _ _ _ _ _ => dts_one (dt_val (de_callD D_ulaw_lawful (hr.mono (by decide)) (da_cons (do_v (de_var (pv 28))) (da_cons (do_v (de_var (pv 15))) (da_cons (do_v (de_var (pv 16))) (da_nil))))))) (fun _ _ _ _ _ => de_len (by rfl) T.n_len (da_cons ((do_o (pv 28))) (da_nil)))))) (da_nil)))) (dss_cons (ds_setLc (own := [("one", 26)]) (by rfl) hN (by rfl) (by rfl) (by rfl) (di_range1 (by rfl) T.n_range (da_cons (do_v (de_var (pv 11))) (da_nil))) (by rfl) (fun _ _ _ _ _ => dgn 26 hN) (fun _ _ _ _ _ => dts_one (dt_lt (do_v (de_intc (by rfl) T.n_int (da_cons ((do_v (de_mod (do_o (pv 26)) (do_o (pv 16))))) (da_nil)))) (do_o (pv 15)))) (fun _ _ _ _ _ => de_var (pv 26))) (dss_cons (ds_if (dt_w (dw_or (dt_not (dt_val (de_callD D_ulaw_alike (hr.mono (by decide)) (da_cons (do_v (de_tup (da_cons (do_v (de_methD D_StayRule_most_days (hr.mono (by decide)) (de_var (pv 17)) (da_cons (do_v (de_var (pv 11))) (da_nil)))) (da_cons (do_v (de_methD D_StayRule_earliest_days (hr.mono (by decide)) (de_var (pv 17)) (da_cons (do_v (de_var (pv 11))) (da_nil)))) (da_nil))))) (da_cons (do_v (de_tup (da_cons (do_v (de_var (pv 12))) (da_cons (do_v (de_tuple (by rfl) T.n_tuple (da_cons ((do_o (pv 13))) (da_nil)))) (da_nil))))) (da_nil)))))) (dw_or (dt_not (dt_val (de_callD D_ulaw_lawful (hr.mono (by decide)) (da_cons (do_v (de_var (pv 13))) (da_cons (do_v (de_var (pv 15))) (da_cons (do_v (de_var (pv 16))) (da_nil))))))) (dw_or1 (dt_ne (un64 hr) (do_v (de_len (by rfl) T.n_len (da_cons ((do_o (pv 13))) (da_nil)))) (do_o (pv 12))))))) (dss_one (ds_ret (de_bl))) (dss_nil)) (dss_cons (ds_set hN (by rfl) (by first | exact .inl rfl | exact .inr rfl) (de_callD D_ulaw_pick (hr.mono (by decide)) (da_cons ((do_o (pv 1))) (da_cons (do_v (de_lst (da_cons (do_v (de_tup (da_cons (do_v (de_int)) (da_cons (do_v (de_int)) (da_nil))))) (da_cons (do_v (de_tup (da_cons (do_v (de_neg (do_v (de_int)))) (da_cons (do_v (de_int)) (da_nil))))) (da_cons (do_v (de_tup (da_cons (do_v (de_int)) (da_cons (do_v (de_int)) (da_nil))))) (da_cons (do_v (de_tup (da_cons (do_v (de_bl)) (da_cons (do_v (de_int)) (da_nil))))) (da_cons (do_v (de_tup (da_cons (do_v (de_int)) (da_nil)))) (da_cons (do_v (de_non)) (da_cons (do_v (de_tup (da_cons (do_v (de_int)) (da_cons (do_v (de_int)) (da_nil))))) (da_nil)))))))))) (da_nil))))) (dss_cons (ds_if (dt_w (dw_and (dt_eq (un64 hr) (do_o (pv 18)) (do_v (de_lst (da_nil)))) (dw_and1 (dt_eq (un64 hr) (do_o (pv 14)) (do_v (de_tup (da_cons (do_v (de_int)) (da_cons (do_v (de_int)) (da_nil))))))))) (dss_one (ds_set hN (by rfl) (by first | exact .inl rfl | exact .inr rfl) (de_non))) (dss_nil)) (dss_cons (ds_for hp (by rfl) (di_range1 (by rfl) T.n_range (da_cons (do_v (de_int)) (da_nil))) (dgn 4 hN) (dss_one (ds_if (dt_w (dw_or (dt_ne (un64 hr) (do_v (de_callD D_ulaw_refused (hr.mono (by decide)) (da_cons (do_v (de_var (pv 17))) (da_cons (do_v (de_add (do_o (pv 18)) (do_v (de_lst (da_cons (do_v (de_var (pv 14))) (da_nil)))))) (da_cons (do_v (de_var (pv 4))) (da_nil)))))) (do_v (de_tup (da_cons (do_v (de_str)) (da_cons (do_v (de_len (by rfl) T.n_len (da_cons ((do_o (pv 18))) (da_nil)))) (da_nil)))))) (dw_or1 (dt_ne (un64 hr) (do_v (de_callD D_ulaw_refused (hr.mono (by decide)) (da_cons (do_v (de_var (pv 17))) (da_cons (do_v (de_non)) (da_cons (do_v (de_var (pv 4))) (da_nil)))))) (do_v (de_tup (da_cons (do_v (de_str)) (da_cons (do_v (de_non)) (da_nil))))))))) (dss_one (ds_ret (de_bl))) (dss_nil)))) (dss_cons (ds_for hp (by rfl) (di_seq (de_lst (da_cons (do_v (de_tup (da_cons (do_v (de_tup (da_cons (do_v (de_int)) (da_cons (do_v (de_int)) (da_nil))))) (da_cons (do_v (de_int)) (da_nil))))) (da_cons (do_v (de_tup (da_cons (do_v (de_tup (da_cons (do_v (de_int)) (da_cons (do_v (de_int)) (da_nil))))) (da_cons (do_v (de_int)) (da_nil))))) (da_cons (do_v (de_tup (da_cons (do_v (de_tup (da_cons (do_v (de_int)) (da_cons (do_v (de_int)) (da_nil))))) (da_cons (do_v (de_int)) (da_nil))))) (da_cons (do_v (de_tup (da_cons (do_v (de_tup (da_cons (do_v (de_bl)) (da_cons (do_v (de_int)) (da_nil))))) (da_cons (do_v (de_bl)) (da_nil))))) (da_cons (do_v (de_tup (da_cons (do_v (de_tup (da_cons (do_v (de_neg (do_v (de_int)))) (da_cons (do_v (de_int)) (da_nil))))) (da_cons (do_v (de_neg (do_v (de_int)))) (da_nil))))) (da_nil)))))))) (dg_tup (by rfl) (dgs_cons (dgn 23 hN) (dgs_cons (dgn 24 hN) (dgs_nil)))) (dss_one (ds_tryT T.x_BadNumber (by rfl) (by rfl) (by rfl) hN (by rfl) (by rfl) (by rfl) (fun pn xe hp => dss_cons (ds_expr (de_makeD D_StayRule (hr.mono (by decide)) (da_cons (do_v (de_ix (do_o (pv 23)) (do_v (de_int)))) (da_cons (do_v (de_ix (do_o (pv 23)) (do_v (de_int)))) (da_nil))))) (dss_one (ds_ret (de_bl)))) (fun a oe cls d pn hz hv => dss_one (ds_if (dt_ne (un64m hr) (do_v (de_repr (by rfl) T.n_repr (da_cons (do_v (de_xfT T.x_BadNumber (by decide) hz hv (pv 25))) (da_nil)))) (do_v (de_repr (by rfl) T.n_repr (da_cons (do_v (de_var (pv 24))) (da_nil))))) (dss_one (ds_ret (de_bl))) (dss_nil)))))) (dss_one (ds_ret (de_bl)))))))))))))))))))))))))))))
end
end DL
namespace DL
open PySem L2
def Row (l : List Int) (a b c : Int) : List D := [.scr (l.map D.int), .int a, .int b, .int c]
theorem taken_c {l : List Int} {a b c m : Int} (hc : 0 < c) (hm : 0 < m) (hm2 : m < 1073741824) :
    f_ulaw_taken [.own (Row l a b c), .val (.int m)] = .ok (.int (c % m)) [.own (Row l a b (c / m)), .val (.int m)] := by
  simp [f_ulaw_taken, m_ulaw_taken, Row, hc, hm, hm2, fnF, sSeq, sIf, asTest, op1, op2, opN, opV, M.bnd, M.ret, M.opt, Arg.ev, rs, rss, Slot.rd, Slot.arg, Slot.has, evs, sV, sAsg, sNx, var, gN, gTu, gCo, gNi, Slot.isOwn, vAnd, vOr, vNot, vIf, bAnd, bOr, bNot, chain, chC, chL, callF, callV_1, callV_2, callV_3, callV_4, sz1, sz2, sz3, sz4, sz5, sz6, sz7, sz8, sz9, sz10, sz11, sz12, dvs, D.ix, L2.atI, ixN, D.cmpI, D.toI, D.mod, D.fdiv, D.add, D.sub, D.mul, D.pow, D.neg, D.len, D.mkL, D.mkT, D.isN, D.notN, isiB, isi2, D.is, D.tn, D.eq, D.ne, D.sc, D.eqb, sPut, sFor, forL, seqM, srcN, D.rng1, D.rng2, D.enum]
theorem taken_e {l : List Int} {a b c m : Int} (hc : ¬ 0 < c) (ha : (l.length : Int) < a + 1) (hb : 0 ≤ b) (hb2 : b < 2147483647) (hm : 0 < m) :
    f_ulaw_taken [.own (Row l a b c), .val (.int m)] = .ok (.int ((b * 48271 + 11) % 2147483647 / 7 % m)) [.own (Row l (a + 1) ((b * 48271 + 11) % 2147483647) c), .val (.int m)] := by
  have h1 : -18446744073709551616 < b := by omega
  have h2 : b < 18446744073709551616 := by omega
  simp [f_ulaw_taken, m_ulaw_taken, Row, hc, hm, ha, h1, h2, fnF, sSeq, sIf, asTest, op1, op2, opN, opV, M.bnd, M.ret, M.opt, Arg.ev, rs, rss, Slot.rd, Slot.arg, Slot.has, evs, sV, sAsg, sNx, var, gN, gTu, gCo, gNi, Slot.isOwn, vAnd, vOr, vNot, vIf, bAnd, bOr, bNot, chain, chC, chL, callF, callV_1, callV_2, callV_3, callV_4, sz1, sz2, sz3, sz4, sz5, sz6, sz7, sz8, sz9, sz10, sz11, sz12, dvs, D.ix, L2.atI, ixN, D.cmpI, D.toI, D.mod, D.fdiv, D.add, D.sub, D.mul, D.pow, D.neg, D.len, D.mkL, D.mkT, D.isN, D.notN, isiB, isi2, D.is, D.tn, D.eq, D.ne, D.sc, D.eqb, sPut, sFor, forL, seqM, srcN, D.rng1, D.rng2, D.enum]
theorem taken_n {l : List Int} {a b c m z : Int} {k : Nat} (hc : ¬ 0 < c) (ha : a = k) (hz : l[k]? = some z) (hb : 0 ≤ b) (hb2 : b < 2147483647) (hm : 0 < m) (hm2 : m < 1073741824) :
    f_ulaw_taken [.own (Row l a b c), .val (.int m)] = .ok (.int (z % m)) [.own (Row l (a + 1) ((b * 48271 + z + 11) % 2147483647) (if 1000000000000000000 ≤ z then z / m else c)), .val (.int m)] := by
  have h1 : -18446744073709551616 < b := by omega
  have h2 : b < 18446744073709551616 := by omega
  have hk : k < l.length := (List.getElem?_eq_some_iff.mp hz).1
  have hz' : l[k] = z := (List.getElem?_eq_some_iff.mp hz).2
  have ha2 : ¬ (l.length : Int) < a + 1 := by omega
  subst ha
  have ha3 : ¬ (l.length < k + 1) := by omega
  have e1 : ((k : Int) + 1 - 1) = k := by omega
  have e2 : (0 : Int) ≤ k := by omega
  by_cases hz1 : 1000000000000000000 ≤ z
  · simp [f_ulaw_taken, m_ulaw_taken, Row, hc, hm, hm2, ha2, ha3, h1, h2, e1, e2, hk, hz', hz, hz1, fnF, sSeq, sIf, asTest, op1, op2, opN, opV, M.bnd, M.ret, M.opt, Arg.ev, rs, rss, Slot.rd, Slot.arg, Slot.has, evs, sV, sAsg, sNx, var, gN, gTu, gCo, gNi, Slot.isOwn, vAnd, vOr, vNot, vIf, bAnd, bOr, bNot, chain, chC, chL, callF, callV_1, callV_2, callV_3, callV_4, sz1, sz2, sz3, sz4, sz5, sz6, sz7, sz8, sz9, sz10, sz11, sz12, dvs, D.ix, L2.atI, ixN, D.cmpI, D.toI, D.mod, D.fdiv, D.add, D.sub, D.mul, D.pow, D.neg, D.len, D.mkL, D.mkT, D.isN, D.notN, isiB, isi2, D.is, D.tn, D.eq, D.ne, D.sc, D.eqb, sPut, sFor, forL, seqM, srcN, D.rng1, D.rng2, D.enum]
  · simp [f_ulaw_taken, m_ulaw_taken, Row, hc, hm, hm2, ha2, ha3, h1, h2, e1, e2, hk, hz', hz, hz1, fnF, sSeq, sIf, asTest, op1, op2, opN, opV, M.bnd, M.ret, M.opt, Arg.ev, rs, rss, Slot.rd, Slot.arg, Slot.has, evs, sV, sAsg, sNx, var, gN, gTu, gCo, gNi, Slot.isOwn, vAnd, vOr, vNot, vIf, bAnd, bOr, bNot, chain, chC, chL, callF, callV_1, callV_2, callV_3, callV_4, sz1, sz2, sz3, sz4, sz5, sz6, sz7, sz8, sz9, sz10, sz11, sz12, dvs, D.ix, L2.atI, ixN, D.cmpI, D.toI, D.mod, D.fdiv, D.add, D.sub, D.mul, D.pow, D.neg, D.len, D.mkL, D.mkT, D.isN, D.notN, isiB, isi2, D.is, D.tn, D.eq, D.ne, D.sc, D.eqb, sPut, sFor, forL, seqM, srcN, D.rng1, D.rng2, D.enum]
/-- a state of the draws -/
def RowOk (d : List D) : Prop := ∃ l a b c, d = Row l a b c ∧ 0 ≤ a ∧ 0 ≤ b ∧ b < 2147483647
theorem taken_ok {d : List D} {m : Int} (h : RowOk d) (hm : 0 < m) (hm2 : m < 1073741824) : ∃ r d', f_ulaw_taken [.own d, .val (.int m)] = .ok (.int r) [.own d', .val (.int m)] ∧ 0 ≤ r ∧ r < m ∧ RowOk d' := by
  obtain ⟨l, a, b, c, rfl, ha, hb, hb2⟩ := h
  by_cases hc : 0 < c
  · exact ⟨_, _, taken_c hc hm hm2, Int.emod_nonneg _ (by omega), Int.emod_lt_of_pos _ hm, l, a, b, _, rfl, ha, hb, hb2⟩
  · by_cases hl : (l.length : Int) < a + 1
    · exact ⟨_, _, taken_e hc hl hb hb2 hm, Int.emod_nonneg _ (by omega), Int.emod_lt_of_pos _ hm, l, _, _, _, rfl, by omega, Int.emod_nonneg _ (by omega), Int.emod_lt_of_pos _ (by omega)⟩
    · obtain ⟨k, rfl⟩ := Int.eq_ofNat_of_zero_le ha
      have hk : k < l.length := by omega
      exact ⟨_, _, taken_n hc rfl (by simp [hk] : l[k]? = some l[k]) hb hb2 hm hm2, Int.emod_nonneg _ (by omega), Int.emod_lt_of_pos _ hm, l, _, _, _, rfl, by omega, Int.emod_nonneg _ (by omega), Int.emod_lt_of_pos _ (by omega)⟩
theorem is_whole_int (i : Int) : f_is_whole [.val (.int i)] = .ok (.bl true) [.val (.int i)] := by simp [f_is_whole, m_is_whole, fnF, sSeq, sIf, asTest, op1, op2, opN, opV, M.bnd, M.ret, M.opt, Arg.ev, rs, rss, Slot.rd, Slot.arg, Slot.has, evs, sV, sAsg, sNx, var, gN, gTu, gCo, gNi, Slot.isOwn, vAnd, vOr, vNot, vIf, bAnd, bOr, bNot, chain, chC, chL, callF, callV_1, callV_2, callV_3, callV_4, sz1, sz2, sz3, sz4, sz5, sz6, sz7, sz8, sz9, sz10, sz11, sz12, dvs, D.ix, L2.atI, ixN, D.cmpI, D.toI, D.mod, D.fdiv, D.add, D.sub, D.mul, D.pow, D.neg, D.len, D.mkL, D.mkT, D.isN, D.notN, isiB, isi2, D.is, D.tn, D.eq, D.ne, D.sc, D.eqb, sPut, sFor, forL, seqM, srcN, D.rng1, D.rng2, D.enum]
theorem is_number_int (i a b : Int) : f_is_number [.val (.int i), .val (.int a), .val (.int b)] = .ok (.bl (decide (a ≤ i) && decide (i ≤ b))) [.val (.int i), .val (.int a), .val (.int b)] := by
  by_cases h1 : a ≤ i <;> by_cases h2 : i ≤ b <;> simp [f_is_number, m_is_number, is_whole_int, h1, h2, fnF, sSeq, sIf, asTest, op1, op2, opN, opV, M.bnd, M.ret, M.opt, Arg.ev, rs, rss, Slot.rd, Slot.arg, Slot.has, evs, sV, sAsg, sNx, var, gN, gTu, gCo, gNi, Slot.isOwn, vAnd, vOr, vNot, vIf, bAnd, bOr, bNot, chain, chC, chL, callF, callV_1, callV_2, callV_3, callV_4, sz1, sz2, sz3, sz4, sz5, sz6, sz7, sz8, sz9, sz10, sz11, sz12, dvs, D.ix, L2.atI, ixN, D.cmpI, D.toI, D.mod, D.fdiv, D.add, D.sub, D.mul, D.pow, D.neg, D.len, D.mkL, D.mkT, D.isN, D.notN, isiB, isi2, D.is, D.tn, D.eq, D.ne, D.sc, D.eqb, sPut, sFor, forL, seqM, srcN, D.rng1, D.rng2, D.enum]
theorem want_number_ok {i a b : Int} (h1 : a ≤ i) (h2 : i ≤ b) : f_want_number [.val (.int i), .val (.int a), .val (.int b)] = .ok (.int i) [.val (.int i), .val (.int a), .val (.int b)] := by
  simp [f_want_number, m_want_number, is_number_int, h1, h2, fnF, sSeq, sIf, asTest, op1, op2, opN, opV, M.bnd, M.ret, M.opt, Arg.ev, rs, rss, Slot.rd, Slot.arg, Slot.has, evs, sV, sAsg, sNx, var, gN, gTu, gCo, gNi, Slot.isOwn, vAnd, vOr, vNot, vIf, bAnd, bOr, bNot, chain, chC, chL, callF, callV_1, callV_2, callV_3, callV_4, sz1, sz2, sz3, sz4, sz5, sz6, sz7, sz8, sz9, sz10, sz11, sz12, dvs, D.ix, L2.atI, ixN, D.cmpI, D.toI, D.mod, D.fdiv, D.add, D.sub, D.mul, D.pow, D.neg, D.len, D.mkL, D.mkT, D.isN, D.notN, isiB, isi2, D.is, D.tn, D.eq, D.ne, D.sc, D.eqb, sPut, sFor, forL, seqM, srcN, D.rng1, D.rng2, D.enum]
theorem want_number_no {i a b : Int} (h : ¬ (a ≤ i ∧ i ≤ b)) : f_want_number [.val (.int i), .val (.int a), .val (.int b)] = .exc ⟨"BadNumber", ["value"], [.int i]⟩ [.val (.int i), .val (.int a), .val (.int b)] := by
  have : (decide (a ≤ i) && decide (i ≤ b)) = false := by simpa using h
  simp [f_want_number, m_want_number, is_number_int, this, sRaise, allD, fnF, sSeq, sIf, asTest, op1, op2, opN, opV, M.bnd, M.ret, M.opt, Arg.ev, rs, rss, Slot.rd, Slot.arg, Slot.has, evs, sV, sAsg, sNx, var, gN, gTu, gCo, gNi, Slot.isOwn, vAnd, vOr, vNot, vIf, bAnd, bOr, bNot, chain, chC, chL, callF, callV_1, callV_2, callV_3, callV_4, sz1, sz2, sz3, sz4, sz5, sz6, sz7, sz8, sz9, sz10, sz11, sz12, dvs, D.ix, L2.atI, ixN, D.cmpI, D.toI, D.mod, D.fdiv, D.add, D.sub, D.mul, D.pow, D.neg, D.len, D.mkL, D.mkT, D.isN, D.notN, isiB, isi2, D.is, D.tn, D.eq, D.ne, D.sc, D.eqb, sPut, sFor, forL, seqM, srcN, D.rng1, D.rng2, D.enum]
end DL
namespace DL
open PySem L2
/-- a row of data: a list or a tuple -/
def RowD (d : D) (l : List D) : Prop := d = .lst l ∨ d = .tup l
def SpanD (d : D) (p : Int × Int) : Prop := RowD d [.int p.1, .int p.2]
inductive All2 {α β : Type} (R : α → β → Prop) : List α → List β → Prop
  | nil : All2 R [] []
  | cons {a b as bs} : R a b → All2 R as bs → All2 R (a :: as) (b :: bs)
def okS : Int → List (Int × Int) → Prop
  | _, [] => True
  | lo, p :: r => lo ≤ p.1 ∧ 0 ≤ p.1 ∧ p.1 < p.2 ∧ p.2 ≤ 9999 ∧ okS p.2 r
theorem is_row_ok {d : D} {l : List D} (h : RowD d l) : f_is_row [.val d] = .ok (.bl true) [.val d] := by
  rcases h with rfl | rfl <;> simp [f_is_row, m_is_row, fnF, sSeq, sIf, asTest, op1, op2, opN, opV, M.bnd, M.ret, M.opt, Arg.ev, rs, rss, Slot.rd, Slot.arg, Slot.has, evs, sV, sAsg, sNx, var, gN, gTu, gCo, gNi, Slot.isOwn, vAnd, vOr, vNot, vIf, bAnd, bOr, bNot, chain, chC, chL, callF, callV_1, callV_2, callV_3, callV_4, sz1, sz2, sz3, sz4, sz5, sz6, sz7, sz8, sz9, sz10, sz11, sz12, dvs, D.ix, L2.atI, ixN, D.cmpI, D.toI, D.mod, D.fdiv, D.add, D.sub, D.mul, D.pow, D.neg, D.len, D.mkL, D.mkT, D.isN, D.notN, isiB, isi2, D.is, D.tn, D.eq, D.ne, D.sc, D.eqb, sPut, sFor, forL, seqM, srcN, D.rng1, D.rng2, D.enum]
theorem is_span_ok {d : D} {p : Int × Int} (h : SpanD d p) (h0 : 0 ≤ p.1) (h1 : p.1 < p.2) (h2 : p.2 ≤ 9999) : f_is_span [.val d] = .ok (.bl true) [.val d] := by
  have hr := is_row_ok h
  rcases h with rfl | rfl <;> simp [f_is_span, m_is_span, hr, is_whole_int, h0, h1, h2, fnF, sSeq, sIf, asTest, op1, op2, opN, opV, M.bnd, M.ret, M.opt, Arg.ev, rs, rss, Slot.rd, Slot.arg, Slot.has, evs, sV, sAsg, sNx, var, gN, gTu, gCo, gNi, Slot.isOwn, vAnd, vOr, vNot, vIf, bAnd, bOr, bNot, chain, chC, chL, callF, callV_1, callV_2, callV_3, callV_4, sz1, sz2, sz3, sz4, sz5, sz6, sz7, sz8, sz9, sz10, sz11, sz12, dvs, D.ix, L2.atI, ixN, D.cmpI, D.toI, D.mod, D.fdiv, D.add, D.sub, D.mul, D.pow, D.neg, D.len, D.mkL, D.mkT, D.isN, D.notN, isiB, isi2, D.is, D.tn, D.eq, D.ne, D.sc, D.eqb, sPut, sFor, forL, seqM, srcN, D.rng1, D.rng2, D.enum]
theorem ws_body {d item prev : D} {l : List D} {k : Nat} {p q : Int × Int} (hd : RowD d l) (hs : SpanD item p) (h0 : 0 ≤ p.1) (h1 : p.1 < p.2) (h2 : p.2 ≤ 9999) (hk : k = 0 ∨ (l[k - 1]? = some prev ∧ SpanD prev q ∧ q.2 ≤ p.1)) :
    b0_want_spans [.val d, .val (.int k), .val item] = .nx [.val d, .val (.int k), .val item] := by
  have e1 := is_span_ok hs h0 h1 h2
  rcases hk with rfl | ⟨g1, g2, g3⟩
  · rcases hs with rfl | rfl <;> simp [b0_want_spans, e1, fnF, sSeq, sIf, asTest, op1, op2, opN, opV, M.bnd, M.ret, M.opt, Arg.ev, rs, rss, Slot.rd, Slot.arg, Slot.has, evs, sV, sAsg, sNx, var, gN, gTu, gCo, gNi, Slot.isOwn, vAnd, vOr, vNot, vIf, bAnd, bOr, bNot, chain, chC, chL, callF, callV_1, callV_2, callV_3, callV_4, sz1, sz2, sz3, sz4, sz5, sz6, sz7, sz8, sz9, sz10, sz11, sz12, dvs, D.ix, L2.atI, ixN, D.cmpI, D.toI, D.mod, D.fdiv, D.add, D.sub, D.mul, D.pow, D.neg, D.len, D.mkL, D.mkT, D.isN, D.notN, isiB, isi2, D.is, D.tn, D.eq, D.ne, D.sc, D.eqb, sPut, sFor, forL, seqM, srcN, D.rng1, D.rng2, D.enum]
  · by_cases hk : k = 0
    · subst hk
      rcases hs with rfl | rfl <;> simp [b0_want_spans, e1, fnF, sSeq, sIf, asTest, op1, op2, opN, opV, M.bnd, M.ret, M.opt, Arg.ev, rs, rss, Slot.rd, Slot.arg, Slot.has, evs, sV, sAsg, sNx, var, gN, gTu, gCo, gNi, Slot.isOwn, vAnd, vOr, vNot, vIf, bAnd, bOr, bNot, chain, chC, chL, callF, callV_1, callV_2, callV_3, callV_4, sz1, sz2, sz3, sz4, sz5, sz6, sz7, sz8, sz9, sz10, sz11, sz12, dvs, D.ix, L2.atI, ixN, D.cmpI, D.toI, D.mod, D.fdiv, D.add, D.sub, D.mul, D.pow, D.neg, D.len, D.mkL, D.mkT, D.isN, D.notN, isiB, isi2, D.is, D.tn, D.eq, D.ne, D.sc, D.eqb, sPut, sFor, forL, seqM, srcN, D.rng1, D.rng2, D.enum]
    · have hk1 : 0 < k := Nat.pos_of_ne_zero hk
      have hl : k - 1 < l.length := (List.getElem?_eq_some_iff.mp g1).1
      have hp : l[k - 1] = prev := (List.getElem?_eq_some_iff.mp g1).2
      have e2 : ((k : Int) - 1) = ((k - 1 : Nat) : Int) := by omega
      have e3 : ¬ p.1 < q.2 := by omega
      rcases hs with rfl | rfl <;> rcases g2 with rfl | rfl <;> rcases hd with rfl | rfl <;> simp [b0_want_spans, e1, hk1, e2, hl, hp, e3, fnF, sSeq, sIf, asTest, op1, op2, opN, opV, M.bnd, M.ret, M.opt, Arg.ev, rs, rss, Slot.rd, Slot.arg, Slot.has, evs, sV, sAsg, sNx, var, gN, gTu, gCo, gNi, Slot.isOwn, vAnd, vOr, vNot, vIf, bAnd, bOr, bNot, chain, chC, chL, callF, callV_1, callV_2, callV_3, callV_4, sz1, sz2, sz3, sz4, sz5, sz6, sz7, sz8, sz9, sz10, sz11, sz12, dvs, D.ix, L2.atI, ixN, D.cmpI, D.toI, D.mod, D.fdiv, D.add, D.sub, D.mul, D.pow, D.neg, D.len, D.mkL, D.mkT, D.isN, D.notN, isiB, isi2, D.is, D.tn, D.eq, D.ne, D.sc, D.eqb, sPut, sFor, forL, seqM, srcN, D.rng1, D.rng2, D.enum]
end DL
namespace DL
open PySem L2
theorem ws_loop {d : D} {l : List D} (hd : RowD d l) : ∀ (suf : List D) (ps : List (Int × Int)) (pre : List D) (lo : Int) (s1 s2 : Slot), l = pre ++ suf → All2 SpanD suf ps → okS lo ps → (pre = [] ∨ ∃ pre' pd q, pre = pre' ++ [pd] ∧ SpanD pd q ∧ q.2 = lo) →
    s1.isOwn = false → s2.isOwn = false → ∃ s1' s2', s1'.isOwn = false ∧ s2'.isOwn = false ∧ forL (gTu (gCo (gN 1) (gCo (gN 2) gNi)) 2) b0_want_spans (numd pre.length suf) [.val d, s1, s2] = .nx [.val d, s1', s2']
  | [], _, pre, lo, s1, s2, _, .nil, _, _, h1, h2 => ⟨s1, s2, h1, h2, rfl⟩
  | x :: suf, p :: ps, pre, lo, s1, s2, e, .cons hs ha, ⟨k1, k2, k3, k4, k5⟩, hp, h1, h2 => by
    have hb : b0_want_spans [.val d, .val (.int pre.length), .val x] = .nx [.val d, .val (.int pre.length), .val x] := by
      rcases hp with rfl | ⟨pre', pd, q, rfl, g1, g2⟩
      · exact ws_body (prev := .non) (q := (0, 0)) hd hs k2 k3 k4 (.inl rfl)
      · refine ws_body (prev := pd) (q := q) hd hs k2 k3 k4 (.inr ⟨?_, g1, by omega⟩)
        rw [e]
        simp
    obtain ⟨t1, t2, j1, j2, j3⟩ := ws_loop hd suf ps (pre ++ [x]) p.2 (.val (.int pre.length)) (.val x) (by rw [e]; simp) ha k5 (.inr ⟨pre, x, p, rfl, hs, rfl⟩) rfl rfl
    refine ⟨t1, t2, j1, j2, ?_⟩
    have e1 : (pre ++ [x]).length = pre.length + 1 := by simp
    rw [e1] at j3
    unfold numd forL
    simp only [gTu, gCo, gN, gNi, h1, h2, List.length_cons, List.length_nil, Option.bind, List.getElem?_cons_succ, List.getElem?_cons_zero, List.set_cons_succ, List.set_cons_zero, Bool.false_eq_true, if_false, if_true]
    rw [hb]
    exact j3
def spT (p : Int × Int) : D := .tup [.int p.1, .int p.2]
def unT : D → D
  | .lst l => .tup l
  | d => d
theorem unT_span {d : D} {p : Int × Int} (h : SpanD d p) : unT d = spT p := by rcases h with rfl | rfl <;> rfl
theorem map_unT : ∀ {l : List D} {ps : List (Int × Int)}, All2 SpanD l ps → l.map unT = ps.map spT
  | _, _, .nil => rfl
  | _, _, .cons h t => by simp [unT_span h, map_unT t]
theorem all2_mem {l : List D} {ps : List (Int × Int)} (h : All2 SpanD l ps) : ∀ d ∈ l, ∃ p, SpanD d p := by
  induction h with
  | nil => intro d hd; cases hd
  | cons h t ih =>
    intro d hd
    rcases List.mem_cons.mp hd with rfl | hd
    · exact ⟨_, h⟩
    · exact ih d hd
theorem want_spans_ok {d : D} {l : List D} {ps : List (Int × Int)} (hd : RowD d l) (ha : All2 SpanD l ps) (ho : okS 0 ps) (hz : l.length ≤ sizeLine) : f_want_spans [.val d] = .ok (.tup (ps.map spT)) [.val d] := by
  obtain ⟨s1, s2, h1, h2, hf⟩ := ws_loop hd l ps [] 0 .no .no rfl ha ho (.inl rfl) rfl rfl
  have hr := is_row_ok hd
  have hc : k3_want_spans [.val d, s1, s2] = .ok (.lst ((l.filter fun _ => true).map unT)) [.val d, s1, s2] := by
    unfold k3_want_spans
    refine comp_pure (ds := l) (fun _ => true) unT ?_ (by simp [ownAt, h2]) fun x hx => ?_
    · rcases hd with rfl | rfl <;> simp [fnF, sSeq, sIf, asTest, op1, op2, opN, opV, M.bnd, M.ret, M.opt, Arg.ev, rs, rss, Slot.rd, Slot.arg, Slot.has, evs, sV, sAsg, sNx, var, gN, gTu, gCo, gNi, Slot.isOwn, vAnd, vOr, vNot, vIf, bAnd, bOr, bNot, chain, chC, chL, callF, callV_1, callV_2, callV_3, callV_4, sz1, sz2, sz3, sz4, sz5, sz6, sz7, sz8, sz9, sz10, sz11, sz12, dvs, D.ix, L2.atI, ixN, D.cmpI, D.toI, D.mod, D.fdiv, D.add, D.sub, D.mul, D.pow, D.neg, D.len, D.mkL, D.mkT, D.isN, D.notN, isiB, isi2, D.is, D.tn, D.eq, D.ne, D.sc, D.eqb, sPut, sFor, forL, seqM, srcN, D.rng1, D.rng2, D.enum]
    · obtain ⟨p, hp⟩ := all2_mem ha x hx
      refine ⟨[.val d, s1, .val x], by simp [wipeE, gN, Slot.isOwn], rfl, fun _ => ?_, by simp [ownAt, Slot.isOwn], by simp [wipeE]⟩
      rcases hp with rfl | rfl <;> simp [c2_want_spans, unT, D.toT, fnF, sSeq, sIf, asTest, op1, op2, opN, opV, M.bnd, M.ret, M.opt, Arg.ev, rs, rss, Slot.rd, Slot.arg, Slot.has, evs, sV, sAsg, sNx, var, gN, gTu, gCo, gNi, Slot.isOwn, vAnd, vOr, vNot, vIf, bAnd, bOr, bNot, chain, chC, chL, callF, callV_1, callV_2, callV_3, callV_4, sz1, sz2, sz3, sz4, sz5, sz6, sz7, sz8, sz9, sz10, sz11, sz12, dvs, D.ix, L2.atI, ixN, D.cmpI, D.toI, D.mod, D.fdiv, D.add, D.sub, D.mul, D.pow, D.neg, D.len, D.mkL, D.mkT, D.isN, D.notN, isiB, isi2, D.is, D.tn, D.eq, D.ne, D.sc, D.eqb, sPut, sFor, forL, seqM, srcN, D.rng1, D.rng2, D.enum]
  have he : (srcN D.enum [.v (var 0)]) [.val d, .no, .no] = .ok (numd 0 l) [.val d, .no, .no] := by
    rcases hd with rfl | rfl <;> simp [fnF, sSeq, sIf, asTest, op1, op2, opN, opV, M.bnd, M.ret, M.opt, Arg.ev, rs, rss, Slot.rd, Slot.arg, Slot.has, evs, sV, sAsg, sNx, var, gN, gTu, gCo, gNi, Slot.isOwn, vAnd, vOr, vNot, vIf, bAnd, bOr, bNot, chain, chC, chL, callF, callV_1, callV_2, callV_3, callV_4, sz1, sz2, sz3, sz4, sz5, sz6, sz7, sz8, sz9, sz10, sz11, sz12, dvs, D.ix, L2.atI, ixN, D.cmpI, D.toI, D.mod, D.fdiv, D.add, D.sub, D.mul, D.pow, D.neg, D.len, D.mkL, D.mkT, D.isN, D.notN, isiB, isi2, D.is, D.tn, D.eq, D.ne, D.sc, D.eqb, sPut, sFor, forL, seqM, srcN, D.rng1, D.rng2, D.enum]
  have hm : l.map unT = ps.map spT := map_unT ha
  simp only [List.length_nil] at hf
  have e1 : l1_want_spans [.val d, .no, .no] = .nx [.val d, s1, s2] := by
    unfold l1_want_spans sFor
    rw [he]
    exact hf
  have hft : l.filter (fun _ => true) = l := List.filter_eq_self.mpr (by simp)
  rw [hft] at hc
  simp [f_want_spans, m_want_spans, hr, e1, hc, hm, D.toT, hz, fnF, sSeq, sIf, asTest, op1, op2, opN, opV, M.bnd, M.ret, M.opt, Arg.ev, rs, rss, Slot.rd, Slot.arg, Slot.has, evs, sV, sAsg, sNx, var, gN, gTu, gCo, gNi, Slot.isOwn, vAnd, vOr, vNot, vIf, bAnd, bOr, bNot, chain, chC, chL, callF, callV_1, callV_2, callV_3, callV_4, sz1, sz2, sz3, sz4, sz5, sz6, sz7, sz8, sz9, sz10, sz11, sz12, dvs, D.ix, L2.atI, ixN, D.cmpI, D.toI, D.mod, D.fdiv, D.add, D.sub, D.mul, D.pow, D.neg, D.len, D.mkL, D.mkT, D.isN, D.notN, isiB, isi2, D.is, D.tn, D.eq, D.ne, D.sc, D.eqb, sPut]
end DL
namespace DL
open PySem L2
def rule (m w : Int) : D := .obj "StayRule" ["most", "window"] [.int m, .int w]
theorem fld_most {m w : Int} : D.fld "StayRule" "most" (rule m w) = some (.int m) := rfl
theorem fld_window {m w : Int} : D.fld "StayRule" "window" (rule m w) = some (.int w) := rfl
def insideL (w : Int) (ps : List (Int × Int)) (day : Int) : List Int := ps.map fun p => max 0 (min p.2 (day + 1) - max p.1 (day - w + 1))
def insideI (w : Int) (ps : List (Int × Int)) (day : Int) : Int := (insideL w ps day).sum
def inT (w day : Int) : D → D
  | .tup [.int a, .int b] => .int (max 0 (min b (day + 1) - max a (day - w + 1)))
  | d => d
theorem ints_of (ns : List Int) : D.intsOf (ns.map D.int) = some ns := by
  induction ns with
  | nil => rfl
  | cons n ns ih => simp [D.intsOf, ih]
/-- what the spans must be -/
structure Spans (d : D) (ps : List (Int × Int)) : Prop where
  ex : ∃ l, RowD d l ∧ All2 SpanD l ps ∧ l.length ≤ sizeLine
  ok : okS 0 ps
theorem Spans.want {d : D} {ps : List (Int × Int)} (h : Spans d ps) : f_want_spans [.val d] = .ok (.tup (ps.map spT)) [.val d] := by
  obtain ⟨l, h1, h2, h3⟩ := h.ex
  exact want_spans_ok h1 h2 h.ok h3
theorem inside_ok {m w day : Int} {d : D} {ps : List (Int × Int)} (h : Spans d ps) : f_StayRule_inside [.val (rule m w), .val d, .val (.int day)] = .ok (.int (insideI w ps day)) [.val (rule m w), .val d, .val (.int day)] := by
  have hw := h.want
  have hc : k1_StayRule_inside [.val (rule m w), .val d, .val (.int day), .val (.int (day - w + 1)), .no, .no] =
      .ok (.lst (((ps.map spT).filter fun _ => true).map (inT w day))) [.val (rule m w), .val d, .val (.int day), .val (.int (day - w + 1)), .no, .no] := by
    unfold k1_StayRule_inside
    refine comp_pure (ds := ps.map spT) (fun _ => true) (inT w day) (by simp [hw, fnF, sSeq, sIf, asTest, op1, op2, opN, opV, M.bnd, M.ret, M.opt, Arg.ev, rs, rss, Slot.rd, Slot.arg, Slot.has, evs, sV, sAsg, sNx, var, gN, gTu, gCo, gNi, Slot.isOwn, vAnd, vOr, vNot, vIf, bAnd, bOr, bNot, chain, chC, chL, callF, callV_1, callV_2, callV_3, callV_4, sz1, sz2, sz3, sz4, sz5, sz6, sz7, sz8, sz9, sz10, sz11, sz12, dvs, D.ix, L2.atI, ixN, D.cmpI, D.toI, D.mod, D.fdiv, D.add, D.sub, D.mul, D.pow, D.neg, D.len, D.mkL, D.mkT, D.isN, D.notN, isiB, isi2, D.is, D.tn, D.eq, D.ne, D.sc, D.eqb, sPut, sFor, forL, seqM, srcN, D.rng1, D.rng2, D.enum]) (by simp [ownAt, Slot.isOwn]) fun x hx => ?_
    obtain ⟨p, _, rfl⟩ := List.mem_map.mp hx
    refine ⟨[.val (rule m w), .val d, .val (.int day), .val (.int (day - w + 1)), .val (.int p.1), .val (.int p.2)], by simp [wipeE, spT, fnF, sSeq, sIf, asTest, op1, op2, opN, opV, M.bnd, M.ret, M.opt, Arg.ev, rs, rss, Slot.rd, Slot.arg, Slot.has, evs, sV, sAsg, sNx, var, gN, gTu, gCo, gNi, Slot.isOwn, vAnd, vOr, vNot, vIf, bAnd, bOr, bNot, chain, chC, chL, callF, callV_1, callV_2, callV_3, callV_4, sz1, sz2, sz3, sz4, sz5, sz6, sz7, sz8, sz9, sz10, sz11, sz12, dvs, D.ix, L2.atI, ixN, D.cmpI, D.toI, D.mod, D.fdiv, D.add, D.sub, D.mul, D.pow, D.neg, D.len, D.mkL, D.mkT, D.isN, D.notN, isiB, isi2, D.is, D.tn, D.eq, D.ne, D.sc, D.eqb, sPut, sFor, forL, seqM, srcN, D.rng1, D.rng2, D.enum], rfl, fun _ => ?_, by simp [ownAt, Slot.isOwn], by simp [wipeE]⟩
    simp [c0_StayRule_inside, inT, spT, D.max, D.min, fnF, sSeq, sIf, asTest, op1, op2, opN, opV, M.bnd, M.ret, M.opt, Arg.ev, rs, rss, Slot.rd, Slot.arg, Slot.has, evs, sV, sAsg, sNx, var, gN, gTu, gCo, gNi, Slot.isOwn, vAnd, vOr, vNot, vIf, bAnd, bOr, bNot, chain, chC, chL, callF, callV_1, callV_2, callV_3, callV_4, sz1, sz2, sz3, sz4, sz5, sz6, sz7, sz8, sz9, sz10, sz11, sz12, dvs, D.ix, L2.atI, ixN, D.cmpI, D.toI, D.mod, D.fdiv, D.add, D.sub, D.mul, D.pow, D.neg, D.len, D.mkL, D.mkT, D.isN, D.notN, isiB, isi2, D.is, D.tn, D.eq, D.ne, D.sc, D.eqb, sPut, sFor, forL, seqM, srcN, D.rng1, D.rng2, D.enum]
  have hft : (ps.map spT).filter (fun _ => true) = ps.map spT := List.filter_eq_self.mpr (by simp)
  have hm : (ps.map spT).map (inT w day) = (insideL w ps day).map D.int := by simp [insideL, inT, spT]
  rw [hft, hm] at hc
  simp [f_StayRule_inside, m_StayRule_inside, fld_most, fld_window, hc, D.sum, ints_of, insideI, fnF, sSeq, sIf, asTest, op1, op2, opN, opV, M.bnd, M.ret, M.opt, Arg.ev, rs, rss, Slot.rd, Slot.arg, Slot.has, evs, sV, sAsg, sNx, var, gN, gTu, gCo, gNi, Slot.isOwn, vAnd, vOr, vNot, vIf, bAnd, bOr, bNot, chain, chC, chL, callF, callV_1, callV_2, callV_3, callV_4, sz1, sz2, sz3, sz4, sz5, sz6, sz7, sz8, sz9, sz10, sz11, sz12, dvs, D.ix, L2.atI, ixN, D.cmpI, D.toI, D.mod, D.fdiv, D.add, D.sub, D.mul, D.pow, D.neg, D.len, D.mkL, D.mkT, D.isN, D.notN, isiB, isi2, D.is, D.tn, D.eq, D.ne, D.sc, D.eqb, sPut]
theorem spans_tup {d : D} {ps qs : List (Int × Int)} (hq : okS 0 qs) (hz : qs.length ≤ sizeLine) : Spans (.tup (qs.map spT)) qs := by
  refine ⟨⟨qs.map spT, .inr rfl, ?_, by simpa using hz⟩, hq⟩
  clear hq hz
  induction qs with
  | nil => exact .nil
  | cons q qs ih => exact .cons (.inr rfl) ih
theorem over_day {m w : Int} {d : D} {ps : List (Int × Int)} (h : Spans d ps) {a b : Slot} {x : Int} : b0_StayRule_first_over [.val (rule m w), .val d, a, b, .val (.int x)] = if m < insideI w ps x then .rt (.int x) [.val (rule m w), .val d, a, b, .val (.int x)] else .nx [.val (rule m w), .val d, a, b, .val (.int x)] := by
  have hi := inside_ok (m := m) (w := w) (day := x) h
  have hn : (["most", "window"] : List Str).contains "inside" = false := by decide
  have hn' : ¬ (("inside" : Str) = "most") ∧ ¬ (("inside" : Str) = "window") := by decide
  by_cases hc : m < insideI w ps x <;> simp [b0_StayRule_first_over, fld_most, hc, fnF, sSeq, sIf, asTest, op1, op2, opN, opV, M.bnd, M.ret, M.opt, Arg.ev, rs, rss, Slot.rd, Slot.arg, Slot.has, evs, sV, sAsg, sNx, var, gN, gTu, gCo, gNi, Slot.isOwn, vAnd, vOr, vNot, vIf, bAnd, bOr, bNot, chain, chC, chL, callF, callV_1, callV_2, callV_3, callV_4, sz1, sz2, sz3, sz4, sz5, sz6, sz7, sz8, sz9, sz10, sz11, sz12, dvs, D.ix, L2.atI, ixN, D.cmpI, D.toI, D.mod, D.fdiv, D.add, D.sub, D.mul, D.pow, D.neg, D.len, D.mkL, D.mkT, D.isN, D.notN, isiB, isi2, D.is, D.tn, D.eq, D.ne, D.sc, D.eqb, sPut] <;> simp [rule, hn, hn', methF, fnF, sSeq, sIf, asTest, op1, op2, opN, opV, M.bnd, M.ret, M.opt, Arg.ev, rs, rss, Slot.rd, Slot.arg, Slot.has, evs, sV, sAsg, sNx, var, gN, gTu, gCo, gNi, Slot.isOwn, vAnd, vOr, vNot, vIf, bAnd, bOr, bNot, chain, chC, chL, callF, callV_1, callV_2, callV_3, callV_4, sz1, sz2, sz3, sz4, sz5, sz6, sz7, sz8, sz9, sz10, sz11, sz12, dvs, D.ix, L2.atI, ixN, D.cmpI, D.toI, D.mod, D.fdiv, D.add, D.sub, D.mul, D.pow, D.neg, D.len, D.mkL, D.mkT, D.isN, D.notN, isiB, isi2, D.is, D.tn, D.eq, D.ne, D.sc, D.eqb, sPut] <;> simp [← rule.eq_1, hi, fld_most, hc, fnF, sSeq, sIf, asTest, op1, op2, opN, opV, M.bnd, M.ret, M.opt, Arg.ev, rs, rss, Slot.rd, Slot.arg, Slot.has, evs, sV, sAsg, sNx, var, gN, gTu, gCo, gNi, Slot.isOwn, vAnd, vOr, vNot, vIf, bAnd, bOr, bNot, chain, chC, chL, callF, callV_1, callV_2, callV_3, callV_4, sz1, sz2, sz3, sz4, sz5, sz6, sz7, sz8, sz9, sz10, sz11, sz12, dvs, D.ix, L2.atI, ixN, D.cmpI, D.toI, D.mod, D.fdiv, D.add, D.sub, D.mul, D.pow, D.neg, D.len, D.mkL, D.mkT, D.isN, D.notN, isiB, isi2, D.is, D.tn, D.eq, D.ne, D.sc, D.eqb, sPut]
end DL
namespace DL
open PySem L2
theorem rule_no {mn : Str} (h : ¬ (mn = "most") ∧ ¬ (mn = "window")) : (["most", "window"] : List Str).contains mn = false := by simp [h.1, h.2]
theorem meth_rule {m w : Int} {mn : Str} {φ : Fn} {mo : M D} {as : List Arg} {ρ ρ' : Ev} (hmo : mo ρ = .ok (rule m w) ρ') (h : (["most", "window"] : List Str).contains mn = false) :
    methF "StayRule" mn φ mo as ρ = M.bnd (evs as) (fun xs => callV φ (.d (rule m w) :: xs)) ρ' := by
  unfold methF
  rw [bnd_ok hmo]
  unfold rule
  dsimp only
  rw [if_pos ⟨rfl, h⟩]
def daysOf (ps : List (Int × Int)) : List Int := ps.flatMap fun p => (List.range (p.2 - p.1).toNat).map fun k : Nat => p.1 + (k : Int)
def D.i : D → Int
  | .int i => i
  | _ => 0
/-- the days of one span -/
theorem over_span {m w : Int} {d : D} {ps : List (Int × Int)} (h : Spans d ps) {s : Slot} {p : Int × Int} (hs : s.isOwn = false) (h0 : 0 ≤ p.1) (h1 : p.1 < p.2) (h2 : p.2 ≤ 9999) :
    (∃ x ρ, ((List.range (p.2 - p.1).toNat).map fun k : Nat => p.1 + (k : Int)).find? (fun x => decide (m < insideI w ps x)) = some x ∧ l1_StayRule_first_over [.val (rule m w), .val d, .val (.int p.1), .val (.int p.2), s] = .rt (.int x) ρ ∧ ρ.take 2 = [.val (rule m w), .val d]) ∨
    (((List.range (p.2 - p.1).toNat).map fun k : Nat => p.1 + (k : Int)).find? (fun x => decide (m < insideI w ps x)) = none ∧ ∃ s', s'.isOwn = false ∧ l1_StayRule_first_over [.val (rule m w), .val d, .val (.int p.1), .val (.int p.2), s] = .nx [.val (rule m w), .val d, .val (.int p.1), .val (.int p.2), s']) := by
  have hsrc : srcN D.rng2 [.v (var 2), .v (var 3)] [.val (rule m w), .val d, .val (.int p.1), .val (.int p.2), s] = .ok (rng p.1 p.2) [.val (rule m w), .val d, .val (.int p.1), .val (.int p.2), s] := by
    have e1 : D.rngOk p.1 p.2 = true := by unfold D.rngOk; simp; omega
    have e2 : (p.2 - p.1).toNat ≤ sizeLine := by rw [show sizeLine = 16777216 from sizeLine_eq]; omega
    simp [e1, e2, fnF, sSeq, sIf, asTest, op1, op2, opN, opV, M.bnd, M.ret, M.opt, Arg.ev, rs, rss, Slot.rd, Slot.arg, Slot.has, evs, sV, sAsg, sNx, var, gN, gTu, gCo, gNi, Slot.isOwn, vAnd, vOr, vNot, vIf, bAnd, bOr, bNot, chain, chC, chL, callF, callV_1, callV_2, callV_3, callV_4, sz1, sz2, sz3, sz4, sz5, sz6, sz7, sz8, sz9, sz10, sz11, sz12, dvs, D.ix, L2.atI, ixN, D.cmpI, D.toI, D.mod, D.fdiv, D.add, D.sub, D.mul, D.pow, D.neg, D.len, D.mkL, D.mkT, D.isN, D.notN, isiB, isi2, D.is, D.tn, D.eq, D.ne, D.sc, D.eqb, sPut, sFor, forL, seqM, srcN, D.rng1, D.rng2, D.enum]
  have key := find_loop (i := 4) (B := b0_StayRule_first_over) (fun x => decide (m < insideI w ps x.i)) id (ds := rng p.1 p.2) (ρ := [.val (rule m w), .val d, .val (.int p.1), .val (.int p.2), s]) (s0 := s) rfl hs (fun x hx => by
    rw [rng_nat] at hx
    obtain ⟨y, _, rfl⟩ := List.mem_map.mp hx
    simp only [List.set_cons_succ, List.set_cons_zero, over_day h, D.i, id]
    by_cases hc : m < insideI w ps y <;> simp [hc])
  have fm : (rng p.1 p.2).find? (fun x => decide (m < insideI w ps x.i)) = (((List.range (p.2 - p.1).toNat).map fun k : Nat => p.1 + (k : Int)).find? (fun x => decide (m < insideI w ps x))).map D.int := by
    rw [rng_nat, List.find?_map]
    rfl
  unfold l1_StayRule_first_over sFor
  rw [hsrc]
  dsimp only
  rcases key with ⟨x, k1, k2⟩ | ⟨k1, s', k2, k3⟩
  · rw [fm] at k1
    obtain ⟨y, e1, e2⟩ := Option.map_eq_some_iff.mp k1
    subst e2
    exact .inl ⟨y, _, e1, k2, rfl⟩
  · rw [fm] at k1
    exact .inr ⟨by simpa using k1, s', k2, k3⟩
theorem okS_mem : ∀ {ps : List (Int × Int)} {lo : Int}, okS lo ps → ∀ p ∈ ps, 0 ≤ p.1 ∧ p.1 < p.2 ∧ p.2 ≤ 9999
  | [], _, _, p, hp => by cases hp
  | q :: qs, lo, ⟨h1, h2, h3, h4, h5⟩, p, hp => by
    rcases List.mem_cons.mp hp with rfl | hp
    · exact ⟨h2, h3, h4⟩
    · exact okS_mem h5 p hp
theorem over_all {m w : Int} {d : D} {ps : List (Int × Int)} (h : Spans d ps) : ∀ (qs : List (Int × Int)) (s1 s2 s3 : Slot), (∀ q ∈ qs, 0 ≤ q.1 ∧ q.1 < q.2 ∧ q.2 ≤ 9999) → s1.isOwn = false → s2.isOwn = false → s3.isOwn = false →
    (∃ x ρ, (daysOf qs).find? (fun x => decide (m < insideI w ps x)) = some x ∧ forL (gTu (gCo (gN 2) (gCo (gN 3) gNi)) 2) b2_StayRule_first_over (qs.map spT) [.val (rule m w), .val d, s1, s2, s3] = .rt (.int x) ρ ∧ ρ.take 2 = [.val (rule m w), .val d]) ∨
    ((daysOf qs).find? (fun x => decide (m < insideI w ps x)) = none ∧ ∃ t1 t2 t3, forL (gTu (gCo (gN 2) (gCo (gN 3) gNi)) 2) b2_StayRule_first_over (qs.map spT) [.val (rule m w), .val d, s1, s2, s3] = .nx [.val (rule m w), .val d, t1, t2, t3])
  | [], s1, s2, s3, _, _, _, _ => .inr ⟨rfl, s1, s2, s3, rfl⟩
  | q :: qs, s1, s2, s3, hq, o1, o2, o3 => by
    obtain ⟨q1, q2, q3⟩ := hq q List.mem_cons_self
    have ed : daysOf (q :: qs) = ((List.range (q.2 - q.1).toNat).map fun k : Nat => q.1 + (k : Int)) ++ daysOf qs := by simp [daysOf]
    have e1 : forL (gTu (gCo (gN 2) (gCo (gN 3) gNi)) 2) b2_StayRule_first_over ((q :: qs).map spT) [.val (rule m w), .val d, s1, s2, s3] = match l1_StayRule_first_over [.val (rule m w), .val d, .val (.int q.1), .val (.int q.2), s3] with
      | .nx ρ' => forL (gTu (gCo (gN 2) (gCo (gN 3) gNi)) 2) b2_StayRule_first_over (qs.map spT) ρ'
      | .ct ρ' => forL (gTu (gCo (gN 2) (gCo (gN 3) gNi)) 2) b2_StayRule_first_over (qs.map spT) ρ'
      | .bk ρ' => .nx ρ'
      | .rt x ρ' => .rt x ρ' | .exc e ρ' => .exc e ρ' | .bad => .bad := by
      rw [List.map_cons]
      conv => lhs; unfold forL
      simp only [spT, gTu, gCo, gN, gNi, o1, o2, List.length_cons, List.length_nil, Option.bind, List.getElem?_cons_succ, List.getElem?_cons_zero, List.set_cons_succ, List.set_cons_zero, Bool.false_eq_true, if_false, if_true, b2_StayRule_first_over]
      all_goals (cases l1_StayRule_first_over [.val (rule m w), .val d, .val (.int q.1), .val (.int q.2), s3] <;> rfl)
    rw [e1, ed, List.find?_append]
    rcases over_span (m := m) (w := w) h (s := s3) (p := q) o3 q1 q2 q3 with ⟨x, ρ, k1, k2, k3⟩ | ⟨k1, s', k2, k3⟩
    · exact .inl ⟨x, ρ, by rw [k1]; rfl, by rw [k2], k3⟩
    · rw [k1, k3]
      exact over_all h qs (.val (.int q.1)) (.val (.int q.2)) s' (fun y hy => hq y (List.mem_cons_of_mem _ hy)) rfl rfl k2
def optI : Option Int → D
  | some x => .int x
  | none => .non
theorem first_over_ok {m w : Int} {d : D} {ps : List (Int × Int)} (h : Spans d ps) : f_StayRule_first_over [.val (rule m w), .val d] = .ok (optI ((daysOf ps).find? fun x => decide (m < insideI w ps x))) [.val (rule m w), .val d] := by
  have hw := h.want
  have hsrc : seqM (callF f_want_spans [.v (var 1)]) [.val (rule m w), .val d, .no, .no, .no] = .ok (ps.map spT) [.val (rule m w), .val d, .no, .no, .no] := by simp [hw, fnF, sSeq, sIf, asTest, op1, op2, opN, opV, M.bnd, M.ret, M.opt, Arg.ev, rs, rss, Slot.rd, Slot.arg, Slot.has, evs, sV, sAsg, sNx, var, gN, gTu, gCo, gNi, Slot.isOwn, vAnd, vOr, vNot, vIf, bAnd, bOr, bNot, chain, chC, chL, callF, callV_1, callV_2, callV_3, callV_4, sz1, sz2, sz3, sz4, sz5, sz6, sz7, sz8, sz9, sz10, sz11, sz12, dvs, D.ix, L2.atI, ixN, D.cmpI, D.toI, D.mod, D.fdiv, D.add, D.sub, D.mul, D.pow, D.neg, D.len, D.mkL, D.mkT, D.isN, D.notN, isiB, isi2, D.is, D.tn, D.eq, D.ne, D.sc, D.eqb, sPut, sFor, forL, seqM, srcN, D.rng1, D.rng2, D.enum]
  have hl : l3_StayRule_first_over [.val (rule m w), .val d, .no, .no, .no] = forL (gTu (gCo (gN 2) (gCo (gN 3) gNi)) 2) b2_StayRule_first_over (ps.map spT) [.val (rule m w), .val d, .no, .no, .no] := by
    unfold l3_StayRule_first_over sFor
    rw [hsrc]
  rcases over_all (m := m) (w := w) h ps .no .no .no (okS_mem h.ok) rfl rfl rfl with ⟨x, ρ, k1, k2, k3⟩ | ⟨k1, t1, t2, t3, k2⟩
  · rw [← hl] at k2
    rw [k1]
    simp [f_StayRule_first_over, m_StayRule_first_over, k2, k3, optI, fnF, sSeq, sIf, asTest, op1, op2, opN, opV, M.bnd, M.ret, M.opt, Arg.ev, rs, rss, Slot.rd, Slot.arg, Slot.has, evs, sV, sAsg, sNx, var, gN, gTu, gCo, gNi, Slot.isOwn, vAnd, vOr, vNot, vIf, bAnd, bOr, bNot, chain, chC, chL, callF, callV_1, callV_2, callV_3, callV_4, sz1, sz2, sz3, sz4, sz5, sz6, sz7, sz8, sz9, sz10, sz11, sz12, dvs, D.ix, L2.atI, ixN, D.cmpI, D.toI, D.mod, D.fdiv, D.add, D.sub, D.mul, D.pow, D.neg, D.len, D.mkL, D.mkT, D.isN, D.notN, isiB, isi2, D.is, D.tn, D.eq, D.ne, D.sc, D.eqb, sPut]
  · rw [← hl] at k2
    rw [k1]
    simp [f_StayRule_first_over, m_StayRule_first_over, k2, optI, fnF, sSeq, sIf, asTest, op1, op2, opN, opV, M.bnd, M.ret, M.opt, Arg.ev, rs, rss, Slot.rd, Slot.arg, Slot.has, evs, sV, sAsg, sNx, var, gN, gTu, gCo, gNi, Slot.isOwn, vAnd, vOr, vNot, vIf, bAnd, bOr, bNot, chain, chC, chL, callF, callV_1, callV_2, callV_3, callV_4, sz1, sz2, sz3, sz4, sz5, sz6, sz7, sz8, sz9, sz10, sz11, sz12, dvs, D.ix, L2.atI, ixN, D.cmpI, D.toI, D.mod, D.fdiv, D.add, D.sub, D.mul, D.pow, D.neg, D.len, D.mkL, D.mkT, D.isN, D.notN, isiB, isi2, D.is, D.tn, D.eq, D.ne, D.sc, D.eqb, sPut]
theorem is_lawful_ok {m w : Int} {d : D} {ps : List (Int × Int)} (h : Spans d ps) : f_StayRule_is_lawful [.val (rule m w), .val d] = .ok (.bl ((daysOf ps).find? fun x => decide (m < insideI w ps x)).isNone) [.val (rule m w), .val d] := by
  have hf := first_over_ok (m := m) (w := w) h
  have hm : ∀ ρ mo as, mo ρ = .ok (rule m w) ρ → methF "StayRule" "first_over" f_StayRule_first_over mo as ρ = M.bnd (evs as) (fun xs => callV f_StayRule_first_over (.d (rule m w) :: xs)) ρ := fun ρ mo as e => meth_rule e (rule_no (by decide))
  cases hx : (daysOf ps).find? fun x => decide (m < insideI w ps x) with
  | none =>
    rw [hx] at hf
    simp [f_StayRule_is_lawful, m_StayRule_is_lawful, hm, hf, optI, fnF, sSeq, sIf, asTest, op1, op2, opN, opV, M.bnd, M.ret, M.opt, Arg.ev, rs, rss, Slot.rd, Slot.arg, Slot.has, evs, sV, sAsg, sNx, var, gN, gTu, gCo, gNi, Slot.isOwn, vAnd, vOr, vNot, vIf, bAnd, bOr, bNot, chain, chC, chL, callF, callV_1, callV_2, callV_3, callV_4, sz1, sz2, sz3, sz4, sz5, sz6, sz7, sz8, sz9, sz10, sz11, sz12, dvs, D.ix, L2.atI, ixN, D.cmpI, D.toI, D.mod, D.fdiv, D.add, D.sub, D.mul, D.pow, D.neg, D.len, D.mkL, D.mkT, D.isN, D.notN, isiB, isi2, D.is, D.tn, D.eq, D.ne, D.sc, D.eqb, sPut]
    try simp [hm, hf, optI, fnF, sSeq, sIf, asTest, op1, op2, opN, opV, M.bnd, M.ret, M.opt, Arg.ev, rs, rss, Slot.rd, Slot.arg, Slot.has, evs, sV, sAsg, sNx, var, gN, gTu, gCo, gNi, Slot.isOwn, vAnd, vOr, vNot, vIf, bAnd, bOr, bNot, chain, chC, chL, callF, callV_1, callV_2, callV_3, callV_4, sz1, sz2, sz3, sz4, sz5, sz6, sz7, sz8, sz9, sz10, sz11, sz12, dvs, D.ix, L2.atI, ixN, D.cmpI, D.toI, D.mod, D.fdiv, D.add, D.sub, D.mul, D.pow, D.neg, D.len, D.mkL, D.mkT, D.isN, D.notN, isiB, isi2, D.is, D.tn, D.eq, D.ne, D.sc, D.eqb, sPut]
  | some x =>
    rw [hx] at hf
    simp [f_StayRule_is_lawful, m_StayRule_is_lawful, hm, hf, optI, fnF, sSeq, sIf, asTest, op1, op2, opN, opV, M.bnd, M.ret, M.opt, Arg.ev, rs, rss, Slot.rd, Slot.arg, Slot.has, evs, sV, sAsg, sNx, var, gN, gTu, gCo, gNi, Slot.isOwn, vAnd, vOr, vNot, vIf, bAnd, bOr, bNot, chain, chC, chL, callF, callV_1, callV_2, callV_3, callV_4, sz1, sz2, sz3, sz4, sz5, sz6, sz7, sz8, sz9, sz10, sz11, sz12, dvs, D.ix, L2.atI, ixN, D.cmpI, D.toI, D.mod, D.fdiv, D.add, D.sub, D.mul, D.pow, D.neg, D.len, D.mkL, D.mkT, D.isN, D.notN, isiB, isi2, D.is, D.tn, D.eq, D.ne, D.sc, D.eqb, sPut]
    try simp [hm, hf, optI, fnF, sSeq, sIf, asTest, op1, op2, opN, opV, M.bnd, M.ret, M.opt, Arg.ev, rs, rss, Slot.rd, Slot.arg, Slot.has, evs, sV, sAsg, sNx, var, gN, gTu, gCo, gNi, Slot.isOwn, vAnd, vOr, vNot, vIf, bAnd, bOr, bNot, chain, chC, chL, callF, callV_1, callV_2, callV_3, callV_4, sz1, sz2, sz3, sz4, sz5, sz6, sz7, sz8, sz9, sz10, sz11, sz12, dvs, D.ix, L2.atI, ixN, D.cmpI, D.toI, D.mod, D.fdiv, D.add, D.sub, D.mul, D.pow, D.neg, D.len, D.mkL, D.mkT, D.isN, D.notN, isiB, isi2, D.is, D.tn, D.eq, D.ne, D.sc, D.eqb, sPut]
end DL
namespace DL
open PySem L2
def endS : Int → List (Int × Int) → Int
  | lo, [] => lo
  | _, p :: r => endS p.2 r
theorem okS_app {x y : Int} (h0 : 0 ≤ x) (h1 : x < y) (h2 : y ≤ 9999) : ∀ {ps : List (Int × Int)} {lo : Int}, okS lo ps → endS lo ps ≤ x → okS lo (ps ++ [(x, y)])
  | [], lo, _, h => ⟨h, h0, h1, h2, trivial⟩
  | p :: ps, lo, ⟨a, b, c, d, e⟩, h => ⟨a, b, c, d, okS_app h0 h1 h2 e h⟩
theorem all2_len {l : List D} {ps : List (Int × Int)} (h : All2 SpanD l ps) : l.length = ps.length := by
  induction h with
  | nil => rfl
  | cons _ _ ih => simp [ih]
theorem Spans.len {d : D} {ps : List (Int × Int)} (h : Spans d ps) : ps.length ≤ sizeLine := by
  obtain ⟨l, _, h2, h3⟩ := h.ex
  have : l.length = ps.length := by
    exact all2_len h2
  omega
theorem spans_app {ps : List (Int × Int)} {x y : Int} (ok : okS 0 ps) (hl : ps.length + 1 ≤ sizeLine) (h0 : 0 ≤ x) (he : endS 0 ps ≤ x) (h1 : x < y) (h2 : y ≤ 9999) : Spans (.tup (ps.map spT ++ [spT (x, y)])) (ps ++ [(x, y)]) := by
  have := spans_tup (d := .non) (ps := []) (qs := ps ++ [(x, y)]) (okS_app h0 h1 h2 ok he) (by simpa using hl)
  simpa using this
theorem add_span {ps : List (Int × Int)} {p : D} (hl : ps.length + 1 ≤ sizeLine) : D.add (.tup (ps.map spT)) (.tup [p]) = some (.tup (ps.map spT ++ [p])) := by
  simp [D.add, hl]
theorem meth_self {m w : Int} {mn : Str} {φ : Fn} {as : List Arg} {ρ : Ev} (h : (["most", "window"] : List Str).contains mn = false) :
    methF "StayRule" mn φ (var 0) as (.val (rule m w) :: ρ) = M.bnd (evs as) (fun xs => callV φ (.d (rule m w) :: xs)) (.val (rule m w) :: ρ) := meth_rule rfl h
theorem can_stay_ok {m w day : Int} {d : D} {ps : List (Int × Int)} (h : Spans d ps) (hl : ps.length + 1 ≤ sizeLine) (h0 : 0 ≤ day) (he : endS 0 ps ≤ day) (h1 : day + 1 ≤ 9999) :
    f_StayRule_can_stay [.val (rule m w), .val d, .val (.int day)] = .ok (.bl (decide (insideI w (ps ++ [(day, day + 1)]) day ≤ m))) [.val (rule m w), .val d, .val (.int day)] := by
  have hw := h.want
  have hs := spans_app (x := day) (y := day + 1) h.ok hl h0 he (by omega) h1
  have hi := inside_ok (m := m) (w := w) (day := day) hs
  have hm := fun φ as ρ => meth_self (m := m) (w := w) (mn := "inside") (φ := φ) (as := as) (ρ := ρ) (rule_no (by decide))
  have e1 : D.mkT [D.int day, D.int (day + 1)] = some (spT (day, day + 1)) := by simp [D.mkT, spT]; decide
  have e2 : ∀ x, D.mkT [x] = some (.tup [x]) := fun x => by simp [D.mkT]; decide
  have hz : ps.length + 1 ≤ 16777216 := by rw [sizeLine_eq] at hl; exact hl
  simp only [spT] at e1 hi
  simp [f_StayRule_can_stay, m_StayRule_can_stay, hw, hm, hi, fld_most, hl, fnF, sSeq, sIf, asTest, op1, op2, opN, opV, M.bnd, M.ret, M.opt, Arg.ev, rs, rss, Slot.rd, Slot.arg, Slot.has, evs, sV, sAsg, sNx, var, gN, gTu, gCo, gNi, Slot.isOwn, vAnd, vOr, vNot, vIf, bAnd, bOr, bNot, chain, chC, chL, callF, callV_1, callV_2, callV_3, callV_4, sz1, sz2, sz3, sz4, sz5, sz6, sz7, sz8, sz9, sz10, sz11, sz12, dvs, D.ix, L2.atI, ixN, D.cmpI, D.toI, D.mod, D.fdiv, D.add, D.sub, D.mul, D.pow, D.neg, D.len, D.mkL, D.mkT, D.isN, D.notN, isiB, isi2, D.is, D.tn, D.eq, D.ne, D.sc, D.eqb, sPut]
def fitsI (m w : Int) (ps : List (Int × Int)) (b : Int) (x : Int) : Bool := decide (insideI w (ps ++ [(b, x + 1)]) x ≤ m)
theorem up_day {m w b n x : Int} {ps : List (Int × Int)} (ok : okS 0 ps) (hl : ps.length + 1 ≤ sizeLine) (h0 : 0 ≤ b) (he : endS 0 ps ≤ b) (h1 : b ≤ x) (h2 : x + 1 ≤ 9999) :
    b0_StayRule_longest_up_to [.val (rule m w), .val (.tup (ps.map spT)), .val (.int b), .val (.int n), .val (.int x)] =
      if (!fitsI m w ps b x) = true then .rt (.bl false) [.val (rule m w), .val (.tup (ps.map spT)), .val (.int b), .val (.int n), .val (.int x)] else .nx [.val (rule m w), .val (.tup (ps.map spT)), .val (.int b), .val (.int n), .val (.int x)] := by
  have hs := spans_app (x := b) (y := x + 1) ok hl h0 he (by omega) h2
  have hi := inside_ok (m := m) (w := w) (day := x) hs
  have hm := fun φ as ρ => meth_self (m := m) (w := w) (mn := "inside") (φ := φ) (as := as) (ρ := ρ) (rule_no (by decide))
  simp only [spT] at hi
  unfold fitsI
  by_cases hc : insideI w (ps ++ [(b, x + 1)]) x ≤ m
  · have hc' : ¬ (m < insideI w (ps ++ [(b, x + 1)]) x) := by omega
    simp [b0_StayRule_longest_up_to, hm, hi, fld_most, hl, hc, hc', fnF, sSeq, sIf, asTest, op1, op2, opN, opV, M.bnd, M.ret, M.opt, Arg.ev, rs, rss, Slot.rd, Slot.arg, Slot.has, evs, sV, sAsg, sNx, var, gN, gTu, gCo, gNi, Slot.isOwn, vAnd, vOr, vNot, vIf, bAnd, bOr, bNot, chain, chC, chL, callF, callV_1, callV_2, callV_3, callV_4, sz1, sz2, sz3, sz4, sz5, sz6, sz7, sz8, sz9, sz10, sz11, sz12, dvs, D.ix, L2.atI, ixN, D.cmpI, D.toI, D.mod, D.fdiv, D.add, D.sub, D.mul, D.pow, D.neg, D.len, D.mkL, D.mkT, D.isN, D.notN, isiB, isi2, D.is, D.tn, D.eq, D.ne, D.sc, D.eqb, sPut]
  · have hc' : m < insideI w (ps ++ [(b, x + 1)]) x := by omega
    simp [b0_StayRule_longest_up_to, hm, hi, fld_most, hl, hc, hc', fnF, sSeq, sIf, asTest, op1, op2, opN, opV, M.bnd, M.ret, M.opt, Arg.ev, rs, rss, Slot.rd, Slot.arg, Slot.has, evs, sV, sAsg, sNx, var, gN, gTu, gCo, gNi, Slot.isOwn, vAnd, vOr, vNot, vIf, bAnd, bOr, bNot, chain, chC, chL, callF, callV_1, callV_2, callV_3, callV_4, sz1, sz2, sz3, sz4, sz5, sz6, sz7, sz8, sz9, sz10, sz11, sz12, dvs, D.ix, L2.atI, ixN, D.cmpI, D.toI, D.mod, D.fdiv, D.add, D.sub, D.mul, D.pow, D.neg, D.len, D.mkL, D.mkT, D.isN, D.notN, isiB, isi2, D.is, D.tn, D.eq, D.ne, D.sc, D.eqb, sPut]
theorem up_ok {m w b n : Int} {ps : List (Int × Int)} (ok : okS 0 ps) (hl : ps.length + 1 ≤ sizeLine) (h0 : 0 ≤ b) (he : endS 0 ps ≤ b) (hn : 0 ≤ n) (h2 : b + n ≤ 9999) :
    f_StayRule_longest_up_to [.val (rule m w), .val (.tup (ps.map spT)), .val (.int b), .val (.int n)] = .ok (.bl (((List.range n.toNat).map fun k : Nat => b + (k : Int)).all (fitsI m w ps b))) [.val (rule m w), .val (.tup (ps.map spT)), .val (.int b), .val (.int n)] := by
  have hsrc : srcN D.rng2 [.v (var 2), .v (op2 D.add (.o 2) (.o 3))] [.val (rule m w), .val (.tup (ps.map spT)), .val (.int b), .val (.int n), .no] = .ok (rng b (b + n)) [.val (rule m w), .val (.tup (ps.map spT)), .val (.int b), .val (.int n), .no] := by
    have e1 : D.rngOk b (b + n) = true := by unfold D.rngOk; simp; omega
    have e2 : (b + n - b).toNat ≤ sizeLine := by rw [sizeLine_eq]; omega
    simp [e1, e2, fnF, sSeq, sIf, asTest, op1, op2, opN, opV, M.bnd, M.ret, M.opt, Arg.ev, rs, rss, Slot.rd, Slot.arg, Slot.has, evs, sV, sAsg, sNx, var, gN, gTu, gCo, gNi, Slot.isOwn, vAnd, vOr, vNot, vIf, bAnd, bOr, bNot, chain, chC, chL, callF, callV_1, callV_2, callV_3, callV_4, sz1, sz2, sz3, sz4, sz5, sz6, sz7, sz8, sz9, sz10, sz11, sz12, dvs, D.ix, L2.atI, ixN, D.cmpI, D.toI, D.mod, D.fdiv, D.add, D.sub, D.mul, D.pow, D.neg, D.len, D.mkL, D.mkT, D.isN, D.notN, isiB, isi2, D.is, D.tn, D.eq, D.ne, D.sc, D.eqb, sPut, sFor, forL, seqM, srcN, D.rng1, D.rng2, D.enum]
  have key := find_loop (i := 4) (B := b0_StayRule_longest_up_to) (fun x => !fitsI m w ps b x.i) (fun _ => .bl false) (ds := rng b (b + n)) (ρ := [.val (rule m w), .val (.tup (ps.map spT)), .val (.int b), .val (.int n), .no]) (s0 := .no) rfl rfl (fun x hx => by
    rw [rng_nat] at hx
    obtain ⟨y, hy, rfl⟩ := List.mem_map.mp hx
    obtain ⟨k, hk, rfl⟩ := List.mem_map.mp hy
    have hk' := List.mem_range.mp hk
    simp only [List.set_cons_succ, List.set_cons_zero, D.i]
    exact up_day ok hl h0 he (by omega) (by omega))
  have e3 : (b + n - b).toNat = n.toNat := by omega
  have fm : (rng b (b + n)).find? (fun x => !fitsI m w ps b x.i) = (((List.range n.toNat).map fun k : Nat => b + (k : Int)).find? (fun x => !fitsI m w ps b x)).map D.int := by
    rw [rng_nat, List.find?_map, e3]
    rfl
  have hle : ¬ (9999 < b + n) := by omega
  rw [fm] at key
  generalize hL : (List.range n.toNat).map (fun k : Nat => b + (k : Int)) = L at key ⊢
  have hl1 : ∀ {o : SOut}, forL (gN 4) b0_StayRule_longest_up_to (rng b (b + n)) [.val (rule m w), .val (.tup (ps.map spT)), .val (.int b), .val (.int n), .no] = o → l1_StayRule_longest_up_to [.val (rule m w), .val (.tup (ps.map spT)), .val (.int b), .val (.int n), .no] = o := fun {o} h => by
    unfold l1_StayRule_longest_up_to sFor
    rw [hsrc]
    exact h
  rcases key with ⟨x, k1, k2⟩ | ⟨k1, s', k2, k3⟩
  · have k2 := hl1 k2
    have ha : L.all (fitsI m w ps b) = false := by
      obtain ⟨y, e1, _⟩ := Option.map_eq_some_iff.mp k1
      have := List.find?_some e1
      have hm := List.mem_of_find?_eq_some e1
      cases hh : L.all (fitsI m w ps b) with
      | false => rfl
      | true => rw [List.all_eq_true.mp hh y hm] at this; simp at this
    rw [ha]
    simp [f_StayRule_longest_up_to, m_StayRule_longest_up_to, hle, k2, fnF, sSeq, sIf, asTest, op1, op2, opN, opV, M.bnd, M.ret, M.opt, Arg.ev, rs, rss, Slot.rd, Slot.arg, Slot.has, evs, sV, sAsg, sNx, var, gN, gTu, gCo, gNi, Slot.isOwn, vAnd, vOr, vNot, vIf, bAnd, bOr, bNot, chain, chC, chL, callF, callV_1, callV_2, callV_3, callV_4, sz1, sz2, sz3, sz4, sz5, sz6, sz7, sz8, sz9, sz10, sz11, sz12, dvs, D.ix, L2.atI, ixN, D.cmpI, D.toI, D.mod, D.fdiv, D.add, D.sub, D.mul, D.pow, D.neg, D.len, D.mkL, D.mkT, D.isN, D.notN, isiB, isi2, D.is, D.tn, D.eq, D.ne, D.sc, D.eqb, sPut]
  · have k3 := hl1 k3
    have ha : L.all (fitsI m w ps b) = true := by
      have k1' : L.find? (fun x => !fitsI m w ps b x) = none := by simpa using k1
      rw [List.all_eq_true]
      intro y hy
      have := List.find?_eq_none.mp k1' y hy
      simpa using this
    rw [ha]
    simp [f_StayRule_longest_up_to, m_StayRule_longest_up_to, hle, k3, fnF, sSeq, sIf, asTest, op1, op2, opN, opV, M.bnd, M.ret, M.opt, Arg.ev, rs, rss, Slot.rd, Slot.arg, Slot.has, evs, sV, sAsg, sNx, var, gN, gTu, gCo, gNi, Slot.isOwn, vAnd, vOr, vNot, vIf, bAnd, bOr, bNot, chain, chC, chL, callF, callV_1, callV_2, callV_3, callV_4, sz1, sz2, sz3, sz4, sz5, sz6, sz7, sz8, sz9, sz10, sz11, sz12, dvs, D.ix, L2.atI, ixN, D.cmpI, D.toI, D.mod, D.fdiv, D.add, D.sub, D.mul, D.pow, D.neg, D.len, D.mkL, D.mkT, D.isN, D.notN, isiB, isi2, D.is, D.tn, D.eq, D.ne, D.sc, D.eqb, sPut]
end DL
namespace DL
open PySem L2
/-- all days of a stay of n days from b on -/
def stayI (m w : Int) (ps : List (Int × Int)) (n b : Int) : Bool := ((List.range n.toNat).map fun k : Nat => b + (k : Int)).all (fitsI m w ps b)
theorem entry_day {m w day n b : Int} {d : D} {ps : List (Int × Int)} (ok : okS 0 ps) (hl : ps.length + 1 ≤ sizeLine) (h0 : 0 ≤ b) (he : endS 0 ps ≤ b) (hn : 0 ≤ n) (h2 : b + n ≤ 9999) :
    b0_StayRule_first_entry [.val (rule m w), .val d, .val (.int day), .val (.int n), .val (.tup (ps.map spT)), .val (.int b)] =
      if stayI m w ps n b = true then .rt (.int b) [.val (rule m w), .val d, .val (.int day), .val (.int n), .val (.tup (ps.map spT)), .val (.int b)] else .nx [.val (rule m w), .val d, .val (.int day), .val (.int n), .val (.tup (ps.map spT)), .val (.int b)] := by
  have hu := up_ok (m := m) (w := w) ok hl h0 he hn h2
  have hm := fun φ as ρ => meth_self (m := m) (w := w) (mn := "longest_up_to") (φ := φ) (as := as) (ρ := ρ) (rule_no (by decide))
  change f_StayRule_longest_up_to _ = .ok (.bl (stayI m w ps n b)) _ at hu
  cases hs : stayI m w ps n b <;> rw [hs] at hu <;> simp [b0_StayRule_first_entry, hm, hu, fnF, sSeq, sIf, asTest, op1, op2, opN, opV, M.bnd, M.ret, M.opt, Arg.ev, rs, rss, Slot.rd, Slot.arg, Slot.has, evs, sV, sAsg, sNx, var, gN, gTu, gCo, gNi, Slot.isOwn, vAnd, vOr, vNot, vIf, bAnd, bOr, bNot, chain, chC, chL, callF, callV_1, callV_2, callV_3, callV_4, sz1, sz2, sz3, sz4, sz5, sz6, sz7, sz8, sz9, sz10, sz11, sz12, dvs, D.ix, L2.atI, ixN, D.cmpI, D.toI, D.mod, D.fdiv, D.add, D.sub, D.mul, D.pow, D.neg, D.len, D.mkL, D.mkT, D.isN, D.notN, isiB, isi2, D.is, D.tn, D.eq, D.ne, D.sc, D.eqb, sPut]
def entryI (m w day n : Int) (ps : List (Int × Int)) : Option Int :=
  if min m w < n ∧ m < w then none else ((List.range (2 * w + 1).toNat).map fun k : Nat => day + (k : Int)).find? (stayI m w ps n)
theorem entry_ok {m w day n : Int} {d : D} {ps : List (Int × Int)} (h : Spans d ps) (hl : ps.length + 1 ≤ sizeLine) (h0 : 0 ≤ day) (he : endS 0 ps ≤ day) (hn : 0 ≤ n) (hw : 0 ≤ w) (hw2 : w ≤ 400) (h2 : day + 2 * w + n ≤ 9999) :
    f_StayRule_first_entry [.val (rule m w), .val d, .val (.int day), .val (.int n)] = .ok (optI (entryI m w day n ps)) [.val (rule m w), .val d, .val (.int day), .val (.int n)] := by
  have ok := h.ok
  have hwant := h.want
  have e3 : (day + 2 * w + 1 - day).toNat = (2 * w + 1).toNat := by omega
  have hsrc : srcN D.rng2 [.v (var 2), .v (op2 D.add (.v (op2 D.add (.o 2) (.v (op2 D.mul (.v (M.ret (.int 2))) (.v (op1 (D.fld "StayRule" "window") (.o 0))))))) (.v (M.ret (.int 1))))] [.val (rule m w), .val d, .val (.int day), .val (.int n), .val (.tup (ps.map spT)), .no] = .ok (rng day (day + 2 * w + 1)) [.val (rule m w), .val d, .val (.int day), .val (.int n), .val (.tup (ps.map spT)), .no] := by
    have e1 : D.rngOk day (day + 2 * w + 1) = true := by unfold D.rngOk; simp; omega
    have e2 : (day + 2 * w + 1 - day).toNat ≤ sizeLine := by rw [sizeLine_eq]; omega
    simp [fld_window, e1, e2, fnF, sSeq, sIf, asTest, op1, op2, opN, opV, M.bnd, M.ret, M.opt, Arg.ev, rs, rss, Slot.rd, Slot.arg, Slot.has, evs, sV, sAsg, sNx, var, gN, gTu, gCo, gNi, Slot.isOwn, vAnd, vOr, vNot, vIf, bAnd, bOr, bNot, chain, chC, chL, callF, callV_1, callV_2, callV_3, callV_4, sz1, sz2, sz3, sz4, sz5, sz6, sz7, sz8, sz9, sz10, sz11, sz12, dvs, D.ix, L2.atI, ixN, D.cmpI, D.toI, D.mod, D.fdiv, D.add, D.sub, D.mul, D.pow, D.neg, D.len, D.mkL, D.mkT, D.isN, D.notN, isiB, isi2, D.is, D.tn, D.eq, D.ne, D.sc, D.eqb, sPut, sFor, forL, seqM, srcN, D.rng1, D.rng2, D.enum]
  have key := find_loop (i := 5) (B := b0_StayRule_first_entry) (fun x => stayI m w ps n x.i) id (ds := rng day (day + 2 * w + 1)) (ρ := [.val (rule m w), .val d, .val (.int day), .val (.int n), .val (.tup (ps.map spT)), .no]) (s0 := .no) rfl rfl (fun x hx => by
    rw [rng_nat] at hx
    obtain ⟨y, hy, rfl⟩ := List.mem_map.mp hx
    obtain ⟨k, hk, rfl⟩ := List.mem_map.mp hy
    have hk' := List.mem_range.mp hk
    simp only [List.set_cons_succ, List.set_cons_zero, D.i, id]
    exact entry_day ok hl (by omega) (by omega) hn (by omega))
  have fm : (rng day (day + 2 * w + 1)).find? (fun x => stayI m w ps n x.i) = (((List.range (2 * w + 1).toNat).map fun k : Nat => day + (k : Int)).find? (stayI m w ps n)).map D.int := by
    rw [rng_nat, List.find?_map, e3]
    rfl
  rw [fm] at key
  have hl1 : ∀ {o : SOut}, forL (gN 5) b0_StayRule_first_entry (rng day (day + 2 * w + 1)) [.val (rule m w), .val d, .val (.int day), .val (.int n), .val (.tup (ps.map spT)), .no] = o → l1_StayRule_first_entry [.val (rule m w), .val d, .val (.int day), .val (.int n), .val (.tup (ps.map spT)), .no] = o := fun {o} h => by
    unfold l1_StayRule_first_entry sFor
    rw [hsrc]
    exact h
  unfold entryI
  by_cases hc : min m w < n ∧ m < w
  · rw [if_pos hc]
    simp [f_StayRule_first_entry, m_StayRule_first_entry, hwant, fld_most, fld_window, D.min, hc.1, hc.2, optI, fnF, sSeq, sIf, asTest, op1, op2, opN, opV, M.bnd, M.ret, M.opt, Arg.ev, rs, rss, Slot.rd, Slot.arg, Slot.has, evs, sV, sAsg, sNx, var, gN, gTu, gCo, gNi, Slot.isOwn, vAnd, vOr, vNot, vIf, bAnd, bOr, bNot, chain, chC, chL, callF, callV_1, callV_2, callV_3, callV_4, sz1, sz2, sz3, sz4, sz5, sz6, sz7, sz8, sz9, sz10, sz11, sz12, dvs, D.ix, L2.atI, ixN, D.cmpI, D.toI, D.mod, D.fdiv, D.add, D.sub, D.mul, D.pow, D.neg, D.len, D.mkL, D.mkT, D.isN, D.notN, isiB, isi2, D.is, D.tn, D.eq, D.ne, D.sc, D.eqb, sPut]
  · rw [if_neg hc]
    generalize hL : ((List.range (2 * w + 1).toNat).map fun k : Nat => day + (k : Int)).find? (stayI m w ps n) = R at key ⊢
    have hc2 : ¬ (min m w < n) ∨ ¬ (m < w) := by
      by_cases h1 : min m w < n
      · exact .inr fun h2 => hc ⟨h1, h2⟩
      · exact .inl h1
    rcases key with ⟨x, k1, k2⟩ | ⟨k1, s', k2, k3⟩
    · obtain ⟨y, rfl, rfl⟩ := Option.map_eq_some_iff.mp k1
      have k2 := hl1 k2
      rcases hc2 with h1 | h1
      · simp [f_StayRule_first_entry, m_StayRule_first_entry, hwant, fld_most, fld_window, D.min, h1, k2, optI, fnF, sSeq, sIf, asTest, op1, op2, opN, opV, M.bnd, M.ret, M.opt, Arg.ev, rs, rss, Slot.rd, Slot.arg, Slot.has, evs, sV, sAsg, sNx, var, gN, gTu, gCo, gNi, Slot.isOwn, vAnd, vOr, vNot, vIf, bAnd, bOr, bNot, chain, chC, chL, callF, callV_1, callV_2, callV_3, callV_4, sz1, sz2, sz3, sz4, sz5, sz6, sz7, sz8, sz9, sz10, sz11, sz12, dvs, D.ix, L2.atI, ixN, D.cmpI, D.toI, D.mod, D.fdiv, D.add, D.sub, D.mul, D.pow, D.neg, D.len, D.mkL, D.mkT, D.isN, D.notN, isiB, isi2, D.is, D.tn, D.eq, D.ne, D.sc, D.eqb, sPut]
      · by_cases h3 : min m w < n <;> simp [f_StayRule_first_entry, m_StayRule_first_entry, hwant, fld_most, fld_window, D.min, h1, h3, k2, optI, fnF, sSeq, sIf, asTest, op1, op2, opN, opV, M.bnd, M.ret, M.opt, Arg.ev, rs, rss, Slot.rd, Slot.arg, Slot.has, evs, sV, sAsg, sNx, var, gN, gTu, gCo, gNi, Slot.isOwn, vAnd, vOr, vNot, vIf, bAnd, bOr, bNot, chain, chC, chL, callF, callV_1, callV_2, callV_3, callV_4, sz1, sz2, sz3, sz4, sz5, sz6, sz7, sz8, sz9, sz10, sz11, sz12, dvs, D.ix, L2.atI, ixN, D.cmpI, D.toI, D.mod, D.fdiv, D.add, D.sub, D.mul, D.pow, D.neg, D.len, D.mkL, D.mkT, D.isN, D.notN, isiB, isi2, D.is, D.tn, D.eq, D.ne, D.sc, D.eqb, sPut]
    · have k3 := hl1 k3
      obtain rfl : R = none := by simpa using k1
      rcases hc2 with h1 | h1
      · simp [f_StayRule_first_entry, m_StayRule_first_entry, hwant, fld_most, fld_window, D.min, h1, k3, optI, fnF, sSeq, sIf, asTest, op1, op2, opN, opV, M.bnd, M.ret, M.opt, Arg.ev, rs, rss, Slot.rd, Slot.arg, Slot.has, evs, sV, sAsg, sNx, var, gN, gTu, gCo, gNi, Slot.isOwn, vAnd, vOr, vNot, vIf, bAnd, bOr, bNot, chain, chC, chL, callF, callV_1, callV_2, callV_3, callV_4, sz1, sz2, sz3, sz4, sz5, sz6, sz7, sz8, sz9, sz10, sz11, sz12, dvs, D.ix, L2.atI, ixN, D.cmpI, D.toI, D.mod, D.fdiv, D.add, D.sub, D.mul, D.pow, D.neg, D.len, D.mkL, D.mkT, D.isN, D.notN, isiB, isi2, D.is, D.tn, D.eq, D.ne, D.sc, D.eqb, sPut]
      · by_cases h3 : min m w < n <;> simp [f_StayRule_first_entry, m_StayRule_first_entry, hwant, fld_most, fld_window, D.min, h1, h3, k3, optI, fnF, sSeq, sIf, asTest, op1, op2, opN, opV, M.bnd, M.ret, M.opt, Arg.ev, rs, rss, Slot.rd, Slot.arg, Slot.has, evs, sV, sAsg, sNx, var, gN, gTu, gCo, gNi, Slot.isOwn, vAnd, vOr, vNot, vIf, bAnd, bOr, bNot, chain, chC, chL, callF, callV_1, callV_2, callV_3, callV_4, sz1, sz2, sz3, sz4, sz5, sz6, sz7, sz8, sz9, sz10, sz11, sz12, dvs, D.ix, L2.atI, ixN, D.cmpI, D.toI, D.mod, D.fdiv, D.add, D.sub, D.mul, D.pow, D.neg, D.len, D.mkL, D.mkT, D.isN, D.notN, isiB, isi2, D.is, D.tn, D.eq, D.ne, D.sc, D.eqb, sPut]
end DL
namespace DL
open PySem L2
/-- a while loop that turns K times: st k the state ahead of turn k -/
theorem while_ok {t : M Bool} {b : S} (st : Nat → Ev) (K : Nat) (ht : ∀ k, k < K → t (st k) = .ok true (st k)) (hb : ∀ k, k < K → b (st k) = .nx (st (k + 1))) (hs : t (st K) = .ok false (st K)) : ∀ (n j : Nat), j ≤ K → K - j < n → whL t b n (st j) = .nx (st K)
  | 0, j, _, h => by omega
  | n + 1, j, hj, h => by
    unfold whL
    by_cases e : j = K
    · subst e
      rw [hs]
    · rw [ht j (by omega)]
      dsimp only
      rw [hb j (by omega)]
      exact while_ok st K ht hb hs n (j + 1) (by omega) (by omega)
theorem long_ok {m w day : Int} {d : D} {ps : List (Int × Int)} {K : Nat} (h : Spans d ps) (hl : ps.length + 1 ≤ sizeLine) (h0 : 0 ≤ day) (he : endS 0 ps ≤ day) (hK : ∀ k : Nat, k < K → day + k < 9999 ∧ fitsI m w ps day (day + k) = true) (hstop : ¬ (day + K < 9999 ∧ fitsI m w ps day (day + K) = true)) :
    f_StayRule_longest_stay [.val (rule m w), .val d, .val (.int day)] = .ok (.int K) [.val (rule m w), .val d, .val (.int day)] := by
  have hwant := h.want
  have hm := fun φ as ρ => meth_self (m := m) (w := w) (mn := "inside") (φ := φ) (as := as) (ρ := ρ) (rule_no (by decide))
  have hKz : K ≤ 9999 := by
    rcases Nat.eq_zero_or_pos K with rfl | hp
    · omega
    · have := (hK (K - 1) (by omega)).1; omega
  have ht : ∀ x : Int, day ≤ x → x < 9999 → f_StayRule_inside [.val (rule m w), .val (.tup (ps.map spT ++ [.tup [.int day, .int (x + 1)]])), .val (.int x)] = .ok (.int (insideI w (ps ++ [(day, x + 1)]) x)) [.val (rule m w), .val (.tup (ps.map spT ++ [.tup [.int day, .int (x + 1)]])), .val (.int x)] := fun x g1 g2 => by
    have hs := spans_app (x := day) (y := x + 1) h.ok hl h0 he (by omega) (by omega)
    have hi := inside_ok (m := m) (w := w) (day := x) hs
    simpa only [spT] using hi
  have hw : l1_StayRule_longest_stay [.val (rule m w), .val d, .val (.int day), .val (.tup (ps.map spT)), .val (.int day)] = .nx [.val (rule m w), .val d, .val (.int day), .val (.tup (ps.map spT)), .val (.int (day + K))] := by
    unfold l1_StayRule_longest_stay
    have := while_ok (t := bAnd (asTest (op2 D.lt (.o 4) (.v (M.ret (.int 9999))))) (asTest (op2 D.le (.v (methF "StayRule" "inside" f_StayRule_inside (var 0) [.v (op2 D.add (.o 3) (.v (opV D.mkT [.v (opV D.mkT [.v (var 2), .v (op2 D.add (.o 4) (.v (M.ret (.int 1))))])]))), .v (var 4)])) (.v (op1 (D.fld "StayRule" "most") (.o 0))))))
      (b := b0_StayRule_longest_stay) (fun k => [.val (rule m w), .val d, .val (.int day), .val (.tup (ps.map spT)), .val (.int (day + (k : Int)))]) K (fun k hk => ?_) (fun k hk => ?_) ?_ 20000 0 (Nat.zero_le _) (by omega)
    · simpa using this
    · obtain ⟨g1, g2⟩ := hK k hk
      have hi := ht (day + k) (by omega) g1
      unfold fitsI at g2
      have g3 := of_decide_eq_true g2
      simp [hm, hi, fld_most, hl, g1, g3, fnF, sSeq, sIf, asTest, op1, op2, opN, opV, M.bnd, M.ret, M.opt, Arg.ev, rs, rss, Slot.rd, Slot.arg, Slot.has, evs, sV, sAsg, sNx, var, gN, gTu, gCo, gNi, Slot.isOwn, vAnd, vOr, vNot, vIf, bAnd, bOr, bNot, chain, chC, chL, callF, callV_1, callV_2, callV_3, callV_4, sz1, sz2, sz3, sz4, sz5, sz6, sz7, sz8, sz9, sz10, sz11, sz12, dvs, D.ix, L2.atI, ixN, D.cmpI, D.toI, D.mod, D.fdiv, D.add, D.sub, D.mul, D.pow, D.neg, D.len, D.mkL, D.mkT, D.isN, D.notN, isiB, isi2, D.is, D.tn, D.eq, D.ne, D.sc, D.eqb, sPut]
    · simp [b0_StayRule_longest_stay, sAug, fnF, sSeq, sIf, asTest, op1, op2, opN, opV, M.bnd, M.ret, M.opt, Arg.ev, rs, rss, Slot.rd, Slot.arg, Slot.has, evs, sV, sAsg, sNx, var, gN, gTu, gCo, gNi, Slot.isOwn, vAnd, vOr, vNot, vIf, bAnd, bOr, bNot, chain, chC, chL, callF, callV_1, callV_2, callV_3, callV_4, sz1, sz2, sz3, sz4, sz5, sz6, sz7, sz8, sz9, sz10, sz11, sz12, dvs, D.ix, L2.atI, ixN, D.cmpI, D.toI, D.mod, D.fdiv, D.add, D.sub, D.mul, D.pow, D.neg, D.len, D.mkL, D.mkT, D.isN, D.notN, isiB, isi2, D.is, D.tn, D.eq, D.ne, D.sc, D.eqb, sPut, Int.add_assoc]
    · by_cases g1 : day + (K : Int) < 9999
      · have hi := ht (day + K) (by omega) g1
        have g3 : ¬ (insideI w (ps ++ [(day, day + (K : Int) + 1)]) (day + K) ≤ m) := fun z => hstop ⟨g1, by unfold fitsI; exact decide_eq_true z⟩
        simp [hm, hi, fld_most, hl, g1, g3, fnF, sSeq, sIf, asTest, op1, op2, opN, opV, M.bnd, M.ret, M.opt, Arg.ev, rs, rss, Slot.rd, Slot.arg, Slot.has, evs, sV, sAsg, sNx, var, gN, gTu, gCo, gNi, Slot.isOwn, vAnd, vOr, vNot, vIf, bAnd, bOr, bNot, chain, chC, chL, callF, callV_1, callV_2, callV_3, callV_4, sz1, sz2, sz3, sz4, sz5, sz6, sz7, sz8, sz9, sz10, sz11, sz12, dvs, D.ix, L2.atI, ixN, D.cmpI, D.toI, D.mod, D.fdiv, D.add, D.sub, D.mul, D.pow, D.neg, D.len, D.mkL, D.mkT, D.isN, D.notN, isiB, isi2, D.is, D.tn, D.eq, D.ne, D.sc, D.eqb, sPut]
      · simp [g1, fnF, sSeq, sIf, asTest, op1, op2, opN, opV, M.bnd, M.ret, M.opt, Arg.ev, rs, rss, Slot.rd, Slot.arg, Slot.has, evs, sV, sAsg, sNx, var, gN, gTu, gCo, gNi, Slot.isOwn, vAnd, vOr, vNot, vIf, bAnd, bOr, bNot, chain, chC, chL, callF, callV_1, callV_2, callV_3, callV_4, sz1, sz2, sz3, sz4, sz5, sz6, sz7, sz8, sz9, sz10, sz11, sz12, dvs, D.ix, L2.atI, ixN, D.cmpI, D.toI, D.mod, D.fdiv, D.add, D.sub, D.mul, D.pow, D.neg, D.len, D.mkL, D.mkT, D.isN, D.notN, isiB, isi2, D.is, D.tn, D.eq, D.ne, D.sc, D.eqb, sPut]
  have e1 : day + (K : Int) - day = K := by omega
  simp [f_StayRule_longest_stay, m_StayRule_longest_stay, sPar, hwant, hw, e1, fnF, sSeq, sIf, asTest, op1, op2, opN, opV, M.bnd, M.ret, M.opt, Arg.ev, rs, rss, Slot.rd, Slot.arg, Slot.has, evs, sV, sAsg, sNx, var, gN, gTu, gCo, gNi, Slot.isOwn, vAnd, vOr, vNot, vIf, bAnd, bOr, bNot, chain, chC, chL, callF, callV_1, callV_2, callV_3, callV_4, sz1, sz2, sz3, sz4, sz5, sz6, sz7, sz8, sz9, sz10, sz11, sz12, dvs, D.ix, L2.atI, ixN, D.cmpI, D.toI, D.mod, D.fdiv, D.add, D.sub, D.mul, D.pow, D.neg, D.len, D.mkL, D.mkT, D.isN, D.notN, isiB, isi2, D.is, D.tn, D.eq, D.ne, D.sc, D.eqb, sPut]
theorem most_days_ok {m w n : Int} (hw : 0 < w) (hw2 : w < 1073741824) (hn : 0 ≤ n) (hn2 : n < 1000) :
    f_StayRule_most_days [.val (rule m w), .val (.int n)] = .ok (.int (n / w * min m w + min m (n % w))) [.val (rule m w), .val (.int n)] := by
  have h1 : 0 ≤ n / w := Int.ediv_nonneg hn (by omega)
  have h2 : n / w ≤ n := Int.ediv_le_self _ hn
  have h3 : -18446744073709551616 < n / w := by omega
  have h4 : n / w < 18446744073709551616 := by omega
  simp [f_StayRule_most_days, m_StayRule_most_days, sPar, fld_most, fld_window, hw, hw2, D.min, h3, h4, fnF, sSeq, sIf, asTest, op1, op2, opN, opV, M.bnd, M.ret, M.opt, Arg.ev, rs, rss, Slot.rd, Slot.arg, Slot.has, evs, sV, sAsg, sNx, var, gN, gTu, gCo, gNi, Slot.isOwn, vAnd, vOr, vNot, vIf, bAnd, bOr, bNot, chain, chC, chL, callF, callV_1, callV_2, callV_3, callV_4, sz1, sz2, sz3, sz4, sz5, sz6, sz7, sz8, sz9, sz10, sz11, sz12, dvs, D.ix, L2.atI, ixN, D.cmpI, D.toI, D.mod, D.fdiv, D.add, D.sub, D.mul, D.pow, D.neg, D.len, D.mkL, D.mkT, D.isN, D.notN, isiB, isi2, D.is, D.tn, D.eq, D.ne, D.sc, D.eqb, sPut]
theorem earliest_ok {m w n : Int} (hw : 0 < w) (hn : 0 ≤ n) (hn2 : n < 1000) :
    f_StayRule_earliest_days [.val (rule m w), .val (.int n)] = .ok (.tup ((((List.range n.toNat).map fun k : Nat => (k : Int)).filter fun x => decide (x % w < m)).map D.int)) [.val (rule m w), .val (.int n)] := by
  have hr : rng 0 n = ((List.range n.toNat).map fun k : Nat => (k : Int)).map D.int := by rw [rng_nat]; simp
  have hc : k0_StayRule_earliest_days [.val (rule m w), .val (.int n), .no] = .ok (.lst (((rng 0 n).filter fun x => decide (x.i % w < m)).map id)) [.val (rule m w), .val (.int n), .no] := by
    unfold k0_StayRule_earliest_days
    refine comp_pure (ds := rng 0 n) (fun x => decide (x.i % w < m)) id ?_ (by simp [ownAt, Slot.isOwn]) fun x hx => ?_
    · have e1 : D.rngOk 0 n = true := by unfold D.rngOk; simp; omega
      have e2 : n.toNat ≤ sizeLine := by rw [sizeLine_eq]; omega
      simp [e1, e2, fnF, sSeq, sIf, asTest, op1, op2, opN, opV, M.bnd, M.ret, M.opt, Arg.ev, rs, rss, Slot.rd, Slot.arg, Slot.has, evs, sV, sAsg, sNx, var, gN, gTu, gCo, gNi, Slot.isOwn, vAnd, vOr, vNot, vIf, bAnd, bOr, bNot, chain, chC, chL, callF, callV_1, callV_2, callV_3, callV_4, sz1, sz2, sz3, sz4, sz5, sz6, sz7, sz8, sz9, sz10, sz11, sz12, dvs, D.ix, L2.atI, ixN, D.cmpI, D.toI, D.mod, D.fdiv, D.add, D.sub, D.mul, D.pow, D.neg, D.len, D.mkL, D.mkT, D.isN, D.notN, isiB, isi2, D.is, D.tn, D.eq, D.ne, D.sc, D.eqb, sPut, sFor, forL, seqM, srcN, D.rng1, D.rng2, D.enum]
    · rw [hr] at hx
      obtain ⟨y, _, rfl⟩ := List.mem_map.mp hx
      refine ⟨[.val (rule m w), .val (.int n), .val (.int y)], by simp [wipeE, fnF, sSeq, sIf, asTest, op1, op2, opN, opV, M.bnd, M.ret, M.opt, Arg.ev, rs, rss, Slot.rd, Slot.arg, Slot.has, evs, sV, sAsg, sNx, var, gN, gTu, gCo, gNi, Slot.isOwn, vAnd, vOr, vNot, vIf, bAnd, bOr, bNot, chain, chC, chL, callF, callV_1, callV_2, callV_3, callV_4, sz1, sz2, sz3, sz4, sz5, sz6, sz7, sz8, sz9, sz10, sz11, sz12, dvs, D.ix, L2.atI, ixN, D.cmpI, D.toI, D.mod, D.fdiv, D.add, D.sub, D.mul, D.pow, D.neg, D.len, D.mkL, D.mkT, D.isN, D.notN, isiB, isi2, D.is, D.tn, D.eq, D.ne, D.sc, D.eqb, sPut, sFor, forL, seqM, srcN, D.rng1, D.rng2, D.enum], ?_, fun _ => rfl, by simp [ownAt, Slot.isOwn], by simp [wipeE]⟩
      simp [fld_most, fld_window, hw, D.i, fnF, sSeq, sIf, asTest, op1, op2, opN, opV, M.bnd, M.ret, M.opt, Arg.ev, rs, rss, Slot.rd, Slot.arg, Slot.has, evs, sV, sAsg, sNx, var, gN, gTu, gCo, gNi, Slot.isOwn, vAnd, vOr, vNot, vIf, bAnd, bOr, bNot, chain, chC, chL, callF, callV_1, callV_2, callV_3, callV_4, sz1, sz2, sz3, sz4, sz5, sz6, sz7, sz8, sz9, sz10, sz11, sz12, dvs, D.ix, L2.atI, ixN, D.cmpI, D.toI, D.mod, D.fdiv, D.add, D.sub, D.mul, D.pow, D.neg, D.len, D.mkL, D.mkT, D.isN, D.notN, isiB, isi2, D.is, D.tn, D.eq, D.ne, D.sc, D.eqb, sPut, sFor, forL, seqM, srcN, D.rng1, D.rng2, D.enum]
      try rfl
  have e3 : ((rng 0 n).filter fun x => decide (x.i % w < m)).map id = (((List.range n.toNat).map fun k : Nat => (k : Int)).filter fun x => decide (x % w < m)).map D.int := by
    rw [hr, List.filter_map, List.map_id]
    rfl
  rw [e3] at hc
  generalize ((List.range n.toNat).map fun k : Nat => (k : Int)).filter (fun x => decide (x % w < m)) = R at hc ⊢
  simp [f_StayRule_earliest_days, m_StayRule_earliest_days, hc, D.toT, fnF, sSeq, sIf, asTest, op1, op2, opN, opV, M.bnd, M.ret, M.opt, Arg.ev, rs, rss, Slot.rd, Slot.arg, Slot.has, evs, sV, sAsg, sNx, var, gN, gTu, gCo, gNi, Slot.isOwn, vAnd, vOr, vNot, vIf, bAnd, bOr, bNot, chain, chC, chL, callF, callV_1, callV_2, callV_3, callV_4, sz1, sz2, sz3, sz4, sz5, sz6, sz7, sz8, sz9, sz10, sz11, sz12, dvs, D.ix, L2.atI, ixN, D.cmpI, D.toI, D.mod, D.fdiv, D.add, D.sub, D.mul, D.pow, D.neg, D.len, D.mkL, D.mkT, D.isN, D.notN, isiB, isi2, D.is, D.tn, D.eq, D.ne, D.sc, D.eqb, sPut]
end DL
namespace DL
open PySem L2
def okD : Nat → D → Bool
  | n + 1, .int _ => true
  | n + 1, .bl _ => true
  | n + 1, .non => true
  | n + 1, .str _ => true
  | n + 1, .tup l => l.all (okD n) && decide (l.length ≤ sizeLine)
  | n + 1, .lst l => l.all (okD n) && decide (l.length ≤ sizeLine)
  | _, _ => false
theorem sh_nil : (D.lst []).sh = true := rfl
theorem eqbs_nil : D.eqbs [] [] = true := rfl
theorem rngOk_nat {n : Nat} (h : n ≤ 16777216) : D.rngOk 0 (n : Int) = true := by
  unfold D.rngOk
  simp
  omega
theorem rng1_len {l : List D} {ρ : Ev} (hl : l.length ≤ sizeLine) : D.rng1 [.int (l.length : Int)] = some (rng 0 l.length) := by
  have h1 := rngOk_nat (n := l.length) (Nat.le_trans hl (Nat.le_of_eq sizeLine_eq))
  have h2 : ((l.length : Int) - 0).toNat = l.length := by simp
  show (if D.rngOk 0 (l.length : Int) = true ∧ ((l.length : Int) - 0).toNat ≤ sizeLine then some (rng 0 (l.length : Int)) else none) = _
  exact if_pos ⟨h1, by rw [h2]; exact hl⟩
theorem src1 {f : List D → Option (List D)} {m : M D} {ρ : Ev} {d : D} {ds : List D} (hm : m ρ = .ok d ρ) (hf : f [d] = some ds) : srcN f [.v m] ρ = .ok ds ρ := by
  have he : evs [.v m] ρ = .ok [.d d] ρ := by
    show M.bnd (M.bnd m fun d => M.ret (AV.d d)) (fun x => M.bnd (M.ret []) fun xs => M.ret (x :: xs)) ρ = _
    rw [bnd_ok (a := AV.d d) (ρ' := ρ) (by rw [bnd_ok hm]; rfl)]
    rfl
  unfold srcN
  rw [bnd_ok he]
  show (match (some [d]).bind f with
    | some r => Out.ok r ρ
    | none => Out.bad) = _
  rw [show (some [d]).bind f = some ds from hf]
theorem alike_row {n : Nat} {d : D} {l : List D} (hd : RowD d l) (hl : l.length ≤ sizeLine) (ih : ∀ x ∈ l, f_ulaw_alike n [.val x, .val x] = .ok (.bl true) [.val x, .val x]) :
    k0_ulaw_alike (f_ulaw_alike n) [.val d, .val d, .no] = .ok (.lst []) [.val d, .val d, .no] := by
  have hf : (rng 0 l.length).filter (fun _ => false) = [] := by simp
  have : k0_ulaw_alike (f_ulaw_alike n) [.val d, .val d, .no] = .ok (.lst (((rng 0 l.length).filter fun _ => false).map id)) [.val d, .val d, .no] := by
    unfold k0_ulaw_alike
    refine comp_pure (ds := rng 0 l.length) (fun _ => false) id ?_ (by simp [ownAt, Slot.isOwn]) fun x hx => ?_
    · have e1 := rng1_len (ρ := []) hl
      clear hl ih hf
      refine src1 (d := .int (l.length : Int)) ?_ e1
      clear e1
      rcases hd with rfl | rfl <;> simp [fnF, sSeq, sIf, asTest, op1, op2, opN, opV, M.bnd, M.ret, M.opt, Arg.ev, rs, rss, Slot.rd, Slot.arg, Slot.has, evs, sV, sAsg, sNx, var, gN, gTu, gCo, gNi, Slot.isOwn, vAnd, vOr, vNot, vIf, bAnd, bOr, bNot, chain, chC, chL, callF, callV_1, callV_2, callV_3, callV_4, sz1, sz2, sz3, sz4, sz5, sz6, sz7, sz8, sz9, sz10, sz11, sz12, dvs, D.ix, L2.atI, ixN, D.cmpI, D.toI, D.mod, D.fdiv, D.add, D.sub, D.mul, D.pow, D.neg, D.len, D.mkL, D.mkT, D.isN, D.notN, isiB, isi2, D.is, D.tn, D.eq, D.ne, D.sc, D.eqb, sPut, sFor, forL, seqM, srcN, D.rng1, D.rng2, D.enum]
    · clear hl hf
      rw [rng_nat] at hx
      obtain ⟨y, hy, rfl⟩ := List.mem_map.mp hx
      obtain ⟨k, hk, rfl⟩ := List.mem_map.mp hy
      have hk' : k < l.length := by have := List.mem_range.mp hk; omega
      have h1 := ih l[k] (List.getElem_mem hk')
      refine ⟨[.val d, .val d, .val (.int (0 + (k : Int)))], by simp [wipeE, fnF, sSeq, sIf, asTest, op1, op2, opN, opV, M.bnd, M.ret, M.opt, Arg.ev, rs, rss, Slot.rd, Slot.arg, Slot.has, evs, sV, sAsg, sNx, var, gN, gTu, gCo, gNi, Slot.isOwn, vAnd, vOr, vNot, vIf, bAnd, bOr, bNot, chain, chC, chL, callF, callV_1, callV_2, callV_3, callV_4, sz1, sz2, sz3, sz4, sz5, sz6, sz7, sz8, sz9, sz10, sz11, sz12, dvs, D.ix, L2.atI, ixN, D.cmpI, D.toI, D.mod, D.fdiv, D.add, D.sub, D.mul, D.pow, D.neg, D.len, D.mkL, D.mkT, D.isN, D.notN, isiB, isi2, D.is, D.tn, D.eq, D.ne, D.sc, D.eqb, sPut, sFor, forL, seqM, srcN, D.rng1, D.rng2, D.enum], ?_, fun h => (by cases h), by simp [ownAt, Slot.isOwn], by simp [wipeE]⟩
      rcases hd with rfl | rfl <;> simp [hk', h1, fnF, sSeq, sIf, asTest, op1, op2, opN, opV, M.bnd, M.ret, M.opt, Arg.ev, rs, rss, Slot.rd, Slot.arg, Slot.has, evs, sV, sAsg, sNx, var, gN, gTu, gCo, gNi, Slot.isOwn, vAnd, vOr, vNot, vIf, bAnd, bOr, bNot, chain, chC, chL, callF, callV_1, callV_2, callV_3, callV_4, sz1, sz2, sz3, sz4, sz5, sz6, sz7, sz8, sz9, sz10, sz11, sz12, dvs, D.ix, L2.atI, ixN, D.cmpI, D.toI, D.mod, D.fdiv, D.add, D.sub, D.mul, D.pow, D.neg, D.len, D.mkL, D.mkT, D.isN, D.notN, isiB, isi2, D.is, D.tn, D.eq, D.ne, D.sc, D.eqb, sPut, sFor, forL, seqM, srcN, D.rng1, D.rng2, D.enum]
  rw [this, hf]
  rfl
end DL
namespace DL
open PySem L2
theorem truth_ok (b : Bool) : f_ulaw_truth [.val (.bl b), .val (.bl b)] = .ok (.bl true) [.val (.bl b), .val (.bl b)] := by
  cases b <;> simp [f_ulaw_truth, m_ulaw_truth, fnF, sSeq, sIf, asTest, op1, op2, opN, opV, M.bnd, M.ret, M.opt, Arg.ev, rs, rss, Slot.rd, Slot.arg, Slot.has, evs, sV, sAsg, sNx, var, gN, gTu, gCo, gNi, Slot.isOwn, vAnd, vOr, vNot, vIf, bAnd, bOr, bNot, chain, chC, chL, callF, callV_1, callV_2, callV_3, callV_4, sz1, sz2, sz3, sz4, sz5, sz6, sz7, sz8, sz9, sz10, sz11, sz12, dvs, D.ix, L2.atI, ixN, D.cmpI, D.toI, D.mod, D.fdiv, D.add, D.sub, D.mul, D.pow, D.neg, D.len, D.mkL, D.mkT, D.isN, D.notN, isiB, isi2, D.is, D.tn, D.eq, D.ne, D.sc, D.eqb, sPut, sFor, forL, seqM, srcN, D.rng1, D.rng2, D.enum]
/-- how many of some days are among the window days up to a day -/
def cntI (w : Int) (days : List Int) (day : Int) : Nat := (days.filter fun x => decide (day - w < x ∧ x ≤ day)).length
theorem li_ok {m w day : Int} {days : List Int} : f_ulaw_inside [.val (.lst (days.map D.int)), .val (.int m), .val (.int w), .val (.int day)] = .ok (.int (cntI w days day)) [.val (.lst (days.map D.int)), .val (.int m), .val (.int w), .val (.int day)] := by
  have hc : k0_ulaw_inside [.val (.lst (days.map D.int)), .val (.int m), .val (.int w), .val (.int day), .no] = .ok (.lst ((days.filter fun x => decide (day - w < x ∧ x ≤ day)).map D.int)) [.val (.lst (days.map D.int)), .val (.int m), .val (.int w), .val (.int day), .no] := by
    have e1 : (days.filter fun x => decide (day - w < x ∧ x ≤ day)).map D.int = ((days.map D.int).filter fun x => decide (day - w < x.i ∧ x.i ≤ day)).map id := by
      rw [List.filter_map, List.map_id]
      rfl
    rw [e1]
    unfold k0_ulaw_inside
    refine comp_pure (ds := days.map D.int) (fun x => decide (day - w < x.i ∧ x.i ≤ day)) id (by simp [fnF, sSeq, sIf, asTest, op1, op2, opN, opV, M.bnd, M.ret, M.opt, Arg.ev, rs, rss, Slot.rd, Slot.arg, Slot.has, evs, sV, sAsg, sNx, var, gN, gTu, gCo, gNi, Slot.isOwn, vAnd, vOr, vNot, vIf, bAnd, bOr, bNot, chain, chC, chL, callF, callV_1, callV_2, callV_3, callV_4, sz1, sz2, sz3, sz4, sz5, sz6, sz7, sz8, sz9, sz10, sz11, sz12, dvs, D.ix, L2.atI, ixN, D.cmpI, D.toI, D.mod, D.fdiv, D.add, D.sub, D.mul, D.pow, D.neg, D.len, D.mkL, D.mkT, D.isN, D.notN, isiB, isi2, D.is, D.tn, D.eq, D.ne, D.sc, D.eqb, sPut, sFor, forL, seqM, srcN, D.rng1, D.rng2, D.enum]) (by simp [ownAt, Slot.isOwn]) fun x hx => ?_
    obtain ⟨y, _, rfl⟩ := List.mem_map.mp hx
    refine ⟨[.val (.lst (days.map D.int)), .val (.int m), .val (.int w), .val (.int day), .val (.int y)], by simp [wipeE, fnF, sSeq, sIf, asTest, op1, op2, opN, opV, M.bnd, M.ret, M.opt, Arg.ev, rs, rss, Slot.rd, Slot.arg, Slot.has, evs, sV, sAsg, sNx, var, gN, gTu, gCo, gNi, Slot.isOwn, vAnd, vOr, vNot, vIf, bAnd, bOr, bNot, chain, chC, chL, callF, callV_1, callV_2, callV_3, callV_4, sz1, sz2, sz3, sz4, sz5, sz6, sz7, sz8, sz9, sz10, sz11, sz12, dvs, D.ix, L2.atI, ixN, D.cmpI, D.toI, D.mod, D.fdiv, D.add, D.sub, D.mul, D.pow, D.neg, D.len, D.mkL, D.mkT, D.isN, D.notN, isiB, isi2, D.is, D.tn, D.eq, D.ne, D.sc, D.eqb, sPut, sFor, forL, seqM, srcN, D.rng1, D.rng2, D.enum], ?_, fun _ => by simp [fnF, sSeq, sIf, asTest, op1, op2, opN, opV, M.bnd, M.ret, M.opt, Arg.ev, rs, rss, Slot.rd, Slot.arg, Slot.has, evs, sV, sAsg, sNx, var, gN, gTu, gCo, gNi, Slot.isOwn, vAnd, vOr, vNot, vIf, bAnd, bOr, bNot, chain, chC, chL, callF, callV_1, callV_2, callV_3, callV_4, sz1, sz2, sz3, sz4, sz5, sz6, sz7, sz8, sz9, sz10, sz11, sz12, dvs, D.ix, L2.atI, ixN, D.cmpI, D.toI, D.mod, D.fdiv, D.add, D.sub, D.mul, D.pow, D.neg, D.len, D.mkL, D.mkT, D.isN, D.notN, isiB, isi2, D.is, D.tn, D.eq, D.ne, D.sc, D.eqb, sPut, sFor, forL, seqM, srcN, D.rng1, D.rng2, D.enum], by simp [ownAt, Slot.isOwn], by simp [wipeE]⟩
    by_cases h1 : day - w < y <;> by_cases h2 : y ≤ day <;> simp [D.i, h1, h2, fnF, sSeq, sIf, asTest, op1, op2, opN, opV, M.bnd, M.ret, M.opt, Arg.ev, rs, rss, Slot.rd, Slot.arg, Slot.has, evs, sV, sAsg, sNx, var, gN, gTu, gCo, gNi, Slot.isOwn, vAnd, vOr, vNot, vIf, bAnd, bOr, bNot, chain, chC, chL, callF, callV_1, callV_2, callV_3, callV_4, sz1, sz2, sz3, sz4, sz5, sz6, sz7, sz8, sz9, sz10, sz11, sz12, dvs, D.ix, L2.atI, ixN, D.cmpI, D.toI, D.mod, D.fdiv, D.add, D.sub, D.mul, D.pow, D.neg, D.len, D.mkL, D.mkT, D.isN, D.notN, isiB, isi2, D.is, D.tn, D.eq, D.ne, D.sc, D.eqb, sPut, sFor, forL, seqM, srcN, D.rng1, D.rng2, D.enum]
  unfold cntI
  generalize days.filter (fun x => decide (day - w < x ∧ x ≤ day)) = R at hc ⊢
  simp [f_ulaw_inside, m_ulaw_inside, hc, fnF, sSeq, sIf, asTest, op1, op2, opN, opV, M.bnd, M.ret, M.opt, Arg.ev, rs, rss, Slot.rd, Slot.arg, Slot.has, evs, sV, sAsg, sNx, var, gN, gTu, gCo, gNi, Slot.isOwn, vAnd, vOr, vNot, vIf, bAnd, bOr, bNot, chain, chC, chL, callF, callV_1, callV_2, callV_3, callV_4, sz1, sz2, sz3, sz4, sz5, sz6, sz7, sz8, sz9, sz10, sz11, sz12, dvs, D.ix, L2.atI, ixN, D.cmpI, D.toI, D.mod, D.fdiv, D.add, D.sub, D.mul, D.pow, D.neg, D.len, D.mkL, D.mkT, D.isN, D.notN, isiB, isi2, D.is, D.tn, D.eq, D.ne, D.sc, D.eqb, sPut]
end DL
namespace DL
open PySem L2
theorem eq_nil : D.eq (.lst []) (.lst []) = some (.bl true) := rfl
theorem alike_seq {n : Nat} {d : D} {l : List D} (hd : RowD d l) (hk : k0_ulaw_alike (f_ulaw_alike n) [.val d, .val d, .no] = .ok (.lst []) [.val d, .val d, .no]) : m_ulaw_alike (f_ulaw_alike n) [.val d, .val d, .no] = .rt (.bl true) [.val d, .val d, .no] := by
  have t1 : asTest (op1 (isi2 .tuple .list) (.o 1)) [.val d, .val d, .no] = .ok true [.val d, .val d, .no] := by
    clear hk
    rcases hd with rfl | rfl <;> simp [fnF, sSeq, sIf, asTest, op1, op2, opN, opV, M.bnd, M.ret, M.opt, Arg.ev, rs, rss, Slot.rd, Slot.arg, Slot.has, evs, sV, sAsg, sNx, var, gN, gTu, gCo, gNi, Slot.isOwn, vAnd, vOr, vNot, vIf, bAnd, bOr, bNot, chain, chC, chL, callF, callV_1, callV_2, callV_3, callV_4, sz1, sz2, sz3, sz4, sz5, sz6, sz7, sz8, sz9, sz10, sz11, sz12, dvs, D.ix, L2.atI, ixN, D.cmpI, D.toI, D.mod, D.fdiv, D.add, D.sub, D.mul, D.pow, D.neg, D.len, D.mkL, D.mkT, D.isN, D.notN, isiB, isi2, D.is, D.tn, D.eq, D.ne, D.sc, D.eqb, sPut, sFor, forL, seqM, srcN, D.rng1, D.rng2, D.enum]
  have t2 : bOr (bNot (asTest (op1 (isi2 .tuple .list) (.o 0)))) (asTest (op2 D.ne (.v (op1 (isiB .list) (.o 0))) (.v (op1 (isiB .list) (.o 1))))) [.val d, .val d, .no] = .ok false [.val d, .val d, .no] := by
    clear hk
    rcases hd with rfl | rfl <;> simp [fnF, sSeq, sIf, asTest, op1, op2, opN, opV, M.bnd, M.ret, M.opt, Arg.ev, rs, rss, Slot.rd, Slot.arg, Slot.has, evs, sV, sAsg, sNx, var, gN, gTu, gCo, gNi, Slot.isOwn, vAnd, vOr, vNot, vIf, bAnd, bOr, bNot, chain, chC, chL, callF, callV_1, callV_2, callV_3, callV_4, sz1, sz2, sz3, sz4, sz5, sz6, sz7, sz8, sz9, sz10, sz11, sz12, dvs, D.ix, L2.atI, ixN, D.cmpI, D.toI, D.mod, D.fdiv, D.add, D.sub, D.mul, D.pow, D.neg, D.len, D.mkL, D.mkT, D.isN, D.notN, isiB, isi2, D.is, D.tn, D.eq, D.ne, D.sc, D.eqb, sPut, sFor, forL, seqM, srcN, D.rng1, D.rng2, D.enum]
  have t3 : asTest (op2 D.ne (.v (opN D.len [(.o 0)])) (.v (opN D.len [(.o 1)]))) [.val d, .val d, .no] = .ok false [.val d, .val d, .no] := by
    clear hk
    rcases hd with rfl | rfl <;> simp [fnF, sSeq, sIf, asTest, op1, op2, opN, opV, M.bnd, M.ret, M.opt, Arg.ev, rs, rss, Slot.rd, Slot.arg, Slot.has, evs, sV, sAsg, sNx, var, gN, gTu, gCo, gNi, Slot.isOwn, vAnd, vOr, vNot, vIf, bAnd, bOr, bNot, chain, chC, chL, callF, callV_1, callV_2, callV_3, callV_4, sz1, sz2, sz3, sz4, sz5, sz6, sz7, sz8, sz9, sz10, sz11, sz12, dvs, D.ix, L2.atI, ixN, D.cmpI, D.toI, D.mod, D.fdiv, D.add, D.sub, D.mul, D.pow, D.neg, D.len, D.mkL, D.mkT, D.isN, D.notN, isiB, isi2, D.is, D.tn, D.eq, D.ne, D.sc, D.eqb, sPut, sFor, forL, seqM, srcN, D.rng1, D.rng2, D.enum]
  have t4 : op2 D.eq (.v (k0_ulaw_alike (f_ulaw_alike n))) (.v (opV D.mkL [])) [.val d, .val d, .no] = .ok (.bl true) [.val d, .val d, .no] := by
    have e1 : (Arg.v (k0_ulaw_alike (f_ulaw_alike n))).ev [.val d, .val d, .no] = .ok (.d (.lst [])) [.val d, .val d, .no] := by
      show M.bnd (k0_ulaw_alike (f_ulaw_alike n)) (fun d => M.ret (AV.d d)) _ = _
      rw [bnd_ok hk]
      rfl
    have e2 : (Arg.v (opV D.mkL [])).ev [.val d, .val d, .no] = .ok (.d (.lst [])) [.val d, .val d, .no] := rfl
    unfold op2
    rw [bnd_ok e1, bnd_ok e2]
    rfl
  unfold m_ulaw_alike
  simp only [sSeq, sIf, t1, t2, t3, sNx, sV, t4]
theorem alike_self : ∀ (n : Nat) (d : D), okD n d = true → f_ulaw_alike n [.val d, .val d] = .ok (.bl true) [.val d, .val d] := by
  intro n
  induction n with
  | zero => intro d h; cases d <;> cases h
  | succ n ih =>
    intro d h
    have e0 : f_ulaw_alike (n + 1) = fnF 2 1 (m_ulaw_alike (f_ulaw_alike n)) := rfl
    have fin : m_ulaw_alike (f_ulaw_alike n) [.val d, .val d, .no] = .rt (.bl true) [.val d, .val d, .no] → f_ulaw_alike (n + 1) [.val d, .val d] = .ok (.bl true) [.val d, .val d] := fun q => by
      rw [e0]
      unfold fnF
      rw [if_pos ⟨rfl, rfl⟩]
      show (match m_ulaw_alike (f_ulaw_alike n) [.val d, .val d, .no] with
        | .rt d ρ => FOut.ok d (ρ.take 2)
        | .nx ρ => .ok .non (ρ.take 2)
        | .exc e ρ => .exc e (ρ.take 2)
        | _ => .bad) = _
      rw [q]
      rfl
    apply fin
    cases d with
    | int i => simp [m_ulaw_alike, fnF, sSeq, sIf, asTest, op1, op2, opN, opV, M.bnd, M.ret, M.opt, Arg.ev, rs, rss, Slot.rd, Slot.arg, Slot.has, evs, sV, sAsg, sNx, var, gN, gTu, gCo, gNi, Slot.isOwn, vAnd, vOr, vNot, vIf, bAnd, bOr, bNot, chain, chC, chL, callF, callV_1, callV_2, callV_3, callV_4, sz1, sz2, sz3, sz4, sz5, sz6, sz7, sz8, sz9, sz10, sz11, sz12, dvs, D.ix, L2.atI, ixN, D.cmpI, D.toI, D.mod, D.fdiv, D.add, D.sub, D.mul, D.pow, D.neg, D.len, D.mkL, D.mkT, D.isN, D.notN, isiB, isi2, D.is, D.tn, D.eq, D.ne, D.sc, D.eqb, sPut, sFor, forL, seqM, srcN, D.rng1, D.rng2, D.enum]
    | bl i => cases i <;> simp [m_ulaw_alike, fnF, sSeq, sIf, asTest, op1, op2, opN, opV, M.bnd, M.ret, M.opt, Arg.ev, rs, rss, Slot.rd, Slot.arg, Slot.has, evs, sV, sAsg, sNx, var, gN, gTu, gCo, gNi, Slot.isOwn, vAnd, vOr, vNot, vIf, bAnd, bOr, bNot, chain, chC, chL, callF, callV_1, callV_2, callV_3, callV_4, sz1, sz2, sz3, sz4, sz5, sz6, sz7, sz8, sz9, sz10, sz11, sz12, dvs, D.ix, L2.atI, ixN, D.cmpI, D.toI, D.mod, D.fdiv, D.add, D.sub, D.mul, D.pow, D.neg, D.len, D.mkL, D.mkT, D.isN, D.notN, isiB, isi2, D.is, D.tn, D.eq, D.ne, D.sc, D.eqb, sPut, sFor, forL, seqM, srcN, D.rng1, D.rng2, D.enum]
    | non => simp [m_ulaw_alike, fnF, sSeq, sIf, asTest, op1, op2, opN, opV, M.bnd, M.ret, M.opt, Arg.ev, rs, rss, Slot.rd, Slot.arg, Slot.has, evs, sV, sAsg, sNx, var, gN, gTu, gCo, gNi, Slot.isOwn, vAnd, vOr, vNot, vIf, bAnd, bOr, bNot, chain, chC, chL, callF, callV_1, callV_2, callV_3, callV_4, sz1, sz2, sz3, sz4, sz5, sz6, sz7, sz8, sz9, sz10, sz11, sz12, dvs, D.ix, L2.atI, ixN, D.cmpI, D.toI, D.mod, D.fdiv, D.add, D.sub, D.mul, D.pow, D.neg, D.len, D.mkL, D.mkT, D.isN, D.notN, isiB, isi2, D.is, D.tn, D.eq, D.ne, D.sc, D.eqb, sPut, sFor, forL, seqM, srcN, D.rng1, D.rng2, D.enum]
    | str s => simp [m_ulaw_alike, fnF, sSeq, sIf, asTest, op1, op2, opN, opV, M.bnd, M.ret, M.opt, Arg.ev, rs, rss, Slot.rd, Slot.arg, Slot.has, evs, sV, sAsg, sNx, var, gN, gTu, gCo, gNi, Slot.isOwn, vAnd, vOr, vNot, vIf, bAnd, bOr, bNot, chain, chC, chL, callF, callV_1, callV_2, callV_3, callV_4, sz1, sz2, sz3, sz4, sz5, sz6, sz7, sz8, sz9, sz10, sz11, sz12, dvs, D.ix, L2.atI, ixN, D.cmpI, D.toI, D.mod, D.fdiv, D.add, D.sub, D.mul, D.pow, D.neg, D.len, D.mkL, D.mkT, D.isN, D.notN, isiB, isi2, D.is, D.tn, D.eq, D.ne, D.sc, D.eqb, sPut, sFor, forL, seqM, srcN, D.rng1, D.rng2, D.enum]
    | tup l =>
      obtain ⟨h1, h2⟩ := Bool.and_eq_true_iff.mp (show (l.all (okD n) && decide (l.length ≤ sizeLine)) = true from h)
      exact alike_seq (.inr rfl) (alike_row (.inr rfl) (of_decide_eq_true h2) fun x hx => ih x (List.all_eq_true.mp h1 x hx))
    | lst l =>
      obtain ⟨h1, h2⟩ := Bool.and_eq_true_iff.mp (show (l.all (okD n) && decide (l.length ≤ sizeLine)) = true from h)
      exact alike_seq (.inl rfl) (alike_row (.inl rfl) (of_decide_eq_true h2) fun x hx => ih x (List.all_eq_true.mp h1 x hx))
    | obj c ns l => cases h
    | fn c => cases h
    | scr l => cases h
end DL
namespace DL
open PySem L2
theorem callV_o1 {φ : Fn} {i : Nat} {a : D} {ρ : Ev} {l : List D} (h : ρ[i]? = some (.own l)) : callV φ [.o i, .d a] ρ = match φ [.own l, .val a] with
    | .ok d (t :: _ :: _) => if t.isOwn = true then .ok d (ρ.set i t) else .bad
    | .exc e (t :: _ :: _) => if t.isOwn = true then .exc e (ρ.set i t) else .bad
    | _ => .bad := by
  unfold callV
  have io : (Slot.own l).isOwn = true := rfl
  have e1 : slotsOf [.o i, .d a] ρ = some [.own l, .val a] := by simp [slotsOf, h, Slot.arg]
  have e2 : ownIx [.o i, .d a] ρ = [i] := by simp [ownIx, h, Slot.isOwn]
  rw [e1, e2]
  dsimp only
  rw [if_pos (by simp)]
  have e3 : ∀ (t u : Slot) (os : List Slot), upsOf [.o i, .d a] (t :: u :: os) ρ = if t.isOwn = true then some [(i, t)] else none := fun t u os => by
    cases ht : t.isOwn <;> simp [upsOf, h, io, ht]
  cases φ [.own l, .val a] with
  | bad => rfl
  | ok d os =>
    rcases os with _ | ⟨t, _ | ⟨u, os⟩⟩
    · simp [upsOf]
    · cases ht : t.isOwn <;> simp [upsOf, h, io, ht]
    · dsimp only
      rw [e3]
      cases ht : t.isOwn <;> simp [updE]
  | exc e os =>
    rcases os with _ | ⟨t, _ | ⟨u, os⟩⟩
    · simp [upsOf]
    · cases ht : t.isOwn <;> simp [upsOf, h, io, ht]
    · dsimp only
      rw [e3]
      cases ht : t.isOwn <;> simp [updE]
theorem evs_o1 {i : Nat} {m : M D} {a : D} {ρ : Ev} {l : List D} (h : ρ[i]? = some (.own l)) (hm : m ρ = .ok a ρ) : evs [.o i, .v m] ρ = .ok [.o i, .d a] ρ := by
  have e1 : (Arg.o i).ev ρ = .ok (.o i) ρ := by
    show (match ρ[i]? with
      | some s => if s.has then Out.ok (AV.o i) ρ else .bad
      | none => .bad) = _
    rw [h]
    rfl
  have e2 : evs [.v m] ρ = .ok [.d a] ρ := by
    show M.bnd (M.bnd m fun d => M.ret (AV.d d)) (fun x => M.bnd (M.ret []) fun xs => M.ret (x :: xs)) ρ = _
    rw [bnd_ok (a := AV.d a) (ρ' := ρ) (by rw [bnd_ok hm]; rfl)]
    rfl
  show M.bnd (Arg.o i).ev (fun x => M.bnd (evs [.v m]) fun xs => M.ret (x :: xs)) ρ = _
  rw [bnd_ok e1, bnd_ok e2]
  rfl
/-- a draw -/
theorem draw {i : Nat} {m : M D} {k : Int} {ρ : Ev} {l : List D} (h : ρ[i]? = some (.own l)) (hl : RowOk l) (hm : m ρ = .ok (.int k) ρ) (hk : 0 < k) (hk2 : k < 1073741824) :
    ∃ r l', callF f_ulaw_taken [.o i, .v m] ρ = .ok (.int r) (ρ.set i (.own l')) ∧ 0 ≤ r ∧ r < k ∧ RowOk l' := by
  obtain ⟨r, l', e, h1, h2, h3⟩ := taken_ok hl hk hk2
  refine ⟨r, l', ?_, h1, h2, h3⟩
  unfold callF
  rw [bnd_ok (evs_o1 h hm), callV_o1 h, e]
  rfl
/-- a drawn list or tuple -/
theorem mixed_ok {l ds : List D} {d : D} (hl : RowOk l) (hd : RowD d ds) (hz : ds.length ≤ sizeLine) : ∃ d' l', f_ulaw_mixed [.own l, .val d] = .ok d' [.own l', .val d] ∧ RowD d' ds ∧ RowOk l' := by
  obtain ⟨r, l', e, h1, h2, h3⟩ := draw (i := 0) (m := M.ret (.int 2)) (ρ := [.own l, .val d]) rfl hl rfl (by omega) (by omega)
  have e2 : asTest (op2 D.eq (.v (callF f_ulaw_taken [.o 0, .v (M.ret (.int 2))])) (.v (M.ret (.int 0)))) [.own l, .val d] = .ok (decide (r = 0)) [.own l', .val d] := by
    have e1 : (Arg.v (callF f_ulaw_taken [.o 0, .v (M.ret (.int 2))])).ev [.own l, .val d] = .ok (.d (.int r)) [.own l', .val d] := by
      show M.bnd _ (fun d => M.ret (AV.d d)) _ = _
      rw [bnd_ok e]
      rfl
    unfold asTest op2
    rw [bnd_ok (a := .bl (decide (r = 0))) (ρ' := [.own l', .val d])]
    rw [bnd_ok e1]
    by_cases hr : r = 0 <;> simp [hr, fnF, sSeq, sIf, asTest, op1, op2, opN, opV, M.bnd, M.ret, M.opt, Arg.ev, rs, rss, Slot.rd, Slot.arg, Slot.has, evs, sV, sAsg, sNx, var, gN, gTu, gCo, gNi, Slot.isOwn, vAnd, vOr, vNot, vIf, bAnd, bOr, bNot, chain, chC, chL, callF, callV_1, callV_2, callV_3, callV_4, sz1, sz2, sz3, sz4, sz5, sz6, sz7, sz8, sz9, sz10, sz11, sz12, dvs, D.ix, L2.atI, ixN, D.cmpI, D.toI, D.mod, D.fdiv, D.add, D.sub, D.mul, D.pow, D.neg, D.len, D.mkL, D.mkT, D.isN, D.notN, isiB, isi2, D.is, D.tn, D.eq, D.ne, D.sc, D.eqb, sPut]
  by_cases hr : r = 0
  · refine ⟨.lst ds, l', ?_, .inl rfl, h3⟩
    rcases hd with rfl | rfl <;> simp [f_ulaw_mixed, m_ulaw_mixed, fnF, Slot.arg, sSeq, sIf, e2, hr, sV, opN, M.bnd, evs, Arg.ev, M.ret, Slot.has, rss, rs, Slot.rd, D.toL, hz]
  · refine ⟨.tup ds, l', ?_, .inr rfl, h3⟩
    rcases hd with rfl | rfl <;> simp [f_ulaw_mixed, m_ulaw_mixed, fnF, Slot.arg, sSeq, sIf, e2, hr, sV, opN, M.bnd, evs, Arg.ev, M.ret, Slot.has, rss, rs, Slot.rd, D.toT, hz, sNx]
end DL
namespace DL
open PySem L2
def overL (m w : Int) (days : List Int) : List Int := days.filter fun x => decide (m < (cntI w days x : Int))
theorem depth_ints (l : List Int) : (PyData.list (l.map PyData.int)).depth ≤ 64 := by
  have h : PyData.depthAll (l.map PyData.int) ≤ 1 := by
    induction l with
    | nil => simp [PyData.depthAll]
    | cons y l ih =>
      have e : PyData.depth (.int y) ≤ 1 := by simp [PyData.depth]
      show max (PyData.depth (.int y)) (PyData.depthAll (l.map PyData.int)) ≤ 1
      omega
  show PyData.depthAll (l.map PyData.int) + 1 ≤ 64
  omega
theorem eq_lst_nil (l : List Int) : D.eq (.lst (l.map D.int)) (.lst []) = some (.bl (decide (l = []))) := by
  cases l with
  | nil => rfl
  | cons x l =>
    have h1 : ∀ l : List Int, D.toPs (l.map D.int) = some (l.map PyData.int) := fun l => by
      induction l with
      | nil => rfl
      | cons y l ih =>
        show (some (PyData.int y)).bind (fun p => (D.toPs (l.map D.int)).map fun ps => p :: ps) = _
        rw [ih]
        rfl
    have h2 : ∀ l : List Int, PyData.canLayAll0 (l.map PyData.int) = true := fun l => by
      induction l with
      | nil => rfl
      | cons y l ih =>
        show (true && PyData.canLayAll0 (l.map PyData.int)) = true
        rw [ih]
        rfl
    have h3 : ∀ l : List Int, (PyData.list (l.map PyData.int)).depth ≤ 64 := fun l => depth_ints l
    have h4 : (D.lst ((x :: l).map D.int)).sh = true := by
      unfold D.sh
      have e : (D.lst ((x :: l).map D.int)).toP = some (.list ((x :: l).map PyData.int)) := by
        show (D.toPs ((x :: l).map D.int)).map PyData.list = _
        rw [h1]
        rfl
      rw [e]
      show (PyData.canLayAll0 ((x :: l).map PyData.int) && decide (_ ≤ 64)) = true
      rw [h2, decide_eq_true (h3 (x :: l))]
      rfl
    unfold D.eq
    rw [h4, sh_nil]
    rfl
theorem lawful_comp {m w : Int} {days : List Int} : k0_ulaw_lawful [.val (.lst (days.map D.int)), .val (.int m), .val (.int w), .no] = .ok (.lst ((overL m w days).map D.int)) [.val (.lst (days.map D.int)), .val (.int m), .val (.int w), .no] := by
  have e1 : (overL m w days).map D.int = ((days.map D.int).filter fun x => decide (m < (cntI w days x.i : Int))).map id := by
    unfold overL
    rw [List.filter_map, List.map_id]
    rfl
  rw [e1]
  unfold k0_ulaw_lawful
  refine comp_pure (ds := days.map D.int) (fun x => decide (m < (cntI w days x.i : Int))) id (by simp [fnF, sSeq, sIf, asTest, op1, op2, opN, opV, M.bnd, M.ret, M.opt, Arg.ev, rs, rss, Slot.rd, Slot.arg, Slot.has, evs, sV, sAsg, sNx, var, gN, gTu, gCo, gNi, Slot.isOwn, vAnd, vOr, vNot, vIf, bAnd, bOr, bNot, chain, chC, chL, callF, callV_1, callV_2, callV_3, callV_4, sz1, sz2, sz3, sz4, sz5, sz6, sz7, sz8, sz9, sz10, sz11, sz12, dvs, D.ix, L2.atI, ixN, D.cmpI, D.toI, D.mod, D.fdiv, D.add, D.sub, D.mul, D.pow, D.neg, D.len, D.mkL, D.mkT, D.isN, D.notN, isiB, isi2, D.is, D.tn, D.eq, D.ne, D.sc, D.eqb, sPut, sFor, forL, seqM, srcN, D.rng1, D.rng2, D.enum]) (by simp [ownAt, Slot.isOwn]) fun x hx => ?_
  obtain ⟨y, _, rfl⟩ := List.mem_map.mp hx
  have hi := li_ok (m := m) (w := w) (day := y) (days := days)
  refine ⟨[.val (.lst (days.map D.int)), .val (.int m), .val (.int w), .val (.int y)], by simp [wipeE, fnF, sSeq, sIf, asTest, op1, op2, opN, opV, M.bnd, M.ret, M.opt, Arg.ev, rs, rss, Slot.rd, Slot.arg, Slot.has, evs, sV, sAsg, sNx, var, gN, gTu, gCo, gNi, Slot.isOwn, vAnd, vOr, vNot, vIf, bAnd, bOr, bNot, chain, chC, chL, callF, callV_1, callV_2, callV_3, callV_4, sz1, sz2, sz3, sz4, sz5, sz6, sz7, sz8, sz9, sz10, sz11, sz12, dvs, D.ix, L2.atI, ixN, D.cmpI, D.toI, D.mod, D.fdiv, D.add, D.sub, D.mul, D.pow, D.neg, D.len, D.mkL, D.mkT, D.isN, D.notN, isiB, isi2, D.is, D.tn, D.eq, D.ne, D.sc, D.eqb, sPut, sFor, forL, seqM, srcN, D.rng1, D.rng2, D.enum], ?_, fun _ => by simp [fnF, sSeq, sIf, asTest, op1, op2, opN, opV, M.bnd, M.ret, M.opt, Arg.ev, rs, rss, Slot.rd, Slot.arg, Slot.has, evs, sV, sAsg, sNx, var, gN, gTu, gCo, gNi, Slot.isOwn, vAnd, vOr, vNot, vIf, bAnd, bOr, bNot, chain, chC, chL, callF, callV_1, callV_2, callV_3, callV_4, sz1, sz2, sz3, sz4, sz5, sz6, sz7, sz8, sz9, sz10, sz11, sz12, dvs, D.ix, L2.atI, ixN, D.cmpI, D.toI, D.mod, D.fdiv, D.add, D.sub, D.mul, D.pow, D.neg, D.len, D.mkL, D.mkT, D.isN, D.notN, isiB, isi2, D.is, D.tn, D.eq, D.ne, D.sc, D.eqb, sPut, sFor, forL, seqM, srcN, D.rng1, D.rng2, D.enum], by simp [ownAt, Slot.isOwn], by simp [wipeE]⟩
  by_cases h1 : m < (cntI w days y : Int) <;> simp [D.i, hi, h1, fnF, sSeq, sIf, asTest, op1, op2, opN, opV, M.bnd, M.ret, M.opt, Arg.ev, rs, rss, Slot.rd, Slot.arg, Slot.has, evs, sV, sAsg, sNx, var, gN, gTu, gCo, gNi, Slot.isOwn, vAnd, vOr, vNot, vIf, bAnd, bOr, bNot, chain, chC, chL, callF, callV_1, callV_2, callV_3, callV_4, sz1, sz2, sz3, sz4, sz5, sz6, sz7, sz8, sz9, sz10, sz11, sz12, dvs, D.ix, L2.atI, ixN, D.cmpI, D.toI, D.mod, D.fdiv, D.add, D.sub, D.mul, D.pow, D.neg, D.len, D.mkL, D.mkT, D.isN, D.notN, isiB, isi2, D.is, D.tn, D.eq, D.ne, D.sc, D.eqb, sPut, sFor, forL, seqM, srcN, D.rng1, D.rng2, D.enum]
end DL
namespace DL
open PySem L2
theorem op2_vv {f : D → D → Option D} {m1 m2 : M D} {a b c : D} {ρ ρ1 ρ2 : Ev} (ha : m1 ρ = .ok a ρ1) (hb : m2 ρ1 = .ok b ρ2) (hf : f a b = some c) : op2 f (.v m1) (.v m2) ρ = .ok c ρ2 := by
  have e1 : (Arg.v m1).ev ρ = .ok (.d a) ρ1 := by
    show M.bnd m1 (fun d => M.ret (AV.d d)) ρ = _
    rw [bnd_ok ha]
    rfl
  have e2 : (Arg.v m2).ev ρ1 = .ok (.d b) ρ2 := by
    show M.bnd m2 (fun d => M.ret (AV.d d)) ρ1 = _
    rw [bnd_ok hb]
    rfl
  unfold op2
  rw [bnd_ok e1, bnd_ok e2]
  show (match f a b with
    | some r => Out.ok r ρ2
    | none => .bad) = _
  rw [hf]
theorem op2_ov {f : D → D → Option D} {m : M D} {i : Nat} {s : Slot} {a b c : D} {ρ ρ1 : Ev} (h : ρ[i]? = some s) (hh : s.has = true) (hb : m ρ = .ok b ρ1) (ha : rs (.o i) ρ1 = some a) (hf : f a b = some c) : op2 f (.o i) (.v m) ρ = .ok c ρ1 := by
  have e1 : (Arg.o i).ev ρ = .ok (.o i) ρ := by
    show (match ρ[i]? with
      | some s => if s.has then Out.ok (AV.o i) ρ else .bad
      | none => .bad) = _
    rw [h]
    dsimp only
    rw [if_pos hh]
  have e2 : (Arg.v m).ev ρ = .ok (.d b) ρ1 := by
    show M.bnd m (fun d => M.ret (AV.d d)) ρ = _
    rw [bnd_ok hb]
    rfl
  unfold op2
  rw [bnd_ok e1, bnd_ok e2]
  show (match (rs (.o i) ρ1).bind fun p => (some b).bind fun q => f p q with
    | some r => Out.ok r ρ1
    | none => .bad) = _
  rw [ha]
  show (match f a b with
    | some r => Out.ok r ρ1
    | none => .bad) = _
  rw [hf]
theorem lawful_ok {m w : Int} {days : List Int} : f_ulaw_lawful [.val (.lst (days.map D.int)), .val (.int m), .val (.int w)] = .ok (.bl (decide (overL m w days = []))) [.val (.lst (days.map D.int)), .val (.int m), .val (.int w)] := by
  have e : op2 D.eq (.v k0_ulaw_lawful) (.v (opV D.mkL [])) [.val (.lst (days.map D.int)), .val (.int m), .val (.int w), .no] = .ok (.bl (decide (overL m w days = []))) [.val (.lst (days.map D.int)), .val (.int m), .val (.int w), .no] :=
    op2_vv lawful_comp rfl (eq_lst_nil _)
  unfold f_ulaw_lawful fnF
  rw [if_pos ⟨rfl, rfl⟩]
  show (match m_ulaw_lawful [.val (.lst (days.map D.int)), .val (.int m), .val (.int w), .no] with
    | .rt d ρ => FOut.ok d (ρ.take 3)
    | .nx ρ => .ok .non (ρ.take 3)
    | .exc e ρ => .exc e (ρ.take 3)
    | _ => .bad) = _
  unfold m_ulaw_lawful sV
  rw [e]
  rfl
/-- all rows of numbers below n -/
def subs : Nat → List (List Int)
  | 0 => [[]]
  | n + 1 => subs n ++ (subs n).map fun l => l ++ [(n : Int)]
def lstI (l : List Int) : D := .lst (l.map D.int)
def unL : D → List D
  | .lst l => l
  | _ => []
theorem subs_len : ∀ n, (subs n).length = 2 ^ n
  | 0 => rfl
  | n + 1 => by simp [subs, subs_len n, Nat.pow_succ]; omega
theorem subs_row : ∀ n, ∀ l ∈ subs n, l.length ≤ n
  | 0, l, h => by simp [subs] at h; subst h; simp
  | n + 1, l, h => by
    rcases List.mem_append.mp h with h | h
    · exact Nat.le_succ_of_le (subs_row n l h)
    · obtain ⟨k, hk, rfl⟩ := List.mem_map.mp h
      have := subs_row n k hk
      simp
      exact this
end DL
namespace DL
open PySem L2
theorem subs_turn {n : D} {j : Nat} {s : Slot} (hj : j < 20) (hs : s.isOwn = false) : b2_ulaw_subsets [.val n, .val (.lst ((subs j).map lstI)), .val (.int j), s] = .nx [.val n, .val (.lst ((subs (j + 1)).map lstI)), .val (.int j), s] := by
  have hz : sizeLine = 16777216 := sizeLine_eq
  have hk : k1_ulaw_subsets [.val n, .val (.lst ((subs j).map lstI)), .val (.int j), s] = .ok (.lst ((((subs j).map lstI).filter fun _ => true).map fun d => .lst (unL d ++ [.int j]))) [.val n, .val (.lst ((subs j).map lstI)), .val (.int j), s] := by
    unfold k1_ulaw_subsets
    refine comp_pure (vs := [3]) (ρ := [.val n, .val (.lst ((subs j).map lstI)), .val (.int j), s]) (ds := (subs j).map lstI) (fun _ => true) (fun d => .lst (unL d ++ [.int j])) rfl (by simp [ownAt, hs]) fun x hx => ?_
    obtain ⟨l, hl, rfl⟩ := List.mem_map.mp hx
    have hlen := subs_row j l hl
    refine ⟨[.val n, .val (.lst ((subs j).map lstI)), .val (.int j), .val (lstI l)], rfl, rfl, fun _ => ?_, by simp [ownAt, Slot.isOwn], by simp [wipeE]⟩
    have e : D.add (lstI l) (.lst [.int j]) = some (.lst (unL (lstI l) ++ [.int j])) := by
      show (if (l.map D.int).length + 1 ≤ sizeLine then some (D.lst (l.map D.int ++ [.int (j : Int)])) else none) = _
      rw [if_pos (by rw [hz, List.length_map]; omega)]
      rfl
    have e2 : opV D.mkL [.v (var 2)] [.val n, .val (.lst ((subs j).map lstI)), .val (.int j), .val (lstI l)] = .ok (.lst [.int j]) [.val n, .val (.lst ((subs j).map lstI)), .val (.int j), .val (lstI l)] := by simp [fnF, sSeq, sIf, asTest, op1, op2, opN, opV, M.bnd, M.ret, M.opt, Arg.ev, rs, rss, Slot.rd, Slot.arg, Slot.has, evs, sV, sAsg, sNx, var, gN, gTu, gCo, gNi, Slot.isOwn, vAnd, vOr, vNot, vIf, bAnd, bOr, bNot, chain, chC, chL, callF, callV_1, callV_2, callV_3, callV_4, sz1, sz2, sz3, sz4, sz5, sz6, sz7, sz8, sz9, sz10, sz11, sz12, dvs, D.ix, L2.atI, ixN, D.cmpI, D.toI, D.mod, D.fdiv, D.add, D.sub, D.mul, D.pow, D.neg, D.len, D.mkL, D.mkT, D.isN, D.notN, isiB, isi2, D.is, D.tn, D.eq, D.ne, D.sc, D.eqb, sPut, sFor, forL, seqM, srcN, D.rng1, D.rng2, D.enum]
    exact op2_ov (s := .val (lstI l)) rfl rfl e2 rfl e
  have hft : ((subs j).map lstI).filter (fun _ => true) = (subs j).map lstI := List.filter_eq_self.mpr (by simp)
  have hm : ((subs j).map lstI).map (fun d => D.lst (unL d ++ [.int j])) = ((subs j).map fun l => l ++ [(j : Int)]).map lstI := by
    simp [lstI, unL]
  rw [hft, hm] at hk
  have hp : 2 ^ j ≤ 2 ^ 19 := Nat.pow_le_pow_right (by omega) (by omega)
  have e : D.add (.lst ((subs j).map lstI)) (.lst (((subs j).map fun l => l ++ [(j : Int)]).map lstI)) = some (.lst ((subs (j + 1)).map lstI)) := by
    show (if ((subs j).map lstI).length + (((subs j).map fun l => l ++ [(j : Int)]).map lstI).length ≤ sizeLine then some (D.lst ((subs j).map lstI ++ ((subs j).map fun l => l ++ [(j : Int)]).map lstI)) else none) = _
    rw [if_pos (by rw [hz, List.length_map, List.length_map, List.length_map, subs_len]; omega), ← List.map_append]
    rfl
  have e2 := op2_ov (i := 1) (s := .val (.lst ((subs j).map lstI))) (ρ := [.val n, .val (.lst ((subs j).map lstI)), .val (.int j), s]) rfl rfl hk rfl e
  unfold b2_ulaw_subsets sAsg sV
  rw [e2]
  rfl
end DL
namespace DL
open PySem L2
theorem fn_rt {n loc : Nat} {m : S} {as : List Slot} {d : D} {ρ : Ev} {os : List Slot} (h1 : as.length = n) (h2 : as.all Slot.arg = true) (hm : m (as ++ List.replicate loc .no) = .rt d ρ) (ho : ρ.take n = os) : fnF n loc m as = .ok d os := by
  unfold fnF
  rw [if_pos ⟨h1, h2⟩, hm, ← ho]
theorem seq_nx {a b : S} {ρ ρ1 : Ev} (h : a ρ = .nx ρ1) : sSeq a b ρ = b ρ1 := by
  unfold sSeq
  rw [h]
theorem for_ok {src : M (List D)} {t : D → Ev → Option Ev} {b : S} {ρ ρ1 : Ev} {ds : List D} (h : src ρ = .ok ds ρ1) : sFor src t b ρ = forL t b ds ρ1 := by
  unfold sFor
  rw [h]
theorem subs_loop {n : D} {s : Slot} (hs : s.isOwn = false) : ∀ (k j : Nat) (t : Slot), t.isOwn = false → j + k ≤ 20 → ∃ t', forL (gN 2) b2_ulaw_subsets ((List.range' j k).map fun x : Nat => D.int x) [.val n, .val (.lst ((subs j).map lstI)), t, s] = .nx [.val n, .val (.lst ((subs (j + k)).map lstI)), t', s] ∧ t'.isOwn = false
  | 0, j, t, ht, _ => ⟨t, rfl, ht⟩
  | k + 1, j, t, ht, hj => by
    have hb := subs_turn (n := n) (j := j) (s := s) (by omega) hs
    obtain ⟨t', h1, h2⟩ := subs_loop hs k (j + 1) (.val (.int j)) rfl (by omega)
    refine ⟨t', ?_, h2⟩
    rw [List.range'_succ, List.map_cons]
    unfold forL
    simp only [gN, ht, List.getElem?_cons_succ, List.getElem?_cons_zero, List.set_cons_succ, List.set_cons_zero, Bool.false_eq_true, if_false]
    rw [hb]
    dsimp only
    rw [h1, show j + 1 + k = j + (k + 1) by omega]
theorem rng1_nat {n : Nat} (hz : n ≤ 16777216) : D.rng1 [.int (n : Int)] = some ((List.range' 0 n).map fun x : Nat => D.int x) := by
  have e1 := rngOk_nat (n := n) hz
  have h2 : ((n : Int) - 0).toNat = n := by simp
  have e2 : rng 0 (n : Int) = (List.range' 0 n).map fun x : Nat => D.int x := by
    unfold rng
    rw [List.range_eq_range']
    simp
  have hs : n ≤ sizeLine := Nat.le_trans hz (Nat.le_of_eq sizeLine_eq.symm)
  rw [← e2]
  show (if D.rngOk 0 (n : Int) = true ∧ ((n : Int) - 0).toNat ≤ sizeLine then some (rng 0 (n : Int)) else none) = _
  exact if_pos ⟨e1, by rw [h2]; exact hs⟩
theorem subs_h0 {n : Nat} : sAsg (opV D.mkL [.v (opV D.mkL [])]) (gN 1) [.val (.int n), .no, .no, .no] = .nx [.val (.int n), .val (.lst ((subs 0).map lstI)), .no, .no] := by
  have e : D.mkL [] = some (.lst []) := if_pos (Nat.zero_le _)
  have e2 : D.mkL [.lst []] = some (.lst [.lst []]) := if_pos (Eq.mpr sz1 trivial)
  have e3 : opV D.mkL [] [.val (.int n), .no, .no, .no] = .ok (.lst []) [.val (.int n), .no, .no, .no] := by
    show (match (some ([] : List D)).bind D.mkL with
      | some r => Out.ok r _
      | none => Out.bad) = _
    show (match D.mkL [] with
      | some r => Out.ok r _
      | none => Out.bad) = _
    rw [e]
  have e4 : opV D.mkL [.v (opV D.mkL [])] [.val (.int n), .no, .no, .no] = .ok (.lst [.lst []]) [.val (.int n), .no, .no, .no] := by
    have : evs [.v (opV D.mkL [])] [.val (.int n), .no, .no, .no] = .ok [.d (.lst [])] [.val (.int n), .no, .no, .no] := by
      show M.bnd (M.bnd (opV D.mkL []) fun d => M.ret (AV.d d)) (fun x => M.bnd (M.ret []) fun xs => M.ret (x :: xs)) _ = _
      rw [bnd_ok (a := AV.d (.lst [])) (ρ' := [.val (.int n), .no, .no, .no]) (by rw [bnd_ok e3]; rfl)]
      rfl
    unfold opV at this ⊢
    rw [bnd_ok this]
    show (match D.mkL [.lst []] with
      | some r => Out.ok r _
      | none => Out.bad) = _
    rw [e2]
  unfold sAsg sV
  rw [e4]
  rfl
theorem subs_hl {n : Nat} (hn : n ≤ 20) : ∃ t', l3_ulaw_subsets [.val (.int n), .val (.lst ((subs 0).map lstI)), .no, .no] = .nx [.val (.int n), .val (.lst ((subs n).map lstI)), t', .no] := by
  obtain ⟨t', h1, _⟩ := subs_loop (n := .int n) (s := .no) rfl n 0 .no rfl (by omega)
  have hr := rng1_nat (n := n) (by omega)
  rw [Nat.zero_add] at h1
  have hs := src1 (m := var 0) (ρ := [.val (.int n), .val (.lst ((subs 0).map lstI)), .no, .no]) (d := .int (n : Int)) rfl hr
  clear hr
  generalize (List.range' 0 n).map (fun x : Nat => D.int x) = L at h1 hs
  exact ⟨t', (for_ok hs).trans h1⟩
theorem subsets_ok {n : Nat} (hn : n ≤ 20) : f_ulaw_subsets [.val (.int n)] = .ok (.lst ((subs n).map lstI)) [.val (.int n)] := by
  obtain ⟨t', hl⟩ := subs_hl hn
  have hm2 : m_ulaw_subsets [.val (.int n), .no, .no, .no] = .rt (.lst ((subs n).map lstI)) [.val (.int n), .val (.lst ((subs n).map lstI)), t', .no] := by
    unfold m_ulaw_subsets
    rw [seq_nx subs_h0, seq_nx hl]
    rfl
  exact fn_rt rfl rfl hm2 rfl
def tkV (d : List D) (m : Int) : Int := match f_ulaw_taken [.own d, .val (.int m)] with
  | .ok (.int r) _ => r
  | _ => 0
def tkN (d : List D) (m : Int) : List D := match f_ulaw_taken [.own d, .val (.int m)] with
  | .ok _ (.own d' :: _) => d'
  | _ => []
theorem tk_all {d : List D} {m : Int} (h : RowOk d) (hm : 0 < m) (hm2 : m < 1073741824) : f_ulaw_taken [.own d, .val (.int m)] = .ok (.int (tkV d m)) [.own (tkN d m), .val (.int m)] ∧ 0 ≤ tkV d m ∧ tkV d m < m ∧ RowOk (tkN d m) := by
  obtain ⟨r, d', e, h1, h2, h3⟩ := taken_ok h hm hm2
  have e1 : tkV d m = r := by unfold tkV; rw [e]
  have e2 : tkN d m = d' := by unfold tkN; rw [e]
  rw [e1, e2]
  exact ⟨e, h1, h2, h3⟩
theorem tk_eq {d : List D} {m : Int} (h : RowOk d) (hm : 0 < m) (hm2 : m < 1073741824) : f_ulaw_taken [.own d, .val (.int m)] = .ok (.int (tkV d m)) [.own (tkN d m), .val (.int m)] := (tk_all h hm hm2).1
theorem tkN_ok {d : List D} {m : Int} (h : RowOk d) (hm : 0 < m) (hm2 : m < 1073741824) : RowOk (tkN d m) := (tk_all h hm hm2).2.2.2
theorem tkV_lo {d : List D} {m : Int} (h : RowOk d) (hm : 0 < m) (hm2 : m < 1073741824) : 0 ≤ tkV d m := (tk_all h hm hm2).2.1
theorem tkV_hi {d : List D} {m : Int} (h : RowOk d) (hm : 0 < m) (hm2 : m < 1073741824) : tkV d m < m := (tk_all h hm hm2).2.2.1
theorem callV_o1w {φ : Fn} {i : Nat} {a : D} {ρ : Ev} : callV φ [.o i, .d a] ρ = match ρ[i]? with
    | some (.own l) => (match φ [.own l, .val a] with
      | .ok d (t :: _ :: _) => if t.isOwn = true then .ok d (ρ.set i t) else .bad
      | .exc e (t :: _ :: _) => if t.isOwn = true then .exc e (ρ.set i t) else .bad
      | _ => .bad)
    | _ => callV φ [.o i, .d a] ρ := by
  cases h : ρ[i]? with
  | none => rfl
  | some s =>
    cases s with
    | own l => exact callV_o1 h
    | _ => rfl
def mxD (l : List D) (ds : List D) : D := if tkV l 2 = 0 then .lst ds else .tup ds
theorem mxD_row (l ds : List D) : RowD (mxD l ds) ds := by
  unfold mxD
  by_cases h : tkV l 2 = 0
  · rw [if_pos h]; exact .inl rfl
  · rw [if_neg h]; exact .inr rfl
theorem mixed_eq {l ds : List D} {d : D} (hl : RowOk l) (hd : RowD d ds) (hz : ds.length ≤ sizeLine) : f_ulaw_mixed [.own l, .val d] = .ok (mxD l ds) [.own (tkN l 2), .val d] := by
  have e := tk_eq hl (m := 2) (by omega) (by omega)
  have e1 : callF f_ulaw_taken [.o 0, .v (M.ret (.int 2))] [.own l, .val d] = .ok (.int (tkV l 2)) [.own (tkN l 2), .val d] := by
    unfold callF
    rw [bnd_ok (evs_o1 (i := 0) (m := M.ret (.int 2)) (ρ := [.own l, .val d]) (l := l) (a := .int 2) rfl rfl), callV_o1 (l := l) rfl, e]
    rfl
  have e2 : asTest (op2 D.eq (.v (callF f_ulaw_taken [.o 0, .v (M.ret (.int 2))])) (.v (M.ret (.int 0)))) [.own l, .val d] = .ok (decide (tkV l 2 = 0)) [.own (tkN l 2), .val d] := by
    have e1 : (Arg.v (callF f_ulaw_taken [.o 0, .v (M.ret (.int 2))])).ev [.own l, .val d] = .ok (.d (.int (tkV l 2))) [.own (tkN l 2), .val d] := by
      show M.bnd _ (fun d => M.ret (AV.d d)) _ = _
      rw [bnd_ok e1]
      rfl
    unfold asTest op2
    rw [bnd_ok (a := .bl (decide (tkV l 2 = 0))) (ρ' := [.own (tkN l 2), .val d])]
    rw [bnd_ok e1]
    clear e e1 hl
    generalize tkV l 2 = r
    by_cases hr : r = 0 <;> simp [hr, fnF, sSeq, sIf, asTest, op1, op2, opN, opV, M.bnd, M.ret, M.opt, Arg.ev, rs, rss, Slot.rd, Slot.arg, Slot.has, evs, sV, sAsg, sNx, var, gN, gTu, gCo, gNi, Slot.isOwn, vAnd, vOr, vNot, vIf, bAnd, bOr, bNot, chain, chC, chL, callF, callV_1, callV_2, callV_3, callV_4, sz1, sz2, sz3, sz4, sz5, sz6, sz7, sz8, sz9, sz10, sz11, sz12, dvs, D.ix, L2.atI, ixN, D.cmpI, D.toI, D.mod, D.fdiv, D.add, D.sub, D.mul, D.pow, D.neg, D.len, D.mkL, D.mkT, D.isN, D.notN, isiB, isi2, D.is, D.tn, D.eq, D.ne, D.sc, D.eqb, sPut]
  clear e e1 hl
  unfold mxD
  generalize tkV l 2 = r at *
  generalize tkN l 2 = l' at *
  by_cases hr : r = 0
  · rcases hd with rfl | rfl <;> simp [f_ulaw_mixed, m_ulaw_mixed, fnF, Slot.arg, sSeq, sIf, e2, hr, sV, opN, M.bnd, evs, Arg.ev, M.ret, Slot.has, rss, rs, Slot.rd, D.toL, hz]
  · rcases hd with rfl | rfl <;> simp [f_ulaw_mixed, m_ulaw_mixed, fnF, Slot.arg, sSeq, sIf, e2, hr, sV, opN, M.bnd, evs, Arg.ev, M.ret, Slot.has, rss, rs, Slot.rd, D.toT, hz, sNx]
/-- a list comprehension without a test, of which each turn keeps I -/
theorem lcL_inv {vs : List Nat} {t : D → Ev → Option Ev} {tt : M Bool} {te : M D} (I : Ev → Prop) (R : D → D → Prop) : ∀ {ds : List D} {acc : List D} {ρ : Ev}, I ρ →
    (∀ d ∈ ds, ∀ ρ, I ρ → ∃ ρ1 ρ2 y ρ3, t d ρ = some ρ1 ∧ tt ρ1 = .ok true ρ2 ∧ te ρ2 = .ok y ρ3 ∧ ownAt vs ρ3 = false ∧ I (wipeE ρ3 vs) ∧ R d y) → ∃ ys ρ', lcL vs t tt te ds ρ acc = .ok (acc ++ ys) ρ' ∧ I ρ' ∧ All2 R ds ys
  | [], acc, ρ, h, _ => ⟨[], ρ, by simp [lcL], h, .nil⟩
  | d :: ds, acc, ρ, h, q => by
    obtain ⟨ρ1, ρ2, y, ρ3, h1, h2, h3, h4, h5, h6⟩ := q d List.mem_cons_self ρ h
    obtain ⟨ys, ρ', k1, k2, k3⟩ := lcL_inv I R (ds := ds) (acc := acc ++ [y]) h5 fun x hx => q x (List.mem_cons_of_mem _ hx)
    refine ⟨y :: ys, ρ', ?_, k2, .cons h6 k3⟩
    unfold lcL
    rw [h1]
    dsimp only
    rw [h2]
    dsimp only
    rw [h3]
    dsimp only
    rw [h4]
    simp only [Bool.false_eq_true, if_false]
    rw [k1]
    simp
end DL
namespace DL
/-- the days of a stay of n days from b on -/
def run (b : Int) (n : Nat) : List Int := (List.range n).map fun k : Nat => b + (k : Int)
theorem cnt_app (w : Int) (a b : List Int) (d : Int) : cntI w (a ++ b) d = cntI w a d + cntI w b d := by
  simp [cntI, List.filter_append]
theorem run_succ (b : Int) (n : Nat) : run b (n + 1) = run b n ++ [b + (n : Int)] := by
  simp [run, List.range_succ]
theorem cnt_run (w b d : Int) : ∀ n : Nat, (cntI w (run b n) d : Int) = max 0 (min (b + n) (d + 1) - max b (d - w + 1))
  | 0 => by
    have : cntI w (run b 0) d = 0 := rfl
    rw [this]
    omega
  | n + 1 => by
    rw [run_succ, cnt_app]
    have ih := cnt_run w b d n
    by_cases h : d - w < b + (n : Int) ∧ b + (n : Int) ≤ d
    · have : cntI w [b + (n : Int)] d = 1 := by simp [cntI, h]
      rw [this]
      omega
    · have : cntI w [b + (n : Int)] d = 0 := by simp [cntI]; omega
      rw [this]
      omega
theorem daysOf_cons (p : Int × Int) (ps : List (Int × Int)) : daysOf (p :: ps) = run p.1 (p.2 - p.1).toNat ++ daysOf ps := by simp [daysOf, run]
theorem daysOf_app (ps qs : List (Int × Int)) : daysOf (ps ++ qs) = daysOf ps ++ daysOf qs := by simp [daysOf]
theorem inside_cnt (w : Int) (d : Int) : ∀ ps : List (Int × Int), insideI w ps d = (cntI w (daysOf ps) d : Int)
  | [] => rfl
  | p :: ps => by
    have ih := inside_cnt w d ps
    have h := cnt_run w p.1 d (p.2 - p.1).toNat
    rw [daysOf_cons, cnt_app]
    have e : insideI w (p :: ps) d = max 0 (min p.2 (d + 1) - max p.1 (d - w + 1)) + insideI w ps d := by simp [insideI, insideL]
    rw [e, ih]
    omega
theorem daysOf_one (a : Int) (n : Nat) : daysOf [(a, a + n)] = run a n := by
  have e : (a + (n : Int) - a).toNat = n := by omega
  simp [daysOf, run, e]
/-- all days lie below the end -/
theorem days_lt : ∀ {ps : List (Int × Int)} {lo : Int}, okS lo ps → ∀ x ∈ daysOf ps, lo ≤ x ∧ x < endS lo ps
  | [], lo, _, x, hx => by cases hx
  | p :: ps, lo, ⟨h1, h2, h3, h4, h5⟩, x, hx => by
    have hend : ∀ {ps : List (Int × Int)} {lo : Int}, okS lo ps → lo ≤ endS lo ps := by
      intro ps
      induction ps with
      | nil => intro lo _; exact Int.le_refl _
      | cons q qs ih => intro lo ⟨g1, g2, g3, g4, g5⟩; have := ih g5; show lo ≤ endS q.2 qs; omega
    rw [daysOf_cons] at hx
    rcases List.mem_append.mp hx with hx | hx
    · obtain ⟨k, hk, rfl⟩ := List.mem_map.mp hx
      have := List.mem_range.mp hk
      have := hend h5
      show lo ≤ p.1 + (k : Int) ∧ p.1 + (k : Int) < endS p.2 ps
      omega
    · have := days_lt h5 x hx
      show lo ≤ x ∧ x < endS p.2 ps
      omega
/-- no more than w days among w days -/
theorem cnt_le : ∀ {ps : List (Int × Int)} {lo : Int}, okS lo ps → ∀ (w d : Int), (cntI w (daysOf ps) d : Int) ≤ max 0 (min (endS lo ps) (d + 1) - max lo (d - w + 1))
  | [], lo, _, w, d => by show ((0 : Nat) : Int) ≤ _; omega
  | p :: ps, lo, ⟨h1, h2, h3, h4, h5⟩, w, d => by
    have ih := cnt_le h5 w d
    have h := cnt_run w p.1 d (p.2 - p.1).toNat
    rw [daysOf_cons, cnt_app]
    have hend : ∀ {ps : List (Int × Int)} {lo : Int}, okS lo ps → lo ≤ endS lo ps := by
      intro ps
      induction ps with
      | nil => intro lo _; exact Int.le_refl _
      | cons q qs ih => intro lo ⟨g1, g2, g3, g4, g5⟩; have := ih g5; show lo ≤ endS q.2 qs; omega
    have := hend h5
    show _ ≤ max 0 (min (endS p.2 ps) (d + 1) - max lo (d - w + 1))
    omega
/-- can_stay -/
theorem stay_cnt (w b x : Int) (ps : List (Int × Int)) (n : Nat) (hx : x + 1 = b + n) : insideI w (ps ++ [(b, x + 1)]) x = (cntI w (daysOf ps ++ run b n) x : Int) := by
  rw [inside_cnt, daysOf_app, hx, daysOf_one]
theorem cnt_far (w : Int) (l : List Int) (d : Int) (h : ∀ x ∈ l, d < x) : cntI w l d = 0 := by
  unfold cntI
  rw [List.filter_eq_nil_iff.mpr]
  · rfl
  · intro x hx
    have := h x hx
    simp
    omega
theorem cnt_old (w : Int) (l : List Int) (d : Int) (h : ∀ x ∈ l, x ≤ d - w) : cntI w l d = 0 := by
  unfold cntI
  rw [List.filter_eq_nil_iff.mpr]
  · rfl
  · intro x hx
    have := h x hx
    simp
    omega
theorem run_add (b : Int) (i j : Nat) : run b (i + j) = run b i ++ run (b + i) j := by
  induction j with
  | zero => simp [run]
  | succ j ih =>
    rw [show i + (j + 1) = (i + j) + 1 from rfl, run_succ, ih, run_succ, List.append_assoc]
    have e : b + ((i + j : Nat) : Int) = b + (i : Int) + (j : Int) := by omega
    rw [e]
theorem run_mem {b : Int} {n : Nat} {x : Int} : x ∈ run b n ↔ b ≤ x ∧ x < b + n := by
  constructor
  · intro h
    obtain ⟨k, hk, rfl⟩ := List.mem_map.mp h
    have := List.mem_range.mp hk
    omega
  · intro ⟨h1, h2⟩
    exact List.mem_map.mpr ⟨(x - b).toNat, List.mem_range.mpr (by omega), by show b + ((x - b).toNat : Int) = x; omega⟩
/-- the day k of a stay counts the same with the whole stay -/
theorem cnt_part (w b : Int) (l : List Int) (k n : Nat) (hk : k < n) : cntI w (l ++ run b n) (b + k) = cntI w (l ++ run b (k + 1)) (b + k) := by
  obtain ⟨j, rfl⟩ : ∃ j, n = (k + 1) + j := ⟨n - (k + 1), by omega⟩
  rw [run_add, ← List.append_assoc, cnt_app w (l ++ run b (k + 1))]
  rw [cnt_far w (run _ j) _ (fun x hx => by have := (run_mem.mp hx).1; omega)]
  omega
theorem fits_cnt (m w b : Int) (ps : List (Int × Int)) (k : Nat) : fitsI m w ps b (b + k) = decide ((cntI w (daysOf ps ++ run b (k + 1)) (b + k) : Int) ≤ m) := by
  unfold fitsI
  rw [stay_cnt w b (b + k) ps (k + 1) (by omega)]
/-- a stay that fits, as the law looks at it -/
theorem stay_law (m w b : Int) (ps : List (Int × Int)) (n : Nat) : stayI m w ps n b = decide ((run b n).filter (fun x => decide (m < (cntI w (daysOf ps ++ run b n) x : Int))) = []) := by
  unfold stayI
  rw [Int.toNat_natCast, Bool.eq_iff_iff]
  change List.all (run b n) (fitsI m w ps b) = true ↔ _
  rw [List.all_eq_true, decide_eq_true_iff, List.filter_eq_nil_iff]
  refine forall_congr' fun x => forall_congr' fun hx => ?_
  obtain ⟨h1, h2⟩ := run_mem.mp hx
  obtain ⟨k, rfl⟩ : ∃ k : Nat, x = b + k := ⟨(x - b).toNat, by omega⟩
  rw [fits_cnt, cnt_part w b (daysOf ps) k n (by omega)]
  simp
theorem cnt_new (w b : Int) (k : Nat) : (cntI w (run b (k + 1)) (b + k) : Int) = max 0 (min ((k : Int) + 1) w) := by
  have := cnt_run w b (b + k) (k + 1)
  omega
/-- far behind all spans any stay fits that fits alone -/
theorem stay_far {m w b : Int} {ps : List (Int × Int)} {n : Nat} (ok : okS 0 ps) (he : endS 0 ps + w ≤ b + 1) (hm : (n : Int) ≤ m ∨ w ≤ m) (hm0 : 0 ≤ m) : stayI m w ps n b = true := by
  unfold stayI
  rw [Int.toNat_natCast]
  change List.all (run b n) (fitsI m w ps b) = true
  rw [List.all_eq_true]
  intro x hx
  obtain ⟨h1, h2⟩ := run_mem.mp hx
  obtain ⟨k, rfl⟩ : ∃ k : Nat, x = b + k := ⟨(x - b).toNat, by omega⟩
  rw [fits_cnt, cnt_app, cnt_old w (daysOf ps) _ (fun y hy => by have := (days_lt ok y hy).2; omega)]
  have := cnt_new w b k
  refine decide_eq_true ?_
  omega
theorem stay_never {m w b : Int} {ps : List (Int × Int)} {n : Nat} (hm0 : 0 ≤ m) (h1 : m < n) (h2 : m < w) : stayI m w ps n b = false := by
  cases h : stayI m w ps n b with
  | false => rfl
  | true =>
    exfalso
    unfold stayI at h
    rw [Int.toNat_natCast] at h
    obtain ⟨k, rfl⟩ := Int.eq_ofNat_of_zero_le hm0
    have := List.all_eq_true.mp h (b + k) (run_mem.mpr ⟨by omega, by omega⟩)
    rw [fits_cnt, cnt_app] at this
    have h3 := of_decide_eq_true this
    have := cnt_new w b k
    omega
theorem run_take (b : Int) (i n : Nat) (h : i ≤ n) : run b n = run b i ++ run (b + i) (n - i) := by
  rw [← run_add]
  congr 1
  omega
/-- first_entry is the first good day of 40 -/
theorem entry_law {m w day : Int} {n : Nat} {ps : List (Int × Int)} (ok : okS 0 ps) (he : endS 0 ps ≤ day) (hm0 : 0 ≤ m) (hw : 1 ≤ w) (hw2 : w ≤ 12) : entryI m w day n ps = (run day 40).find? (fun b => decide ((run b n).filter (fun x => decide (m < (cntI w (daysOf ps ++ run b n) x : Int))) = [])) := by
  have e : (fun b => decide ((run b n).filter (fun x => decide (m < (cntI w (daysOf ps ++ run b n) x : Int))) = [])) = stayI m w ps n := by
    funext b
    rw [stay_law]
  rw [e]
  unfold entryI
  by_cases h : min m w < n ∧ m < w
  · rw [if_pos h]
    symm
    rw [List.find?_eq_none]
    intro x _
    rw [stay_never hm0 (by omega) h.2]
    simp
  · rw [if_neg h]
    change (run day (2 * w + 1).toNat).find? _ = _
    rw [run_take day (2 * w + 1).toNat 40 (by omega), List.find?_append]
    have : ((run day (2 * w + 1).toNat).find? (stayI m w ps n)).isSome = true := by
      rw [List.find?_isSome]
      exact ⟨day + w, run_mem.mpr ⟨by omega, by omega⟩, stay_far ok (by omega) (by omega) hm0⟩
    obtain ⟨x, hx⟩ := Option.isSome_iff_exists.mp this
    rw [hx]
    rfl
def lawLong (m w day : Int) (days : List Int) : Nat → Nat → Nat
  | 0, many => many - 1
  | n + 1, many => if m < (cntI w (days ++ run day many) (day + many - 1) : Int) then many - 1 else lawLong m w day days n (many + 1)
theorem lawLong_is {m w day : Int} {days : List Int} : ∀ (n many : Nat), 1 ≤ many → ∃ K, lawLong m w day days n many = K ∧ many - 1 ≤ K ∧ K ≤ many - 1 + n ∧ (∀ k : Nat, many - 1 ≤ k → k < K → (cntI w (days ++ run day (k + 1)) (day + k) : Int) ≤ m) ∧ (K < many - 1 + n → m < (cntI w (days ++ run day (K + 1)) (day + K) : Int))
  | 0, many, h => ⟨many - 1, rfl, Nat.le_refl _, Nat.le_refl _, fun k h1 h2 => by omega, fun h => by omega⟩
  | n + 1, many, h => by
    have e1 : many - 1 + 1 = many := by omega
    have e2 : day + (many : Int) - 1 = day + ((many - 1 : Nat) : Int) := by omega
    unfold lawLong
    by_cases hc : m < (cntI w (days ++ run day many) (day + many - 1) : Int)
    · rw [if_pos hc]
      refine ⟨_, rfl, Nat.le_refl _, by omega, fun k h1 h2 => by omega, fun _ => ?_⟩
      rw [e1, ← e2]
      exact hc
    · rw [if_neg hc]
      obtain ⟨K, k1, k2, k3, k4, k5⟩ := lawLong_is (m := m) (w := w) (day := day) (days := days) n (many + 1) (by omega)
      refine ⟨K, k1, by omega, by omega, fun k h1 h2 => ?_, fun h => k5 (by omega)⟩
      by_cases hk : k = many - 1
      · subst hk
        rw [e1, ← e2]
        omega
      · exact k4 k (by omega) h2
/-- what longest_stay wants of K -/
theorem long_law {m w day : Int} {ps : List (Int × Int)} (ok : okS 0 ps) (he : endS 0 ps ≤ day) (h0 : 0 ≤ day) (hd : day ≤ 9000) (hm0 : 0 ≤ m) (hm : m ≤ 7) (hw : 1 ≤ w) :
    ∃ K : Nat, (if w ≤ m then 9999 - day else (lawLong m w day (daysOf ps) 29 1 : Int)) = K ∧ (∀ k : Nat, k < K → day + k < 9999 ∧ fitsI m w ps day (day + k) = true) ∧ ¬ (day + K < 9999 ∧ fitsI m w ps day (day + K) = true) := by
  by_cases h : w ≤ m
  · rw [if_pos h]
    refine ⟨(9999 - day).toNat, by omega, fun k hk => ⟨by omega, ?_⟩, fun h => by omega⟩
    rw [fits_cnt, cnt_app]
    have h1 := cnt_le ok w (day + k)
    have h2 := cnt_run w day (day + k) (k + 1)
    refine decide_eq_true ?_
    omega
  · rw [if_neg h]
    obtain ⟨K, k1, _, k3, k4, k5⟩ := lawLong_is (m := m) (w := w) (day := day) (days := daysOf ps) 29 1 (by omega)
    have hK : (K : Int) ≤ m := by
      apply Classical.byContradiction
      intro hn
      obtain ⟨j, rfl⟩ := Int.eq_ofNat_of_zero_le hm0
      have := k4 j (by omega) (by omega)
      rw [cnt_app] at this
      have := cnt_new w day j
      omega
    refine ⟨K, by rw [k1], fun k hk => ⟨by omega, ?_⟩, fun ⟨_, h2⟩ => ?_⟩
    · rw [fits_cnt]
      exact decide_eq_true (k4 k (by omega) hk)
    · rw [fits_cnt] at h2
      have := of_decide_eq_true h2
      have := k5 (by omega)
      omega
end DL
namespace DL
def subsN : Nat → List (List Nat)
  | 0 => [[]]
  | n + 1 => subsN n ++ (subsN n).map fun l => l ++ [n]
def cntN (w d : Nat) : List Nat → Nat
  | [] => 0
  | x :: l => cond (Nat.ble x d && Nat.blt d (x + w)) (cntN w d l + 1) (cntN w d l)
def lawN (m w : Nat) (l : List Nat) : List Nat → Bool
  | [] => true
  | x :: r => Nat.ble (cntN w x l) m && lawN m w l r
def maxN (m w : Nat) : List (List Nat) → Nat → Nat
  | [], b => b
  | l :: r, b => maxN m w r (cond (lawN m w l l) (Nat.max b l.length) b)
def earN (m w n : Nat) : List Nat := (List.range n).filter fun x => Nat.blt (x % w) m
def chkN (m w n : Nat) : Bool := Nat.beq (maxN m w (subsN n) 0) (n / w * Nat.min m w + Nat.min m (n % w)) && lawN m w (earN m w n) (earN m w n) && Nat.beq (earN m w n).length (n / w * Nat.min m w + Nat.min m (n % w))
def all3N : Bool := (List.range 8).all fun m => (List.range 12).all fun w => (List.range 10).all fun n => chkN m (w + 1) n
theorem all3N_ok : all3N = true := by decide +kernel
def upI (l : List Nat) : List Int := l.map fun k : Nat => (k : Int)
theorem subs_up : ∀ n, subs n = (subsN n).map upI
  | 0 => rfl
  | n + 1 => by simp [subs, subsN, subs_up n, upI]
theorem cnt_up (w d : Nat) : ∀ l : List Nat, cntI (w : Int) (upI l) (d : Int) = cntN w d l
  | [] => rfl
  | x :: l => by
    have ih := cnt_up w d l
    have e : cntI (w : Int) (upI (x :: l)) (d : Int) = cntI w [(x : Int)] d + cntI w (upI l) d := by rw [← cnt_app]; rfl
    have e0 : cntN w d (x :: l) = cond (Nat.ble x d && Nat.blt d (x + w)) (cntN w d l + 1) (cntN w d l) := rfl
    rw [e, ih, e0]
    by_cases h : x ≤ d ∧ d < x + w
    · have h1 : (Nat.ble x d && Nat.blt d (x + w)) = true := by rw [Nat.ble_eq.mpr h.1, show Nat.blt d (x + w) = true from Nat.ble_eq.mpr h.2]; rfl
      rw [h1]
      have : cntI (w : Int) [(x : Int)] d = 1 := by
        have hh : (d : Int) - w < x ∧ (x : Int) ≤ d := by omega
        simp [cntI, hh]
      rw [this]
      simp only [cond]
      omega
    · have h1 : (Nat.ble x d && Nat.blt d (x + w)) = false := by
        cases hh : (Nat.ble x d && Nat.blt d (x + w)) with
        | false => rfl
        | true => exact absurd ⟨Nat.ble_eq.mp (Bool.and_eq_true_iff.mp hh).1, Nat.ble_eq.mp (Bool.and_eq_true_iff.mp hh).2⟩ h
      rw [h1]
      have : cntI (w : Int) [(x : Int)] d = 0 := by
        have hh : ¬ ((d : Int) - w < x ∧ (x : Int) ≤ d) := by omega
        unfold cntI
        rw [List.filter_cons, if_neg (by rw [decide_eq_false hh]; decide)]
        rfl
      rw [this]
      simp only [cond]
      omega
theorem law_up (m w : Nat) (l : List Nat) : ∀ r : List Nat, (decide ((upI r).filter (fun x => decide ((m : Int) < (cntI w (upI l) x : Int))) = []) : Bool) = lawN m w l r
  | [] => rfl
  | x :: r => by
    have ih := law_up m w l r
    unfold lawN
    rw [← ih]
    show (decide ((((x : Int) :: upI r).filter (fun x => decide ((m : Int) < (cntI w (upI l) x : Int)))) = []) : Bool) = _
    rw [List.filter_cons, cnt_up]
    by_cases h : cntN w x l ≤ m
    · have h1 : ¬ ((m : Int) < (cntN w x l : Int)) := by omega
      have h2 : Nat.ble (cntN w x l) m = true := Nat.ble_eq.mpr h
      simp [h1, h2]
    · have h1 : (m : Int) < (cntN w x l : Int) := by omega
      have h2 : Nat.ble (cntN w x l) m = false := by
        cases hh : Nat.ble (cntN w x l) m with
        | false => rfl
        | true => exact absurd (Nat.ble_eq.mp hh) h
      simp [h1, h2]
theorem over_up (m w : Nat) (l : List Nat) : (decide (overL (m : Int) w (upI l) = []) : Bool) = lawN m w l l := law_up m w l l
theorem max_up (m w : Nat) : ∀ (L : List (List Nat)) (b : Nat), lmax (b : Int) ((((L.map upI).filter fun l => decide (overL (m : Int) w l = [])).map fun l => (l.length : Int))) = (maxN m w L b : Int)
  | [], b => rfl
  | l :: L, b => by
    unfold maxN
    rw [List.map_cons, List.filter_cons, over_up]
    cases h : lawN m w l l with
    | false =>
      simp only [Bool.false_eq_true, if_false, cond]
      exact max_up m w L b
    | true =>
      simp only [if_true, cond, List.map_cons]
      have e : (upI l).length = l.length := by simp [upI]
      rw [e]
      show lmax (max (b : Int) (l.length : Int)) _ = _
      have e2 : max (b : Int) (l.length : Int) = ((Nat.max b l.length : Nat) : Int) := by
        show _ = ((max b l.length : Nat) : Int)
        omega
      rw [e2]
      exact max_up m w L _
/-- the table -/
theorem most_law {m w n : Int} (hm : 0 ≤ m) (hm2 : m < 8) (hw : 1 ≤ w) (hw2 : w < 13) (hn : 0 ≤ n) (hn2 : n < 10) :
    lmax 0 ((((subs n.toNat).filter fun l => decide (overL m w l = [])).map fun l => (l.length : Int))) = n / w * min m w + min m (n % w) ∧
    overL m w (((List.range n.toNat).map fun k : Nat => (k : Int)).filter fun x => decide (x % w < m)) = [] ∧
    ((((List.range n.toNat).map fun k : Nat => (k : Int)).filter fun x => decide (x % w < m)).length : Int) = n / w * min m w + min m (n % w) := by
  obtain ⟨m, rfl⟩ := Int.eq_ofNat_of_zero_le hm
  obtain ⟨n, rfl⟩ := Int.eq_ofNat_of_zero_le hn
  obtain ⟨w, rfl⟩ : ∃ v : Nat, w = (v : Int) + 1 := ⟨(w - 1).toNat, by omega⟩
  have h0 := all3N_ok
  unfold all3N at h0
  have h1 := List.all_eq_true.mp (List.all_eq_true.mp (List.all_eq_true.mp h0 m (List.mem_range.mpr (by omega))) w (List.mem_range.mpr (by omega))) n (List.mem_range.mpr (by omega))
  clear h0
  unfold chkN at h1
  obtain ⟨h2, h5⟩ := Bool.and_eq_true_iff.mp h1
  obtain ⟨h3, h4⟩ := Bool.and_eq_true_iff.mp h2
  have h3 := Nat.eq_of_beq_eq_true h3
  have h5 := Nat.eq_of_beq_eq_true h5
  have ew : ((w : Int) + 1) = ((w + 1 : Nat) : Int) := by omega
  have ef : (n : Int) / ((w : Int) + 1) * min (m : Int) ((w : Int) + 1) + min (m : Int) ((n : Int) % ((w : Int) + 1)) = ((n / (w + 1) * Nat.min m (w + 1) + Nat.min m (n % (w + 1)) : Nat) : Int) := by
    rw [ew]
    have e1 : min (m : Int) ((w + 1 : Nat) : Int) = ((Nat.min m (w + 1) : Nat) : Int) := by
      show _ = ((min m (w + 1) : Nat) : Int)
      omega
    have e2 : min (m : Int) ((n : Int) % ((w + 1 : Nat) : Int)) = ((Nat.min m (n % (w + 1)) : Nat) : Int) := by
      show _ = ((min m (n % (w + 1)) : Nat) : Int)
      omega
    rw [e1, e2]
    simp
  have ee : ((List.range n).map fun k : Nat => (k : Int)).filter (fun x => decide (x % ((w : Int) + 1) < (m : Int))) = upI (earN m (w + 1) n) := by
    unfold upI earN
    rw [List.filter_map]
    congr 1
    apply List.filter_congr
    intro x _
    show decide ((x : Int) % ((w : Int) + 1) < (m : Int)) = Nat.blt (x % (w + 1)) m
    rw [ew, ← Int.natCast_emod]
    by_cases h : x % (w + 1) < m
    · rw [decide_eq_true (by omega)]
      exact (Nat.ble_eq.mpr h).symm
    · rw [decide_eq_false (by omega)]
      cases hh : Nat.blt (x % (w + 1)) m with
      | false => rfl
      | true => exact absurd (Nat.ble_eq.mp hh) h
  rw [Int.toNat_natCast, ef, ee]
  refine ⟨?_, ?_, ?_⟩
  · rw [← h3, subs_up]
    have := max_up m (w + 1) (subsN n) 0
    rw [← ew] at this
    exact this
  · have := over_up m (w + 1) (earN m (w + 1) n)
    rw [h4, ← ew] at this
    exact of_decide_eq_true this
  · rw [← h5]
    simp [upI]
theorem lmax_cons {a : Int} {r : List Int} (h : 0 ≤ a) : lmax 0 (a :: r) = lmax a r := by
  show lmax (max 0 a) r = _
  rw [show max 0 a = a by omega]
end DL
namespace DL
open PySem L2
def badItem (d : D) : Ex := ⟨"BadItem", ["index"], [d]⟩
theorem want_none : f_want_spans [.val .non] = .exc (badItem .non) [.val .non] := by
  have hr : f_is_row [.val .non] = .ok (.bl false) [.val .non] := by simp [f_is_row, m_is_row, fnF, sSeq, sIf, asTest, op1, op2, opN, opV, M.bnd, M.ret, M.opt, Arg.ev, rs, rss, Slot.rd, Slot.arg, Slot.has, evs, sV, sAsg, sNx, var, gN, gTu, gCo, gNi, Slot.isOwn, vAnd, vOr, vNot, vIf, bAnd, bOr, bNot, chain, chC, chL, callF, callV_1, callV_2, callV_3, callV_4, sz1, sz2, sz3, sz4, sz5, sz6, sz7, sz8, sz9, sz10, sz11, sz12, dvs, D.ix, L2.atI, ixN, D.cmpI, D.toI, D.mod, D.fdiv, D.add, D.sub, D.mul, D.pow, D.neg, D.len, D.mkL, D.mkT, D.isN, D.notN, isiB, isi2, D.is, D.tn, D.eq, D.ne, D.sc, D.eqb, sPut, sFor, forL, seqM, srcN, D.rng1, D.rng2, D.enum]
  simp [f_want_spans, m_want_spans, hr, sRaise, allD, badItem, fnF, sSeq, sIf, asTest, op1, op2, opN, opV, M.bnd, M.ret, M.opt, Arg.ev, rs, rss, Slot.rd, Slot.arg, Slot.has, evs, sV, sAsg, sNx, var, gN, gTu, gCo, gNi, Slot.isOwn, vAnd, vOr, vNot, vIf, bAnd, bOr, bNot, chain, chC, chL, callF, callV_1, callV_2, callV_3, callV_4, sz1, sz2, sz3, sz4, sz5, sz6, sz7, sz8, sz9, sz10, sz11, sz12, dvs, D.ix, L2.atI, ixN, D.cmpI, D.toI, D.mod, D.fdiv, D.add, D.sub, D.mul, D.pow, D.neg, D.len, D.mkL, D.mkT, D.isN, D.notN, isiB, isi2, D.is, D.tn, D.eq, D.ne, D.sc, D.eqb, sPut]
def wrongs : List D := [.tup [.int 1, .int 1], .tup [.int (-1), .int 2], .tup [.int 60, .int 10000], .tup [.bl true, .int 60], .tup [.int 61], .non]
theorem row_tup (l : List D) : f_is_row [.val (.tup l)] = .ok (.bl true) [.val (.tup l)] := is_row_ok (.inr rfl)
theorem is_whole_bl (b : Bool) : f_is_whole [.val (.bl b)] = .ok (.bl false) [.val (.bl b)] := by cases b <;> simp [f_is_whole, m_is_whole, fnF, sSeq, sIf, asTest, op1, op2, opN, opV, M.bnd, M.ret, M.opt, Arg.ev, rs, rss, Slot.rd, Slot.arg, Slot.has, evs, sV, sAsg, sNx, var, gN, gTu, gCo, gNi, Slot.isOwn, vAnd, vOr, vNot, vIf, bAnd, bOr, bNot, chain, chC, chL, callF, callV_1, callV_2, callV_3, callV_4, sz1, sz2, sz3, sz4, sz5, sz6, sz7, sz8, sz9, sz10, sz11, sz12, dvs, D.ix, L2.atI, ixN, D.cmpI, D.toI, D.mod, D.fdiv, D.add, D.sub, D.mul, D.pow, D.neg, D.len, D.mkL, D.mkT, D.isN, D.notN, isiB, isi2, D.is, D.tn, D.eq, D.ne, D.sc, D.eqb, sPut, sFor, forL, seqM, srcN, D.rng1, D.rng2, D.enum]
theorem wrong_span : ∀ x ∈ wrongs, f_is_span [.val x] = .ok (.bl false) [.val x] := by
  have hr : f_is_row [.val .non] = .ok (.bl false) [.val .non] := by simp [f_is_row, m_is_row, fnF, sSeq, sIf, asTest, op1, op2, opN, opV, M.bnd, M.ret, M.opt, Arg.ev, rs, rss, Slot.rd, Slot.arg, Slot.has, evs, sV, sAsg, sNx, var, gN, gTu, gCo, gNi, Slot.isOwn, vAnd, vOr, vNot, vIf, bAnd, bOr, bNot, chain, chC, chL, callF, callV_1, callV_2, callV_3, callV_4, sz1, sz2, sz3, sz4, sz5, sz6, sz7, sz8, sz9, sz10, sz11, sz12, dvs, D.ix, L2.atI, ixN, D.cmpI, D.toI, D.mod, D.fdiv, D.add, D.sub, D.mul, D.pow, D.neg, D.len, D.mkL, D.mkT, D.isN, D.notN, isiB, isi2, D.is, D.tn, D.eq, D.ne, D.sc, D.eqb, sPut, sFor, forL, seqM, srcN, D.rng1, D.rng2, D.enum]
  intro x hx
  simp only [wrongs, List.mem_cons, List.not_mem_nil, or_false] at hx
  rcases hx with rfl | rfl | rfl | rfl | rfl | rfl
  · simp [f_is_span, m_is_span, row_tup, is_whole_int, fnF, sSeq, sIf, asTest, op1, op2, opN, opV, M.bnd, M.ret, M.opt, Arg.ev, rs, rss, Slot.rd, Slot.arg, Slot.has, evs, sV, sAsg, sNx, var, gN, gTu, gCo, gNi, Slot.isOwn, vAnd, vOr, vNot, vIf, bAnd, bOr, bNot, chain, chC, chL, callF, callV_1, callV_2, callV_3, callV_4, sz1, sz2, sz3, sz4, sz5, sz6, sz7, sz8, sz9, sz10, sz11, sz12, dvs, D.ix, L2.atI, ixN, D.cmpI, D.toI, D.mod, D.fdiv, D.add, D.sub, D.mul, D.pow, D.neg, D.len, D.mkL, D.mkT, D.isN, D.notN, isiB, isi2, D.is, D.tn, D.eq, D.ne, D.sc, D.eqb, sPut]
  · simp [f_is_span, m_is_span, row_tup, is_whole_int, fnF, sSeq, sIf, asTest, op1, op2, opN, opV, M.bnd, M.ret, M.opt, Arg.ev, rs, rss, Slot.rd, Slot.arg, Slot.has, evs, sV, sAsg, sNx, var, gN, gTu, gCo, gNi, Slot.isOwn, vAnd, vOr, vNot, vIf, bAnd, bOr, bNot, chain, chC, chL, callF, callV_1, callV_2, callV_3, callV_4, sz1, sz2, sz3, sz4, sz5, sz6, sz7, sz8, sz9, sz10, sz11, sz12, dvs, D.ix, L2.atI, ixN, D.cmpI, D.toI, D.mod, D.fdiv, D.add, D.sub, D.mul, D.pow, D.neg, D.len, D.mkL, D.mkT, D.isN, D.notN, isiB, isi2, D.is, D.tn, D.eq, D.ne, D.sc, D.eqb, sPut]
  · simp [f_is_span, m_is_span, row_tup, is_whole_int, fnF, sSeq, sIf, asTest, op1, op2, opN, opV, M.bnd, M.ret, M.opt, Arg.ev, rs, rss, Slot.rd, Slot.arg, Slot.has, evs, sV, sAsg, sNx, var, gN, gTu, gCo, gNi, Slot.isOwn, vAnd, vOr, vNot, vIf, bAnd, bOr, bNot, chain, chC, chL, callF, callV_1, callV_2, callV_3, callV_4, sz1, sz2, sz3, sz4, sz5, sz6, sz7, sz8, sz9, sz10, sz11, sz12, dvs, D.ix, L2.atI, ixN, D.cmpI, D.toI, D.mod, D.fdiv, D.add, D.sub, D.mul, D.pow, D.neg, D.len, D.mkL, D.mkT, D.isN, D.notN, isiB, isi2, D.is, D.tn, D.eq, D.ne, D.sc, D.eqb, sPut]
  · simp [f_is_span, m_is_span, row_tup, is_whole_int, is_whole_bl, fnF, sSeq, sIf, asTest, op1, op2, opN, opV, M.bnd, M.ret, M.opt, Arg.ev, rs, rss, Slot.rd, Slot.arg, Slot.has, evs, sV, sAsg, sNx, var, gN, gTu, gCo, gNi, Slot.isOwn, vAnd, vOr, vNot, vIf, bAnd, bOr, bNot, chain, chC, chL, callF, callV_1, callV_2, callV_3, callV_4, sz1, sz2, sz3, sz4, sz5, sz6, sz7, sz8, sz9, sz10, sz11, sz12, dvs, D.ix, L2.atI, ixN, D.cmpI, D.toI, D.mod, D.fdiv, D.add, D.sub, D.mul, D.pow, D.neg, D.len, D.mkL, D.mkT, D.isN, D.notN, isiB, isi2, D.is, D.tn, D.eq, D.ne, D.sc, D.eqb, sPut]
  · simp [f_is_span, m_is_span, row_tup, is_whole_int, fnF, sSeq, sIf, asTest, op1, op2, opN, opV, M.bnd, M.ret, M.opt, Arg.ev, rs, rss, Slot.rd, Slot.arg, Slot.has, evs, sV, sAsg, sNx, var, gN, gTu, gCo, gNi, Slot.isOwn, vAnd, vOr, vNot, vIf, bAnd, bOr, bNot, chain, chC, chL, callF, callV_1, callV_2, callV_3, callV_4, sz1, sz2, sz3, sz4, sz5, sz6, sz7, sz8, sz9, sz10, sz11, sz12, dvs, D.ix, L2.atI, ixN, D.cmpI, D.toI, D.mod, D.fdiv, D.add, D.sub, D.mul, D.pow, D.neg, D.len, D.mkL, D.mkT, D.isN, D.notN, isiB, isi2, D.is, D.tn, D.eq, D.ne, D.sc, D.eqb, sPut]
  · simp [f_is_span, m_is_span, hr, fnF, sSeq, sIf, asTest, op1, op2, opN, opV, M.bnd, M.ret, M.opt, Arg.ev, rs, rss, Slot.rd, Slot.arg, Slot.has, evs, sV, sAsg, sNx, var, gN, gTu, gCo, gNi, Slot.isOwn, vAnd, vOr, vNot, vIf, bAnd, bOr, bNot, chain, chC, chL, callF, callV_1, callV_2, callV_3, callV_4, sz1, sz2, sz3, sz4, sz5, sz6, sz7, sz8, sz9, sz10, sz11, sz12, dvs, D.ix, L2.atI, ixN, D.cmpI, D.toI, D.mod, D.fdiv, D.add, D.sub, D.mul, D.pow, D.neg, D.len, D.mkL, D.mkT, D.isN, D.notN, isiB, isi2, D.is, D.tn, D.eq, D.ne, D.sc, D.eqb, sPut]
theorem wrong_body {d x : D} {k : Nat} (h : f_is_span [.val x] = .ok (.bl false) [.val x]) : b0_want_spans [.val d, .val (.int k), .val x] = .exc (badItem (.int k)) [.val d, .val (.int k), .val x] := by
  simp [b0_want_spans, h, sRaise, allD, badItem, fnF, sSeq, sIf, asTest, op1, op2, opN, opV, M.bnd, M.ret, M.opt, Arg.ev, rs, rss, Slot.rd, Slot.arg, Slot.has, evs, sV, sAsg, sNx, var, gN, gTu, gCo, gNi, Slot.isOwn, vAnd, vOr, vNot, vIf, bAnd, bOr, bNot, chain, chC, chL, callF, callV_1, callV_2, callV_3, callV_4, sz1, sz2, sz3, sz4, sz5, sz6, sz7, sz8, sz9, sz10, sz11, sz12, dvs, D.ix, L2.atI, ixN, D.cmpI, D.toI, D.mod, D.fdiv, D.add, D.sub, D.mul, D.pow, D.neg, D.len, D.mkL, D.mkT, D.isN, D.notN, isiB, isi2, D.is, D.tn, D.eq, D.ne, D.sc, D.eqb, sPut]
theorem low_body {d prev : D} {l : List D} {k : Nat} {q : Int × Int} (hd : RowD d l) (hk0 : 0 < k) (g1 : l[k - 1]? = some prev) (g2 : SpanD prev q) (g3 : 0 < q.2) :
    b0_want_spans [.val d, .val (.int k), .val (.tup [.int 0, .int 61])] = .exc (badItem (.int k)) [.val d, .val (.int k), .val (.tup [.int 0, .int 61])] := by
  have e1 := is_span_ok (d := .tup [.int 0, .int 61]) (p := (0, 61)) (.inr rfl) (by decide) (by decide) (by decide)
  have hl : k - 1 < l.length := (List.getElem?_eq_some_iff.mp g1).1
  have hp : l[k - 1] = prev := (List.getElem?_eq_some_iff.mp g1).2
  have e2 : ((k : Int) - 1) = ((k - 1 : Nat) : Int) := by omega
  rcases g2 with rfl | rfl <;> rcases hd with rfl | rfl <;> simp [b0_want_spans, e1, hk0, e2, hl, hp, g3, sRaise, allD, badItem, fnF, sSeq, sIf, asTest, op1, op2, opN, opV, M.bnd, M.ret, M.opt, Arg.ev, rs, rss, Slot.rd, Slot.arg, Slot.has, evs, sV, sAsg, sNx, var, gN, gTu, gCo, gNi, Slot.isOwn, vAnd, vOr, vNot, vIf, bAnd, bOr, bNot, chain, chC, chL, callF, callV_1, callV_2, callV_3, callV_4, sz1, sz2, sz3, sz4, sz5, sz6, sz7, sz8, sz9, sz10, sz11, sz12, dvs, D.ix, L2.atI, ixN, D.cmpI, D.toI, D.mod, D.fdiv, D.add, D.sub, D.mul, D.pow, D.neg, D.len, D.mkL, D.mkT, D.isN, D.notN, isiB, isi2, D.is, D.tn, D.eq, D.ne, D.sc, D.eqb, sPut, sFor, forL, seqM, srcN, D.rng1, D.rng2, D.enum]
theorem ws_bad {d x : D} {l : List D} (hd : RowD d l) (hx : b0_want_spans [.val d, .val (.int (l.length - 1 : Nat)), .val x] = .exc (badItem (.int (l.length - 1 : Nat))) [.val d, .val (.int (l.length - 1 : Nat)), .val x]) :
    ∀ (suf : List D) (ps : List (Int × Int)) (pre : List D) (lo : Int) (s1 s2 : Slot), l = pre ++ suf ++ [x] → All2 SpanD suf ps → okS lo ps → (pre = [] ∨ ∃ pre' pd q, pre = pre' ++ [pd] ∧ SpanD pd q ∧ q.2 = lo) →
    s1.isOwn = false → s2.isOwn = false → ∃ t1 t2, forL (gTu (gCo (gN 1) (gCo (gN 2) gNi)) 2) b0_want_spans (numd pre.length (suf ++ [x])) [.val d, s1, s2] = .exc (badItem (.int (l.length - 1 : Nat))) [.val d, t1, t2]
  | [], _, pre, lo, s1, s2, e, .nil, _, _, h1, h2 => by
    have hk : l.length - 1 = pre.length := by rw [e]; simp
    rw [hk] at hx ⊢
    refine ⟨.val (.int pre.length), .val x, ?_⟩
    rw [List.nil_append]
    unfold numd forL
    simp only [gTu, gCo, gN, gNi, h1, h2, List.length_cons, List.length_nil, Option.bind, List.getElem?_cons_succ, List.getElem?_cons_zero, List.set_cons_succ, List.set_cons_zero, Bool.false_eq_true, if_false, if_true]
    rw [hx]
  | y :: suf, p :: ps, pre, lo, s1, s2, e, .cons hs ha, ⟨k1, k2, k3, k4, k5⟩, hp, h1, h2 => by
    have hb : b0_want_spans [.val d, .val (.int pre.length), .val y] = .nx [.val d, .val (.int pre.length), .val y] := by
      rcases hp with rfl | ⟨pre', pd, q, rfl, g1, g2⟩
      · exact ws_body (prev := .non) (q := (0, 0)) hd hs k2 k3 k4 (.inl rfl)
      · refine ws_body (prev := pd) (q := q) hd hs k2 k3 k4 (.inr ⟨?_, g1, by omega⟩)
        rw [e]
        simp
    obtain ⟨t1, t2, j3⟩ := ws_bad hd hx suf ps (pre ++ [y]) p.2 (.val (.int pre.length)) (.val y) (by rw [e]; simp) ha k5 (.inr ⟨pre, y, p, rfl, hs, rfl⟩) rfl rfl
    refine ⟨t1, t2, ?_⟩
    have e1 : (pre ++ [y]).length = pre.length + 1 := by simp
    rw [e1] at j3
    rw [List.cons_append]
    unfold numd forL
    simp only [gTu, gCo, gN, gNi, h1, h2, List.length_cons, List.length_nil, Option.bind, List.getElem?_cons_succ, List.getElem?_cons_zero, List.set_cons_succ, List.set_cons_zero, Bool.false_eq_true, if_false, if_true]
    rw [hb]
    exact j3
theorem all2_self (ps : List (Int × Int)) : All2 SpanD (ps.map spT) ps := by
  induction ps with
  | nil => exact .nil
  | cons q qs ih => exact .cons (.inr rfl) ih
/-- what is refused as the last one -/
structure Bad (d : D) (n : Nat) : Prop where
  want : f_want_spans [.val d] = .exc (badItem (.int n)) [.val d]
theorem want_bad {x : D} {ps : List (Int × Int)} (ok : okS 0 ps) (hz : ps.length + 1 ≤ sizeLine) (hx : x ∈ wrongs ∨ (x = .tup [.int 0, .int 61] ∧ ps ≠ [])) : f_want_spans [.val (.lst (ps.map spT ++ [x]))] = .exc (badItem (.int ps.length)) [.val (.lst (ps.map spT ++ [x]))] := by
  have hd : RowD (.lst (ps.map spT ++ [x])) (ps.map spT ++ [x]) := .inl rfl
  have hlen : (ps.map spT ++ [x]).length - 1 = ps.length := by simp
  have hb : b0_want_spans [.val (.lst (ps.map spT ++ [x])), .val (.int ((ps.map spT ++ [x]).length - 1 : Nat)), .val x] = .exc (badItem (.int ((ps.map spT ++ [x]).length - 1 : Nat))) [.val (.lst (ps.map spT ++ [x])), .val (.int ((ps.map spT ++ [x]).length - 1 : Nat)), .val x] := by
    rcases hx with hx | ⟨rfl, hne⟩
    · exact wrong_body (wrong_span x hx)
    · have hl : 0 < ps.length := List.length_pos_iff.mpr hne
      have g : ∀ p ∈ ps, 0 < p.2 := fun p hp => by have := okS_mem ok p hp; omega
      have hlt : ps.length - 1 < ps.length := by omega
      rw [hlen]
      refine low_body (prev := spT ps[ps.length - 1]) (q := ps[ps.length - 1]) hd hl ?_ (.inr rfl) (g _ (List.getElem_mem hlt))
      rw [List.getElem?_append_left (by simpa using hlt), List.getElem?_map, List.getElem?_eq_getElem hlt]
      rfl
  obtain ⟨t1, t2, hf⟩ := ws_bad hd hb (ps.map spT) ps [] 0 .no .no rfl (all2_self ps) ok (.inl rfl) rfl rfl
  rw [hlen] at hf
  clear hb hx
  have hr := is_row_ok hd
  have he : (srcN D.enum [.v (var 0)]) [.val (.lst (ps.map spT ++ [x])), .no, .no] = .ok (numd 0 (ps.map spT ++ [x])) [.val (.lst (ps.map spT ++ [x])), .no, .no] := by
    generalize ps.map spT ++ [x] = L
    simp [fnF, sSeq, sIf, asTest, op1, op2, opN, opV, M.bnd, M.ret, M.opt, Arg.ev, rs, rss, Slot.rd, Slot.arg, Slot.has, evs, sV, sAsg, sNx, var, gN, gTu, gCo, gNi, Slot.isOwn, vAnd, vOr, vNot, vIf, bAnd, bOr, bNot, chain, chC, chL, callF, callV_1, callV_2, callV_3, callV_4, sz1, sz2, sz3, sz4, sz5, sz6, sz7, sz8, sz9, sz10, sz11, sz12, dvs, D.ix, L2.atI, ixN, D.cmpI, D.toI, D.mod, D.fdiv, D.add, D.sub, D.mul, D.pow, D.neg, D.len, D.mkL, D.mkT, D.isN, D.notN, isiB, isi2, D.is, D.tn, D.eq, D.ne, D.sc, D.eqb, sPut, sFor, forL, seqM, srcN, D.rng1, D.rng2, D.enum]
  have e1 : l1_want_spans [.val (.lst (ps.map spT ++ [x])), .no, .no] = .exc (badItem (.int ps.length)) [.val (.lst (ps.map spT ++ [x])), t1, t2] := (for_ok he).trans hf
  clear he hf hd hz hlen
  generalize ps.map spT ++ [x] = L at *
  simp [f_want_spans, m_want_spans, hr, e1, fnF, sSeq, sIf, asTest, op1, op2, opN, opV, M.bnd, M.ret, M.opt, Arg.ev, rs, rss, Slot.rd, Slot.arg, Slot.has, evs, sV, sAsg, sNx, var, gN, gTu, gCo, gNi, Slot.isOwn, vAnd, vOr, vNot, vIf, bAnd, bOr, bNot, chain, chC, chL, callF, callV_1, callV_2, callV_3, callV_4, sz1, sz2, sz3, sz4, sz5, sz6, sz7, sz8, sz9, sz10, sz11, sz12, dvs, D.ix, L2.atI, ixN, D.cmpI, D.toI, D.mod, D.fdiv, D.add, D.sub, D.mul, D.pow, D.neg, D.len, D.mkL, D.mkT, D.isN, D.notN, isiB, isi2, D.is, D.tn, D.eq, D.ne, D.sc, D.eqb, sPut]
theorem comp_exc {vs : List Nat} {src : M (List D)} {t : D → Ev → Option Ev} {tt : M Bool} {te : M D} {ρ ρ1 : Ev} {e : Ex} (h : src ρ = .exc e ρ1) : compM vs src t tt te ρ = .exc e ρ1 := bnd_exc h
theorem for_exc {src : M (List D)} {t : D → Ev → Option Ev} {b : S} {ρ ρ1 : Ev} {e : Ex} (h : src ρ = .exc e ρ1) : sFor src t b ρ = .exc e ρ1 := by
  unfold sFor
  rw [h]
section
variable {m w : Int} {d : D} {e : Ex} (h : f_want_spans [.val d] = .exc e [.val d])
include h
theorem inside_no {day : D} : f_StayRule_inside [.val (rule m w), .val d, .val (.int 50)] = .exc e [.val (rule m w), .val d, .val (.int 50)] := by
  have hs : seqM (callF f_want_spans [.v (var 1)]) [.val (rule m w), .val d, .val (.int 50), .val (.int (50 - w + 1)), .no, .no] = .exc e [.val (rule m w), .val d, .val (.int 50), .val (.int (50 - w + 1)), .no, .no] := by simp [h, fnF, sSeq, sIf, asTest, op1, op2, opN, opV, M.bnd, M.ret, M.opt, Arg.ev, rs, rss, Slot.rd, Slot.arg, Slot.has, evs, sV, sAsg, sNx, var, gN, gTu, gCo, gNi, Slot.isOwn, vAnd, vOr, vNot, vIf, bAnd, bOr, bNot, chain, chC, chL, callF, callV_1, callV_2, callV_3, callV_4, sz1, sz2, sz3, sz4, sz5, sz6, sz7, sz8, sz9, sz10, sz11, sz12, dvs, D.ix, L2.atI, ixN, D.cmpI, D.toI, D.mod, D.fdiv, D.add, D.sub, D.mul, D.pow, D.neg, D.len, D.mkL, D.mkT, D.isN, D.notN, isiB, isi2, D.is, D.tn, D.eq, D.ne, D.sc, D.eqb, sPut, sFor, forL, seqM, srcN, D.rng1, D.rng2, D.enum]
  have hk : k1_StayRule_inside [.val (rule m w), .val d, .val (.int 50), .val (.int (50 - w + 1)), .no, .no] = .exc e [.val (rule m w), .val d, .val (.int 50), .val (.int (50 - w + 1)), .no, .no] := comp_exc hs
  simp [f_StayRule_inside, m_StayRule_inside, fld_window, hk, fnF, sSeq, sIf, asTest, op1, op2, opN, opV, M.bnd, M.ret, M.opt, Arg.ev, rs, rss, Slot.rd, Slot.arg, Slot.has, evs, sV, sAsg, sNx, var, gN, gTu, gCo, gNi, Slot.isOwn, vAnd, vOr, vNot, vIf, bAnd, bOr, bNot, chain, chC, chL, callF, callV_1, callV_2, callV_3, callV_4, sz1, sz2, sz3, sz4, sz5, sz6, sz7, sz8, sz9, sz10, sz11, sz12, dvs, D.ix, L2.atI, ixN, D.cmpI, D.toI, D.mod, D.fdiv, D.add, D.sub, D.mul, D.pow, D.neg, D.len, D.mkL, D.mkT, D.isN, D.notN, isiB, isi2, D.is, D.tn, D.eq, D.ne, D.sc, D.eqb, sPut]
theorem first_over_no : f_StayRule_first_over [.val (rule m w), .val d] = .exc e [.val (rule m w), .val d] := by
  have hs : seqM (callF f_want_spans [.v (var 1)]) [.val (rule m w), .val d, .no, .no, .no] = .exc e [.val (rule m w), .val d, .no, .no, .no] := by simp [h, fnF, sSeq, sIf, asTest, op1, op2, opN, opV, M.bnd, M.ret, M.opt, Arg.ev, rs, rss, Slot.rd, Slot.arg, Slot.has, evs, sV, sAsg, sNx, var, gN, gTu, gCo, gNi, Slot.isOwn, vAnd, vOr, vNot, vIf, bAnd, bOr, bNot, chain, chC, chL, callF, callV_1, callV_2, callV_3, callV_4, sz1, sz2, sz3, sz4, sz5, sz6, sz7, sz8, sz9, sz10, sz11, sz12, dvs, D.ix, L2.atI, ixN, D.cmpI, D.toI, D.mod, D.fdiv, D.add, D.sub, D.mul, D.pow, D.neg, D.len, D.mkL, D.mkT, D.isN, D.notN, isiB, isi2, D.is, D.tn, D.eq, D.ne, D.sc, D.eqb, sPut, sFor, forL, seqM, srcN, D.rng1, D.rng2, D.enum]
  have hk : l3_StayRule_first_over [.val (rule m w), .val d, .no, .no, .no] = .exc e [.val (rule m w), .val d, .no, .no, .no] := for_exc hs
  simp [f_StayRule_first_over, m_StayRule_first_over, hk, fnF, sSeq, sIf, asTest, op1, op2, opN, opV, M.bnd, M.ret, M.opt, Arg.ev, rs, rss, Slot.rd, Slot.arg, Slot.has, evs, sV, sAsg, sNx, var, gN, gTu, gCo, gNi, Slot.isOwn, vAnd, vOr, vNot, vIf, bAnd, bOr, bNot, chain, chC, chL, callF, callV_1, callV_2, callV_3, callV_4, sz1, sz2, sz3, sz4, sz5, sz6, sz7, sz8, sz9, sz10, sz11, sz12, dvs, D.ix, L2.atI, ixN, D.cmpI, D.toI, D.mod, D.fdiv, D.add, D.sub, D.mul, D.pow, D.neg, D.len, D.mkL, D.mkT, D.isN, D.notN, isiB, isi2, D.is, D.tn, D.eq, D.ne, D.sc, D.eqb, sPut]
theorem is_lawful_no : f_StayRule_is_lawful [.val (rule m w), .val d] = .exc e [.val (rule m w), .val d] := by
  have hf := first_over_no (m := m) (w := w) h
  have hm := fun φ as ρ => meth_self (m := m) (w := w) (mn := "first_over") (φ := φ) (as := as) (ρ := ρ) (rule_no (by decide))
  simp [f_StayRule_is_lawful, m_StayRule_is_lawful, hm, hf, fnF, sSeq, sIf, asTest, op1, op2, opN, opV, M.bnd, M.ret, M.opt, Arg.ev, rs, rss, Slot.rd, Slot.arg, Slot.has, evs, sV, sAsg, sNx, var, gN, gTu, gCo, gNi, Slot.isOwn, vAnd, vOr, vNot, vIf, bAnd, bOr, bNot, chain, chC, chL, callF, callV_1, callV_2, callV_3, callV_4, sz1, sz2, sz3, sz4, sz5, sz6, sz7, sz8, sz9, sz10, sz11, sz12, dvs, D.ix, L2.atI, ixN, D.cmpI, D.toI, D.mod, D.fdiv, D.add, D.sub, D.mul, D.pow, D.neg, D.len, D.mkL, D.mkT, D.isN, D.notN, isiB, isi2, D.is, D.tn, D.eq, D.ne, D.sc, D.eqb, sPut]
theorem can_stay_no : f_StayRule_can_stay [.val (rule m w), .val d, .val (.int 50)] = .exc e [.val (rule m w), .val d, .val (.int 50)] := by
  simp [f_StayRule_can_stay, m_StayRule_can_stay, h, fnF, sSeq, sIf, asTest, op1, op2, opN, opV, M.bnd, M.ret, M.opt, Arg.ev, rs, rss, Slot.rd, Slot.arg, Slot.has, evs, sV, sAsg, sNx, var, gN, gTu, gCo, gNi, Slot.isOwn, vAnd, vOr, vNot, vIf, bAnd, bOr, bNot, chain, chC, chL, callF, callV_1, callV_2, callV_3, callV_4, sz1, sz2, sz3, sz4, sz5, sz6, sz7, sz8, sz9, sz10, sz11, sz12, dvs, D.ix, L2.atI, ixN, D.cmpI, D.toI, D.mod, D.fdiv, D.add, D.sub, D.mul, D.pow, D.neg, D.len, D.mkL, D.mkT, D.isN, D.notN, isiB, isi2, D.is, D.tn, D.eq, D.ne, D.sc, D.eqb, sPut]
theorem long_no : f_StayRule_longest_stay [.val (rule m w), .val d, .val (.int 50)] = .exc e [.val (rule m w), .val d, .val (.int 50)] := by
  simp [f_StayRule_longest_stay, m_StayRule_longest_stay, sPar, h, fnF, sSeq, sIf, asTest, op1, op2, opN, opV, M.bnd, M.ret, M.opt, Arg.ev, rs, rss, Slot.rd, Slot.arg, Slot.has, evs, sV, sAsg, sNx, var, gN, gTu, gCo, gNi, Slot.isOwn, vAnd, vOr, vNot, vIf, bAnd, bOr, bNot, chain, chC, chL, callF, callV_1, callV_2, callV_3, callV_4, sz1, sz2, sz3, sz4, sz5, sz6, sz7, sz8, sz9, sz10, sz11, sz12, dvs, D.ix, L2.atI, ixN, D.cmpI, D.toI, D.mod, D.fdiv, D.add, D.sub, D.mul, D.pow, D.neg, D.len, D.mkL, D.mkT, D.isN, D.notN, isiB, isi2, D.is, D.tn, D.eq, D.ne, D.sc, D.eqb, sPut]
theorem entry_no : f_StayRule_first_entry [.val (rule m w), .val d, .val (.int 50), .val (.int 1)] = .exc e [.val (rule m w), .val d, .val (.int 50), .val (.int 1)] := by
  simp [f_StayRule_first_entry, m_StayRule_first_entry, h, fnF, sSeq, sIf, asTest, op1, op2, opN, opV, M.bnd, M.ret, M.opt, Arg.ev, rs, rss, Slot.rd, Slot.arg, Slot.has, evs, sV, sAsg, sNx, var, gN, gTu, gCo, gNi, Slot.isOwn, vAnd, vOr, vNot, vIf, bAnd, bOr, bNot, chain, chC, chL, callF, callV_1, callV_2, callV_3, callV_4, sz1, sz2, sz3, sz4, sz5, sz6, sz7, sz8, sz9, sz10, sz11, sz12, dvs, D.ix, L2.atI, ixN, D.cmpI, D.toI, D.mod, D.fdiv, D.add, D.sub, D.mul, D.pow, D.neg, D.len, D.mkL, D.mkT, D.isN, D.notN, isiB, isi2, D.is, D.tn, D.eq, D.ne, D.sc, D.eqb, sPut]
end
theorem refused_ok {m w : Int} {d x : D} (h : f_want_spans [.val d] = .exc (badItem x) [.val d]) : ∀ t : Nat, t < 6 → f_ulaw_refused [.val (rule m w), .val d, .val (.int t)] = .ok (.tup [.str "item", x]) [.val (rule m w), .val d, .val (.int t)] := by
  have hm := fun mn φ as ρ z => meth_self (m := m) (w := w) (mn := mn) (φ := φ) (as := as) (ρ := ρ) (rule_no z)
  have h0 := inside_no (m := m) (w := w) (day := .non) h
  have h1 := first_over_no (m := m) (w := w) h
  have h2 := is_lawful_no (m := m) (w := w) h
  have h3 := can_stay_no (m := m) (w := w) h
  have h4 := long_no (m := m) (w := w) h
  have h5 := entry_no (m := m) (w := w) h
  have kn : ("BadItem" : Str) ∈ known := List.mem_cons_self
  have ca : caught "BadItem" "BadItem" = true := by decide
  have n0 : ¬ (("inside" : Str) = "most") ∧ ¬ (("inside" : Str) = "window") := by decide
  have n1 : ¬ (("first_over" : Str) = "most") ∧ ¬ (("first_over" : Str) = "window") := by decide
  have n2 : ¬ (("is_lawful" : Str) = "most") ∧ ¬ (("is_lawful" : Str) = "window") := by decide
  have n3 : ¬ (("can_stay" : Str) = "most") ∧ ¬ (("can_stay" : Str) = "window") := by decide
  have n4 : ¬ (("longest_stay" : Str) = "most") ∧ ¬ (("longest_stay" : Str) = "window") := by decide
  have n5 : ¬ (("first_entry" : Str) = "most") ∧ ¬ (("first_entry" : Str) = "window") := by decide
  intro t ht
  match t, ht with
  | 0, _ => simp [f_ulaw_refused, m_ulaw_refused, hm _ _ _ _ n0, h0, sTry, exF, badItem, kn, ca, noExBut, noEx, Slot.isEx, fnF, sSeq, sIf, asTest, op1, op2, opN, opV, M.bnd, M.ret, M.opt, Arg.ev, rs, rss, Slot.rd, Slot.arg, Slot.has, evs, sV, sAsg, sNx, var, gN, gTu, gCo, gNi, Slot.isOwn, vAnd, vOr, vNot, vIf, bAnd, bOr, bNot, chain, chC, chL, callF, callV_1, callV_2, callV_3, callV_4, sz1, sz2, sz3, sz4, sz5, sz6, sz7, sz8, sz9, sz10, sz11, sz12, dvs, D.ix, L2.atI, ixN, D.cmpI, D.toI, D.mod, D.fdiv, D.add, D.sub, D.mul, D.pow, D.neg, D.len, D.mkL, D.mkT, D.isN, D.notN, isiB, isi2, D.is, D.tn, D.eq, D.ne, D.sc, D.eqb, sPut]
  | 1, _ => simp [f_ulaw_refused, m_ulaw_refused, hm _ _ _ _ n1, h1, sTry, exF, badItem, kn, ca, noExBut, noEx, Slot.isEx, fnF, sSeq, sIf, asTest, op1, op2, opN, opV, M.bnd, M.ret, M.opt, Arg.ev, rs, rss, Slot.rd, Slot.arg, Slot.has, evs, sV, sAsg, sNx, var, gN, gTu, gCo, gNi, Slot.isOwn, vAnd, vOr, vNot, vIf, bAnd, bOr, bNot, chain, chC, chL, callF, callV_1, callV_2, callV_3, callV_4, sz1, sz2, sz3, sz4, sz5, sz6, sz7, sz8, sz9, sz10, sz11, sz12, dvs, D.ix, L2.atI, ixN, D.cmpI, D.toI, D.mod, D.fdiv, D.add, D.sub, D.mul, D.pow, D.neg, D.len, D.mkL, D.mkT, D.isN, D.notN, isiB, isi2, D.is, D.tn, D.eq, D.ne, D.sc, D.eqb, sPut]
  | 2, _ => simp [f_ulaw_refused, m_ulaw_refused, hm _ _ _ _ n2, h2, sTry, exF, badItem, kn, ca, noExBut, noEx, Slot.isEx, fnF, sSeq, sIf, asTest, op1, op2, opN, opV, M.bnd, M.ret, M.opt, Arg.ev, rs, rss, Slot.rd, Slot.arg, Slot.has, evs, sV, sAsg, sNx, var, gN, gTu, gCo, gNi, Slot.isOwn, vAnd, vOr, vNot, vIf, bAnd, bOr, bNot, chain, chC, chL, callF, callV_1, callV_2, callV_3, callV_4, sz1, sz2, sz3, sz4, sz5, sz6, sz7, sz8, sz9, sz10, sz11, sz12, dvs, D.ix, L2.atI, ixN, D.cmpI, D.toI, D.mod, D.fdiv, D.add, D.sub, D.mul, D.pow, D.neg, D.len, D.mkL, D.mkT, D.isN, D.notN, isiB, isi2, D.is, D.tn, D.eq, D.ne, D.sc, D.eqb, sPut]
  | 3, _ => simp [f_ulaw_refused, m_ulaw_refused, hm _ _ _ _ n3, h3, sTry, exF, badItem, kn, ca, noExBut, noEx, Slot.isEx, fnF, sSeq, sIf, asTest, op1, op2, opN, opV, M.bnd, M.ret, M.opt, Arg.ev, rs, rss, Slot.rd, Slot.arg, Slot.has, evs, sV, sAsg, sNx, var, gN, gTu, gCo, gNi, Slot.isOwn, vAnd, vOr, vNot, vIf, bAnd, bOr, bNot, chain, chC, chL, callF, callV_1, callV_2, callV_3, callV_4, sz1, sz2, sz3, sz4, sz5, sz6, sz7, sz8, sz9, sz10, sz11, sz12, dvs, D.ix, L2.atI, ixN, D.cmpI, D.toI, D.mod, D.fdiv, D.add, D.sub, D.mul, D.pow, D.neg, D.len, D.mkL, D.mkT, D.isN, D.notN, isiB, isi2, D.is, D.tn, D.eq, D.ne, D.sc, D.eqb, sPut]
  | 4, _ => simp [f_ulaw_refused, m_ulaw_refused, hm _ _ _ _ n4, h4, sTry, exF, badItem, kn, ca, noExBut, noEx, Slot.isEx, fnF, sSeq, sIf, asTest, op1, op2, opN, opV, M.bnd, M.ret, M.opt, Arg.ev, rs, rss, Slot.rd, Slot.arg, Slot.has, evs, sV, sAsg, sNx, var, gN, gTu, gCo, gNi, Slot.isOwn, vAnd, vOr, vNot, vIf, bAnd, bOr, bNot, chain, chC, chL, callF, callV_1, callV_2, callV_3, callV_4, sz1, sz2, sz3, sz4, sz5, sz6, sz7, sz8, sz9, sz10, sz11, sz12, dvs, D.ix, L2.atI, ixN, D.cmpI, D.toI, D.mod, D.fdiv, D.add, D.sub, D.mul, D.pow, D.neg, D.len, D.mkL, D.mkT, D.isN, D.notN, isiB, isi2, D.is, D.tn, D.eq, D.ne, D.sc, D.eqb, sPut]
  | 5, _ => simp [f_ulaw_refused, m_ulaw_refused, hm _ _ _ _ n5, h5, sTry, exF, badItem, kn, ca, noExBut, noEx, Slot.isEx, fnF, sSeq, sIf, asTest, op1, op2, opN, opV, M.bnd, M.ret, M.opt, Arg.ev, rs, rss, Slot.rd, Slot.arg, Slot.has, evs, sV, sAsg, sNx, var, gN, gTu, gCo, gNi, Slot.isOwn, vAnd, vOr, vNot, vIf, bAnd, bOr, bNot, chain, chC, chL, callF, callV_1, callV_2, callV_3, callV_4, sz1, sz2, sz3, sz4, sz5, sz6, sz7, sz8, sz9, sz10, sz11, sz12, dvs, D.ix, L2.atI, ixN, D.cmpI, D.toI, D.mod, D.fdiv, D.add, D.sub, D.mul, D.pow, D.neg, D.len, D.mkL, D.mkT, D.isN, D.notN, isiB, isi2, D.is, D.tn, D.eq, D.ne, D.sc, D.eqb, sPut]
end DL
namespace DL
open PySem L2
theorem add_ii (i j : Int) : D.add (.int i) (.int j) = some (.int (i + j)) := rfl
theorem so_no : Slot.isOwn .no = false := rfl
theorem so_val {d : D} : Slot.isOwn (.val d) = false := rfl
theorem so_own {l : List D} : Slot.isOwn (.own l) = true := rfl
theorem so_dic {l m : List D} : Slot.isOwn (.dic l m) = true := rfl
theorem so_inst {c : Str} {ns : List Str} {l : List D} : Slot.isOwn (.inst c ns l) = true := rfl
theorem so_ex {e : Ex} : Slot.isOwn (.ex e) = false := rfl
theorem sh_no : Slot.has .no = false := rfl
theorem sh_val {d : D} : Slot.has (.val d) = true := rfl
theorem sh_own {l : List D} : Slot.has (.own l) = true := rfl
theorem sh_dic {l m : List D} : Slot.has (.dic l m) = true := rfl
theorem sh_inst {c : Str} {ns : List Str} {l : List D} : Slot.has (.inst c ns l) = true := rfl
theorem sh_ex {e : Ex} : Slot.has (.ex e) = true := rfl
theorem sa_no : Slot.arg .no = false := rfl
theorem sa_val {d : D} : Slot.arg (.val d) = true := rfl
theorem sa_own {l : List D} : Slot.arg (.own l) = true := rfl
theorem sa_dic {l m : List D} : Slot.arg (.dic l m) = true := rfl
theorem sa_inst {c : Str} {ns : List Str} {l : List D} : Slot.arg (.inst c ns l) = true := rfl
theorem sa_ex {e : Ex} : Slot.arg (.ex e) = false := rfl
theorem callV_o1g {φ : Fn} {i : Nat} {a : D} {ρ : Ev} : callV φ [.o i, .d a] ρ = match ρ[i]? with
    | none => .bad
    | some s => if s.arg = true then (match φ [s, .val a] with
      | .ok d (t :: _ :: _) => if s.isOwn = true then (if t.isOwn = true then .ok d (ρ.set i t) else .bad) else .ok d ρ
      | .exc e (t :: _ :: _) => if s.isOwn = true then (if t.isOwn = true then .exc e (ρ.set i t) else .bad) else .exc e ρ
      | _ => .bad) else .bad := by
  unfold callV
  cases h : ρ[i]? with
  | none => simp [slotsOf, h]
  | some s =>
    cases ha : s.arg with
    | false => simp [slotsOf, h, ha]
    | true =>
      have e1 : slotsOf [.o i, .d a] ρ = some [s, .val a] := by simp [slotsOf, h, ha]
      rw [e1]
      cases ho : s.isOwn with
      | false =>
        have e2 : ownIx [.o i, .d a] ρ = [] := by simp [ownIx, h, ho]
        rw [e2]
        dsimp only
        rw [if_pos (by simp)]
        cases φ [s, .val a] with
        | bad => simp [ha]
        | ok d os => rcases os with _ | ⟨t, _ | ⟨u, os⟩⟩ <;> simp [upsOf, h, ho, ha, updE]
        | exc e os => rcases os with _ | ⟨t, _ | ⟨u, os⟩⟩ <;> simp [upsOf, h, ho, ha, updE]
      | true =>
        have e2 : ownIx [.o i, .d a] ρ = [i] := by simp [ownIx, h, ho]
        rw [e2]
        dsimp only
        rw [if_pos (by simp)]
        cases φ [s, .val a] with
        | bad => simp [ha]
        | ok d os => rcases os with _ | ⟨t, _ | ⟨u, os⟩⟩ <;> (try cases ht : t.isOwn) <;> simp [upsOf, h, ho, ha, updE, *]
        | exc e os => rcases os with _ | ⟨t, _ | ⟨u, os⟩⟩ <;> (try cases ht : t.isOwn) <;> simp [upsOf, h, ho, ha, updE, *]
theorem rule_init {m w : Int} (h1 : 0 ≤ m) (h2 : m ≤ 400) (h3 : 1 ≤ w) (h4 : w ≤ 400) : f_StayRule_uuinit__ [.inst "StayRule" [] [], .val (.int m), .val (.int w)] = .ok .non [.inst "StayRule" ["most", "window"] [.int m, .int w], .val (.int m), .val (.int w)] := by
  have e1 := want_number_ok h1 h2
  have e2 := want_number_ok h3 h4
  have n1 : ¬ (("most" : Str) = "window") := by decide
  simp [f_StayRule_uuinit__, m_StayRule_uuinit__, sFldSet, putN, putL, e1, e2, n1, fnF, sSeq, sIf, asTest, op1, op2, opN, opV, M.bnd, M.ret, M.opt, Arg.ev, rs, rss, Slot.rd, Slot.arg, Slot.has, evs, sV, sAsg, sNx, var, gN, gTu, gCo, gNi, Slot.isOwn, vAnd, vOr, vNot, vIf, bAnd, bOr, bNot, chain, chC, chL, callF, callV_1, callV_2, callV_3, callV_4, sz1, sz2, sz3, sz4, sz5, sz6, sz7, sz8, sz9, sz10, sz11, sz12, dvs, D.ix, L2.atI, ixN, D.cmpI, D.toI, D.mod, D.fdiv, D.add, D.sub, D.mul, D.pow, D.neg, D.len, D.mkL, D.mkT, D.isN, D.notN, isiB, isi2, D.is, D.tn, D.eq, D.ne, D.sc, D.eqb, sPut]
theorem sh_pair (a b : Int) : (D.tup [.int a, .int b]).sh = true := rfl
theorem rule_eq {m w a b : Int} : f_StayRule_uueq__ [.val (rule m w), .val (rule a b)] = .ok (.bl (decide (m = a) && decide (w = b))) [.val (rule m w), .val (rule a b)] := by
  have e1 : isiC "StayRule" (rule a b) = some (.bl true) := rfl
  by_cases h1 : m = a <;> by_cases h2 : w = b <;> simp [f_StayRule_uueq__, m_StayRule_uueq__, e1, fld_most, fld_window, sh_pair, D.eqbs, h1, h2, fnF, sSeq, sIf, asTest, op1, op2, opN, opV, M.bnd, M.ret, M.opt, Arg.ev, rs, rss, Slot.rd, Slot.arg, Slot.has, evs, sV, sAsg, sNx, var, gN, gTu, gCo, gNi, Slot.isOwn, vAnd, vOr, vNot, vIf, bAnd, bOr, bNot, chain, chC, chL, callF, callV_1, callV_2, callV_3, callV_4, sz1, sz2, sz3, sz4, sz5, sz6, sz7, sz8, sz9, sz10, sz11, sz12, dvs, D.ix, L2.atI, ixN, D.cmpI, D.toI, D.mod, D.fdiv, D.add, D.sub, D.mul, D.pow, D.neg, D.len, D.mkL, D.mkT, D.isN, D.notN, isiB, isi2, D.is, D.tn, D.eq, D.ne, D.sc, D.eqb, sPut]
theorem rule_eq_tup {m w : Int} {l : List D} : f_StayRule_uueq__ [.val (rule m w), .val (.tup l)] = .ok (.bl false) [.val (rule m w), .val (.tup l)] := by
  have e1 : isiC "StayRule" (.tup l) = some (.bl false) := rfl
  simp [f_StayRule_uueq__, m_StayRule_uueq__, e1, fnF, sSeq, sIf, asTest, op1, op2, opN, opV, M.bnd, M.ret, M.opt, Arg.ev, rs, rss, Slot.rd, Slot.arg, Slot.has, evs, sV, sAsg, sNx, var, gN, gTu, gCo, gNi, Slot.isOwn, vAnd, vOr, vNot, vIf, bAnd, bOr, bNot, chain, chC, chL, callF, callV_1, callV_2, callV_3, callV_4, sz1, sz2, sz3, sz4, sz5, sz6, sz7, sz8, sz9, sz10, sz11, sz12, dvs, D.ix, L2.atI, ixN, D.cmpI, D.toI, D.mod, D.fdiv, D.add, D.sub, D.mul, D.pow, D.neg, D.len, D.mkL, D.mkT, D.isN, D.notN, isiB, isi2, D.is, D.tn, D.eq, D.ne, D.sc, D.eqb, sPut]
theorem pick_eq {l ks : List D} (hl : RowOk l) (h0 : 0 < ks.length) (h1 : ks.length < 1000) : ∃ x, ks[(tkV l ks.length).toNat]? = some x ∧ f_ulaw_pick [.own l, .val (.lst ks)] = .ok x [.own (tkN l ks.length), .val (.lst ks)] := by
  have g0 : (0 : Int) < (ks.length : Int) := by omega
  have g1 : (ks.length : Int) < 1073741824 := by omega
  have e := tk_eq hl g0 g1
  have lo := tkV_lo hl g0 g1
  have hi := tkV_hi hl g0 g1
  have hn : (tkV l ks.length).toNat < ks.length := by omega
  have e2 : (((tkV l ks.length).toNat : Nat) : Int) = tkV l ks.length := by omega
  refine ⟨ks[(tkV l ks.length).toNat], List.getElem?_eq_getElem hn, ?_⟩
  have e3 : callF f_ulaw_taken [.o 0, .v (opN D.len [.o 1])] [.own l, .val (.lst ks)] = .ok (.int (tkV l ks.length)) [.own (tkN l ks.length), .val (.lst ks)] := by
    unfold callF
    rw [bnd_ok (evs_o1 (i := 0) (m := opN D.len [.o 1]) (ρ := [.own l, .val (.lst ks)]) (l := l) (a := .int (ks.length : Int)) rfl (by clear e lo hi hn e2; simp [fnF, sSeq, sIf, asTest, op1, op2, opN, opV, M.bnd, M.ret, M.opt, Arg.ev, rs, rss, Slot.rd, Slot.arg, Slot.has, evs, sV, sAsg, sNx, var, gN, gTu, gCo, gNi, Slot.isOwn, vAnd, vOr, vNot, vIf, bAnd, bOr, bNot, chain, chC, chL, callF, callV_1, callV_2, callV_3, callV_4, sz1, sz2, sz3, sz4, sz5, sz6, sz7, sz8, sz9, sz10, sz11, sz12, dvs, D.ix, L2.atI, ixN, D.cmpI, D.toI, D.mod, D.fdiv, D.add, D.sub, D.mul, D.pow, D.neg, D.len, D.mkL, D.mkT, D.isN, D.notN, isiB, isi2, D.is, D.tn, D.eq, D.ne, D.sc, D.eqb, sPut])), callV_o1 (l := l) rfl, e]
    rfl
  have e4 : D.ix (.lst ks) (.int (tkV l ks.length)) = some ks[(tkV l ks.length).toNat] := by
    clear e e3
    generalize tkV l ks.length = v at *
    obtain ⟨k, rfl⟩ := Int.eq_ofNat_of_zero_le lo
    have hn' : k < ks.length := by simpa using hn
    simp [D.ix, L2.atI, ixN, hn']
  have e5 := op2_ov (i := 1) (s := .val (.lst ks)) (ρ := [.own l, .val (.lst ks)]) (f := D.ix) (a := .lst ks) rfl rfl e3 rfl e4
  unfold f_ulaw_pick m_ulaw_pick fnF
  rw [if_pos ⟨rfl, rfl⟩]
  unfold sV
  simp only [List.replicate, List.append_nil]
  rw [e5]
  rfl
end DL
namespace DL
open PySem L2
theorem row0 {S : D} : x0_law [.val S, .no, .no, .no, .no, .no, .no, .no, .no, .no, .no, .no, .no, .no, .no, .no, .no, .no, .no, .no, .no, .no, .no, .no, .no, .no, .no, .no, .no] = .nx [.val S, .own [S, .int 0, .int 19, .int 0], .no, .no, .no, .no, .no, .no, .no, .no, .no, .no, .no, .no, .no, .no, .no, .no, .no, .no, .no, .no, .no, .no, .no, .no, .no, .no, .no] := by
  simp [x0_law, sOwn, fnF, sSeq, sIf, asTest, op1, op2, opN, opV, M.bnd, M.ret, M.opt, Arg.ev, rs, rss, Slot.rd, evs, sV, sAsg, sNx, var, gN, gTu, gCo, gNi, so_no, so_val, so_own, so_dic, so_inst, so_ex, sh_no, sh_val, sh_own, sh_dic, sh_inst, sh_ex, sa_no, sa_val, sa_own, sa_dic, sa_inst, sa_ex, vAnd, vOr, vNot, vIf, bAnd, bOr, bNot, chain, chC, chL, callF, callV_1, callV_2, callV_3, callV_4, sz1, sz2, sz3, sz4, sz5, sz6, sz7, sz8, sz9, sz10, sz11, sz12, dvs, D.ix, L2.atI, ixN, D.cmpI, D.toI, D.mod, D.fdiv, add_ii, D.sub, D.mul, D.pow, D.neg, D.len, D.mkL, D.mkT, D.isN, D.notN, isiB, isi2, D.is, D.tn, D.eq, D.ne, D.sc, D.eqb, sPut, callV_o1g]
theorem row1 {S : D} {d : List D} (hd : RowOk d) : x1_law [.val S, .own d, .no, .no, .no, .no, .no, .no, .no, .no, .no, .no, .no, .no, .no, .no, .no, .no, .no, .no, .no, .no, .no, .no, .no, .no, .no, .no, .no] = .nx [.val S, .own (tkN (tkN d 8) 12), .no, .no, .no, .no, .no, .no, .no, .no, .no, .no, .no, .no, .no, .val (.int (tkV d 8)), .val (.int (1 + tkV (tkN d 8) 12)), .no, .no, .no, .no, .no, .no, .no, .no, .no, .no, .no, .no] := by
  have e1 := tk_eq hd (m := 8) (by omega) (by omega)
  have e2 := tk_eq (tkN_ok hd (m := 8) (by omega) (by omega)) (m := 12) (by omega) (by omega)
  generalize tkN (tkN d 8) 12 = d2 at *
  generalize tkV (tkN d 8) 12 = v2 at *
  generalize tkN d 8 = d1 at *
  generalize tkV d 8 = v1 at *
  simp [x1_law, e1, e2, fnF, sSeq, sIf, asTest, op1, op2, opN, opV, M.bnd, M.ret, M.opt, Arg.ev, rs, rss, Slot.rd, evs, sV, sAsg, sNx, var, gN, gTu, gCo, gNi, so_no, so_val, so_own, so_dic, so_inst, so_ex, sh_no, sh_val, sh_own, sh_dic, sh_inst, sh_ex, sa_no, sa_val, sa_own, sa_dic, sa_inst, sa_ex, vAnd, vOr, vNot, vIf, bAnd, bOr, bNot, chain, chC, chL, callF, callV_1, callV_2, callV_3, callV_4, sz1, sz2, sz3, sz4, sz5, sz6, sz7, sz8, sz9, sz10, sz11, sz12, dvs, D.ix, L2.atI, ixN, D.cmpI, D.toI, D.mod, D.fdiv, add_ii, D.sub, D.mul, D.pow, D.neg, D.len, D.mkL, D.mkT, D.isN, D.notN, isiB, isi2, D.is, D.tn, D.eq, D.ne, D.sc, D.eqb, sPut, callV_o1g]
theorem row2 {S : D} {d : List D} {m w : Int} (h1 : 0 ≤ m) (h2 : m ≤ 400) (h3 : 1 ≤ w) (h4 : w ≤ 400) : x2_law [.val S, .own d, .no, .no, .no, .no, .no, .no, .no, .no, .no, .no, .no, .no, .no, .val (.int m), .val (.int w), .no, .no, .no, .no, .no, .no, .no, .no, .no, .no, .no, .no] = .nx [.val S, .own d, .no, .no, .no, .no, .no, .no, .no, .no, .no, .no, .no, .no, .no, .val (.int m), .val (.int w), .val (rule m w), .own [], .val (.lst []), .val (.int 0), .no, .no, .no, .no, .no, .no, .no, .no] := by
  have e := rule_init h1 h2 h3 h4
  simp [x2_law, sRow, oneQ, makeF, makeV, evQ, QA.ev, storeQ, e, rule, fnF, sSeq, sIf, asTest, op1, op2, opN, opV, M.bnd, M.ret, M.opt, Arg.ev, rs, rss, Slot.rd, evs, sV, sAsg, sNx, var, gN, gTu, gCo, gNi, so_no, so_val, so_own, so_dic, so_inst, so_ex, sh_no, sh_val, sh_own, sh_dic, sh_inst, sh_ex, sa_no, sa_val, sa_own, sa_dic, sa_inst, sa_ex, vAnd, vOr, vNot, vIf, bAnd, bOr, bNot, chain, chC, chL, callF, callV_1, callV_2, callV_3, callV_4, sz1, sz2, sz3, sz4, sz5, sz6, sz7, sz8, sz9, sz10, sz11, sz12, dvs, D.ix, L2.atI, ixN, D.cmpI, D.toI, D.mod, D.fdiv, add_ii, D.sub, D.mul, D.pow, D.neg, D.len, D.mkL, D.mkT, D.isN, D.notN, isiB, isi2, D.is, D.tn, D.eq, D.ne, D.sc, D.eqb, sPut, callV_o1g]
theorem listRng_run {a b : Int} (h0 : 0 ≤ a) (h1 : a ≤ b) (h2 : b ≤ 9999) : D.listRng [.int a, .int b] = some (lstI (run a (b - a).toNat)) := by
  have e1 : D.rngOk a b = true := by unfold D.rngOk; simp; omega
  have e2 : (b - a).toNat ≤ sizeLine := Nat.le_trans (by omega : (b - a).toNat ≤ 16777216) (Nat.le_of_eq sizeLine_eq.symm)
  show (if D.rngOk a b = true ∧ (b - a).toNat ≤ sizeLine then some (D.lst (rng a b)) else none) = _
  rw [if_pos ⟨e1, e2⟩, rng_nat]
  rfl
theorem add_lstI {a b : List Int} (h : a.length + b.length ≤ 16777216) : D.add (lstI a) (lstI b) = some (lstI (a ++ b)) := by
  have h2 : (a.map D.int).length + (b.map D.int).length ≤ sizeLine := by
    rw [List.length_map, List.length_map]
    exact Nat.le_trans h (Nat.le_of_eq sizeLine_eq.symm)
  show (if (a.map D.int).length + (b.map D.int).length ≤ sizeLine then some (D.lst (a.map D.int ++ b.map D.int)) else none) = _
  rw [if_pos h2, ← List.map_append]
  rfl
theorem run_len (a : Int) (n : Nat) : (run a n).length = n := by simp [run]
theorem days_len : ∀ {ps : List (Int × Int)} {lo : Int}, okS lo ps → ((daysOf ps).length : Int) ≤ endS lo ps - lo
  | [], lo, _ => by show ((0 : Nat) : Int) ≤ lo - lo; omega
  | p :: ps, lo, ⟨h1, h2, h3, h4, h5⟩ => by
    have ih := days_len h5
    rw [daysOf_cons, List.length_append, run_len]
    show _ ≤ endS p.2 ps - lo
    omega
theorem endS_app : ∀ (ps : List (Int × Int)) (lo : Int) (p : Int × Int), endS lo (ps ++ [p]) = p.2
  | [], _, _ => rfl
  | q :: qs, _, p => endS_app qs q.2 p
/-- a turn of the loop that draws the spans -/
theorem span_turn {s0 s2 s3 s4 s5 s6 s7 s8 s9 s10 s11 s12 s13 s14 s15 s16 s17 s21 s22 s23 s24 s25 s26 s27 s28 : Slot} {d : List D} {ps : List (Int × Int)} {e : Int} (hd : RowOk d) (ok : okS 0 ps) (he : endS 0 ps = e) (he2 : e ≤ 1000) (hl : ps.length ≤ 100) (h21 : s21.isOwn = false) :
    b3_law [s0, .own d, s2, s3, s4, s5, s6, s7, s8, s9, s10, s11, s12, s13, s14, s15, s16, s17, .own (ps.map spT), .val (lstI (daysOf ps)), .val (.int e), s21, s22, s23, s24, s25, s26, s27, s28] =
      .nx [s0, .own (tkN (tkN d 7) 5), s2, s3, s4, s5, s6, s7, s8, s9, s10, s11, s12, s13, s14, s15, s16, s17, .own ((ps ++ [(e + tkV d 7, e + tkV d 7 + 1 + tkV (tkN d 7) 5)]).map spT), .val (lstI (daysOf (ps ++ [(e + tkV d 7, e + tkV d 7 + 1 + tkV (tkN d 7) 5)]))), .val (.int (e + tkV d 7 + 1 + tkV (tkN d 7) 5)), .val (.int (e + tkV d 7)), s22, s23, s24, s25, s26, s27, s28] := by
  have hd1 := tkN_ok hd (m := 7) (by omega) (by omega)
  have e1 := tk_eq hd (m := 7) (by omega) (by omega)
  have e2 := tk_eq hd1 (m := 5) (by omega) (by omega)
  have b1 := tkV_lo hd (m := 7) (by omega) (by omega)
  have b2 := tkV_hi hd (m := 7) (by omega) (by omega)
  have b3 := tkV_lo hd1 (m := 5) (by omega) (by omega)
  have b4 := tkV_hi hd1 (m := 5) (by omega) (by omega)
  generalize tkN (tkN d 7) 5 = d2 at *
  generalize tkV (tkN d 7) 5 = v2 at *
  generalize tkN d 7 = d1 at *
  generalize tkV d 7 = v1 at *
  have b0 : 0 ≤ e := by
    have := days_len ok
    omega
  have b5 := days_len ok
  have e3 := listRng_run (a := e + v1) (b := e + v1 + 1 + v2) (by omega) (by omega) (by omega)
  have e4 : (e + v1 + 1 + v2 - (e + v1)).toNat = (1 + v2).toNat := by omega
  have e5 := add_lstI (a := daysOf ps) (b := run (e + v1) (1 + v2).toNat) (by rw [run_len]; omega)
  have e6 : daysOf (ps ++ [(e + v1, e + v1 + 1 + v2)]) = daysOf ps ++ run (e + v1) (1 + v2).toNat := by
    rw [daysOf_app]
    congr 1
    rw [daysOf_cons]
    show run (e + v1) (e + v1 + 1 + v2 - (e + v1)).toNat ++ [] = _
    rw [e4, List.append_nil]
  have e7 : (ps.map spT).length < sizeLine := by
    rw [List.length_map]
    exact Nat.lt_of_lt_of_le (by omega : ps.length < 16777216) (Nat.le_of_eq sizeLine_eq.symm)
  rw [e4] at e3
  rw [e6]
  clear e4 e6 ok hd hd1 b0 b1 b2 b3 b4 b5 he he2 hl
  generalize daysOf ps = L at *
  generalize run (e + v1) (1 + v2).toNat = R at *
  have e8 : (ps ++ [(e + v1, e + v1 + 1 + v2)]).map spT = ps.map spT ++ [D.tup [.int (e + v1), .int (e + v1 + 1 + v2)]] := by simp [spT]
  rw [e8]
  generalize ps.map spT = P at *
  simp [b3_law, e1, e2, e3, e5, h21, sApp, e7, fnF, sSeq, sIf, asTest, op1, op2, opN, opV, M.bnd, M.ret, M.opt, Arg.ev, rs, rss, Slot.rd, evs, sV, sAsg, sNx, var, gN, gTu, gCo, gNi, so_no, so_val, so_own, so_dic, so_inst, so_ex, sh_no, sh_val, sh_own, sh_dic, sh_inst, sh_ex, sa_no, sa_val, sa_own, sa_dic, sa_inst, sa_ex, vAnd, vOr, vNot, vIf, bAnd, bOr, bNot, chain, chC, chL, callF, callV_1, callV_2, callV_3, callV_4, sz1, sz2, sz3, sz4, sz5, sz6, sz7, sz8, sz9, sz10, sz11, sz12, dvs, D.ix, L2.atI, ixN, D.cmpI, D.toI, D.mod, D.fdiv, add_ii, D.sub, D.mul, D.pow, D.neg, D.len, D.mkL, D.mkT, D.isN, D.notN, isiB, isi2, D.is, D.tn, D.eq, D.ne, D.sc, D.eqb, sPut, callV_o1g]
end DL
namespace DL
open PySem L2
theorem gN_set {i : Nat} {d : D} {ρ : Ev} {s : Slot} (h : ρ[i]? = some s) (ho : s.isOwn = false) : gN i d ρ = some (ρ.set i (.val d)) := by
  unfold gN
  rw [h]
  simp [ho]
theorem for_cons {t : D → Ev → Option Ev} {b : S} {d : D} {ds : List D} {ρ ρ1 ρ2 : Ev} (h1 : t d ρ = some ρ1) (h2 : b ρ1 = .nx ρ2) : forL t b (d :: ds) ρ = forL t b ds ρ2 := by
  conv => lhs; unfold forL
  rw [h1]
  dsimp only
  rw [h2]
def Pl (s : Slot) : Prop := s.isOwn = false ∧ s.isEx = false
theorem Pl.val (d : D) : Pl (.val d) := ⟨rfl, rfl⟩
theorem Pl.no : Pl .no := ⟨rfl, rfl⟩
theorem spans_loop {s0 s3 s4 s5 s6 s7 s8 s9 s10 s11 s12 s13 s14 s15 s16 s17 s22 s23 s24 s25 s26 s27 s28 : Slot} : ∀ (K j : Nat) (d : List D) (ps : List (Int × Int)) (e : Int) (s2 s21 : Slot), RowOk d → okS 0 ps → endS 0 ps = e → e ≤ 11 * j → j + K ≤ 5 → ps.length = j → Pl s2 → Pl s21 →
    ∃ d' ps' e' t2 t21, forL (gN 2) b3_law ((List.range' j K).map fun x : Nat => D.int x) [s0, .own d, s2, s3, s4, s5, s6, s7, s8, s9, s10, s11, s12, s13, s14, s15, s16, s17, .own (ps.map spT), .val (lstI (daysOf ps)), .val (.int e), s21, s22, s23, s24, s25, s26, s27, s28] = .nx [s0, .own d', t2, s3, s4, s5, s6, s7, s8, s9, s10, s11, s12, s13, s14, s15, s16, s17, .own (ps'.map spT), .val (lstI (daysOf ps')), .val (.int e'), t21, s22, s23, s24, s25, s26, s27, s28] ∧
      RowOk d' ∧ okS 0 ps' ∧ endS 0 ps' = e' ∧ e' ≤ 11 * (j + K : Nat) ∧ ps'.length = j + K ∧ Pl t2 ∧ Pl t21
  | 0, j, d, ps, e, s2, s21, hd, ok, he, he2, hj, hl, h2, h21 => ⟨d, ps, e, s2, s21, rfl, hd, ok, he, he2, hl, h2, h21⟩
  | K + 1, j, d, ps, e, s2, s21, hd, ok, he, he2, hj, hl, h2, h21 => by
    have hd1 := tkN_ok hd (m := 7) (by omega) (by omega)
    have b1 := tkV_lo hd (m := 7) (by omega) (by omega)
    have b2 := tkV_hi hd (m := 7) (by omega) (by omega)
    have b3 := tkV_lo hd1 (m := 5) (by omega) (by omega)
    have b4 := tkV_hi hd1 (m := 5) (by omega) (by omega)
    have hd2 := tkN_ok hd1 (m := 5) (by omega) (by omega)
    have b0 : 0 ≤ e := by
      have := days_len ok
      omega
    have hb := span_turn (s0 := s0) (s2 := .val (.int j)) (s3 := s3) (s4 := s4) (s5 := s5) (s6 := s6) (s7 := s7) (s8 := s8) (s9 := s9) (s10 := s10) (s11 := s11) (s12 := s12) (s13 := s13) (s14 := s14) (s15 := s15) (s16 := s16) (s17 := s17) (s21 := s21) (s22 := s22) (s23 := s23) (s24 := s24) (s25 := s25) (s26 := s26) (s27 := s27) (s28 := s28) hd ok he (by omega) (by omega) h21.1
    obtain ⟨d', ps', e', t2, t21, k1, k2⟩ := spans_loop K (j + 1) (tkN (tkN d 7) 5) (ps ++ [(e + tkV d 7, e + tkV d 7 + 1 + tkV (tkN d 7) 5)]) (e + tkV d 7 + 1 + tkV (tkN d 7) 5) (.val (.int j)) (.val (.int (e + tkV d 7))) hd2
      (okS_app (by omega) (by omega) (by omega) ok (by omega)) (endS_app ps 0 _) (by omega) (by omega) (by simp [hl]) (.val _) (.val _)
    rw [show j + 1 + K = j + (K + 1) by omega] at k2
    refine ⟨d', ps', e', t2, t21, ?_, k2⟩
    rw [List.range'_succ, List.map_cons]
    refine (for_cons (gN_set (s := s2) rfl h2.1) hb).trans k1
theorem row4_src {S : D} {d d1 : List D} {m w v1 : Int} {L : List D} (e1 : f_ulaw_taken [.own d, .val (.int 5)] = .ok (.int v1) [.own d1, .val (.int 5)]) (hr : D.rng1 [.int v1] = some L) :
    srcN D.rng1 [.v (callF f_ulaw_taken [(.o 1), .v (M.ret (.int 5))])] [.val S, .own d, .no, .no, .no, .no, .no, .no, .no, .no, .no, .no, .no, .no, .no, .val (.int m), .val (.int w), .val (rule m w), .own [], .val (.lst []), .val (.int 0), .no, .no, .no, .no, .no, .no, .no, .no] = .ok L [.val S, .own d1, .no, .no, .no, .no, .no, .no, .no, .no, .no, .no, .no, .no, .no, .val (.int m), .val (.int w), .val (rule m w), .own [], .val (.lst []), .val (.int 0), .no, .no, .no, .no, .no, .no, .no, .no] := by
  simp [e1, hr, srcN, fnF, sSeq, sIf, asTest, op1, op2, opN, opV, M.bnd, M.ret, M.opt, Arg.ev, rs, rss, Slot.rd, evs, sV, sAsg, sNx, var, gN, gTu, gCo, gNi, so_no, so_val, so_own, so_dic, so_inst, so_ex, sh_no, sh_val, sh_own, sh_dic, sh_inst, sh_ex, sa_no, sa_val, sa_own, sa_dic, sa_inst, sa_ex, vAnd, vOr, vNot, vIf, bAnd, bOr, bNot, chain, chC, chL, callF, callV_1, callV_2, callV_3, callV_4, sz1, sz2, sz3, sz4, sz5, sz6, sz7, sz8, sz9, sz10, sz11, sz12, dvs, D.ix, L2.atI, ixN, D.cmpI, D.toI, D.mod, D.fdiv, add_ii, D.sub, D.mul, D.pow, D.neg, D.len, D.mkL, D.mkT, D.isN, D.notN, isiB, isi2, D.is, D.tn, D.eq, D.ne, D.sc, D.eqb, sPut, callV_o1g]
theorem row4 {S : D} {d : List D} {m w : Int} (hd : RowOk d) : ∃ d' ps e t2 t21, l4_law [.val S, .own d, .no, .no, .no, .no, .no, .no, .no, .no, .no, .no, .no, .no, .no, .val (.int m), .val (.int w), .val (rule m w), .own [], .val (.lst []), .val (.int 0), .no, .no, .no, .no, .no, .no, .no, .no] =
    .nx [.val S, .own d', t2, .no, .no, .no, .no, .no, .no, .no, .no, .no, .no, .no, .no, .val (.int m), .val (.int w), .val (rule m w), .own (ps.map spT), .val (lstI (daysOf ps)), .val (.int e), t21, .no, .no, .no, .no, .no, .no, .no] ∧ RowOk d' ∧ okS 0 ps ∧ endS 0 ps = e ∧ e ≤ 44 ∧ ps.length ≤ 4 ∧ Pl t2 ∧ Pl t21 := by
  have hd1 := tkN_ok hd (m := 5) (by omega) (by omega)
  have e1 := tk_eq hd (m := 5) (by omega) (by omega)
  have b1 := tkV_lo hd (m := 5) (by omega) (by omega)
  have b2 := tkV_hi hd (m := 5) (by omega) (by omega)
  obtain ⟨n, hn⟩ := Int.eq_ofNat_of_zero_le b1
  have hr := rng1_nat (n := n) (by omega)
  rw [← hn] at hr
  have hs := row4_src (S := S) (m := m) (w := w) e1 hr
  obtain ⟨d', ps', e', t2, t21, k1, k2, k3, k4, k5, k6, k7, k8⟩ := spans_loop (s0 := .val S) (s3 := .no) (s4 := .no) (s5 := .no) (s6 := .no) (s7 := .no) (s8 := .no) (s9 := .no) (s10 := .no) (s11 := .no) (s12 := .no) (s13 := .no) (s14 := .no) (s15 := .val (.int m)) (s16 := .val (.int w)) (s17 := .val (rule m w)) (s22 := .no) (s23 := .no) (s24 := .no) (s25 := .no) (s26 := .no) (s27 := .no) (s28 := .no) n 0 (tkN d 5) [] 0 .no .no hd1 trivial rfl (by omega) (by omega) rfl .no .no
  clear hr e1
  generalize (List.range' 0 n).map (fun x : Nat => D.int x) = L at hs k1
  have hs' := for_ok (t := gN 2) (b := b3_law) hs
  have : l4_law [.val S, .own d, .no, .no, .no, .no, .no, .no, .no, .no, .no, .no, .no, .no, .no, .val (.int m), .val (.int w), .val (rule m w), .own [], .val (.lst []), .val (.int 0), .no, .no, .no, .no, .no, .no, .no, .no] = _ := hs'.trans k1
  exact ⟨d', ps', e', t2, t21, this, k2, k3, k4, by omega, by omega, k7, k8⟩
theorem mix_spans {S : D} {t2 t21 : Slot} {d : List D} {ps : List (Int × Int)} {m w e : Int} (hd : RowOk d) (h2 : t2.isOwn = false) (h21 : t21.isOwn = false) : ∃ d' hs, k6_law [.val S, .own d, t2, .no, .no, .no, .no, .no, .no, .no, .no, .no, .no, .no, .no, .val (.int m), .val (.int w), .val (rule m w), .val (.lst (ps.map spT)), .val (lstI (daysOf ps)), .val (.int e), t21, .no, .no, .no, .no, .no, .no, .no] =
    .ok (.lst hs) [.val S, .own d', t2, .no, .no, .no, .no, .no, .no, .no, .no, .no, .no, .no, .no, .val (.int m), .val (.int w), .val (rule m w), .val (.lst (ps.map spT)), .val (lstI (daysOf ps)), .val (.int e), t21, .no, .no, .no, .no, .no, .no, .no] ∧ RowOk d' ∧ All2 SpanD hs ps := by
  obtain ⟨ys, ρ', k1, ⟨d', k2, k3⟩, k4⟩ := lcL_inv (vs := [27]) (t := gN 27) (tt := noTest) (te := c5_law) (fun ρ => ∃ d, RowOk d ∧ ρ = [.val S, .own d, t2, .no, .no, .no, .no, .no, .no, .no, .no, .no, .no, .no, .no, .val (.int m), .val (.int w), .val (rule m w), .val (.lst (ps.map spT)), .val (lstI (daysOf ps)), .val (.int e), t21, .no, .no, .no, .no, .no, .no, .no])
    (fun x y => ∃ p, x = spT p ∧ SpanD y p) (ds := ps.map spT) (acc := []) ⟨d, hd, rfl⟩ (fun x hx ρ ⟨d, hd, hρ⟩ => by
      obtain ⟨p, _, rfl⟩ := List.mem_map.mp hx
      subst hρ
      have e1 := mixed_eq (ds := [.int p.1, .int p.2]) (d := spT p) hd (.inr rfl) (Eq.mpr sz2 trivial)
      have hd1 := tkN_ok hd (m := 2) (by omega) (by omega)
      generalize tkN d 2 = d1 at *
      refine ⟨_, _, mxD d [.int p.1, .int p.2], [.val S, .own d1, t2, .no, .no, .no, .no, .no, .no, .no, .no, .no, .no, .no, .no, .val (.int m), .val (.int w), .val (rule m w), .val (.lst (ps.map spT)), .val (lstI (daysOf ps)), .val (.int e), t21, .no, .no, .no, .no, .no, .val (spT p), .no], rfl, rfl, ?_, by simp [ownAt, fnF, sSeq, sIf, asTest, op1, op2, opN, opV, M.bnd, M.ret, M.opt, Arg.ev, rs, rss, Slot.rd, evs, sV, sAsg, sNx, var, gN, gTu, gCo, gNi, so_no, so_val, so_own, so_dic, so_inst, so_ex, sh_no, sh_val, sh_own, sh_dic, sh_inst, sh_ex, sa_no, sa_val, sa_own, sa_dic, sa_inst, sa_ex, vAnd, vOr, vNot, vIf, bAnd, bOr, bNot, chain, chC, chL, callF, callV_1, callV_2, callV_3, callV_4, sz1, sz2, sz3, sz4, sz5, sz6, sz7, sz8, sz9, sz10, sz11, sz12, dvs, D.ix, L2.atI, ixN, D.cmpI, D.toI, D.mod, D.fdiv, add_ii, D.sub, D.mul, D.pow, D.neg, D.len, D.mkL, D.mkT, D.isN, D.notN, isiB, isi2, D.is, D.tn, D.eq, D.ne, D.sc, D.eqb, sPut, callV_o1g], ⟨d1, hd1, by simp [wipeE]⟩, p, rfl, mxD_row _ _⟩
      generalize mxD d [.int p.1, .int p.2] = y at *
      simp [c5_law, e1, fnF, sSeq, sIf, asTest, op1, op2, opN, opV, M.bnd, M.ret, M.opt, Arg.ev, rs, rss, Slot.rd, evs, sV, sAsg, sNx, var, gN, gTu, gCo, gNi, so_no, so_val, so_own, so_dic, so_inst, so_ex, sh_no, sh_val, sh_own, sh_dic, sh_inst, sh_ex, sa_no, sa_val, sa_own, sa_dic, sa_inst, sa_ex, vAnd, vOr, vNot, vIf, bAnd, bOr, bNot, chain, chC, chL, callF, callV_1, callV_2, callV_3, callV_4, sz1, sz2, sz3, sz4, sz5, sz6, sz7, sz8, sz9, sz10, sz11, sz12, dvs, D.ix, L2.atI, ixN, D.cmpI, D.toI, D.mod, D.fdiv, add_ii, D.sub, D.mul, D.pow, D.neg, D.len, D.mkL, D.mkT, D.isN, D.notN, isiB, isi2, D.is, D.tn, D.eq, D.ne, D.sc, D.eqb, sPut, callV_o1g])
  subst k3
  have k5 : All2 SpanD ys ps := by
    clear k1 k2 hd
    generalize hL : ps.map spT = L at k4
    induction k4 generalizing ps with
    | nil => cases ps with
      | nil => exact .nil
      | cons p ps => cases hL
    | cons hxy _ ih => cases ps with
      | nil => cases hL
      | cons p ps =>
        obtain ⟨q, q1, q2⟩ := hxy
        rw [List.map_cons] at hL
        injection hL with g1 g2
        have : p = q := by
          rw [← g1] at q1
          unfold spT at q1
          injection q1 with q1
          injection q1 with a1 a2
          injection a2 with a2 _
          injection a1 with a1
          injection a2 with a2
          exact Prod.ext a1 a2
        subst this
        exact .cons q2 (ih g2)
  refine ⟨d', ys, ?_, k2, k5⟩
  have hs : seqM (var 18) [.val S, .own d, t2, .no, .no, .no, .no, .no, .no, .no, .no, .no, .no, .no, .no, .val (.int m), .val (.int w), .val (rule m w), .val (.lst (ps.map spT)), .val (lstI (daysOf ps)), .val (.int e), t21, .no, .no, .no, .no, .no, .no, .no] = .ok (ps.map spT) [.val S, .own d, t2, .no, .no, .no, .no, .no, .no, .no, .no, .no, .no, .no, .no, .val (.int m), .val (.int w), .val (rule m w), .val (.lst (ps.map spT)), .val (lstI (daysOf ps)), .val (.int e), t21, .no, .no, .no, .no, .no, .no, .no] := by simp [seqM, fnF, sSeq, sIf, asTest, op1, op2, opN, opV, M.bnd, M.ret, M.opt, Arg.ev, rs, rss, Slot.rd, evs, sV, sAsg, sNx, var, gN, gTu, gCo, gNi, so_no, so_val, so_own, so_dic, so_inst, so_ex, sh_no, sh_val, sh_own, sh_dic, sh_inst, sh_ex, sa_no, sa_val, sa_own, sa_dic, sa_inst, sa_ex, vAnd, vOr, vNot, vIf, bAnd, bOr, bNot, chain, chC, chL, callF, callV_1, callV_2, callV_3, callV_4, sz1, sz2, sz3, sz4, sz5, sz6, sz7, sz8, sz9, sz10, sz11, sz12, dvs, D.ix, L2.atI, ixN, D.cmpI, D.toI, D.mod, D.fdiv, add_ii, D.sub, D.mul, D.pow, D.neg, D.len, D.mkL, D.mkT, D.isN, D.notN, isiB, isi2, D.is, D.tn, D.eq, D.ne, D.sc, D.eqb, sPut, callV_o1g]
  unfold k6_law compM
  rw [bnd_ok hs]
  simp only [ownAt, List.any, List.getElem?_cons_succ, List.getElem?_cons_zero, so_no, Bool.or_false, Bool.false_eq_true, if_false]
  have hw : wipeE [.val S, .own d, t2, .no, .no, .no, .no, .no, .no, .no, .no, .no, .no, .no, .no, .val (.int m), .val (.int w), .val (rule m w), .val (.lst (ps.map spT)), .val (lstI (daysOf ps)), .val (.int e), t21, .no, .no, .no, .no, .no, .no, .no] [27] = [.val S, .own d, t2, .no, .no, .no, .no, .no, .no, .no, .no, .no, .no, .no, .no, .val (.int m), .val (.int w), .val (rule m w), .val (.lst (ps.map spT)), .val (lstI (daysOf ps)), .val (.int e), t21, .no, .no, .no, .no, .no, .no, .no] := rfl
  rw [hw, k1]
  simp [mergeE, h2, h21, fnF, sSeq, sIf, asTest, op1, op2, opN, opV, M.bnd, M.ret, M.opt, Arg.ev, rs, rss, Slot.rd, evs, sV, sAsg, sNx, var, gN, gTu, gCo, gNi, so_no, so_val, so_own, so_dic, so_inst, so_ex, sh_no, sh_val, sh_own, sh_dic, sh_inst, sh_ex, sa_no, sa_val, sa_own, sa_dic, sa_inst, sa_ex, vAnd, vOr, vNot, vIf, bAnd, bOr, bNot, chain, chC, chL, callF, callV_1, callV_2, callV_3, callV_4, sz1, sz2, sz3, sz4, sz5, sz6, sz7, sz8, sz9, sz10, sz11, sz12, dvs, D.ix, L2.atI, ixN, D.cmpI, D.toI, D.mod, D.fdiv, add_ii, D.sub, D.mul, D.pow, D.neg, D.len, D.mkL, D.mkT, D.isN, D.notN, isiB, isi2, D.is, D.tn, D.eq, D.ne, D.sc, D.eqb, sPut, callV_o1g]
theorem row7 {S : D} {t2 t21 : Slot} {d : List D} {ps : List (Int × Int)} {m w e : Int} (hd : RowOk d) (ok : okS 0 ps) (hl : ps.length ≤ 4) (h2 : t2.isOwn = false) (h21 : t21.isOwn = false) : ∃ d' h, x7_law [.val S, .own d, t2, .no, .no, .no, .no, .no, .no, .no, .no, .no, .no, .no, .no, .val (.int m), .val (.int w), .val (rule m w), .own (ps.map spT), .val (lstI (daysOf ps)), .val (.int e), t21, .no, .no, .no, .no, .no, .no, .no] =
    .nx [.val S, .own d', t2, .val h, .no, .no, .no, .no, .no, .no, .no, .no, .no, .no, .no, .val (.int m), .val (.int w), .val (rule m w), .val (.lst (ps.map spT)), .val (lstI (daysOf ps)), .val (.int e), t21, .no, .no, .no, .no, .no, .no, .no] ∧ RowOk d' ∧ Spans h ps := by
  obtain ⟨d1, hs, k1, k2, k3⟩ := mix_spans (S := S) (t2 := t2) (t21 := t21) (ps := ps) (m := m) (w := w) (e := e) hd h2 h21
  have hlen : hs.length ≤ sizeLine := by
    rw [all2_len k3]
    exact Nat.le_trans hl (Eq.mpr sz4 trivial)
  have e1 := mixed_eq (d := .lst hs) k2 (.inl rfl) hlen
  refine ⟨tkN d1 2, mxD d1 hs, ?_, tkN_ok k2 (by omega) (by omega), ⟨⟨hs, mxD_row _ _, k3, hlen⟩, ok⟩⟩
  clear k2 k3 hlen hd ok hl
  generalize tkN d1 2 = d2 at *
  generalize mxD d1 hs = h at *
  generalize ps.map spT = P at *
  generalize daysOf ps = L at *
  simp [x7_law, sFrz, k1, e1, fnF, sSeq, sIf, asTest, op1, op2, opN, opV, M.bnd, M.ret, M.opt, Arg.ev, rs, rss, Slot.rd, evs, sV, sAsg, sNx, var, gN, gTu, gCo, gNi, so_no, so_val, so_own, so_dic, so_inst, so_ex, sh_no, sh_val, sh_own, sh_dic, sh_inst, sh_ex, sa_no, sa_val, sa_own, sa_dic, sa_inst, sa_ex, vAnd, vOr, vNot, vIf, bAnd, bOr, bNot, chain, chC, chL, callF, callV_1, callV_2, callV_3, callV_4, sz1, sz2, sz3, sz4, sz5, sz6, sz7, sz8, sz9, sz10, sz11, sz12, dvs, D.ix, L2.atI, ixN, D.cmpI, D.toI, D.mod, D.fdiv, add_ii, D.sub, D.mul, D.pow, D.neg, D.len, D.mkL, D.mkT, D.isN, D.notN, isiB, isi2, D.is, D.tn, D.eq, D.ne, D.sc, D.eqb, sPut, callV_o1g]
end DL
namespace DL
open PySem L2
theorem make_rule {m w : Int} {ρ : Ev} (h1 : 0 ≤ m) (h2 : m ≤ 400) (h3 : 1 ≤ w) (h4 : w ≤ 400) : makeV "StayRule" f_StayRule_uuinit__ [.int m, .int w] ρ = .ok (rule m w) ρ := by
  have e := rule_init h1 h2 h3 h4
  simp [makeV, e, rule]
theorem cmp_rule {m w a b : Int} {neg : Bool} : cmpO "StayRule" f_StayRule_uueq__ neg (rule m w) (rule a b) = some (.bl (if neg then !(decide (m = a) && decide (w = b)) else (decide (m = a) && decide (w = b)))) := by
  have e := rule_eq (m := m) (w := w) (a := a) (b := b)
  have e1 : ∀ x : D, cmpO "StayRule" f_StayRule_uueq__ neg (rule m w) x = (match f_StayRule_uueq__ [.val (rule m w), .val x] with
    | .ok (.bl k) _ => (match x with
      | .obj c2 _ _ => if c2 = "StayRule" then some (.bl (if neg then !k else k)) else none
      | .fn _ => none
      | _ => some (.bl (if neg then !k else k)))
    | _ => none) := fun x => by
    unfold rule cmpO
    exact if_pos rfl
  rw [e1, e]
  rfl
theorem cmp_tup {m w : Int} {l : List D} : cmpO "StayRule" f_StayRule_uueq__ false (rule m w) (.tup l) = some (.bl false) := by
  have e := rule_eq_tup (m := m) (w := w) (l := l)
  have e1 : ∀ x : D, cmpO "StayRule" f_StayRule_uueq__ false (rule m w) x = (match f_StayRule_uueq__ [.val (rule m w), .val x] with
    | .ok (.bl k) _ => (match x with
      | .obj c2 _ _ => if c2 = "StayRule" then some (.bl (if false then !k else k)) else none
      | .fn _ => none
      | _ => some (.bl (if false then !k else k)))
    | _ => none) := fun x => by
    unfold rule cmpO
    exact if_pos rfl
  rw [e1, e]
  rfl
theorem okD_pair (a b : Int) : okD 8 (.tup [.int a, .int b]) = true := by simp [okD, sz2]
theorem row8 {s0 s1 s2 s3 s4 s5 s6 s7 s8 s9 s10 s11 s12 s13 s14 s18 s19 s20 s21 s22 s23 s24 s25 s26 s27 s28 : Slot} {m w : Int} (h1 : 0 ≤ m) (h2 : m ≤ 300) (h3 : 1 ≤ w) (h4 : w ≤ 400) : x8_law [s0, s1, s2, s3, s4, s5, s6, s7, s8, s9, s10, s11, s12, s13, s14, .val (.int m), .val (.int w), .val (rule m w), s18, s19, s20, s21, s22, s23, s24, s25, s26, s27, s28] = .nx [s0, s1, s2, s3, s4, s5, s6, s7, s8, s9, s10, s11, s12, s13, s14, .val (.int m), .val (.int w), .val (rule m w), s18, s19, s20, s21, s22, s23, s24, s25, s26, s27, s28] := by
  have e1 := alike_self 8 (.tup [.int m, .int w]) (okD_pair m w)
  have e2 := fun ρ => make_rule (ρ := ρ) h1 (by omega) h3 h4
  have e3 := fun ρ => make_rule (m := m + 1) (w := w) (ρ := ρ) (by omega) (by omega) h3 h4
  have e4 : ¬ (m = m + 1) := by omega
  simp [x8_law, e1, e2, e3, e4, makeF, makeKF, cmp_rule, cmp_tup, fld_most, fld_window, fnF, sSeq, sIf, asTest, op1, op2, opN, opV, M.bnd, M.ret, M.opt, Arg.ev, rs, rss, Slot.rd, evs, sV, sAsg, sNx, var, gN, gTu, gCo, gNi, so_no, so_val, so_own, so_dic, so_inst, so_ex, sh_no, sh_val, sh_own, sh_dic, sh_inst, sh_ex, sa_no, sa_val, sa_own, sa_dic, sa_inst, sa_ex, vAnd, vOr, vNot, vIf, bAnd, bOr, bNot, chain, chC, chL, callF, callV_1, callV_2, callV_3, callV_4, sz1, sz2, sz3, sz4, sz5, sz6, sz7, sz8, sz9, sz10, sz11, sz12, dvs, D.ix, L2.atI, ixN, D.cmpI, D.toI, D.mod, D.fdiv, add_ii, D.sub, D.mul, D.pow, D.neg, D.len, D.mkL, D.mkT, D.isN, D.notN, isiB, isi2, D.is, D.tn, D.eq, D.ne, D.sc, D.eqb, sPut, callV_o1g]
theorem meth_var17 {m w : Int} {mn : Str} {φ : Fn} {as : List Arg} {ρ : Ev} (h : (["most", "window"] : List Str).contains mn = false) (hρ : ρ[17]? = some (.val (rule m w))) :
    methF "StayRule" mn φ (var 17) as ρ = M.bnd (evs as) (fun xs => callV φ (.d (rule m w) :: xs)) ρ := by
  refine meth_rule (ρ' := ρ) ?_ h
  unfold var
  rw [hρ]
theorem alike_int (i : Int) : f_ulaw_alike 8 [.val (.int i), .val (.int i)] = .ok (.bl true) [.val (.int i), .val (.int i)] := alike_self 8 (.int i) rfl
theorem day_turn {s0 s2 s4 s5 s7 s8 s9 s10 s11 s12 s13 s14 s18 s20 s21 s22 s23 s24 s25 s26 s27 s28 : Slot} {d : List D} {h : D} {ps : List (Int × Int)} {m w : Int} (hd : RowOk d) (hs : Spans h ps) (h6 : s6.isOwn = false) :
    b9_law [s0, .own d, s2, .val h, s4, s5, s6, s7, s8, s9, s10, s11, s12, s13, s14, .val (.int m), .val (.int w), .val (rule m w), s18, .val (lstI (daysOf ps)), s20, s21, s22, s23, s24, s25, s26, s27, s28] = .nx [s0, .own (tkN d 60), s2, .val h, s4, s5, .val (.int (tkV d 60)), s7, s8, s9, s10, s11, s12, s13, s14, .val (.int m), .val (.int w), .val (rule m w), s18, .val (lstI (daysOf ps)), s20, s21, s22, s23, s24, s25, s26, s27, s28] := by
  have e1 := tk_eq hd (m := 60) (by omega) (by omega)
  generalize tkN d 60 = d1 at *
  generalize tkV d 60 = v at *
  have e2 := inside_ok (m := m) (w := w) (day := v) hs
  have e3 := li_ok (m := m) (w := w) (day := v) (days := daysOf ps)
  rw [inside_cnt] at e2
  have e4 := alike_int (cntI w (daysOf ps) v)
  have hm := fun φ as ρ hρ => meth_var17 (m := m) (w := w) (mn := "inside") (φ := φ) (as := as) (ρ := ρ) (rule_no (by decide)) hρ
  clear hs hd
  generalize hC : (cntI w (daysOf ps) v : Int) = C at *
  change f_ulaw_inside [.val (lstI (daysOf ps)), _, _, _] = .ok _ [.val (lstI (daysOf ps)), _, _, _] at e3
  simp [b9_law, e1, e2, e3, e4, hm, h6, fnF, sSeq, sIf, asTest, op1, op2, opN, opV, M.bnd, M.ret, M.opt, Arg.ev, rs, rss, Slot.rd, evs, sV, sAsg, sNx, var, gN, gTu, gCo, gNi, so_no, so_val, so_own, so_dic, so_inst, so_ex, sh_no, sh_val, sh_own, sh_dic, sh_inst, sh_ex, sa_no, sa_val, sa_own, sa_dic, sa_inst, sa_ex, vAnd, vOr, vNot, vIf, bAnd, bOr, bNot, chain, chC, chL, callF, callV_1, callV_2, callV_3, callV_4, sz1, sz2, sz3, sz4, sz5, sz6, sz7, sz8, sz9, sz10, sz11, sz12, dvs, D.ix, L2.atI, ixN, D.cmpI, D.toI, D.mod, D.fdiv, add_ii, D.sub, D.mul, D.pow, D.neg, D.len, D.mkL, D.mkT, D.isN, D.notN, isiB, isi2, D.is, D.tn, D.eq, D.ne, D.sc, D.eqb, sPut, callV_o1g]
end DL
namespace DL
open PySem L2
theorem days_loop {s0 s2 s5 s7 s8 s9 s10 s11 s12 s13 s14 s18 s20 s21 s22 s23 s24 s25 s26 s27 s28 : Slot} {h : D} {ps : List (Int × Int)} {m w : Int} (hs : Spans h ps) : ∀ (L : List D) (d : List D) (s4 s6 : Slot), RowOk d → Pl s4 → Pl s6 →
    ∃ d' t4 t6, forL (gN 4) b9_law L [s0, .own d, s2, .val h, s4, s5, s6, s7, s8, s9, s10, s11, s12, s13, s14, .val (.int m), .val (.int w), .val (rule m w), s18, .val (lstI (daysOf ps)), s20, s21, s22, s23, s24, s25, s26, s27, s28] = .nx [s0, .own d', s2, .val h, t4, s5, t6, s7, s8, s9, s10, s11, s12, s13, s14, .val (.int m), .val (.int w), .val (rule m w), s18, .val (lstI (daysOf ps)), s20, s21, s22, s23, s24, s25, s26, s27, s28] ∧ RowOk d' ∧ Pl t4 ∧ Pl t6
  | [], d, s4, s6, hd, h4, h6 => ⟨d, s4, s6, rfl, hd, h4, h6⟩
  | x :: L, d, s4, s6, hd, h4, h6 => by
    have hb := day_turn (s0 := s0) (s2 := s2) (s4 := .val x) (s5 := s5) (s6 := s6) (s7 := s7) (s8 := s8) (s9 := s9) (s10 := s10) (s11 := s11) (s12 := s12) (s13 := s13) (s14 := s14) (s18 := s18) (s20 := s20) (s21 := s21) (s22 := s22) (s23 := s23) (s24 := s24) (s25 := s25) (s26 := s26) (s27 := s27) (s28 := s28) (m := m) (w := w) hd hs h6.1
    obtain ⟨d', t4, t6, k1, k2⟩ := days_loop hs L (tkN d 60) (.val x) (.val (.int (tkV d 60))) (tkN_ok hd (by omega) (by omega)) (.val _) (.val _)
    exact ⟨d', t4, t6, (for_cons (gN_set (s := s4) rfl h4.1) hb).trans k1, k2⟩
theorem row10_src {ρ : Ev} {n : Int} {L : List D} (hr : D.rng1 [.int n] = some L) : srcN D.rng1 [.v (M.ret (.int n))] ρ = .ok L ρ := by
  simp [hr, srcN, fnF, sSeq, sIf, asTest, op1, op2, opN, opV, M.bnd, M.ret, M.opt, Arg.ev, rs, rss, Slot.rd, evs, sV, sAsg, sNx, var, gN, gTu, gCo, gNi, so_no, so_val, so_own, so_dic, so_inst, so_ex, sh_no, sh_val, sh_own, sh_dic, sh_inst, sh_ex, sa_no, sa_val, sa_own, sa_dic, sa_inst, sa_ex, vAnd, vOr, vNot, vIf, bAnd, bOr, bNot, chain, chC, chL, callF, callV_1, callV_2, callV_3, callV_4, sz1, sz2, sz3, sz4, sz5, sz6, sz7, sz8, sz9, sz10, sz11, sz12, dvs, D.ix, L2.atI, ixN, D.cmpI, D.toI, D.mod, D.fdiv, add_ii, D.sub, D.mul, D.pow, D.neg, D.len, D.mkL, D.mkT, D.isN, D.notN, isiB, isi2, D.is, D.tn, D.eq, D.ne, D.sc, D.eqb, sPut, callV_o1g]
theorem row10 {s0 s2 s5 s7 s8 s9 s10 s11 s12 s13 s14 s18 s20 s21 s22 s23 s24 s25 s26 s27 s28 : Slot} {d : List D} {h : D} {ps : List (Int × Int)} {m w : Int} (hd : RowOk d) (hs : Spans h ps) (h4 : Pl s4) (h6 : Pl s6) :
    ∃ d' t4 t6, l10_law [s0, .own d, s2, .val h, s4, s5, s6, s7, s8, s9, s10, s11, s12, s13, s14, .val (.int m), .val (.int w), .val (rule m w), s18, .val (lstI (daysOf ps)), s20, s21, s22, s23, s24, s25, s26, s27, s28] = .nx [s0, .own d', s2, .val h, t4, s5, t6, s7, s8, s9, s10, s11, s12, s13, s14, .val (.int m), .val (.int w), .val (rule m w), s18, .val (lstI (daysOf ps)), s20, s21, s22, s23, s24, s25, s26, s27, s28] ∧ RowOk d' ∧ Pl t4 ∧ Pl t6 := by
  have hr := rng1_nat (n := 4) (by omega)
  have hsrc := row10_src (ρ := [s0, .own d, s2, .val h, s4, s5, s6, s7, s8, s9, s10, s11, s12, s13, s14, .val (.int m), .val (.int w), .val (rule m w), s18, .val (lstI (daysOf ps)), s20, s21, s22, s23, s24, s25, s26, s27, s28]) hr
  clear hr
  generalize (List.range' 0 4).map (fun x : Nat => D.int x) = L at hsrc
  obtain ⟨d', t4, t6, k1, k2⟩ := days_loop (s0 := s0) (s2 := s2) (s5 := s5) (s7 := s7) (s8 := s8) (s9 := s9) (s10 := s10) (s11 := s11) (s12 := s12) (s13 := s13) (s14 := s14) (s18 := s18) (s20 := s20) (s21 := s21) (s22 := s22) (s23 := s23) (s24 := s24) (s25 := s25) (s26 := s26) (s27 := s27) (s28 := s28) (m := m) (w := w) hs L d s4 s6 hd h4 h6
  have hf := for_ok (t := gN 4) (b := b9_law) hsrc
  exact ⟨d', t4, t6, hf.trans k1, k2⟩
/-- a comprehension over whole numbers -/
theorem comp_ints {i : Nat} {src : M (List D)} {tt : M Bool} {te : M D} {ρ ρ0 : Ev} {s : Slot} {L : List Int} (p : Int → Bool) (f : Int → Int) (hs : src ρ0 = .ok (L.map D.int) ρ) (h0 : ρ[i]? = some s) (ho : s.isOwn = false)
    (ht : ∀ x ∈ L, tt (ρ.set i (.val (.int x))) = .ok (p x) (ρ.set i (.val (.int x)))) (he : ∀ x ∈ L, p x = true → te (ρ.set i (.val (.int x))) = .ok (.int (f x)) (ρ.set i (.val (.int x)))) : compM [i] src (gN i) tt te ρ0 = .ok (lstI ((L.filter p).map f)) ρ := by
  have li : i < ρ.length := (List.getElem?_eq_some_iff.mp h0).1
  have e1 : lstI ((L.filter p).map f) = .lst (((L.map D.int).filter fun x => p x.i).map fun x => .int (f x.i)) := by
    unfold lstI
    rw [List.filter_map, List.map_map, List.map_map]
    rfl
  rw [e1]
  refine comp_pure (fun x => p x.i) (fun x => .int (f x.i)) hs ?_ fun x hx => ?_
  · unfold ownAt
    simp [h0, ho]
  · obtain ⟨y, hy, rfl⟩ := List.mem_map.mp hx
    refine ⟨ρ.set i (.val (.int y)), ?_, ht y hy, he y hy, ?_, ?_⟩
    · show gN i (.int y) (ρ.set i .no) = _
      rw [gN_set (s := .no) (List.getElem?_set_self li) rfl, List.set_set]
    · unfold ownAt
      simp [li, so_val]
    · show (ρ.set i (.val (.int y))).set i .no = ρ.set i .no
      rw [List.set_set]
theorem row12 {s0 s1 s2 s3 s4 s7 s8 s9 s10 s11 s12 s13 s14 s17 s18 s20 s21 s22 s23 s24 s25 s26 s27 s28 : Slot} {ps : List (Int × Int)} {m w : Int} {L : List Int} (h5 : s5.isOwn = false) (h6 : s6.isOwn = false) :
    x12_law [s0, s1, s2, s3, s4, s5, s6, s7, s8, s9, s10, s11, s12, s13, s14, .val (.int m), .val (.int w), s17, s18, .val (lstI L), s20, s21, s22, s23, s24, s25, s26, s27, s28] = .nx [s0, s1, s2, s3, s4, .val (lstI (overL m w L)), s6, s7, s8, s9, s10, s11, s12, s13, s14, .val (.int m), .val (.int w), s17, s18, .val (lstI L), s20, s21, s22, s23, s24, s25, s26, s27, s28] := by
  have hk : k11_law [s0, s1, s2, s3, s4, s5, s6, s7, s8, s9, s10, s11, s12, s13, s14, .val (.int m), .val (.int w), s17, s18, .val (lstI L), s20, s21, s22, s23, s24, s25, s26, s27, s28] = .ok (lstI (overL m w L)) [s0, s1, s2, s3, s4, s5, s6, s7, s8, s9, s10, s11, s12, s13, s14, .val (.int m), .val (.int w), s17, s18, .val (lstI L), s20, s21, s22, s23, s24, s25, s26, s27, s28] := by
    have e0 : lstI (overL m w L) = lstI ((L.filter fun x => decide (m < (cntI w L x : Int))).map id) := by rw [List.map_id]; rfl
    rw [e0]
    refine comp_ints (s := s6) (L := L) (fun x => decide (m < (cntI w L x : Int))) id rfl rfl h6 (fun x _ => ?_) (fun x _ _ => rfl)
    have e3 := li_ok (m := m) (w := w) (day := x) (days := L)
    change f_ulaw_inside [.val (lstI L), _, _, _] = .ok _ [.val (lstI L), _, _, _] at e3
    generalize (cntI w L x : Int) = C at *
    clear e0
    by_cases h1 : m < C <;> simp [e3, h1, fnF, sSeq, sIf, asTest, op1, op2, opN, opV, M.bnd, M.ret, M.opt, Arg.ev, rs, rss, Slot.rd, evs, sV, sAsg, sNx, var, gN, gTu, gCo, gNi, so_no, so_val, so_own, so_dic, so_inst, so_ex, sh_no, sh_val, sh_own, sh_dic, sh_inst, sh_ex, sa_no, sa_val, sa_own, sa_dic, sa_inst, sa_ex, vAnd, vOr, vNot, vIf, bAnd, bOr, bNot, chain, chC, chL, callF, callV_1, callV_2, callV_3, callV_4, sz1, sz2, sz3, sz4, sz5, sz6, sz7, sz8, sz9, sz10, sz11, sz12, dvs, D.ix, L2.atI, ixN, D.cmpI, D.toI, D.mod, D.fdiv, add_ii, D.sub, D.mul, D.pow, D.neg, D.len, D.mkL, D.mkT, D.isN, D.notN, isiB, isi2, D.is, D.tn, D.eq, D.ne, D.sc, D.eqb, sPut, callV_o1g]
  generalize overL m w L = R at *
  simp [x12_law, hk, h5, fnF, sSeq, sIf, asTest, op1, op2, opN, opV, M.bnd, M.ret, M.opt, Arg.ev, rs, rss, Slot.rd, evs, sV, sAsg, sNx, var, gN, gTu, gCo, gNi, so_no, so_val, so_own, so_dic, so_inst, so_ex, sh_no, sh_val, sh_own, sh_dic, sh_inst, sh_ex, sa_no, sa_val, sa_own, sa_dic, sa_inst, sa_ex, vAnd, vOr, vNot, vIf, bAnd, bOr, bNot, chain, chC, chL, callF, callV_1, callV_2, callV_3, callV_4, sz1, sz2, sz3, sz4, sz5, sz6, sz7, sz8, sz9, sz10, sz11, sz12, dvs, D.ix, L2.atI, ixN, D.cmpI, D.toI, D.mod, D.fdiv, add_ii, D.sub, D.mul, D.pow, D.neg, D.len, D.mkL, D.mkT, D.isN, D.notN, isiB, isi2, D.is, D.tn, D.eq, D.ne, D.sc, D.eqb, sPut, callV_o1g]
theorem alike_opt (o : Option Int) : f_ulaw_alike 8 [.val (optI o), .val (optI o)] = .ok (.bl true) [.val (optI o), .val (optI o)] := alike_self 8 (optI o) (by cases o <;> rfl)
theorem add_non {l : List Int} (h : l.length < 1000) : D.add (lstI l) (.lst [.non]) = some (.lst (l.map D.int ++ [.non])) := by
  have h2 : (l.map D.int).length + [D.non].length ≤ sizeLine := by
    rw [List.length_map]
    exact Nat.le_trans (by simp; omega : l.length + [D.non].length ≤ 16777216) (Nat.le_of_eq sizeLine_eq.symm)
  show (if (l.map D.int).length + [D.non].length ≤ sizeLine then some (D.lst (l.map D.int ++ [.non])) else none) = _
  rw [if_pos h2]
theorem ix_head (l : List Int) : D.ix (.lst (l.map D.int ++ [.non])) (.int 0) = some (optI l.head?) := by
  cases l with
  | nil => rfl
  | cons x l =>
    simp [D.ix, L2.atI, ixN, optI]
    rw [if_pos (by omega)]
    rfl
theorem head_find (p : Int → Bool) (l : List Int) : (l.filter p).head? = l.find? p := by simp
theorem row13 {s0 s1 s2 s4 s6 s7 s8 s9 s10 s11 s12 s13 s14 s18 s20 s21 s22 s23 s24 s25 s26 s27 s28 : Slot} {h : D} {ps : List (Int × Int)} {m w : Int} (hs : Spans h ps) (hl : (daysOf ps).length < 1000) :
    x13_law [s0, s1, s2, .val h, s4, .val (lstI (overL m w (daysOf ps))), s6, s7, s8, s9, s10, s11, s12, s13, s14, .val (.int m), .val (.int w), .val (rule m w), s18, .val (lstI (daysOf ps)), s20, s21, s22, s23, s24, s25, s26, s27, s28] = .nx [s0, s1, s2, .val h, s4, .val (lstI (overL m w (daysOf ps))), s6, s7, s8, s9, s10, s11, s12, s13, s14, .val (.int m), .val (.int w), .val (rule m w), s18, .val (lstI (daysOf ps)), s20, s21, s22, s23, s24, s25, s26, s27, s28] := by
  have ef : (daysOf ps).find? (fun x => decide (m < insideI w ps x)) = (overL m w (daysOf ps)).head? := by
    unfold overL
    rw [head_find]
    congr 1
    funext x
    rw [inside_cnt]
  have e1 := first_over_ok (m := m) (w := w) hs
  have e2 := is_lawful_ok (m := m) (w := w) hs
  rw [ef] at e1 e2
  have hol : (overL m w (daysOf ps)).length < 1000 := Nat.lt_of_le_of_lt (List.length_filter_le _ _) hl
  clear ef hl hs
  generalize overL m w (daysOf ps) = O at *
  have e3 := alike_opt O.head?
  have e4 := add_non hol
  have e5 := ix_head O
  have e6 : D.eq (lstI O) (.lst []) = some (.bl (decide (O = []))) := eq_lst_nil O
  have e7 : O.head?.isNone = decide (O = []) := by cases O <;> rfl
  rw [e7] at e2
  have e8 := truth_ok (decide (O = []))
  have hm := fun mn φ as ρ z hρ => meth_var17 (m := m) (w := w) (mn := mn) (φ := φ) (as := as) (ρ := ρ) (rule_no z) hρ
  have n1 : ¬ (("first_over" : Str) = "most") ∧ ¬ (("first_over" : Str) = "window") := by decide
  have n2 : ¬ (("is_lawful" : Str) = "most") ∧ ¬ (("is_lawful" : Str) = "window") := by decide
  clear e7 hol
  generalize decide (O = []) = B at *
  generalize optI O.head? = H at *
  generalize O.map D.int ++ [D.non] = P at *
  simp [x13_law, hm _ _ _ _ n1, hm _ _ _ _ n2, e1, e2, e3, e4, e5, e6, e8, fnF, sSeq, sIf, asTest, op1, op2, opN, opV, M.bnd, M.ret, M.opt, Arg.ev, rs, rss, Slot.rd, evs, sV, sAsg, sNx, var, gN, gTu, gCo, gNi, so_no, so_val, so_own, so_dic, so_inst, so_ex, sh_no, sh_val, sh_own, sh_dic, sh_inst, sh_ex, sa_no, sa_val, sa_own, sa_dic, sa_inst, sa_ex, vAnd, vOr, vNot, vIf, bAnd, bOr, bNot, chain, chC, chL, callF, callV_1, callV_2, callV_3, callV_4, sz1, sz2, sz3, sz4, sz5, sz6, sz7, sz8, sz9, sz10, sz11, sz12, dvs, D.cmpI, D.toI, D.mod, D.fdiv, add_ii, D.sub, D.mul, D.pow, D.neg, D.len, D.mkL, D.mkT, D.isN, D.notN, isiB, isi2, D.is, D.tn, sPut, callV_o1g]
end DL
namespace DL
open PySem L2
theorem row14 {s0 s2 s3 s4 s5 s7 s8 s9 s10 s11 s12 s13 s14 s15 s16 s17 s18 s19 s21 s22 s23 s24 s25 s26 s27 s28 : Slot} {d : List D} {e : Int} (hd : RowOk d) (h6 : s6.isOwn = false) : x14_law [s0, .own d, s2, s3, s4, s5, s6, s7, s8, s9, s10, s11, s12, s13, s14, s15, s16, s17, s18, s19, .val (.int e), s21, s22, s23, s24, s25, s26, s27, s28] = .nx [s0, .own (tkN d 9), s2, s3, s4, s5, .val (.int (e + tkV d 9)), s7, s8, s9, s10, s11, s12, s13, s14, s15, s16, s17, s18, s19, .val (.int e), s21, s22, s23, s24, s25, s26, s27, s28] := by
  have e1 := tk_eq hd (m := 9) (by omega) (by omega)
  generalize tkN d 9 = d1 at *
  generalize tkV d 9 = v1 at *
  simp [x14_law, e1, h6, fnF, sSeq, sIf, asTest, op1, op2, opN, opV, M.bnd, M.ret, M.opt, Arg.ev, rs, rss, Slot.rd, evs, sV, sAsg, sNx, var, gN, gTu, gCo, gNi, so_no, so_val, so_own, so_dic, so_inst, so_ex, sh_no, sh_val, sh_own, sh_dic, sh_inst, sh_ex, sa_no, sa_val, sa_own, sa_dic, sa_inst, sa_ex, vAnd, vOr, vNot, vIf, bAnd, bOr, bNot, chain, chC, chL, callF, callV_1, callV_2, callV_3, callV_4, sz1, sz2, sz3, sz4, sz5, sz6, sz7, sz8, sz9, sz10, sz11, sz12, dvs, D.ix, L2.atI, ixN, D.cmpI, D.toI, D.mod, D.fdiv, add_ii, D.sub, D.mul, D.pow, D.neg, D.len, D.mkL, D.mkT, D.isN, D.notN, isiB, isi2, D.is, D.tn, D.eq, D.ne, D.sc, D.eqb, sPut, callV_o1g]
theorem li_okL {m w day : Int} {L : List Int} : f_ulaw_inside [.val (lstI L), .val (.int m), .val (.int w), .val (.int day)] = .ok (.int (cntI w L day)) [.val (lstI L), .val (.int m), .val (.int w), .val (.int day)] := li_ok
theorem row15 {s0 s1 s2 s4 s5 s7 s8 s9 s10 s11 s12 s13 s14 s18 s20 s21 s22 s23 s24 s25 s26 s27 s28 : Slot} {h : D} {ps : List (Int × Int)} {m w day : Int} (hs : Spans h ps) (hl : ps.length ≤ 4) (h0 : 0 ≤ day) (he : endS 0 ps ≤ day) (h1 : day ≤ 100) :
    x15_law [s0, s1, s2, .val h, s4, s5, .val (.int day), s7, s8, s9, s10, s11, s12, s13, s14, .val (.int m), .val (.int w), .val (rule m w), s18, .val (lstI (daysOf ps)), s20, s21, s22, s23, s24, s25, s26, s27, s28] = .nx [s0, s1, s2, .val h, s4, s5, .val (.int day), s7, s8, s9, s10, s11, s12, s13, s14, .val (.int m), .val (.int w), .val (rule m w), s18, .val (lstI (daysOf ps)), s20, s21, s22, s23, s24, s25, s26, s27, s28] := by
  have hz : ps.length + 1 ≤ sizeLine := Nat.le_trans (by omega : ps.length + 1 ≤ 5) (Eq.mpr sz5 trivial)
  have e1 := can_stay_ok (m := m) (w := w) (day := day) hs hz h0 he (by omega)
  have e2 := stay_cnt w day day ps 1 (by omega)
  have e3 : run day 1 = [day] := by simp [run]
  rw [e3] at e2
  rw [e2] at e1
  have hdl := days_len hs.ok
  have e4 := add_lstI (a := daysOf ps) (b := [day]) (by show (daysOf ps).length + 1 ≤ _; omega)
  have e5 := li_okL (m := m) (w := w) (day := day) (L := daysOf ps ++ [day])
  have hm := fun φ as ρ hρ => meth_var17 (m := m) (w := w) (mn := "can_stay") (φ := φ) (as := as) (ρ := ρ) (rule_no (by decide)) hρ
  clear hs hl h0 he h1 hz e2 hdl
  generalize daysOf ps ++ [day] = L2 at *
  generalize (cntI w L2 day : Int) = C at *
  have e6 := truth_ok (decide (C ≤ m))
  have e7 : D.mkL [.int day] = some (lstI [day]) := if_pos (Eq.mpr sz1 trivial)
  have e8 : D.le (.int C) (.int m) = some (.bl (decide (C ≤ m))) := rfl
  generalize lstI [day] = R at *
  generalize decide (C ≤ m) = B at *
  simp [x15_law, hm, e1, e4, e5, e6, e7, e8, fnF, sSeq, sIf, asTest, op1, op2, opN, opV, M.bnd, M.ret, M.opt, Arg.ev, rs, rss, Slot.rd, evs, sV, sAsg, sNx, var, gN, gTu, gCo, gNi, so_no, so_val, so_own, so_dic, so_inst, so_ex, sh_no, sh_val, sh_own, sh_dic, sh_inst, sh_ex, sa_no, sa_val, sa_own, sa_dic, sa_inst, sa_ex, vAnd, vOr, vNot, vIf, bAnd, bOr, bNot, chain, chC, chL, callF, callV_1, callV_2, callV_3, callV_4, sz1, sz2, sz3, sz4, sz5, sz6, sz7, sz8, sz9, sz10, sz11, sz12, dvs, D.cmpI, D.toI, D.mod, D.fdiv, add_ii, D.sub, D.mul, D.pow, D.neg, D.len, D.mkT, D.isN, D.notN, isiB, isi2, D.is, D.tn, sPut, callV_o1g]
theorem row16 {s0 s1 s2 s3 s4 s5 s6 s8 s9 s10 s11 s12 s13 s14 s15 s16 s17 s18 s19 s20 s21 s22 s23 s24 s25 s26 s27 s28 : Slot} (h7 : s7.isOwn = false) : x16_law [s0, s1, s2, s3, s4, s5, s6, s7, s8, s9, s10, s11, s12, s13, s14, s15, s16, s17, s18, s19, s20, s21, s22, s23, s24, s25, s26, s27, s28] = .nx [s0, s1, s2, s3, s4, s5, s6, .val (.int 0), s8, s9, s10, s11, s12, s13, s14, s15, s16, s17, s18, s19, s20, s21, s22, s23, s24, s25, s26, s27, s28] := by
  simp [x16_law, h7, fnF, sSeq, sIf, asTest, op1, op2, opN, opV, M.bnd, M.ret, M.opt, Arg.ev, rs, rss, Slot.rd, evs, sV, sAsg, sNx, var, gN, gTu, gCo, gNi, so_no, so_val, so_own, so_dic, so_inst, so_ex, sh_no, sh_val, sh_own, sh_dic, sh_inst, sh_ex, sa_no, sa_val, sa_own, sa_dic, sa_inst, sa_ex, vAnd, vOr, vNot, vIf, bAnd, bOr, bNot, chain, chC, chL, callF, callV_1, callV_2, callV_3, callV_4, sz1, sz2, sz3, sz4, sz5, sz6, sz7, sz8, sz9, sz10, sz11, sz12, dvs, D.ix, L2.atI, ixN, D.cmpI, D.toI, D.mod, D.fdiv, add_ii, D.sub, D.mul, D.pow, D.neg, D.len, D.mkL, D.mkT, D.isN, D.notN, isiB, isi2, D.is, D.tn, D.eq, D.ne, D.sc, D.eqb, sPut, callV_o1g]
theorem for_brk {t : D → Ev → Option Ev} {b : S} {d : D} {ds : List D} {ρ ρ1 ρ2 : Ev} (h1 : t d ρ = some ρ1) (h2 : b ρ1 = .bk ρ2) : forL t b (d :: ds) ρ = .nx ρ2 := by
  conv => lhs; unfold forL
  rw [h1]
  dsimp only
  rw [h2]
/-- a turn of the search for the longest stay -/
theorem long_turn {s0 s1 s2 s3 s4 s5 s9 s10 s11 s12 s13 s14 s17 s18 s20 s21 s22 s23 s24 s25 s26 s27 s28 : Slot} {m w day : Int} {days : List Int} {many : Nat} (h0 : 0 ≤ day) (h1 : day ≤ 100) (hl : days.length ≤ 1000) (hk : 1 ≤ many) (hk2 : many ≤ 40) (h7 : s7.isOwn = false) :
    b17_law [s0, s1, s2, s3, s4, s5, .val (.int day), s7, .val (.int many), s9, s10, s11, s12, s13, s14, .val (.int m), .val (.int w), s17, s18, .val (lstI days), s20, s21, s22, s23, s24, s25, s26, s27, s28] = if m < (cntI w (days ++ run day many) (day + many - 1) : Int) then .bk [s0, s1, s2, s3, s4, s5, .val (.int day), s7, .val (.int many), s9, s10, s11, s12, s13, s14, .val (.int m), .val (.int w), s17, s18, .val (lstI days), s20, s21, s22, s23, s24, s25, s26, s27, s28] else .nx [s0, s1, s2, s3, s4, s5, .val (.int day), .val (.int many), .val (.int many), s9, s10, s11, s12, s13, s14, .val (.int m), .val (.int w), s17, s18, .val (lstI days), s20, s21, s22, s23, s24, s25, s26, s27, s28] := by
  have e1 := listRng_run (a := day) (b := day + many) h0 (by omega) (by omega)
  rw [show (day + (many : Int) - day).toNat = many by omega] at e1
  have e2 := add_lstI (a := days) (b := run day many) (by rw [run_len]; omega)
  have e3 := li_okL (m := m) (w := w) (day := day + many - 1) (L := days ++ run day many)
  clear h0 h1 hl hk hk2
  generalize days ++ run day many = L at *
  generalize run day many = R at *
  generalize (cntI w L (day + many - 1) : Int) = C at *
  by_cases h : m < C
  · rw [if_pos h]
    simp [b17_law, e1, e2, e3, h, h7, fnF, sSeq, sIf, asTest, op1, op2, opN, opV, M.bnd, M.ret, M.opt, Arg.ev, rs, rss, Slot.rd, evs, sV, sAsg, sNx, var, gN, gTu, gCo, gNi, so_no, so_val, so_own, so_dic, so_inst, so_ex, sh_no, sh_val, sh_own, sh_dic, sh_inst, sh_ex, sa_no, sa_val, sa_own, sa_dic, sa_inst, sa_ex, vAnd, vOr, vNot, vIf, bAnd, bOr, bNot, chain, chC, chL, callF, callV_1, callV_2, callV_3, callV_4, sz1, sz2, sz3, sz4, sz5, sz6, sz7, sz8, sz9, sz10, sz11, sz12, dvs, D.cmpI, D.toI, D.mod, D.fdiv, add_ii, D.sub, D.mul, D.pow, D.neg, D.len, D.mkT, D.isN, D.notN, isiB, isi2, D.is, D.tn, sPut, callV_o1g]
  · rw [if_neg h]
    simp [b17_law, e1, e2, e3, h, h7, fnF, sSeq, sIf, asTest, op1, op2, opN, opV, M.bnd, M.ret, M.opt, Arg.ev, rs, rss, Slot.rd, evs, sV, sAsg, sNx, var, gN, gTu, gCo, gNi, so_no, so_val, so_own, so_dic, so_inst, so_ex, sh_no, sh_val, sh_own, sh_dic, sh_inst, sh_ex, sa_no, sa_val, sa_own, sa_dic, sa_inst, sa_ex, vAnd, vOr, vNot, vIf, bAnd, bOr, bNot, chain, chC, chL, callF, callV_1, callV_2, callV_3, callV_4, sz1, sz2, sz3, sz4, sz5, sz6, sz7, sz8, sz9, sz10, sz11, sz12, dvs, D.cmpI, D.toI, D.mod, D.fdiv, add_ii, D.sub, D.mul, D.pow, D.neg, D.len, D.mkT, D.isN, D.notN, isiB, isi2, D.is, D.tn, sPut, callV_o1g]
theorem long_loop {s0 s1 s2 s3 s4 s5 s9 s10 s11 s12 s13 s14 s17 s18 s20 s21 s22 s23 s24 s25 s26 s27 s28 : Slot} {m w day : Int} {days : List Int} (h0 : 0 ≤ day) (h1 : day ≤ 100) (hl : days.length ≤ 1000) : ∀ (n many : Nat) (s8 : Slot), 1 ≤ many → many + n ≤ 40 → Pl s8 →
    ∃ t8, forL (gN 8) b17_law ((List.range' many n).map fun x : Nat => D.int x) [s0, s1, s2, s3, s4, s5, .val (.int day), .val (.int (many - 1 : Nat)), s8, s9, s10, s11, s12, s13, s14, .val (.int m), .val (.int w), s17, s18, .val (lstI days), s20, s21, s22, s23, s24, s25, s26, s27, s28] = .nx [s0, s1, s2, s3, s4, s5, .val (.int day), .val (.int (lawLong m w day days n many)), t8, s9, s10, s11, s12, s13, s14, .val (.int m), .val (.int w), s17, s18, .val (lstI days), s20, s21, s22, s23, s24, s25, s26, s27, s28] ∧ Pl t8
  | 0, many, s8, hk, hk2, h8 => ⟨s8, rfl, h8⟩
  | n + 1, many, s8, hk, hk2, h8 => by
    have hb := long_turn (s0 := s0) (s1 := s1) (s2 := s2) (s3 := s3) (s4 := s4) (s5 := s5) (s7 := .val (.int (many - 1 : Nat))) (s9 := s9) (s10 := s10) (s11 := s11) (s12 := s12) (s13 := s13) (s14 := s14) (s17 := s17) (s18 := s18) (s20 := s20) (s21 := s21) (s22 := s22) (s23 := s23) (s24 := s24) (s25 := s25) (s26 := s26) (s27 := s27) (s28 := s28) (m := m) (w := w) (days := days) (many := many) h0 h1 hl hk (by omega) rfl
    rw [List.range'_succ, List.map_cons]
    unfold lawLong
    by_cases h : m < (cntI w (days ++ run day many) (day + many - 1) : Int)
    · rw [if_pos h] at hb
      rw [if_pos h]
      exact ⟨.val (.int many), for_brk (gN_set (s := s8) rfl h8.1) hb, .val _⟩
    · rw [if_neg h] at hb
      rw [if_neg h]
      obtain ⟨t8, k1, k2⟩ := long_loop h0 h1 hl n (many + 1) (.val (.int many)) (by omega) (by omega) (.val _)
      exact ⟨t8, (for_cons (gN_set (s := s8) rfl h8.1) hb).trans k1, k2⟩
theorem rng_range' (j n : Nat) : rng (j : Int) ((j : Int) + n) = (List.range' j n).map fun x : Nat => D.int x := by
  unfold rng
  rw [List.range'_eq_map_range, List.map_map, show ((j : Int) + n - j).toNat = n by omega]
  rfl
theorem rng2_ok {a b : Int} (h0 : 0 ≤ a) (h1 : a ≤ b) (h2 : b ≤ 9999) : D.rng2 [.int a, .int b] = some (rng a b) := by
  have e1 : D.rngOk a b = true := by unfold D.rngOk; simp; omega
  have e2 : (b - a).toNat ≤ sizeLine := Nat.le_trans (by omega : (b - a).toNat ≤ 16777216) (Nat.le_of_eq sizeLine_eq.symm)
  exact if_pos ⟨e1, e2⟩
theorem src_rng2 {ρ : Ev} {a b : Int} {x y : M D} {L : List D} (hx : x ρ = .ok (.int a) ρ) (hy : y ρ = .ok (.int b) ρ) (hr : D.rng2 [.int a, .int b] = some L) : srcN D.rng2 [.v x, .v y] ρ = .ok L ρ := by
  simp [srcN, hx, hy, hr, M.bnd, M.ret, Arg.ev, evs, dvs]
theorem row18 {s0 s1 s2 s3 s4 s5 s9 s10 s11 s12 s13 s14 s17 s18 s20 s21 s22 s23 s24 s25 s26 s27 s28 : Slot} {m w day : Int} {days : List Int} (h0 : 0 ≤ day) (h1 : day ≤ 100) (hl : days.length ≤ 1000) (h8 : Pl s8) :
    ∃ t8, l18_law [s0, s1, s2, s3, s4, s5, .val (.int day), .val (.int 0), s8, s9, s10, s11, s12, s13, s14, .val (.int m), .val (.int w), s17, s18, .val (lstI days), s20, s21, s22, s23, s24, s25, s26, s27, s28] = .nx [s0, s1, s2, s3, s4, s5, .val (.int day), .val (.int (lawLong m w day days 29 1)), t8, s9, s10, s11, s12, s13, s14, .val (.int m), .val (.int w), s17, s18, .val (lstI days), s20, s21, s22, s23, s24, s25, s26, s27, s28] ∧ Pl t8 := by
  obtain ⟨t8, k1, k2⟩ := long_loop (s0 := s0) (s1 := s1) (s2 := s2) (s3 := s3) (s4 := s4) (s5 := s5) (s9 := s9) (s10 := s10) (s11 := s11) (s12 := s12) (s13 := s13) (s14 := s14) (s17 := s17) (s18 := s18) (s20 := s20) (s21 := s21) (s22 := s22) (s23 := s23) (s24 := s24) (s25 := s25) (s26 := s26) (s27 := s27) (s28 := s28) (m := m) (w := w) (days := days) h0 h1 hl 29 1 s8 (by omega) (by omega) h8
  have hr := rng2_ok (a := 1) (b := 30) (by omega) (by omega) (by omega)
  have e := rng_range' 1 29
  rw [show ((1 : Nat) : Int) + (29 : Nat) = 30 from rfl] at e
  change rng 1 30 = _ at e
  rw [e] at hr
  have hs := src_rng2 (ρ := [s0, s1, s2, s3, s4, s5, .val (.int day), .val (.int 0), s8, s9, s10, s11, s12, s13, s14, .val (.int m), .val (.int w), s17, s18, .val (lstI days), s20, s21, s22, s23, s24, s25, s26, s27, s28]) (x := M.ret (.int 1)) (y := M.ret (.int 30)) rfl rfl hr
  clear e hr
  generalize (List.range' 1 29).map (fun x : Nat => D.int x) = L at hs k1
  have hf := for_ok (t := gN 8) (b := b17_law) hs
  exact ⟨t8, hf.trans k1, k2⟩
theorem row19 {s0 s1 s2 s3 s4 s5 s8 s9 s10 s11 s12 s13 s14 s17 s18 s19 s20 s21 s22 s23 s24 s25 s26 s27 s28 : Slot} {m w day l : Int} : x19_law [s0, s1, s2, s3, s4, s5, .val (.int day), .val (.int l), s8, s9, s10, s11, s12, s13, s14, .val (.int m), .val (.int w), s17, s18, s19, s20, s21, s22, s23, s24, s25, s26, s27, s28] = .nx [s0, s1, s2, s3, s4, s5, .val (.int day), .val (.int (if w ≤ m then 9999 - day else l)), s8, s9, s10, s11, s12, s13, s14, .val (.int m), .val (.int w), s17, s18, s19, s20, s21, s22, s23, s24, s25, s26, s27, s28] := by
  by_cases h : w ≤ m <;> simp [x19_law, h, fnF, sSeq, sIf, asTest, op1, op2, opN, opV, M.bnd, M.ret, M.opt, Arg.ev, rs, rss, Slot.rd, evs, sV, sAsg, sNx, var, gN, gTu, gCo, gNi, so_no, so_val, so_own, so_dic, so_inst, so_ex, sh_no, sh_val, sh_own, sh_dic, sh_inst, sh_ex, sa_no, sa_val, sa_own, sa_dic, sa_inst, sa_ex, vAnd, vOr, vNot, vIf, bAnd, bOr, bNot, chain, chC, chL, callF, callV_1, callV_2, callV_3, callV_4, sz1, sz2, sz3, sz4, sz5, sz6, sz7, sz8, sz9, sz10, sz11, sz12, dvs, D.ix, L2.atI, ixN, D.cmpI, D.toI, D.mod, D.fdiv, add_ii, D.sub, D.mul, D.pow, D.neg, D.len, D.mkL, D.mkT, D.isN, D.notN, isiB, isi2, D.is, D.tn, D.eq, D.ne, D.sc, D.eqb, sPut, callV_o1g]
theorem row20 {s0 s1 s2 s4 s5 s8 s9 s10 s11 s12 s13 s14 s18 s19 s20 s21 s22 s23 s24 s25 s26 s27 s28 : Slot} {h : D} {ps : List (Int × Int)} {m w day : Int} (hs : Spans h ps) (hl : ps.length ≤ 4) (h0 : 0 ≤ day) (he : endS 0 ps ≤ day) (h1 : day ≤ 100) (hm0 : 0 ≤ m) (hm7 : m ≤ 7) (hw : 1 ≤ w) :
    x20_law [s0, s1, s2, .val h, s4, s5, .val (.int day), .val (.int (if w ≤ m then 9999 - day else lawLong m w day (daysOf ps) 29 1)), s8, s9, s10, s11, s12, s13, s14, .val (.int m), .val (.int w), .val (rule m w), s18, s19, s20, s21, s22, s23, s24, s25, s26, s27, s28] = .nx [s0, s1, s2, .val h, s4, s5, .val (.int day), .val (.int (if w ≤ m then 9999 - day else lawLong m w day (daysOf ps) 29 1)), s8, s9, s10, s11, s12, s13, s14, .val (.int m), .val (.int w), .val (rule m w), s18, s19, s20, s21, s22, s23, s24, s25, s26, s27, s28] := by
  have hz : ps.length + 1 ≤ sizeLine := Nat.le_trans (by omega : ps.length + 1 ≤ 5) (Eq.mpr sz5 trivial)
  obtain ⟨K, k1, k2, k3⟩ := long_law (m := m) (w := w) (day := day) hs.ok he h0 (by omega) hm0 hm7 hw
  have e1 := long_ok (m := m) (w := w) (day := day) (K := K) hs hz h0 he k2 k3
  rw [k1]
  have e2 := alike_int (K : Int)
  have hm := fun φ as ρ hρ => meth_var17 (m := m) (w := w) (mn := "longest_stay") (φ := φ) (as := as) (ρ := ρ) (rule_no (by decide)) hρ
  clear k1 k2 k3 hs hz
  generalize (K : Int) = C at *
  simp [x20_law, hm, e1, e2, fnF, sSeq, sIf, asTest, op1, op2, opN, opV, M.bnd, M.ret, M.opt, Arg.ev, rs, rss, Slot.rd, evs, sV, sAsg, sNx, var, gN, gTu, gCo, gNi, so_no, so_val, so_own, so_dic, so_inst, so_ex, sh_no, sh_val, sh_own, sh_dic, sh_inst, sh_ex, sa_no, sa_val, sa_own, sa_dic, sa_inst, sa_ex, vAnd, vOr, vNot, vIf, bAnd, bOr, bNot, chain, chC, chL, callF, callV_1, callV_2, callV_3, callV_4, sz1, sz2, sz3, sz4, sz5, sz6, sz7, sz8, sz9, sz10, sz11, sz12, dvs, D.cmpI, D.toI, D.mod, D.fdiv, add_ii, D.sub, D.mul, D.pow, D.neg, D.len, D.mkT, D.isN, D.notN, isiB, isi2, D.is, D.tn, sPut, callV_o1g]
end DL
namespace DL
open PySem L2
theorem row21 {s0 s2 s3 s4 s5 s6 s7 s9 s10 s11 s12 s13 s14 s15 s16 s17 s18 s19 s20 s21 s22 s23 s24 s25 s26 s27 s28 : Slot} {d : List D} (hd : RowOk d) (h8 : s8.isOwn = false) : x21_law [s0, .own d, s2, s3, s4, s5, s6, s7, s8, s9, s10, s11, s12, s13, s14, s15, s16, s17, s18, s19, s20, s21, s22, s23, s24, s25, s26, s27, s28] = .nx [s0, .own (tkN d 9), s2, s3, s4, s5, s6, s7, .val (.int (tkV d 9)), s9, s10, s11, s12, s13, s14, s15, s16, s17, s18, s19, s20, s21, s22, s23, s24, s25, s26, s27, s28] := by
  have e1 := tk_eq hd (m := 9) (by omega) (by omega)
  generalize tkN d 9 = d1 at *
  generalize tkV d 9 = v1 at *
  simp [x21_law, e1, h8, fnF, sSeq, sIf, asTest, op1, op2, opN, opV, M.bnd, M.ret, M.opt, Arg.ev, rs, rss, Slot.rd, evs, sV, sAsg, sNx, var, gN, gTu, gCo, gNi, so_no, so_val, so_own, so_dic, so_inst, so_ex, sh_no, sh_val, sh_own, sh_dic, sh_inst, sh_ex, sa_no, sa_val, sa_own, sa_dic, sa_inst, sa_ex, vAnd, vOr, vNot, vIf, bAnd, bOr, bNot, chain, chC, chL, callF, callV_1, callV_2, callV_3, callV_4, sz1, sz2, sz3, sz4, sz5, sz6, sz7, sz8, sz9, sz10, sz11, sz12, dvs, D.ix, L2.atI, ixN, D.cmpI, D.toI, D.mod, D.fdiv, add_ii, D.sub, D.mul, D.pow, D.neg, D.len, D.mkL, D.mkT, D.isN, D.notN, isiB, isi2, D.is, D.tn, D.eq, D.ne, D.sc, D.eqb, sPut, callV_o1g]
theorem row22 {s0 s1 s2 s3 s4 s5 s6 s7 s8 s9 s10 s11 s12 s13 s14 s15 s16 s17 s18 s19 s20 s21 s22 s23 s24 s25 s26 s27 s28 : Slot} : sOwn 9 1 [] [s0, s1, s2, s3, s4, s5, s6, s7, s8, s9, s10, s11, s12, s13, s14, s15, s16, s17, s18, s19, s20, s21, s22, s23, s24, s25, s26, s27, s28] = .nx [s0, s1, s2, s3, s4, s5, s6, s7, s8, .own [], s10, s11, s12, s13, s14, s15, s16, s17, s18, s19, s20, s21, s22, s23, s24, s25, s26, s27, s28] := by
  simp [sOwn, fnF, sSeq, sIf, asTest, op1, op2, opN, opV, M.bnd, M.ret, M.opt, Arg.ev, rs, rss, Slot.rd, evs, sV, sAsg, sNx, var, gN, gTu, gCo, gNi, so_no, so_val, so_own, so_dic, so_inst, so_ex, sh_no, sh_val, sh_own, sh_dic, sh_inst, sh_ex, sa_no, sa_val, sa_own, sa_dic, sa_inst, sa_ex, vAnd, vOr, vNot, vIf, bAnd, bOr, bNot, chain, chC, chL, callF, callV_1, callV_2, callV_3, callV_4, sz1, sz2, sz3, sz4, sz5, sz6, sz7, sz8, sz9, sz10, sz11, sz12, dvs, D.ix, L2.atI, ixN, D.cmpI, D.toI, D.mod, D.fdiv, add_ii, D.sub, D.mul, D.pow, D.neg, D.len, D.mkL, D.mkT, D.isN, D.notN, isiB, isi2, D.is, D.tn, D.eq, D.ne, D.sc, D.eqb, sPut, callV_o1g]
/-- the law's look at a day to begin on -/
def goodI (m w : Int) (days : List Int) (n : Nat) (b : Int) : Bool := decide ((run b n).filter (fun x => decide (m < (cntI w (days ++ run b n) x : Int))) = [])
theorem good_turn {s0 s1 s2 s3 s4 s5 s6 s7 s11 s12 s13 s14 s17 s18 s20 s21 s23 s24 s25 s27 s28 : Slot} {m w b : Int} {days acc : List Int} {n : Nat} (h0 : 0 ≤ b) (h1 : b ≤ 1000) (hn : n ≤ 100) (hl : days.length ≤ 1000) (ha : acc.length ≤ 1000) (h22 : s22.isOwn = false) (h26 : s26.isOwn = false) :
    b23_law [s0, s1, s2, s3, s4, s5, s6, s7, .val (.int n), .own (acc.map D.int), .val (.int b), s11, s12, s13, s14, .val (.int m), .val (.int w), s17, s18, .val (lstI days), s20, s21, s22, s23, s24, s25, s26, s27, s28] = .nx [s0, s1, s2, s3, s4, s5, s6, s7, .val (.int n), .own ((acc ++ [b].filter (goodI m w days n)).map D.int), .val (.int b), s11, s12, s13, s14, .val (.int m), .val (.int w), s17, s18, .val (lstI days), s20, s21, .val (lstI (run b n)), s23, s24, s25, s26, s27, s28] := by
  have e1 := listRng_run (a := b) (b := b + n) h0 (by omega) (by omega)
  rw [show (b + (n : Int) - b).toNat = n by omega] at e1
  have e2 := add_lstI (a := days) (b := run b n) (by rw [run_len]; omega)
  have hk : k22_law [s0, s1, s2, s3, s4, s5, s6, s7, .val (.int n), .own (acc.map D.int), .val (.int b), s11, s12, s13, s14, .val (.int m), .val (.int w), s17, s18, .val (lstI days), s20, s21, .val (lstI (run b n)), s23, s24, s25, s26, s27, s28] = .ok (lstI ((run b n).filter (fun x => decide (m < (cntI w (days ++ run b n) x : Int))))) [s0, s1, s2, s3, s4, s5, s6, s7, .val (.int n), .own (acc.map D.int), .val (.int b), s11, s12, s13, s14, .val (.int m), .val (.int w), s17, s18, .val (lstI days), s20, s21, .val (lstI (run b n)), s23, s24, s25, s26, s27, s28] := by
    have e0 : lstI ((run b n).filter (fun x => decide (m < (cntI w (days ++ run b n) x : Int)))) = lstI (((run b n).filter (fun x => decide (m < (cntI w (days ++ run b n) x : Int)))).map id) := by rw [List.map_id]
    rw [e0]
    refine comp_ints (s := s26) (L := run b n) (fun x => decide (m < (cntI w (days ++ run b n) x : Int))) id rfl rfl h26 (fun x _ => ?_) (fun x _ _ => rfl)
    have e3 := li_okL (m := m) (w := w) (day := x) (L := days ++ run b n)
    clear e0 e1
    generalize days ++ run b n = L at *
    generalize run b n = R at *
    generalize (cntI w L x : Int) = C at *
    by_cases h1 : m < C <;> simp [e2, e3, h1, fnF, sSeq, sIf, asTest, op1, op2, opN, opV, M.bnd, M.ret, M.opt, Arg.ev, rs, rss, Slot.rd, evs, sV, sAsg, sNx, var, gN, gTu, gCo, gNi, so_no, so_val, so_own, so_dic, so_inst, so_ex, sh_no, sh_val, sh_own, sh_dic, sh_inst, sh_ex, sa_no, sa_val, sa_own, sa_dic, sa_inst, sa_ex, vAnd, vOr, vNot, vIf, bAnd, bOr, bNot, chain, chC, chL, callF, callV_1, callV_2, callV_3, callV_4, sz1, sz2, sz3, sz4, sz5, sz6, sz7, sz8, sz9, sz10, sz11, sz12, dvs, D.cmpI, D.toI, D.mod, D.fdiv, add_ii, D.sub, D.mul, D.pow, D.neg, D.len, D.mkT, D.isN, D.notN, isiB, isi2, D.is, D.tn, sPut, callV_o1g]
  have e6 : D.eq (lstI ((run b n).filter (fun x => decide (m < (cntI w (days ++ run b n) x : Int))))) (.lst []) = some (.bl (goodI m w days n b)) := eq_lst_nil _
  have e7 : (acc.map D.int).length < sizeLine := by
    rw [List.length_map]
    exact Nat.lt_of_lt_of_le (by omega : acc.length < 16777216) (Nat.le_of_eq sizeLine_eq.symm)
  clear e2 h0 h1 hn hl ha
  generalize lstI ((run b n).filter (fun x => decide (m < (cntI w (days ++ run b n) x : Int)))) = F at *
  generalize run b n = R at *
  cases hg : goodI m w days n b with
  | false =>
    rw [hg] at e6
    simp [b23_law, e1, hk, e6, h22, hg, fnF, sSeq, sIf, asTest, op1, op2, opN, opV, M.bnd, M.ret, M.opt, Arg.ev, rs, rss, Slot.rd, evs, sV, sAsg, sNx, var, gN, gTu, gCo, gNi, so_no, so_val, so_own, so_dic, so_inst, so_ex, sh_no, sh_val, sh_own, sh_dic, sh_inst, sh_ex, sa_no, sa_val, sa_own, sa_dic, sa_inst, sa_ex, vAnd, vOr, vNot, vIf, bAnd, bOr, bNot, chain, chC, chL, callF, callV_1, callV_2, callV_3, callV_4, sz1, sz2, sz3, sz4, sz5, sz6, sz7, sz8, sz9, sz10, sz11, sz12, dvs, D.cmpI, D.toI, D.mod, D.fdiv, add_ii, D.sub, D.mul, D.pow, D.neg, D.len, D.mkL, D.mkT, D.isN, D.notN, isiB, isi2, D.is, D.tn, sPut, callV_o1g]
  | true =>
    rw [hg] at e6
    simp only [List.map_append, List.filter_cons, hg, if_true, List.filter_nil, List.map_cons, List.map_nil]
    generalize acc.map D.int = P at *
    simp [b23_law, e1, hk, e6, h22, hg, sApp, e7, fnF, sSeq, sIf, asTest, op1, op2, opN, opV, M.bnd, M.ret, M.opt, Arg.ev, rs, rss, Slot.rd, evs, sV, sAsg, sNx, var, gN, gTu, gCo, gNi, so_no, so_val, so_own, so_dic, so_inst, so_ex, sh_no, sh_val, sh_own, sh_dic, sh_inst, sh_ex, sa_no, sa_val, sa_own, sa_dic, sa_inst, sa_ex, vAnd, vOr, vNot, vIf, bAnd, bOr, bNot, chain, chC, chL, callF, callV_1, callV_2, callV_3, callV_4, sz1, sz2, sz3, sz4, sz5, sz6, sz7, sz8, sz9, sz10, sz11, sz12, dvs, D.cmpI, D.toI, D.mod, D.fdiv, add_ii, D.sub, D.mul, D.pow, D.neg, D.len, D.mkL, D.mkT, D.isN, D.notN, isiB, isi2, D.is, D.tn, sPut, callV_o1g]
theorem good_loop {s0 s1 s2 s3 s4 s5 s6 s7 s11 s12 s13 s14 s17 s18 s20 s21 s23 s24 s25 s27 s28 : Slot} {m w : Int} {days : List Int} {n : Nat} {s26 : Slot} (hn : n ≤ 100) (hl : days.length ≤ 1000) (h26 : s26.isOwn = false) : ∀ (L acc : List Int) (s10 s22 : Slot), (∀ b ∈ L, 0 ≤ b ∧ b ≤ 1000) → acc.length + L.length ≤ 1000 → Pl s10 → Pl s22 →
    ∃ t10 t22, forL (gN 10) b23_law (L.map D.int) [s0, s1, s2, s3, s4, s5, s6, s7, .val (.int n), .own (acc.map D.int), s10, s11, s12, s13, s14, .val (.int m), .val (.int w), s17, s18, .val (lstI days), s20, s21, s22, s23, s24, s25, s26, s27, s28] = .nx [s0, s1, s2, s3, s4, s5, s6, s7, .val (.int n), .own ((acc ++ L.filter (goodI m w days n)).map D.int), t10, s11, s12, s13, s14, .val (.int m), .val (.int w), s17, s18, .val (lstI days), s20, s21, t22, s23, s24, s25, s26, s27, s28] ∧ Pl t10 ∧ Pl t22
  | [], acc, s10, s22, hb, ha, h10, h22 => ⟨s10, s22, by simp [forL], h10, h22⟩
  | b :: L, acc, s10, s22, hb, ha, h10, h22 => by
    have ht := good_turn (s0 := s0) (s1 := s1) (s2 := s2) (s3 := s3) (s4 := s4) (s5 := s5) (s6 := s6) (s7 := s7) (s11 := s11) (s12 := s12) (s13 := s13) (s14 := s14) (s17 := s17) (s18 := s18) (s20 := s20) (s21 := s21) (s22 := s22) (s23 := s23) (s24 := s24) (s25 := s25) (s26 := s26) (s27 := s27) (s28 := s28) (m := m) (w := w) (b := b) (days := days) (acc := acc) (n := n) (hb b List.mem_cons_self).1 (hb b List.mem_cons_self).2 hn hl (by omega) h22.1 h26
    have hf : ([b].filter (goodI m w days n)).length ≤ 1 := List.length_filter_le _ _
    obtain ⟨t10, t22, k1, k2⟩ := good_loop (m := m) (w := w) hn hl h26 L (acc ++ [b].filter (goodI m w days n)) (.val (.int b)) (.val (lstI (run b n))) (fun x hx => hb x (List.mem_cons_of_mem _ hx)) (by rw [List.length_append]; simp only [List.length_cons] at ha; omega) (.val _) (.val _)
    have ef : acc ++ [b].filter (goodI m w days n) ++ L.filter (goodI m w days n) = acc ++ (b :: L).filter (goodI m w days n) := by
      rw [List.append_assoc, ← List.filter_append]
      rfl
    rw [ef] at k1
    refine ⟨t10, t22, ?_, k2⟩
    rw [List.map_cons]
    exact (for_cons (gN_set (s := s10) rfl h10.1) ht).trans k1
theorem row24 {s0 s1 s2 s3 s4 s5 s7 s11 s12 s13 s14 s17 s18 s20 s21 s23 s24 s25 s27 s28 : Slot} {m w day : Int} {days : List Int} {n : Nat} (h0 : 0 ≤ day) (h1 : day ≤ 100) (hn : n ≤ 100) (hl : days.length ≤ 1000) (h10 : Pl s10) (h22 : Pl s22) (h26 : s26.isOwn = false) :
    ∃ t10 t22, l24_law [s0, s1, s2, s3, s4, s5, .val (.int day), s7, .val (.int n), .own [], s10, s11, s12, s13, s14, .val (.int m), .val (.int w), s17, s18, .val (lstI days), s20, s21, s22, s23, s24, s25, s26, s27, s28] = .nx [s0, s1, s2, s3, s4, s5, .val (.int day), s7, .val (.int n), .own (((run day 40).filter (goodI m w days n)).map D.int), t10, s11, s12, s13, s14, .val (.int m), .val (.int w), s17, s18, .val (lstI days), s20, s21, t22, s23, s24, s25, s26, s27, s28] ∧ Pl t10 ∧ Pl t22 := by
  have hr := rng2_ok (a := day) (b := day + 40) h0 (by omega) (by omega)
  have e : rng day (day + 40) = (run day 40).map D.int := by
    rw [rng_nat, show (day + 40 - day).toNat = 40 by omega]
    rfl
  rw [e] at hr
  obtain ⟨t10, t22, k1, k2, k3⟩ := good_loop (s0 := s0) (s1 := s1) (s2 := s2) (s3 := s3) (s4 := s4) (s5 := s5) (s6 := .val (.int day)) (s7 := s7) (s11 := s11) (s12 := s12) (s13 := s13) (s14 := s14) (s17 := s17) (s18 := s18) (s20 := s20) (s21 := s21) (s23 := s23) (s24 := s24) (s25 := s25) (s27 := s27) (s28 := s28) (m := m) (w := w) (days := days) (n := n) hn hl h26 (run day 40) [] s10 s22 (fun b hb => by have := run_mem.mp hb; omega) (by rw [run_len]; simp) h10 h22
  have hs := src_rng2 (ρ := [s0, s1, s2, s3, s4, s5, .val (.int day), s7, .val (.int n), .own [], s10, s11, s12, s13, s14, .val (.int m), .val (.int w), s17, s18, .val (lstI days), s20, s21, s22, s23, s24, s25, s26, s27, s28]) (x := var 6) (y := op2 D.add (.o 6) (.v (M.ret (.int 40)))) rfl rfl hr
  clear e hr
  rw [List.nil_append] at k1
  generalize (run day 40).map D.int = L at hs k1
  have hf := for_ok (t := gN 10) (b := b23_law) hs
  exact ⟨t10, t22, hf.trans k1, k2, k3⟩
theorem row25 {s0 s1 s2 s4 s5 s7 s10 s11 s12 s13 s14 s18 s19 s20 s21 s22 s23 s24 s25 s26 s27 s28 : Slot} {h : D} {ps : List (Int × Int)} {m w day : Int} {n : Nat} (hs : Spans h ps) (hl : ps.length ≤ 4) (h0 : 0 ≤ day) (he : endS 0 ps ≤ day) (h1 : day ≤ 100) (hn : n ≤ 100) (hm0 : 0 ≤ m) (hw : 1 ≤ w) (hw2 : w ≤ 12) :
    x25_law [s0, s1, s2, .val h, s4, s5, .val (.int day), s7, .val (.int n), .own (((run day 40).filter (goodI m w (daysOf ps) n)).map D.int), s10, s11, s12, s13, s14, .val (.int m), .val (.int w), .val (rule m w), s18, s19, s20, s21, s22, s23, s24, s25, s26, s27, s28] = .nx [s0, s1, s2, .val h, s4, s5, .val (.int day), s7, .val (.int n), .own (((run day 40).filter (goodI m w (daysOf ps) n)).map D.int), s10, s11, s12, s13, s14, .val (.int m), .val (.int w), .val (rule m w), s18, s19, s20, s21, s22, s23, s24, s25, s26, s27, s28] := by
  have hz : ps.length + 1 ≤ sizeLine := Nat.le_trans (by omega : ps.length + 1 ≤ 5) (Eq.mpr sz5 trivial)
  have e1 := entry_ok (m := m) (w := w) (day := day) (n := n) hs hz h0 he (by omega) (by omega) (by omega) (by omega)
  have ee : entryI m w day n ps = ((run day 40).filter (goodI m w (daysOf ps) n)).head? := by
    rw [entry_law hs.ok he hm0 hw hw2, head_find]
    rfl
  rw [ee] at e1
  have hol : ((run day 40).filter (goodI m w (daysOf ps) n)).length < 1000 := Nat.lt_of_le_of_lt (List.length_filter_le _ _) (by rw [run_len]; omega)
  clear ee hs hz
  generalize (run day 40).filter (goodI m w (daysOf ps) n) = O at *
  have e3 := alike_opt O.head?
  have e4 := add_non hol
  have e5 := ix_head O
  have hm := fun φ as ρ hρ => meth_var17 (m := m) (w := w) (mn := "first_entry") (φ := φ) (as := as) (ρ := ρ) (rule_no (by decide)) hρ
  unfold lstI at e4
  clear hol
  generalize optI O.head? = H at *
  generalize O.map D.int ++ [D.non] = P at *
  generalize O.map D.int = Q at *
  simp [x25_law, hm, e1, e3, e4, e5, fnF, sSeq, sIf, asTest, op1, op2, opN, opV, M.bnd, M.ret, M.opt, Arg.ev, rs, rss, Slot.rd, evs, sV, sAsg, sNx, var, gN, gTu, gCo, gNi, so_no, so_val, so_own, so_dic, so_inst, so_ex, sh_no, sh_val, sh_own, sh_dic, sh_inst, sh_ex, sa_no, sa_val, sa_own, sa_dic, sa_inst, sa_ex, vAnd, vOr, vNot, vIf, bAnd, bOr, bNot, chain, chC, chL, callF, callV_1, callV_2, callV_3, callV_4, sz1, sz2, sz3, sz4, sz5, sz6, sz7, sz8, sz9, sz10, sz11, sz12, dvs, D.cmpI, D.toI, D.mod, D.fdiv, add_ii, D.sub, D.mul, D.pow, D.neg, D.len, D.mkL, D.mkT, D.isN, D.notN, isiB, isi2, D.is, D.tn, sPut, callV_o1g]
end DL
namespace DL
open PySem L2
theorem row26 {s0 s2 s3 s4 s5 s6 s7 s8 s9 s10 s12 s13 s14 s15 s16 s17 s18 s19 s20 s21 s22 s23 s24 s25 s26 s27 s28 : Slot} {d : List D} (hd : RowOk d) (h11 : s11.isOwn = false) : x26_law [s0, .own d, s2, s3, s4, s5, s6, s7, s8, s9, s10, s11, s12, s13, s14, s15, s16, s17, s18, s19, s20, s21, s22, s23, s24, s25, s26, s27, s28] = .nx [s0, .own (tkN d 10), s2, s3, s4, s5, s6, s7, s8, s9, s10, .val (.int (tkV d 10)), s12, s13, s14, s15, s16, s17, s18, s19, s20, s21, s22, s23, s24, s25, s26, s27, s28] := by
  have e1 := tk_eq hd (m := 10) (by omega) (by omega)
  generalize tkN d 10 = d1 at *
  generalize tkV d 10 = v1 at *
  simp [x26_law, e1, h11, fnF, sSeq, sIf, asTest, op1, op2, opN, opV, M.bnd, M.ret, M.opt, Arg.ev, rs, rss, Slot.rd, evs, sV, sAsg, sNx, var, gN, gTu, gCo, gNi, so_no, so_val, so_own, so_dic, so_inst, so_ex, sh_no, sh_val, sh_own, sh_dic, sh_inst, sh_ex, sa_no, sa_val, sa_own, sa_dic, sa_inst, sa_ex, vAnd, vOr, vNot, vIf, bAnd, bOr, bNot, chain, chC, chL, callF, callV_1, callV_2, callV_3, callV_4, sz1, sz2, sz3, sz4, sz5, sz6, sz7, sz8, sz9, sz10, sz11, sz12, dvs, D.ix, L2.atI, ixN, D.cmpI, D.toI, D.mod, D.fdiv, add_ii, D.sub, D.mul, D.pow, D.neg, D.len, D.mkL, D.mkT, D.isN, D.notN, isiB, isi2, D.is, D.tn, D.eq, D.ne, D.sc, D.eqb, sPut, callV_o1g]
def unI : D → List Int
  | .lst l => l.map D.i
  | _ => []
theorem unI_lst (l : List Int) : unI (lstI l) = l := by
  unfold unI lstI
  simp only [List.map_map]
  exact (List.map_congr_left (g := id) (fun x _ => rfl)).trans (List.map_id l)
def bestL (m w : Int) (n : Nat) : List Int := ((subs n).filter fun l => decide (overL m w l = [])).map fun l => (l.length : Int)
theorem lawful_okL {m w : Int} {L : List Int} : f_ulaw_lawful [.val (lstI L), .val (.int m), .val (.int w)] = .ok (.bl (decide (overL m w L = []))) [.val (lstI L), .val (.int m), .val (.int w)] := lawful_ok
theorem best_e0 {m w : Int} {n : Nat} : lstI (bestL m w n) = .lst ((((subs n).map lstI).filter fun d => decide (overL m w (unI d) = [])).map fun d => .int ((unI d).length : Int)) := by
  unfold bestL
  generalize subs n = SS
  rw [List.filter_map, List.map_map]
  have e1 : ((fun d => decide (overL m w (unI d) = [])) ∘ lstI) = fun l => decide (overL m w l = []) := by
    funext l
    show decide (overL m w (unI (lstI l)) = []) = _
    rw [unI_lst]
  have e2 : ((fun d => D.int ((unI d).length : Int)) ∘ lstI) = fun l => D.int (l.length : Int) := by
    funext l
    show D.int ((unI (lstI l)).length : Int) = _
    rw [unI_lst]
  rw [e1, e2]
  unfold lstI
  rw [List.map_map]
  rfl
theorem best_turn {s0 s1 s2 s3 s4 s5 s6 s7 s8 s9 s10 s12 s13 s14 s17 s18 s19 s20 s21 s22 s23 s24 s25 s26 s27 : Slot} {m w n : Int} {l : List Int} : ∃ ρ1, gN 28 (lstI l) (wipeE [s0, s1, s2, s3, s4, s5, s6, s7, s8, s9, s10, .val (.int n), s12, s13, s14, .val (.int m), .val (.int w), s17, s18, s19, s20, s21, s22, s23, s24, s25, s26, s27, .no] [28]) = some ρ1 ∧ asTest (callF f_ulaw_lawful [.v (var 28), .v (var 15), .v (var 16)]) ρ1 = .ok (decide (overL m w (unI (lstI l)) = [])) ρ1 ∧ (decide (overL m w (unI (lstI l)) = []) = true → c27_law ρ1 = .ok (.int ((unI (lstI l)).length : Int)) ρ1) ∧ ownAt [28] ρ1 = false ∧ wipeE ρ1 [28] = wipeE [s0, s1, s2, s3, s4, s5, s6, s7, s8, s9, s10, .val (.int n), s12, s13, s14, .val (.int m), .val (.int w), s17, s18, s19, s20, s21, s22, s23, s24, s25, s26, s27, .no] [28] := by
  have e3 := lawful_okL (m := m) (w := w) (L := l)
  refine ⟨[s0, s1, s2, s3, s4, s5, s6, s7, s8, s9, s10, .val (.int n), s12, s13, s14, .val (.int m), .val (.int w), s17, s18, s19, s20, s21, s22, s23, s24, s25, s26, s27, .val (lstI l)], by simp [wipeE, fnF, sSeq, sIf, asTest, op1, op2, opN, opV, M.bnd, M.ret, M.opt, Arg.ev, rs, rss, Slot.rd, evs, sV, sAsg, sNx, var, gN, gTu, gCo, gNi, so_no, so_val, so_own, so_dic, so_inst, so_ex, sh_no, sh_val, sh_own, sh_dic, sh_inst, sh_ex, sa_no, sa_val, sa_own, sa_dic, sa_inst, sa_ex, vAnd, vOr, vNot, vIf, bAnd, bOr, bNot, chain, chC, chL, callF, callV_1, callV_2, callV_3, callV_4, sz1, sz2, sz3, sz4, sz5, sz6, sz7, sz8, sz9, sz10, sz11, sz12, dvs, D.ix, L2.atI, ixN, D.cmpI, D.toI, D.mod, D.fdiv, add_ii, D.sub, D.mul, D.pow, D.neg, D.len, D.mkL, D.mkT, D.isN, D.notN, isiB, isi2, D.is, D.tn, D.eq, D.ne, D.sc, D.eqb, sPut, callV_o1g], ?_, fun _ => ?_, by simp [ownAt, fnF, sSeq, sIf, asTest, op1, op2, opN, opV, M.bnd, M.ret, M.opt, Arg.ev, rs, rss, Slot.rd, evs, sV, sAsg, sNx, var, gN, gTu, gCo, gNi, so_no, so_val, so_own, so_dic, so_inst, so_ex, sh_no, sh_val, sh_own, sh_dic, sh_inst, sh_ex, sa_no, sa_val, sa_own, sa_dic, sa_inst, sa_ex, vAnd, vOr, vNot, vIf, bAnd, bOr, bNot, chain, chC, chL, callF, callV_1, callV_2, callV_3, callV_4, sz1, sz2, sz3, sz4, sz5, sz6, sz7, sz8, sz9, sz10, sz11, sz12, dvs, D.ix, L2.atI, ixN, D.cmpI, D.toI, D.mod, D.fdiv, add_ii, D.sub, D.mul, D.pow, D.neg, D.len, D.mkL, D.mkT, D.isN, D.notN, isiB, isi2, D.is, D.tn, D.eq, D.ne, D.sc, D.eqb, sPut, callV_o1g], by simp [wipeE]⟩
  · simp only [unI_lst]
    generalize decide (overL m w l = []) = B at *
    simp [e3, fnF, sSeq, sIf, asTest, op1, op2, opN, opV, M.bnd, M.ret, M.opt, Arg.ev, rs, rss, Slot.rd, evs, sV, sAsg, sNx, var, gN, gTu, gCo, gNi, so_no, so_val, so_own, so_dic, so_inst, so_ex, sh_no, sh_val, sh_own, sh_dic, sh_inst, sh_ex, sa_no, sa_val, sa_own, sa_dic, sa_inst, sa_ex, vAnd, vOr, vNot, vIf, bAnd, bOr, bNot, chain, chC, chL, callF, callV_1, callV_2, callV_3, callV_4, sz1, sz2, sz3, sz4, sz5, sz6, sz7, sz8, sz9, sz10, sz11, sz12, dvs, D.cmpI, D.toI, D.mod, D.fdiv, add_ii, D.sub, D.mul, D.pow, D.neg, D.len, D.mkT, D.isN, D.notN, isiB, isi2, D.is, D.tn, sPut, callV_o1g]
  · have e4 : D.len [lstI l] = some (.int (l.length : Int)) := by
      unfold lstI
      show some (D.int ((l.map D.int).length : Int)) = _
      rw [List.length_map]
    rw [unI_lst]
    clear e3
    generalize lstI l = Q at *
    simp [c27_law, e4, fnF, evs, M.bnd, M.ret, Arg.ev, opN, rss, rs, Slot.rd, sh_val]
theorem best_src {s0 s1 s2 s3 s4 s5 s6 s7 s8 s9 s10 s12 s13 s14 s17 s18 s19 s20 s21 s22 s23 s24 s25 s26 s27 s28 : Slot} {m w : Int} {n : Nat} {L : List D} (hsub : f_ulaw_subsets [.val (.int n)] = .ok (.lst L) [.val (.int n)]) : seqM (callF f_ulaw_subsets [.v (var 11)]) [s0, s1, s2, s3, s4, s5, s6, s7, s8, s9, s10, .val (.int n), s12, s13, s14, .val (.int m), .val (.int w), s17, s18, s19, s20, s21, s22, s23, s24, s25, s26, s27, s28] = .ok L [s0, s1, s2, s3, s4, s5, s6, s7, s8, s9, s10, .val (.int n), s12, s13, s14, .val (.int m), .val (.int w), s17, s18, s19, s20, s21, s22, s23, s24, s25, s26, s27, s28] := by
  have e1 : evs [.v (var 11)] [s0, s1, s2, s3, s4, s5, s6, s7, s8, s9, s10, .val (.int n), s12, s13, s14, .val (.int m), .val (.int w), s17, s18, s19, s20, s21, s22, s23, s24, s25, s26, s27, s28] = .ok [.d (.int n)] [s0, s1, s2, s3, s4, s5, s6, s7, s8, s9, s10, .val (.int n), s12, s13, s14, .val (.int m), .val (.int w), s17, s18, s19, s20, s21, s22, s23, s24, s25, s26, s27, s28] := rfl
  have e2 : callF f_ulaw_subsets [.v (var 11)] [s0, s1, s2, s3, s4, s5, s6, s7, s8, s9, s10, .val (.int n), s12, s13, s14, .val (.int m), .val (.int w), s17, s18, s19, s20, s21, s22, s23, s24, s25, s26, s27, s28] = .ok (.lst L) [s0, s1, s2, s3, s4, s5, s6, s7, s8, s9, s10, .val (.int n), s12, s13, s14, .val (.int m), .val (.int w), s17, s18, s19, s20, s21, s22, s23, s24, s25, s26, s27, s28] := by
    unfold callF
    rw [bnd_ok e1, callV_1, hsub]
  unfold seqM
  rw [bnd_ok e2]
theorem best_comp {s0 s1 s2 s3 s4 s5 s6 s7 s8 s9 s10 s12 s13 s14 s17 s18 s19 s20 s21 s22 s23 s24 s25 s26 s27 : Slot} {m w : Int} {n : Nat} (hn : n ≤ 20) : k28_law [s0, s1, s2, s3, s4, s5, s6, s7, s8, s9, s10, .val (.int n), s12, s13, s14, .val (.int m), .val (.int w), s17, s18, s19, s20, s21, s22, s23, s24, s25, s26, s27, .no] = .ok (lstI (bestL m w n)) [s0, s1, s2, s3, s4, s5, s6, s7, s8, s9, s10, .val (.int n), s12, s13, s14, .val (.int m), .val (.int w), s17, s18, s19, s20, s21, s22, s23, s24, s25, s26, s27, .no] := by
  rw [best_e0]
  have hs := best_src (s0 := s0) (s1 := s1) (s2 := s2) (s3 := s3) (s4 := s4) (s5 := s5) (s6 := s6) (s7 := s7) (s8 := s8) (s9 := s9) (s10 := s10) (s12 := s12) (s13 := s13) (s14 := s14) (s17 := s17) (s18 := s18) (s19 := s19) (s20 := s20) (s21 := s21) (s22 := s22) (s23 := s23) (s24 := s24) (s25 := s25) (s26 := s26) (s27 := s27) (s28 := .no) (m := m) (w := w) (subsets_ok hn)
  have hL : ∀ x ∈ (subs n).map lstI, ∃ l, x = lstI l := fun x hx => let ⟨l, _, e⟩ := List.mem_map.mp hx; ⟨l, e.symm⟩
  generalize (subs n).map lstI = L at *
  have := comp_pure (vs := [28]) (t := gN 28) (tt := asTest (callF f_ulaw_lawful [.v (var 28), .v (var 15), .v (var 16)])) (te := c27_law) (fun d => decide (overL m w (unI d) = [])) (fun d => .int ((unI d).length : Int)) hs rfl fun x hx => by
    obtain ⟨l, rfl⟩ := hL x hx
    exact best_turn
  exact this
theorem subs_nil : ∀ n, ∃ r, subs n = [] :: r
  | 0 => ⟨[], rfl⟩
  | n + 1 => by
    obtain ⟨r, h⟩ := subs_nil n
    exact ⟨r ++ (subs n).map fun l => l ++ [(n : Int)], by rw [subs, h]; rfl⟩
theorem best_max {m w n : Int} (hm : 0 ≤ m) (hm2 : m < 8) (hw : 1 ≤ w) (hw2 : w < 13) (hn : 0 ≤ n) (hn2 : n < 10) : D.max [lstI (bestL m w n.toNat)] = some (.int (n / w * min m w + min m (n % w))) := by
  obtain ⟨r, hr⟩ := subs_nil n.toNat
  have hb : ∃ r', bestL m w n.toNat = 0 :: r' := by
    unfold bestL
    rw [hr, List.filter_cons, if_pos (show decide (overL m w [] = []) = true from rfl)]
    exact ⟨_, rfl⟩
  obtain ⟨r', hb⟩ := hb
  have h1 := (most_law hm hm2 hw hw2 hn hn2).1
  change lmax 0 (bestL m w n.toNat) = _ at h1
  rw [hb, lmax_cons (Int.le_refl 0)] at h1
  rw [hb]
  have e : D.max [lstI (0 :: r')] = (D.intsOf ((0 :: r').map D.int)).bind (fun ns => match ns with
    | a :: r => some (D.int (lmax a r))
    | [] => none) := rfl
  rw [e, ints_of]
  show some (D.int (lmax 0 r')) = _
  rw [h1]
theorem row29 {s0 s1 s2 s3 s4 s5 s6 s7 s8 s9 s10 s13 s14 s17 s18 s19 s20 s21 s22 s23 s24 s25 s26 s27 : Slot} {m w n : Int} (hm : 0 ≤ m) (hm2 : m < 8) (hw : 1 ≤ w) (hw2 : w < 13) (hn : 0 ≤ n) (hn2 : n < 10) (h12 : s12.isOwn = false) :
    x29_law [s0, s1, s2, s3, s4, s5, s6, s7, s8, s9, s10, .val (.int n), s12, s13, s14, .val (.int m), .val (.int w), s17, s18, s19, s20, s21, s22, s23, s24, s25, s26, s27, .no] = .nx [s0, s1, s2, s3, s4, s5, s6, s7, s8, s9, s10, .val (.int n), .val (.int (n / w * min m w + min m (n % w))), s13, s14, .val (.int m), .val (.int w), s17, s18, s19, s20, s21, s22, s23, s24, s25, s26, s27, .no] := by
  have e1 := best_max hm hm2 hw hw2 hn hn2
  have e2 := best_comp (s0 := s0) (s1 := s1) (s2 := s2) (s3 := s3) (s4 := s4) (s5 := s5) (s6 := s6) (s7 := s7) (s8 := s8) (s9 := s9) (s10 := s10) (s12 := s12) (s13 := s13) (s14 := s14) (s17 := s17) (s18 := s18) (s19 := s19) (s20 := s20) (s21 := s21) (s22 := s22) (s23 := s23) (s24 := s24) (s25 := s25) (s26 := s26) (s27 := s27) (m := m) (w := w) (n := n.toNat) (by omega)
  rw [show ((n.toNat : Nat) : Int) = n by omega] at e2
  generalize lstI (bestL m w n.toNat) = L at *
  generalize n / w * min m w + min m (n % w) = B at *
  simp [x29_law, e1, e2, h12, fnF, sSeq, sIf, asTest, op1, op2, opN, opV, M.bnd, M.ret, M.opt, Arg.ev, rs, rss, Slot.rd, evs, sV, sAsg, sNx, var, gN, gTu, gCo, gNi, so_no, so_val, so_own, so_dic, so_inst, so_ex, sh_no, sh_val, sh_own, sh_dic, sh_inst, sh_ex, sa_no, sa_val, sa_own, sa_dic, sa_inst, sa_ex, vAnd, vOr, vNot, vIf, bAnd, bOr, bNot, chain, chC, chL, callF, callV_1, callV_2, callV_3, callV_4, sz1, sz2, sz3, sz4, sz5, sz6, sz7, sz8, sz9, sz10, sz11, sz12, dvs, D.ix, L2.atI, ixN, D.cmpI, D.toI, D.mod, D.fdiv, add_ii, D.sub, D.mul, D.pow, D.neg, D.len, D.mkL, D.mkT, D.isN, D.notN, isiB, isi2, D.is, D.tn, D.eq, D.ne, D.sc, D.eqb, sPut, callV_o1g]
def earI (m w n : Int) : List Int := ((List.range n.toNat).map fun k : Nat => (k : Int)).filter fun x => decide (x % w < m)
theorem row31 {s0 s1 s2 s3 s4 s5 s6 s7 s8 s9 s10 s12 s14 s17 s18 s19 s20 s21 s22 s23 s24 s25 s27 s28 : Slot} {m w n : Int} (hw : 0 < w) (hw2 : w < 1000) (hn : 0 ≤ n) (hn2 : n < 1000) (h13 : s13.isOwn = false) (h26 : s26.isOwn = false) :
    x31_law [s0, s1, s2, s3, s4, s5, s6, s7, s8, s9, s10, .val (.int n), s12, s13, s14, .val (.int m), .val (.int w), s17, s18, s19, s20, s21, s22, s23, s24, s25, s26, s27, s28] = .nx [s0, s1, s2, s3, s4, s5, s6, s7, s8, s9, s10, .val (.int n), s12, .val (lstI (earI m w n)), s14, .val (.int m), .val (.int w), s17, s18, s19, s20, s21, s22, s23, s24, s25, s26, s27, s28] := by
  have hr : D.rng1 [.int n] = some (((List.range n.toNat).map fun k : Nat => (k : Int)).map D.int) := by
    obtain ⟨k, rfl⟩ := Int.eq_ofNat_of_zero_le hn
    rw [rng1_nat (by omega), Int.toNat_natCast, List.map_map, List.range_eq_range']
    rfl
  have hk : k30_law [s0, s1, s2, s3, s4, s5, s6, s7, s8, s9, s10, .val (.int n), s12, s13, s14, .val (.int m), .val (.int w), s17, s18, s19, s20, s21, s22, s23, s24, s25, s26, s27, s28] = .ok (lstI (earI m w n)) [s0, s1, s2, s3, s4, s5, s6, s7, s8, s9, s10, .val (.int n), s12, s13, s14, .val (.int m), .val (.int w), s17, s18, s19, s20, s21, s22, s23, s24, s25, s26, s27, s28] := by
    have e0 : lstI (earI m w n) = lstI ((((List.range n.toNat).map fun k : Nat => (k : Int)).filter fun x => decide (x % w < m)).map id) := by rw [List.map_id]; rfl
    rw [e0]
    refine comp_ints (s := s26) (fun x => decide (x % w < m)) id (src1 (m := var 11) (d := .int n) rfl hr) rfl h26 (fun x hx => ?_) (fun x _ _ => rfl)
    have hx0 : 0 ≤ x ∧ x < 1000 := by
      obtain ⟨k, hk, rfl⟩ := List.mem_map.mp hx
      have := List.mem_range.mp hk
      omega
    have g1 : 0 ≤ x % w := Int.emod_nonneg _ (by omega)
    have g2 : x % w < w := Int.emod_lt_of_pos _ hw
    clear hx hr e0
    have g3 : D.mod (.int x) (.int w) = some (.int (x % w)) := by
      have a1 : -18446744073709551616 < x := by omega
      have a2 : x < 18446744073709551616 := by omega
      simp [D.mod, hw, hx0, a1, a2]
      try omega
    have g4 : D.lt (.int (x % w)) (.int m) = some (.bl (decide (x % w < m))) := rfl
    generalize x % w = y at *
    by_cases h1 : y < m <;> simp [g3, h1, fnF, sSeq, sIf, asTest, op1, op2, opN, opV, M.bnd, M.ret, M.opt, Arg.ev, rs, rss, Slot.rd, evs, sV, sAsg, sNx, var, gN, gTu, gCo, gNi, so_no, so_val, so_own, so_dic, so_inst, so_ex, sh_no, sh_val, sh_own, sh_dic, sh_inst, sh_ex, sa_no, sa_val, sa_own, sa_dic, sa_inst, sa_ex, vAnd, vOr, vNot, vIf, bAnd, bOr, bNot, chain, chC, chL, callF, callV_1, callV_2, callV_3, callV_4, sz1, sz2, sz3, sz4, sz5, sz6, sz7, sz8, sz9, sz10, sz11, sz12, dvs, D.cmpI, D.toI, D.fdiv, add_ii, D.sub, D.mul, D.pow, D.neg, D.len, D.mkL, D.mkT, D.isN, D.notN, isiB, isi2, D.is, D.tn, sPut, callV_o1g]
  clear hr
  generalize lstI (earI m w n) = Q at *
  simp [x31_law, hk, h13, fnF, sSeq, sIf, asTest, op1, op2, opN, opV, M.bnd, M.ret, M.opt, Arg.ev, rs, rss, Slot.rd, evs, sV, sAsg, sNx, var, gN, gTu, gCo, gNi, so_no, so_val, so_own, so_dic, so_inst, so_ex, sh_no, sh_val, sh_own, sh_dic, sh_inst, sh_ex, sa_no, sa_val, sa_own, sa_dic, sa_inst, sa_ex, vAnd, vOr, vNot, vIf, bAnd, bOr, bNot, chain, chC, chL, callF, callV_1, callV_2, callV_3, callV_4, sz1, sz2, sz3, sz4, sz5, sz6, sz7, sz8, sz9, sz10, sz11, sz12, dvs, D.ix, L2.atI, ixN, D.cmpI, D.toI, D.mod, D.fdiv, add_ii, D.sub, D.mul, D.pow, D.neg, D.len, D.mkL, D.mkT, D.isN, D.notN, isiB, isi2, D.is, D.tn, D.eq, D.ne, D.sc, D.eqb, sPut, callV_o1g]
theorem ear_len {m w n : Int} (hn2 : n < 1000) : (earI m w n).length ≤ 1000 := by
  refine Nat.le_trans (List.length_filter_le _ _) ?_
  simp
  omega
theorem row32 {s0 s1 s2 s3 s4 s5 s6 s7 s8 s9 s10 s14 s18 s19 s20 s21 s22 s23 s24 s25 s26 s27 s28 : Slot} {m w n : Int} (hm : 0 ≤ m) (hm2 : m < 8) (hw : 1 ≤ w) (hw2 : w < 13) (hn : 0 ≤ n) (hn2 : n < 10) :
    x32_law [s0, s1, s2, s3, s4, s5, s6, s7, s8, s9, s10, .val (.int n), .val (.int (n / w * min m w + min m (n % w))), .val (lstI (earI m w n)), s14, .val (.int m), .val (.int w), .val (rule m w), s18, s19, s20, s21, s22, s23, s24, s25, s26, s27, s28] = .nx [s0, s1, s2, s3, s4, s5, s6, s7, s8, s9, s10, .val (.int n), .val (.int (n / w * min m w + min m (n % w))), .val (lstI (earI m w n)), s14, .val (.int m), .val (.int w), .val (rule m w), s18, s19, s20, s21, s22, s23, s24, s25, s26, s27, s28] := by
  obtain ⟨_, e1, e2⟩ := most_law hm hm2 hw hw2 hn hn2
  change overL m w (earI m w n) = [] at e1
  change ((earI m w n).length : Int) = _ at e2
  have e3 := most_days_ok (m := m) (w := w) (n := n) (by omega) (by omega) hn (by omega)
  have e4 := earliest_ok (m := m) (w := w) (n := n) (by omega) hn (by omega)
  change _ = FOut.ok (D.tup ((earI m w n).map D.int)) _ at e4
  have e5 := lawful_okL (m := m) (w := w) (L := earI m w n)
  rw [e1, decide_eq_true rfl] at e5
  have hlen := ear_len (m := m) (w := w) (n := n) (by omega)
  have hlz : ((earI m w n).map D.int).length ≤ sizeLine := by
    rw [List.length_map]
    exact Nat.le_trans (by omega : _ ≤ 16777216) (Nat.le_of_eq sizeLine_eq.symm)
  have e6 : D.toT [lstI (earI m w n)] = some (.tup ((earI m w n).map D.int)) := rfl
  have e7 : D.len [lstI (earI m w n)] = some (.int (n / w * min m w + min m (n % w))) := by
    show some (D.int (((earI m w n).map D.int).length : Int)) = _
    rw [List.length_map, e2]
  have e8 : okD 8 (.tup [.int (n / w * min m w + min m (n % w)), .tup ((earI m w n).map D.int)]) = true := by
    have : ((earI m w n).map D.int).all (okD 6) = true := by
      rw [List.all_map]
      exact List.all_eq_true.mpr fun x _ => rfl
    show ((okD 7 _ && ((((earI m w n).map D.int).all (okD 6) && decide _) && true)) && decide _) = true
    rw [this, decide_eq_true hlz, decide_eq_true (Eq.mpr sz2 trivial : [D.int (n / w * min m w + min m (n % w)), D.tup ((earI m w n).map D.int)].length ≤ sizeLine)]
    rfl
  have e9 := alike_self 8 _ e8
  have hmt := fun mn φ as ρ z hρ => meth_var17 (m := m) (w := w) (mn := mn) (φ := φ) (as := as) (ρ := ρ) (rule_no z) hρ
  have n1 : ¬ (("most_days" : Str) = "most") ∧ ¬ (("most_days" : Str) = "window") := by decide
  have n2 : ¬ (("earliest_days" : Str) = "most") ∧ ¬ (("earliest_days" : Str) = "window") := by decide
  have e10 : ∀ x : Int, D.ne (.int x) (.int x) = some (.bl false) := fun x => by simp [D.ne, D.sc, D.eqb]
  clear e1 e2 hlen hlz e8 hm hm2 hw hw2 hn hn2
  generalize n / w * min m w + min m (n % w) = B at *
  generalize lstI (earI m w n) = Q at *
  generalize (earI m w n).map D.int = P at *
  simp [x32_law, hmt _ _ _ _ n1, hmt _ _ _ _ n2, e3, e4, e5, e6, e7, e9, e10, fnF, sSeq, sIf, asTest, op1, op2, opN, opV, M.bnd, M.ret, M.opt, Arg.ev, rs, rss, Slot.rd, evs, sV, sAsg, sNx, var, gN, gTu, gCo, gNi, so_no, so_val, so_own, so_dic, so_inst, so_ex, sh_no, sh_val, sh_own, sh_dic, sh_inst, sh_ex, sa_no, sa_val, sa_own, sa_dic, sa_inst, sa_ex, vAnd, vOr, vNot, vIf, bAnd, bOr, bNot, chain, chC, chL, callF, callV_1, callV_2, callV_3, callV_4, sz1, sz2, sz3, sz4, sz5, sz6, sz7, sz8, sz9, sz10, sz11, sz12, dvs, D.cmpI, D.toI, D.mod, D.fdiv, add_ii, D.sub, D.mul, D.pow, D.neg, D.mkL, D.mkT, D.isN, D.notN, isiB, isi2, D.is, D.tn, sPut, callV_o1g]
end DL
namespace DL
open PySem L2
def kinds7 : List D := [.tup [.int 1, .int 1], .tup [.int (-1), .int 2], .tup [.int 60, .int 10000], .tup [.bl true, .int 60], .tup [.int 61], .non, .tup [.int 0, .int 61]]
theorem kinds_eval {ρ : Ev} : opV D.mkL [.v (opV D.mkT [.v (M.ret (.int 1)), .v (M.ret (.int 1))]), .v (opV D.mkT [.v (op1 D.neg (.v (M.ret (.int 1)))), .v (M.ret (.int 2))]), .v (opV D.mkT [.v (M.ret (.int 60)), .v (M.ret (.int 10000))]), .v (opV D.mkT [.v (M.ret (.bl true)), .v (M.ret (.int 60))]), .v (opV D.mkT [.v (M.ret (.int 61))]), .v (M.ret .non), .v (opV D.mkT [.v (M.ret (.int 0)), .v (M.ret (.int 61))])] ρ = .ok (.lst kinds7) ρ := by
  simp [kinds7, fnF, sSeq, sIf, asTest, op1, op2, opN, opV, M.bnd, M.ret, M.opt, Arg.ev, rs, rss, Slot.rd, evs, sV, sAsg, sNx, var, gN, gTu, gCo, gNi, so_no, so_val, so_own, so_dic, so_inst, so_ex, sh_no, sh_val, sh_own, sh_dic, sh_inst, sh_ex, sa_no, sa_val, sa_own, sa_dic, sa_inst, sa_ex, vAnd, vOr, vNot, vIf, bAnd, bOr, bNot, chain, chC, chL, callF, callV_1, callV_2, callV_3, callV_4, sz1, sz2, sz3, sz4, sz5, sz6, sz7, sz8, sz9, sz10, sz11, sz12, dvs, D.ix, L2.atI, ixN, D.cmpI, D.toI, D.mod, D.fdiv, add_ii, D.sub, D.mul, D.pow, D.neg, D.len, D.mkL, D.mkT, D.isN, D.notN, isiB, isi2, D.is, D.tn, D.eq, D.ne, D.sc, D.eqb, sPut, callV_o1g]
theorem row33 {s0 s2 s3 s4 s5 s6 s7 s8 s9 s10 s11 s12 s13 s15 s16 s17 s18 s19 s20 s21 s22 s23 s24 s25 s26 s27 s28 : Slot} {d : List D} (hd : RowOk d) (h14 : s14.isOwn = false) : ∃ x, (x ∈ wrongs ∨ x = .tup [.int 0, .int 61]) ∧ x33_law [s0, .own d, s2, s3, s4, s5, s6, s7, s8, s9, s10, s11, s12, s13, s14, s15, s16, s17, s18, s19, s20, s21, s22, s23, s24, s25, s26, s27, s28] = .nx [s0, .own (tkN d 7), s2, s3, s4, s5, s6, s7, s8, s9, s10, s11, s12, s13, .val x, s15, s16, s17, s18, s19, s20, s21, s22, s23, s24, s25, s26, s27, s28] := by
  obtain ⟨x, k1, k2⟩ := pick_eq (ks := kinds7) hd (by decide) (by decide)
  refine ⟨x, ?_, ?_⟩
  · have := List.mem_of_getElem? k1
    simp only [kinds7, wrongs, List.mem_cons, List.not_mem_nil, or_false] at this ⊢
    rcases this with h | h | h | h | h | h | h <;> simp [h]
  · have e : (kinds7.length : Int) = 7 := rfl
    rw [e] at k2
    have e1 : callF f_ulaw_pick [(.o 1), .v (opV D.mkL [.v (opV D.mkT [.v (M.ret (.int 1)), .v (M.ret (.int 1))]), .v (opV D.mkT [.v (op1 D.neg (.v (M.ret (.int 1)))), .v (M.ret (.int 2))]), .v (opV D.mkT [.v (M.ret (.int 60)), .v (M.ret (.int 10000))]), .v (opV D.mkT [.v (M.ret (.bl true)), .v (M.ret (.int 60))]), .v (opV D.mkT [.v (M.ret (.int 61))]), .v (M.ret .non), .v (opV D.mkT [.v (M.ret (.int 0)), .v (M.ret (.int 61))])])] [s0, .own d, s2, s3, s4, s5, s6, s7, s8, s9, s10, s11, s12, s13, s14, s15, s16, s17, s18, s19, s20, s21, s22, s23, s24, s25, s26, s27, s28] = .ok x [s0, .own (tkN d 7), s2, s3, s4, s5, s6, s7, s8, s9, s10, s11, s12, s13, s14, s15, s16, s17, s18, s19, s20, s21, s22, s23, s24, s25, s26, s27, s28] := by
      unfold callF
      rw [bnd_ok (evs_o1 (i := 1) (l := d) rfl kinds_eval), callV_o1 (l := d) rfl, k2]
      rfl
    unfold x33_law sAsg sV
    rw [e1]
    dsimp only
    rw [gN_set (s := s14) rfl h14]
    rfl
theorem pairs_toP : ∀ ps : List (Int × Int), D.toPs (ps.map spT) = some (ps.map fun p => PyData.tuple [.int p.1, .int p.2])
  | [] => rfl
  | p :: ps => by
    show (some (PyData.tuple [.int p.1, .int p.2])).bind (fun q => (D.toPs (ps.map spT)).map fun qs => q :: qs) = _
    rw [pairs_toP ps]
    rfl
theorem pairs_lay : ∀ ps : List (Int × Int), PyData.canLayAll0 (ps.map fun p => PyData.tuple [.int p.1, .int p.2]) = true
  | [] => rfl
  | p :: ps => by
    show (true && PyData.canLayAll0 (ps.map fun p => PyData.tuple [.int p.1, .int p.2])) = true
    rw [pairs_lay ps]
    rfl
theorem pairs_depth : ∀ ps : List (Int × Int), PyData.depthAll (ps.map fun p => PyData.tuple [.int p.1, .int p.2]) ≤ 2
  | [] => by simp [PyData.depthAll]
  | p :: ps => by
    have h := pairs_depth ps
    have e : PyData.depth (PyData.tuple [.int p.1, .int p.2]) ≤ 2 := by simp [PyData.depth, PyData.depthAll]
    show max (PyData.depth (PyData.tuple [.int p.1, .int p.2])) (PyData.depthAll (ps.map fun p => PyData.tuple [.int p.1, .int p.2])) ≤ 2
    omega
theorem eq_pairs (ps : List (Int × Int)) : D.eq (.lst (ps.map spT)) (.lst []) = some (.bl (decide (ps = []))) := by
  cases ps with
  | nil => rfl
  | cons p ps =>
    have h4 : (D.lst ((p :: ps).map spT)).sh = true := by
      unfold D.sh
      have e : (D.lst ((p :: ps).map spT)).toP = some (.list ((p :: ps).map fun p => PyData.tuple [.int p.1, .int p.2])) := by
        show (D.toPs ((p :: ps).map spT)).map PyData.list = _
        rw [pairs_toP]
        rfl
      rw [e]
      have hd : (PyData.list ((p :: ps).map fun p => PyData.tuple [.int p.1, .int p.2])).depth ≤ 64 := by
        have := pairs_depth (p :: ps)
        show PyData.depthAll ((p :: ps).map fun p => PyData.tuple [.int p.1, .int p.2]) + 1 ≤ 64
        omega
      show (PyData.canLayAll0 ((p :: ps).map fun p => PyData.tuple [.int p.1, .int p.2]) && decide (_ ≤ 64)) = true
      rw [pairs_lay, decide_eq_true hd]
      rfl
    unfold D.eq
    rw [h4, sh_nil]
    rfl
theorem wrong_eq : ∀ x ∈ wrongs, D.eq x (.tup [.int 0, .int 61]) = some (.bl false) := by
  intro x hx
  simp only [wrongs, List.mem_cons, List.not_mem_nil, or_false] at hx
  rcases hx with rfl | rfl | rfl | rfl | rfl | rfl <;> rfl
theorem same_eq : D.eq (.tup [.int 0, .int 61]) (.tup [.int 0, .int 61]) = some (.bl true) := rfl
theorem row34 {s0 s1 s2 s3 s4 s5 s6 s7 s8 s9 s10 s11 s12 s13 s15 s16 s17 s19 s20 s21 s22 s23 s24 s25 s26 s27 s28 : Slot} {ps : List (Int × Int)} {x : D} (hx : x ∈ wrongs ∨ x = .tup [.int 0, .int 61]) : ∃ y, (y ∈ wrongs ∨ (y = .tup [.int 0, .int 61] ∧ ps ≠ [])) ∧ x34_law [s0, s1, s2, s3, s4, s5, s6, s7, s8, s9, s10, s11, s12, s13, .val x, s15, s16, s17, .val (.lst (ps.map spT)), s19, s20, s21, s22, s23, s24, s25, s26, s27, s28] = .nx [s0, s1, s2, s3, s4, s5, s6, s7, s8, s9, s10, s11, s12, s13, .val y, s15, s16, s17, .val (.lst (ps.map spT)), s19, s20, s21, s22, s23, s24, s25, s26, s27, s28] := by
  have e1 := eq_pairs ps
  have e2 : D.mkT [.int 0, .int 61] = some (.tup [.int 0, .int 61]) := if_pos (Eq.mpr sz2 trivial)
  have e3 : D.mkL [] = some (.lst []) := if_pos (Nat.zero_le _)
  by_cases hp : ps = []
  · rw [decide_eq_true hp] at e1
    rcases hx with hx | rfl
    · have e4 := wrong_eq x hx
      refine ⟨x, .inl hx, ?_⟩
      clear hp
      generalize D.lst (ps.map spT) = P at *
      generalize D.tup [.int 0, .int 61] = Z at *
      simp [x34_law, e1, e2, e3, e4, fnF, sSeq, sIf, asTest, op1, op2, opN, opV, M.bnd, M.ret, M.opt, Arg.ev, rs, rss, Slot.rd, evs, sV, sAsg, sNx, var, gN, gTu, gCo, gNi, so_no, so_val, so_own, so_dic, so_inst, so_ex, sh_no, sh_val, sh_own, sh_dic, sh_inst, sh_ex, sa_no, sa_val, sa_own, sa_dic, sa_inst, sa_ex, vAnd, vOr, vNot, vIf, bAnd, bOr, bNot, chain, chC, chL, callF, callV_1, callV_2, callV_3, callV_4, sz1, sz2, sz3, sz4, sz5, sz6, sz7, sz8, sz9, sz10, sz11, sz12, dvs, D.cmpI, D.toI, D.mod, D.fdiv, add_ii, D.sub, D.mul, D.pow, D.neg, D.len, D.isN, D.notN, isiB, isi2, D.is, D.tn, sPut, callV_o1g]
    · refine ⟨.non, .inl (by simp [wrongs]), ?_⟩
      have e4 := same_eq
      clear hp
      generalize D.lst (ps.map spT) = P at *
      generalize D.tup [.int 0, .int 61] = Z at *
      simp [x34_law, e1, e2, e3, e4, fnF, sSeq, sIf, asTest, op1, op2, opN, opV, M.bnd, M.ret, M.opt, Arg.ev, rs, rss, Slot.rd, evs, sV, sAsg, sNx, var, gN, gTu, gCo, gNi, so_no, so_val, so_own, so_dic, so_inst, so_ex, sh_no, sh_val, sh_own, sh_dic, sh_inst, sh_ex, sa_no, sa_val, sa_own, sa_dic, sa_inst, sa_ex, vAnd, vOr, vNot, vIf, bAnd, bOr, bNot, chain, chC, chL, callF, callV_1, callV_2, callV_3, callV_4, sz1, sz2, sz3, sz4, sz5, sz6, sz7, sz8, sz9, sz10, sz11, sz12, dvs, D.cmpI, D.toI, D.mod, D.fdiv, add_ii, D.sub, D.mul, D.pow, D.neg, D.len, D.isN, D.notN, isiB, isi2, D.is, D.tn, sPut, callV_o1g]
  · rw [decide_eq_false hp] at e1
    refine ⟨x, hx.imp id fun h => ⟨h, hp⟩, ?_⟩
    clear hp
    generalize D.lst (ps.map spT) = P at *
    generalize D.tup [.int 0, .int 61] = Z at *
    simp [x34_law, e1, e2, e3, fnF, sSeq, sIf, asTest, op1, op2, opN, opV, M.bnd, M.ret, M.opt, Arg.ev, rs, rss, Slot.rd, evs, sV, sAsg, sNx, var, gN, gTu, gCo, gNi, so_no, so_val, so_own, so_dic, so_inst, so_ex, sh_no, sh_val, sh_own, sh_dic, sh_inst, sh_ex, sa_no, sa_val, sa_own, sa_dic, sa_inst, sa_ex, vAnd, vOr, vNot, vIf, bAnd, bOr, bNot, chain, chC, chL, callF, callV_1, callV_2, callV_3, callV_4, sz1, sz2, sz3, sz4, sz5, sz6, sz7, sz8, sz9, sz10, sz11, sz12, dvs, D.cmpI, D.toI, D.mod, D.fdiv, add_ii, D.sub, D.mul, D.pow, D.neg, D.len, D.isN, D.notN, isiB, isi2, D.is, D.tn, sPut, callV_o1g]
theorem ne_same (x : D) (h : x.sh = true) (h2 : D.eqb x x = true) : D.ne x x = some (.bl false) := by
  unfold D.ne
  rw [h, h2]
  cases D.sc x x <;> rfl
theorem add_pairs {ps : List (Int × Int)} {x : D} (hl : ps.length ≤ 4) : D.add (.lst (ps.map spT)) (.lst [x]) = some (.lst (ps.map spT ++ [x])) := by
  have h2 : (ps.map spT).length + [x].length ≤ sizeLine := by
    rw [List.length_map]
    exact Nat.le_trans (by simp; omega : ps.length + [x].length ≤ 5) (Eq.mpr sz5 trivial)
  show (if (ps.map spT).length + [x].length ≤ sizeLine then some (D.lst (ps.map spT ++ [x])) else none) = _
  rw [if_pos h2]
theorem sh_item (N : Int) : (D.tup [.str "item", .int N]).sh = true := by
  have h : (D.tup [.str "item", .int 0]).sh = true := by decide +kernel
  exact h
theorem refuse_turn {s0 s1 s2 s3 s5 s6 s7 s8 s9 s10 s11 s12 s13 s15 s16 s19 s20 s21 s22 s23 s24 s25 s26 s27 s28 : Slot} {ps : List (Int × Int)} {x : D} {m w : Int} {t : Nat} (ht : t < 6) (ok : okS 0 ps) (hl : ps.length ≤ 4) (hx : x ∈ wrongs ∨ (x = .tup [.int 0, .int 61] ∧ ps ≠ [])) :
    b35_law [s0, s1, s2, s3, .val (.int t), s5, s6, s7, s8, s9, s10, s11, s12, s13, .val x, s15, s16, .val (rule m w), .val (.lst (ps.map spT)), s19, s20, s21, s22, s23, s24, s25, s26, s27, s28] = .nx [s0, s1, s2, s3, .val (.int t), s5, s6, s7, s8, s9, s10, s11, s12, s13, .val x, s15, s16, .val (rule m w), .val (.lst (ps.map spT)), s19, s20, s21, s22, s23, s24, s25, s26, s27, s28] := by
  have e1 := refused_ok (m := m) (w := w) (want_bad ok (Nat.le_trans (by omega : ps.length + 1 ≤ 5) (Eq.mpr sz5 trivial)) hx) t ht
  have e2 := refused_ok (m := m) (w := w) (d := .non) (x := .non) want_none t ht
  have e3 := add_pairs (x := x) hl
  have e4 : D.len [.lst (ps.map spT)] = some (.int (ps.length : Int)) := by
    show some (D.int ((ps.map spT).length : Int)) = _
    rw [List.length_map]
  have e5 : D.ne (.tup [.str "item", .int (ps.length : Int)]) (.tup [.str "item", .int (ps.length : Int)]) = some (.bl false) := ne_same _ (sh_item _) (by simp [D.eqb, D.eqbs])
  have e6 : D.ne (.tup [.str "item", .non]) (.tup [.str "item", .non]) = some (.bl false) := ne_same _ (by decide +kernel) (by simp [D.eqb, D.eqbs])
  have e7 : D.mkT [.str "item", .int (ps.length : Int)] = some (.tup [.str "item", .int (ps.length : Int)]) := if_pos (Eq.mpr sz2 trivial)
  have e8 : D.mkT [.str "item", .non] = some (.tup [.str "item", .non]) := if_pos (Eq.mpr sz2 trivial)
  have e9 : D.mkL [x] = some (.lst [x]) := if_pos (Eq.mpr sz1 trivial)
  clear ok hl hx ht
  generalize D.lst (ps.map spT ++ [x]) = Q at *
  generalize D.lst [x] = X1 at *
  generalize D.lst (ps.map spT) = P at *
  generalize D.tup [.str "item", .int (ps.length : Int)] = T1 at *
  generalize D.tup [.str "item", .non] = T2 at *
  generalize (ps.length : Int) = N at *
  generalize (t : Int) = TT at *
  simp [b35_law, e1, e2, e3, e4, e5, e6, e7, e8, e9, fnF, sSeq, sIf, asTest, op1, op2, opN, opV, M.bnd, M.ret, M.opt, Arg.ev, rs, rss, Slot.rd, evs, sV, sAsg, sNx, var, gN, gTu, gCo, gNi, so_no, so_val, so_own, so_dic, so_inst, so_ex, sh_no, sh_val, sh_own, sh_dic, sh_inst, sh_ex, sa_no, sa_val, sa_own, sa_dic, sa_inst, sa_ex, vAnd, vOr, vNot, vIf, bAnd, bOr, bNot, chain, chC, chL, callF, callV_1, callV_2, callV_3, callV_4, sz1, sz2, sz3, sz4, sz5, sz6, sz7, sz8, sz9, sz10, sz11, sz12, dvs, D.cmpI, D.toI, D.mod, D.fdiv, add_ii, D.sub, D.mul, D.pow, D.neg, D.isN, D.notN, isiB, isi2, D.is, D.tn, sPut, callV_o1g]
theorem refuse_loop {s0 s1 s2 s3 s5 s6 s7 s8 s9 s10 s11 s12 s13 s15 s16 s19 s20 s21 s22 s23 s24 s25 s26 s27 s28 : Slot} {ps : List (Int × Int)} {x : D} {m w : Int} (ok : okS 0 ps) (hl : ps.length ≤ 4) (hx : x ∈ wrongs ∨ (x = .tup [.int 0, .int 61] ∧ ps ≠ [])) : ∀ (n j : Nat) (s4 : Slot), j + n ≤ 6 → Pl s4 →
    ∃ t4, forL (gN 4) b35_law ((List.range' j n).map fun x : Nat => D.int x) [s0, s1, s2, s3, s4, s5, s6, s7, s8, s9, s10, s11, s12, s13, .val x, s15, s16, .val (rule m w), .val (.lst (ps.map spT)), s19, s20, s21, s22, s23, s24, s25, s26, s27, s28] = .nx [s0, s1, s2, s3, t4, s5, s6, s7, s8, s9, s10, s11, s12, s13, .val x, s15, s16, .val (rule m w), .val (.lst (ps.map spT)), s19, s20, s21, s22, s23, s24, s25, s26, s27, s28] ∧ Pl t4
  | 0, j, s4, _, h4 => ⟨s4, rfl, h4⟩
  | n + 1, j, s4, hj, h4 => by
    have hb := refuse_turn (s0 := s0) (s1 := s1) (s2 := s2) (s3 := s3) (s5 := s5) (s6 := s6) (s7 := s7) (s8 := s8) (s9 := s9) (s10 := s10) (s11 := s11) (s12 := s12) (s13 := s13) (s15 := s15) (s16 := s16) (s19 := s19) (s20 := s20) (s21 := s21) (s22 := s22) (s23 := s23) (s24 := s24) (s25 := s25) (s26 := s26) (s27 := s27) (s28 := s28) (m := m) (w := w) (t := j) (by omega) ok hl hx
    obtain ⟨t4, k1, k2⟩ := refuse_loop (m := m) (w := w) ok hl hx n (j + 1) (.val (.int j)) (by omega) (.val _)
    refine ⟨t4, ?_, k2⟩
    rw [List.range'_succ, List.map_cons]
    exact (for_cons (gN_set (s := s4) rfl h4.1) hb).trans k1
theorem row36 {s0 s1 s2 s3 s5 s6 s7 s8 s9 s10 s11 s12 s13 s15 s16 s19 s20 s21 s22 s23 s24 s25 s26 s27 s28 : Slot} {ps : List (Int × Int)} {x : D} {m w : Int} (ok : okS 0 ps) (hl : ps.length ≤ 4) (hx : x ∈ wrongs ∨ (x = .tup [.int 0, .int 61] ∧ ps ≠ [])) (h4 : Pl s4) :
    ∃ t4, l36_law [s0, s1, s2, s3, s4, s5, s6, s7, s8, s9, s10, s11, s12, s13, .val x, s15, s16, .val (rule m w), .val (.lst (ps.map spT)), s19, s20, s21, s22, s23, s24, s25, s26, s27, s28] = .nx [s0, s1, s2, s3, t4, s5, s6, s7, s8, s9, s10, s11, s12, s13, .val x, s15, s16, .val (rule m w), .val (.lst (ps.map spT)), s19, s20, s21, s22, s23, s24, s25, s26, s27, s28] ∧ Pl t4 := by
  have hr := rng1_nat (n := 6) (by omega)
  have hs := row10_src (ρ := [s0, s1, s2, s3, s4, s5, s6, s7, s8, s9, s10, s11, s12, s13, .val x, s15, s16, .val (rule m w), .val (.lst (ps.map spT)), s19, s20, s21, s22, s23, s24, s25, s26, s27, s28]) hr
  obtain ⟨t4, k1, k2⟩ := refuse_loop (s0 := s0) (s1 := s1) (s2 := s2) (s3 := s3) (s5 := s5) (s6 := s6) (s7 := s7) (s8 := s8) (s9 := s9) (s10 := s10) (s11 := s11) (s12 := s12) (s13 := s13) (s15 := s15) (s16 := s16) (s19 := s19) (s20 := s20) (s21 := s21) (s22 := s22) (s23 := s23) (s24 := s24) (s25 := s25) (s26 := s26) (s27 := s27) (s28 := s28) (m := m) (w := w) ok hl hx 6 0 s4 (by omega) h4
  clear hr
  generalize (List.range' 0 6).map (fun x : Nat => D.int x) = L at hs k1
  have hf := for_ok (t := gN 4) (b := b35_law) hs
  exact ⟨t4, hf.trans k1, k2⟩
end DL
namespace DL
open PySem L2
def badNum (v : D) : Ex := ⟨"BadNumber", ["value"], [v]⟩
theorem want_no {v : D} {a b : Int} (h : f_is_whole [.val v] = .ok (.bl false) [.val v]) : f_want_number [.val v, .val (.int a), .val (.int b)] = .exc (badNum v) [.val v, .val (.int a), .val (.int b)] := by
  have e : f_is_number [.val v, .val (.int a), .val (.int b)] = .ok (.bl false) [.val v, .val (.int a), .val (.int b)] := by
    simp [f_is_number, m_is_number, h, fnF, sSeq, sIf, asTest, op1, op2, opN, opV, M.bnd, M.ret, M.opt, Arg.ev, rs, rss, Slot.rd, evs, sV, sAsg, sNx, var, gN, gTu, gCo, gNi, so_no, so_val, so_own, so_dic, so_inst, so_ex, sh_no, sh_val, sh_own, sh_dic, sh_inst, sh_ex, sa_no, sa_val, sa_own, sa_dic, sa_inst, sa_ex, vAnd, vOr, vNot, vIf, bAnd, bOr, bNot, chain, chC, chL, callF, callV_1, callV_2, callV_3, callV_4, sz1, sz2, sz3, sz4, sz5, sz6, sz7, sz8, sz9, sz10, sz11, sz12, dvs, D.ix, L2.atI, ixN, D.cmpI, D.toI, D.mod, D.fdiv, add_ii, D.sub, D.mul, D.pow, D.neg, D.len, D.mkL, D.mkT, D.isN, D.notN, isiB, isi2, D.is, D.tn, D.eq, D.ne, D.sc, D.eqb, sPut, callV_o1g]
  simp [f_want_number, m_want_number, e, sRaise, allD, badNum, fnF, sSeq, sIf, asTest, op1, op2, opN, opV, M.bnd, M.ret, M.opt, Arg.ev, rs, rss, Slot.rd, evs, sV, sAsg, sNx, var, gN, gTu, gCo, gNi, so_no, so_val, so_own, so_dic, so_inst, so_ex, sh_no, sh_val, sh_own, sh_dic, sh_inst, sh_ex, sa_no, sa_val, sa_own, sa_dic, sa_inst, sa_ex, vAnd, vOr, vNot, vIf, bAnd, bOr, bNot, chain, chC, chL, callF, callV_1, callV_2, callV_3, callV_4, sz1, sz2, sz3, sz4, sz5, sz6, sz7, sz8, sz9, sz10, sz11, sz12, dvs, D.ix, L2.atI, ixN, D.cmpI, D.toI, D.mod, D.fdiv, add_ii, D.sub, D.mul, D.pow, D.neg, D.len, D.mkL, D.mkT, D.isN, D.notN, isiB, isi2, D.is, D.tn, D.eq, D.ne, D.sc, D.eqb, sPut, callV_o1g]
theorem init_no1 {v u : D} {ρ : Ev} (h : f_want_number [.val v, .val (.int 0), .val (.int 400)] = .exc (badNum v) [.val v, .val (.int 0), .val (.int 400)]) : makeV "StayRule" f_StayRule_uuinit__ [v, u] ρ = .exc (badNum v) ρ := by
  have e : f_StayRule_uuinit__ [.inst "StayRule" [] [], .val v, .val u] = .exc (badNum v) [.inst "StayRule" [] [], .val v, .val u] := by
    simp [f_StayRule_uuinit__, m_StayRule_uuinit__, sFldSet, h, fnF, sSeq, sIf, asTest, op1, op2, opN, opV, M.bnd, M.ret, M.opt, Arg.ev, rs, rss, Slot.rd, Slot.arg, Slot.has, evs, sV, sAsg, sNx, var, gN, gTu, gCo, gNi, Slot.isOwn, vAnd, vOr, vNot, vIf, bAnd, bOr, bNot, chain, chC, chL, callF, callV_1, callV_2, callV_3, callV_4, sz1, sz2, sz3, sz4, sz5, sz6, sz7, sz8, sz9, sz10, sz11, sz12, dvs, D.ix, L2.atI, ixN, D.cmpI, D.toI, D.mod, D.fdiv, D.add, D.sub, D.mul, D.pow, D.neg, D.len, D.mkL, D.mkT, D.isN, D.notN, isiB, isi2, D.is, D.tn, D.eq, D.ne, D.sc, D.eqb, sPut]
  simp [makeV, e]
theorem init_no2 {m : Int} {u : D} {ρ : Ev} (h1 : 0 ≤ m) (h2 : m ≤ 400) (h : f_want_number [.val u, .val (.int 1), .val (.int 400)] = .exc (badNum u) [.val u, .val (.int 1), .val (.int 400)]) : makeV "StayRule" f_StayRule_uuinit__ [.int m, u] ρ = .exc (badNum u) ρ := by
  have e1 := want_number_ok h1 h2
  have e : f_StayRule_uuinit__ [.inst "StayRule" [] [], .val (.int m), .val u] = .exc (badNum u) [.inst "StayRule" ["most"] [.int m], .val (.int m), .val u] := by
    simp [f_StayRule_uuinit__, m_StayRule_uuinit__, sFldSet, putN, putL, e1, h, fnF, sSeq, sIf, asTest, op1, op2, opN, opV, M.bnd, M.ret, M.opt, Arg.ev, rs, rss, Slot.rd, Slot.arg, Slot.has, evs, sV, sAsg, sNx, var, gN, gTu, gCo, gNi, Slot.isOwn, vAnd, vOr, vNot, vIf, bAnd, bOr, bNot, chain, chC, chL, callF, callV_1, callV_2, callV_3, callV_4, sz1, sz2, sz3, sz4, sz5, sz6, sz7, sz8, sz9, sz10, sz11, sz12, dvs, D.ix, L2.atI, ixN, D.cmpI, D.toI, D.mod, D.fdiv, D.add, D.sub, D.mul, D.pow, D.neg, D.len, D.mkL, D.mkT, D.isN, D.notN, isiB, isi2, D.is, D.tn, D.eq, D.ne, D.sc, D.eqb, sPut]
  simp [makeV, e]
theorem num_no {i a b : Int} (h : ¬ (a ≤ i ∧ i ≤ b)) : f_want_number [.val (.int i), .val (.int a), .val (.int b)] = .exc (badNum (.int i)) [.val (.int i), .val (.int a), .val (.int b)] := want_number_no h
theorem repr_turn {s0 s1 s2 s3 s4 s5 s6 s7 s8 s9 s10 s11 s12 s13 s14 s15 s16 s17 s18 s19 s20 s21 s22 s26 s27 s28 : Slot} {a b v : D} {r : Str} (hm : ∀ ρ, makeV "StayRule" f_StayRule_uuinit__ [a, b] ρ = .exc (badNum v) ρ) (hr : D.repr [v] = some (.str r)) (h25 : s25.isOwn = false) (hn : noEx [s0, s1, s2, s3, s4, s5, s6, s7, s8, s9, s10, s11, s12, s13, s14, s15, s16, s17, s18, s19, s20, s21, s22, .val (.tup [a, b]), .val v, .no, s26, s27, s28] = true) :
    b37_law [s0, s1, s2, s3, s4, s5, s6, s7, s8, s9, s10, s11, s12, s13, s14, s15, s16, s17, s18, s19, s20, s21, s22, .val (.tup [a, b]), .val v, s25, s26, s27, s28] = .nx [s0, s1, s2, s3, s4, s5, s6, s7, s8, s9, s10, s11, s12, s13, s14, s15, s16, s17, s18, s19, s20, s21, s22, .val (.tup [a, b]), .val v, .no, s26, s27, s28] := by
  have kn : ("BadNumber" : Str) ∈ known := by simp [known]
  have ca : caught "BadNumber" "BadNumber" = true := by decide
  have e1 : D.ix (.tup [a, b]) (.int 0) = some a := rfl
  have e2 : D.ix (.tup [a, b]) (.int 1) = some b := rfl
  have e3 : D.ne (.str r) (.str r) = some (.bl false) := by simp [D.ne, D.sc, D.eqb]
  generalize D.tup [a, b] = T at *
  simp [b37_law, sTry, makeF, hm, badNum, kn, ca, noExBut, hn, h25, exF, hr, e1, e2, e3, fnF, sSeq, sIf, asTest, op1, op2, opN, opV, M.bnd, M.ret, M.opt, Arg.ev, rs, rss, Slot.rd, evs, sV, sAsg, sNx, var, gN, gTu, gCo, gNi, so_no, so_val, so_own, so_dic, so_inst, so_ex, sh_no, sh_val, sh_own, sh_dic, sh_inst, sh_ex, sa_no, sa_val, sa_own, sa_dic, sa_inst, sa_ex, vAnd, vOr, vNot, vIf, bAnd, bOr, bNot, chain, chC, chL, callF, callV_1, callV_2, callV_3, callV_4, sz1, sz2, sz3, sz4, sz5, sz6, sz7, sz8, sz9, sz10, sz11, sz12, dvs, D.cmpI, D.toI, D.mod, D.fdiv, add_ii, D.sub, D.mul, D.pow, D.neg, D.len, D.mkL, D.mkT, D.isN, D.notN, isiB, isi2, D.is, D.tn, sPut, callV_o1g]
def items5 : List D := [.tup [.tup [.int 401, .int 0], .int 401], .tup [.tup [.int 400, .int 0], .int 0], .tup [.tup [.int 0, .int 401], .int 401], .tup [.tup [.bl true, .int 1], .bl true], .tup [.tup [.int (-1), .int 0], .int (-1)]]
theorem items_src {ρ : Ev} : seqM (opV D.mkL [.v (opV D.mkT [.v (opV D.mkT [.v (M.ret (.int 401)), .v (M.ret (.int 0))]), .v (M.ret (.int 401))]), .v (opV D.mkT [.v (opV D.mkT [.v (M.ret (.int 400)), .v (M.ret (.int 0))]), .v (M.ret (.int 0))]), .v (opV D.mkT [.v (opV D.mkT [.v (M.ret (.int 0)), .v (M.ret (.int 401))]), .v (M.ret (.int 401))]), .v (opV D.mkT [.v (opV D.mkT [.v (M.ret (.bl true)), .v (M.ret (.int 1))]), .v (M.ret (.bl true))]), .v (opV D.mkT [.v (opV D.mkT [.v (op1 D.neg (.v (M.ret (.int 1)))), .v (M.ret (.int 0))]), .v (op1 D.neg (.v (M.ret (.int 1))))])]) ρ = .ok items5 ρ := by
  simp [seqM, items5, fnF, sSeq, sIf, asTest, op1, op2, opN, opV, M.bnd, M.ret, M.opt, Arg.ev, rs, rss, Slot.rd, evs, sV, sAsg, sNx, var, gN, gTu, gCo, gNi, so_no, so_val, so_own, so_dic, so_inst, so_ex, sh_no, sh_val, sh_own, sh_dic, sh_inst, sh_ex, sa_no, sa_val, sa_own, sa_dic, sa_inst, sa_ex, vAnd, vOr, vNot, vIf, bAnd, bOr, bNot, chain, chC, chL, callF, callV_1, callV_2, callV_3, callV_4, sz1, sz2, sz3, sz4, sz5, sz6, sz7, sz8, sz9, sz10, sz11, sz12, dvs, D.ix, L2.atI, ixN, D.cmpI, D.toI, D.mod, D.fdiv, add_ii, D.sub, D.mul, D.pow, D.neg, D.len, D.mkL, D.mkT, D.isN, D.notN, isiB, isi2, D.is, D.tn, D.eq, D.ne, D.sc, D.eqb, sPut, callV_o1g]
def isItem (x : D) : Prop := ∃ a b v r, x = .tup [.tup [a, b], v] ∧ (∀ ρ, makeV "StayRule" f_StayRule_uuinit__ [a, b] ρ = .exc (badNum v) ρ) ∧ D.repr [v] = some (.str r)
theorem items_ok : ∀ x ∈ items5, isItem x := by
  have hr : ∀ i : Int, i.natAbs < 1000 → D.repr [.int i] = some (.str (toString i)) := fun i h => by
    have : i.natAbs.log2 < 1920 := by
      have h2 : i.natAbs.log2 ≤ i.natAbs := Nat.log2_le_self _
      omega
    exact if_pos this
  intro x hx
  simp only [items5, List.mem_cons, List.not_mem_nil, or_false] at hx
  rcases hx with rfl | rfl | rfl | rfl | rfl
  · exact ⟨_, _, _, _, rfl, fun ρ => init_no1 (num_no (by omega)), hr _ (by omega)⟩
  · exact ⟨_, _, _, _, rfl, fun ρ => init_no2 (by omega) (by omega) (num_no (by omega)), hr _ (by omega)⟩
  · exact ⟨_, _, _, _, rfl, fun ρ => init_no2 (by omega) (by omega) (num_no (by omega)), hr _ (by omega)⟩
  · exact ⟨_, _, _, _, rfl, fun ρ => init_no1 (want_no (is_whole_bl true)), rfl⟩
  · exact ⟨_, _, _, _, rfl, fun ρ => init_no1 (num_no (by omega)), hr _ (by omega)⟩
theorem items_loop {s0 s1 s2 s3 s4 s5 s6 s7 s8 s9 s10 s11 s12 s13 s14 s15 s16 s17 s18 s19 s20 s21 s22 s26 s27 s28 : Slot} (hn : ∀ x y, noEx [s0, s1, s2, s3, s4, s5, s6, s7, s8, s9, s10, s11, s12, s13, s14, s15, s16, s17, s18, s19, s20, s21, s22, .val x, .val y, .no, s26, s27, s28] = true) : ∀ (L : List D) (s23 s24 s25 : Slot), (∀ x ∈ L, isItem x) → s23.isOwn = false → s24.isOwn = false → s25.isOwn = false →
    ∃ t23 t24 t25, forL (gTu (gCo (gN 23) (gCo (gN 24) (gNi))) 2) b37_law L [s0, s1, s2, s3, s4, s5, s6, s7, s8, s9, s10, s11, s12, s13, s14, s15, s16, s17, s18, s19, s20, s21, s22, s23, s24, s25, s26, s27, s28] = .nx [s0, s1, s2, s3, s4, s5, s6, s7, s8, s9, s10, s11, s12, s13, s14, s15, s16, s17, s18, s19, s20, s21, s22, t23, t24, t25, s26, s27, s28]
  | [], s23, s24, s25, _, _, _, _ => ⟨s23, s24, s25, rfl⟩
  | x :: L, s23, s24, s25, hx, h23, h24, h25 => by
    obtain ⟨a, b, v, r, rfl, hm, hr⟩ := hx x List.mem_cons_self
    have hb := repr_turn (s0 := s0) (s1 := s1) (s2 := s2) (s3 := s3) (s4 := s4) (s5 := s5) (s6 := s6) (s7 := s7) (s8 := s8) (s9 := s9) (s10 := s10) (s11 := s11) (s12 := s12) (s13 := s13) (s14 := s14) (s15 := s15) (s16 := s16) (s17 := s17) (s18 := s18) (s19 := s19) (s20 := s20) (s21 := s21) (s22 := s22) (s25 := s25) (s26 := s26) (s27 := s27) (s28 := s28) hm hr h25 (hn _ _)
    obtain ⟨t23, t24, t25, k1⟩ := items_loop hn L (.val (.tup [a, b])) (.val v) .no (fun y hy => hx y (List.mem_cons_of_mem _ hy)) rfl rfl rfl
    refine ⟨t23, t24, t25, (for_cons ?_ hb).trans k1⟩
    generalize D.tup [a, b] = T at *
    simp [gTu, gCo, gN, gNi, h23, h24]
theorem row38 {s0 s1 s2 s3 s4 s5 s6 s7 s8 s9 s10 s11 s12 s13 s14 s15 s16 s17 s18 s19 s20 s21 s22 s26 s27 s28 : Slot} (hn : ∀ x y, noEx [s0, s1, s2, s3, s4, s5, s6, s7, s8, s9, s10, s11, s12, s13, s14, s15, s16, s17, s18, s19, s20, s21, s22, .val x, .val y, .no, s26, s27, s28] = true) : ∃ t23 t24 t25, l38_law [s0, s1, s2, s3, s4, s5, s6, s7, s8, s9, s10, s11, s12, s13, s14, s15, s16, s17, s18, s19, s20, s21, s22, .no, .no, .no, s26, s27, s28] = .nx [s0, s1, s2, s3, s4, s5, s6, s7, s8, s9, s10, s11, s12, s13, s14, s15, s16, s17, s18, s19, s20, s21, s22, t23, t24, t25, s26, s27, s28] := by
  obtain ⟨t23, t24, t25, k1⟩ := items_loop hn items5 .no .no .no items_ok rfl rfl rfl
  have hs := items_src (ρ := [s0, s1, s2, s3, s4, s5, s6, s7, s8, s9, s10, s11, s12, s13, s14, s15, s16, s17, s18, s19, s20, s21, s22, .no, .no, .no, s26, s27, s28])
  generalize items5 = L at *
  have hf := for_ok (t := gTu (gCo (gN 23) (gCo (gN 24) (gNi))) 2) (b := b37_law) hs
  exact ⟨t23, t24, t25, hf.trans k1⟩
end DL
namespace DL
open PySem L2
theorem law_rows {ns : List Int} : ∃ ρ, m_law [.val (.scr (ns.map D.int)), .no, .no, .no, .no, .no, .no, .no, .no, .no, .no, .no, .no, .no, .no, .no, .no, .no, .no, .no, .no, .no, .no, .no, .no, .no, .no, .no, .no] = .rt (.bl true) ρ := by
  have hd0 : RowOk [.scr (ns.map D.int), .int 0, .int 19, .int 0] := ⟨ns, 0, 19, 0, rfl, by omega, by omega, by omega⟩
  generalize D.scr (ns.map D.int) = S at *
  have hd1 := tkN_ok hd0 (m := 8) (by omega) (by omega)
  have hd2 := tkN_ok hd1 (m := 12) (by omega) (by omega)
  have m0 := tkV_lo hd0 (m := 8) (by omega) (by omega)
  have m1 := tkV_hi hd0 (m := 8) (by omega) (by omega)
  have w0 := tkV_lo hd1 (m := 12) (by omega) (by omega)
  have w1 := tkV_hi hd1 (m := 12) (by omega) (by omega)
  have r1 := row1 (S := S) hd0
  generalize tkN (tkN [S, .int 0, .int 19, .int 0] 8) 12 = d2 at *
  generalize hw : 1 + tkV (tkN [S, .int 0, .int 19, .int 0] 8) 12 = w at *
  generalize tkV [S, .int 0, .int 19, .int 0] 8 = m at *
  have hw0 : 1 ≤ w := by omega
  have hw1 : w ≤ 12 := by omega
  have r2 := row2 (S := S) (d := d2) (m := m) (w := w) m0 (by omega) hw0 (by omega)
  obtain ⟨d3, ps, e, t2, t21, r4, hd3, ok, he, he44, hl, p2, p21⟩ := row4 (S := S) (m := m) (w := w) hd2
  obtain ⟨d4, h, r7, hd4, hs⟩ := row7 (S := S) (m := m) (w := w) (e := e) hd3 ok hl p2.1 p21.1
  have hdl := days_len ok
  have he0 : 0 ≤ e := by omega
  have r8 := row8 (s0 := .val S) (s1 := .own d4) (s2 := t2) (s3 := .val h) (s4 := .no) (s5 := .no) (s6 := .no) (s7 := .no) (s8 := .no) (s9 := .no) (s10 := .no) (s11 := .no) (s12 := .no) (s13 := .no) (s14 := .no) (s18 := .val (.lst (ps.map spT))) (s19 := .val (lstI (daysOf ps))) (s20 := .val (.int e)) (s21 := t21) (s22 := .no) (s23 := .no) (s24 := .no) (s25 := .no) (s26 := .no) (s27 := .no) (s28 := .no) (m := m) (w := w) m0 (by omega) hw0 (by omega)
  obtain ⟨d5, t4, t6, r10, hd5, p4, p6⟩ := row10 (s0 := .val S) (s2 := t2) (s4 := .no) (s5 := .no) (s6 := .no) (s7 := .no) (s8 := .no) (s9 := .no) (s10 := .no) (s11 := .no) (s12 := .no) (s13 := .no) (s14 := .no) (s18 := .val (.lst (ps.map spT))) (s20 := .val (.int e)) (s21 := t21) (s22 := .no) (s23 := .no) (s24 := .no) (s25 := .no) (s26 := .no) (s27 := .no) (s28 := .no) (m := m) (w := w) hd4 hs .no .no
  have r12 := row12 (s0 := .val S) (s1 := .own d5) (s2 := t2) (s3 := .val h) (s4 := t4) (s5 := .no) (s6 := t6) (s7 := .no) (s8 := .no) (s9 := .no) (s10 := .no) (s11 := .no) (s12 := .no) (s13 := .no) (s14 := .no) (s17 := .val (rule m w)) (s18 := .val (.lst (ps.map spT))) (s20 := .val (.int e)) (s21 := t21) (s22 := .no) (s23 := .no) (s24 := .no) (s25 := .no) (s26 := .no) (s27 := .no) (s28 := .no) (ps := ps) (m := m) (w := w) (L := daysOf ps) rfl p6.1
  have r13 := row13 (s0 := .val S) (s1 := .own d5) (s2 := t2) (s4 := t4) (s6 := t6) (s7 := .no) (s8 := .no) (s9 := .no) (s10 := .no) (s11 := .no) (s12 := .no) (s13 := .no) (s14 := .no) (s18 := .val (.lst (ps.map spT))) (s20 := .val (.int e)) (s21 := t21) (s22 := .no) (s23 := .no) (s24 := .no) (s25 := .no) (s26 := .no) (s27 := .no) (s28 := .no) (m := m) (w := w) hs (by omega)
  have r14 := row14 (s0 := .val S) (s2 := t2) (s3 := .val h) (s4 := t4) (s5 := .val (lstI (overL m w (daysOf ps)))) (s6 := t6) (s7 := .no) (s8 := .no) (s9 := .no) (s10 := .no) (s11 := .no) (s12 := .no) (s13 := .no) (s14 := .no) (s15 := .val (.int m)) (s16 := .val (.int w)) (s17 := .val (rule m w)) (s18 := .val (.lst (ps.map spT))) (s19 := .val (lstI (daysOf ps))) (s21 := t21) (s22 := .no) (s23 := .no) (s24 := .no) (s25 := .no) (s26 := .no) (s27 := .no) (s28 := .no) (e := e) hd5 p6.1
  have v0 := tkV_lo hd5 (m := 9) (by omega) (by omega)
  have v1 := tkV_hi hd5 (m := 9) (by omega) (by omega)
  have hd6 := tkN_ok hd5 (m := 9) (by omega) (by omega)
  generalize tkN d5 9 = d6 at *
  generalize hday : e + tkV d5 9 = day at *
  have hday0 : 0 ≤ day := by omega
  have hday1 : day ≤ 100 := by omega
  have hed : endS 0 ps ≤ day := by omega
  have r15 := row15 (s0 := .val S) (s1 := .own d6) (s2 := t2) (s4 := t4) (s5 := .val (lstI (overL m w (daysOf ps)))) (s7 := .no) (s8 := .no) (s9 := .no) (s10 := .no) (s11 := .no) (s12 := .no) (s13 := .no) (s14 := .no) (s18 := .val (.lst (ps.map spT))) (s20 := .val (.int e)) (s21 := t21) (s22 := .no) (s23 := .no) (s24 := .no) (s25 := .no) (s26 := .no) (s27 := .no) (s28 := .no) (m := m) (w := w) hs hl hday0 hed hday1
  have r16 := row16 (s0 := .val S) (s1 := .own d6) (s2 := t2) (s3 := .val h) (s4 := t4) (s5 := .val (lstI (overL m w (daysOf ps)))) (s6 := .val (.int day)) (s7 := .no) (s8 := .no) (s9 := .no) (s10 := .no) (s11 := .no) (s12 := .no) (s13 := .no) (s14 := .no) (s15 := .val (.int m)) (s16 := .val (.int w)) (s17 := .val (rule m w)) (s18 := .val (.lst (ps.map spT))) (s19 := .val (lstI (daysOf ps))) (s20 := .val (.int e)) (s21 := t21) (s22 := .no) (s23 := .no) (s24 := .no) (s25 := .no) (s26 := .no) (s27 := .no) (s28 := .no) rfl
  obtain ⟨t8, r18, p8⟩ := row18 (s0 := .val S) (s1 := .own d6) (s2 := t2) (s3 := .val h) (s4 := t4) (s5 := .val (lstI (overL m w (daysOf ps)))) (s8 := .no) (s9 := .no) (s10 := .no) (s11 := .no) (s12 := .no) (s13 := .no) (s14 := .no) (s17 := .val (rule m w)) (s18 := .val (.lst (ps.map spT))) (s20 := .val (.int e)) (s21 := t21) (s22 := .no) (s23 := .no) (s24 := .no) (s25 := .no) (s26 := .no) (s27 := .no) (s28 := .no) (m := m) (w := w) (day := day) (days := daysOf ps) hday0 hday1 (by omega) .no
  have r19 := row19 (s0 := .val S) (s1 := .own d6) (s2 := t2) (s3 := .val h) (s4 := t4) (s5 := .val (lstI (overL m w (daysOf ps)))) (s8 := t8) (s9 := .no) (s10 := .no) (s11 := .no) (s12 := .no) (s13 := .no) (s14 := .no) (s17 := .val (rule m w)) (s18 := .val (.lst (ps.map spT))) (s19 := .val (lstI (daysOf ps))) (s20 := .val (.int e)) (s21 := t21) (s22 := .no) (s23 := .no) (s24 := .no) (s25 := .no) (s26 := .no) (s27 := .no) (s28 := .no) (m := m) (w := w) (day := day) (l := (lawLong m w day (daysOf ps) 29 1 : Int))
  have r20 := row20 (s0 := .val S) (s1 := .own d6) (s2 := t2) (s4 := t4) (s5 := .val (lstI (overL m w (daysOf ps)))) (s8 := t8) (s9 := .no) (s10 := .no) (s11 := .no) (s12 := .no) (s13 := .no) (s14 := .no) (s18 := .val (.lst (ps.map spT))) (s19 := .val (lstI (daysOf ps))) (s20 := .val (.int e)) (s21 := t21) (s22 := .no) (s23 := .no) (s24 := .no) (s25 := .no) (s26 := .no) (s27 := .no) (s28 := .no) (m := m) (w := w) (day := day) hs hl hday0 hed hday1 m0 (by omega) hw0
  generalize (if w ≤ m then 9999 - day else (lawLong m w day (daysOf ps) 29 1 : Int)) = lg at *
  have r21 := row21 (s0 := .val S) (s2 := t2) (s3 := .val h) (s4 := t4) (s5 := .val (lstI (overL m w (daysOf ps)))) (s6 := .val (.int day)) (s7 := .val (.int lg)) (s8 := t8) (s9 := .no) (s10 := .no) (s11 := .no) (s12 := .no) (s13 := .no) (s14 := .no) (s15 := .val (.int m)) (s16 := .val (.int w)) (s17 := .val (rule m w)) (s18 := .val (.lst (ps.map spT))) (s19 := .val (lstI (daysOf ps))) (s20 := .val (.int e)) (s21 := t21) (s22 := .no) (s23 := .no) (s24 := .no) (s25 := .no) (s26 := .no) (s27 := .no) (s28 := .no) hd6 p8.1
  have n0 := tkV_lo hd6 (m := 9) (by omega) (by omega)
  have n1 := tkV_hi hd6 (m := 9) (by omega) (by omega)
  have hd7 := tkN_ok hd6 (m := 9) (by omega) (by omega)
  generalize tkN d6 9 = d7 at *
  obtain ⟨n, hn⟩ := Int.eq_ofNat_of_zero_le n0
  rw [hn] at r21
  have r22 := row22 (s0 := .val S) (s1 := .own d7) (s2 := t2) (s3 := .val h) (s4 := t4) (s5 := .val (lstI (overL m w (daysOf ps)))) (s6 := .val (.int day)) (s7 := .val (.int lg)) (s8 := .val (.int n)) (s9 := .no) (s10 := .no) (s11 := .no) (s12 := .no) (s13 := .no) (s14 := .no) (s15 := .val (.int m)) (s16 := .val (.int w)) (s17 := .val (rule m w)) (s18 := .val (.lst (ps.map spT))) (s19 := .val (lstI (daysOf ps))) (s20 := .val (.int e)) (s21 := t21) (s22 := .no) (s23 := .no) (s24 := .no) (s25 := .no) (s26 := .no) (s27 := .no) (s28 := .no)
  obtain ⟨t10, t22, r24, p10, p22⟩ := row24 (s0 := .val S) (s1 := .own d7) (s2 := t2) (s3 := .val h) (s4 := t4) (s5 := .val (lstI (overL m w (daysOf ps)))) (s7 := .val (.int lg)) (s10 := .no) (s11 := .no) (s12 := .no) (s13 := .no) (s14 := .no) (s17 := .val (rule m w)) (s18 := .val (.lst (ps.map spT))) (s20 := .val (.int e)) (s21 := t21) (s22 := .no) (s23 := .no) (s24 := .no) (s25 := .no) (s26 := .no) (s27 := .no) (s28 := .no) (m := m) (w := w) (day := day) (days := daysOf ps) (n := n) hday0 hday1 (by omega) (by omega) .no .no rfl
  have r25 := row25 (s0 := .val S) (s1 := .own d7) (s2 := t2) (s4 := t4) (s5 := .val (lstI (overL m w (daysOf ps)))) (s7 := .val (.int lg)) (s10 := t10) (s11 := .no) (s12 := .no) (s13 := .no) (s14 := .no) (s18 := .val (.lst (ps.map spT))) (s19 := .val (lstI (daysOf ps))) (s20 := .val (.int e)) (s21 := t21) (s22 := t22) (s23 := .no) (s24 := .no) (s25 := .no) (s26 := .no) (s27 := .no) (s28 := .no) (m := m) (w := w) (day := day) (n := n) hs hl hday0 hed hday1 (by omega) m0 hw0 hw1
  generalize hG : ((run day 40).filter (goodI m w (daysOf ps) n)).map D.int = G at *
  have r26 := row26 (s0 := .val S) (s2 := t2) (s3 := .val h) (s4 := t4) (s5 := .val (lstI (overL m w (daysOf ps)))) (s6 := .val (.int day)) (s7 := .val (.int lg)) (s8 := .val (.int n)) (s9 := .own G) (s10 := t10) (s11 := .no) (s12 := .no) (s13 := .no) (s14 := .no) (s15 := .val (.int m)) (s16 := .val (.int w)) (s17 := .val (rule m w)) (s18 := .val (.lst (ps.map spT))) (s19 := .val (lstI (daysOf ps))) (s20 := .val (.int e)) (s21 := t21) (s22 := t22) (s23 := .no) (s24 := .no) (s25 := .no) (s26 := .no) (s27 := .no) (s28 := .no) hd7 rfl
  have z0 := tkV_lo hd7 (m := 10) (by omega) (by omega)
  have z1 := tkV_hi hd7 (m := 10) (by omega) (by omega)
  have hd8 := tkN_ok hd7 (m := 10) (by omega) (by omega)
  generalize tkN d7 10 = d8 at *
  generalize tkV d7 10 = z at *
  have r29 := row29 (s0 := .val S) (s1 := .own d8) (s2 := t2) (s3 := .val h) (s4 := t4) (s5 := .val (lstI (overL m w (daysOf ps)))) (s6 := .val (.int day)) (s7 := .val (.int lg)) (s8 := .val (.int n)) (s9 := .own G) (s10 := t10) (s12 := .no) (s13 := .no) (s14 := .no) (s17 := .val (rule m w)) (s18 := .val (.lst (ps.map spT))) (s19 := .val (lstI (daysOf ps))) (s20 := .val (.int e)) (s21 := t21) (s22 := t22) (s23 := .no) (s24 := .no) (s25 := .no) (s26 := .no) (s27 := .no) (m := m) (w := w) (n := z) m0 (by omega) hw0 (by omega) z0 z1 rfl
  have r31 := row31 (s0 := .val S) (s1 := .own d8) (s2 := t2) (s3 := .val h) (s4 := t4) (s5 := .val (lstI (overL m w (daysOf ps)))) (s6 := .val (.int day)) (s7 := .val (.int lg)) (s8 := .val (.int n)) (s9 := .own G) (s10 := t10) (s12 := .val (.int (z / w * min m w + min m (z % w)))) (s13 := .no) (s14 := .no) (s17 := .val (rule m w)) (s18 := .val (.lst (ps.map spT))) (s19 := .val (lstI (daysOf ps))) (s20 := .val (.int e)) (s21 := t21) (s22 := t22) (s23 := .no) (s24 := .no) (s25 := .no) (s26 := .no) (s27 := .no) (s28 := .no) (m := m) (w := w) (n := z) (by omega) (by omega) z0 (by omega) rfl rfl
  have r32 := row32 (s0 := .val S) (s1 := .own d8) (s2 := t2) (s3 := .val h) (s4 := t4) (s5 := .val (lstI (overL m w (daysOf ps)))) (s6 := .val (.int day)) (s7 := .val (.int lg)) (s8 := .val (.int n)) (s9 := .own G) (s10 := t10) (s14 := .no) (s18 := .val (.lst (ps.map spT))) (s19 := .val (lstI (daysOf ps))) (s20 := .val (.int e)) (s21 := t21) (s22 := t22) (s23 := .no) (s24 := .no) (s25 := .no) (s26 := .no) (s27 := .no) (s28 := .no) (m := m) (w := w) (n := z) m0 (by omega) hw0 (by omega) z0 z1
  generalize z / w * min m w + min m (z % w) = best at *
  generalize lstI (earI m w z) = ear at *
  obtain ⟨x, hx, r33⟩ := row33 (s0 := .val S) (s2 := t2) (s3 := .val h) (s4 := t4) (s5 := .val (lstI (overL m w (daysOf ps)))) (s6 := .val (.int day)) (s7 := .val (.int lg)) (s8 := .val (.int n)) (s9 := .own G) (s10 := t10) (s11 := .val (.int z)) (s12 := .val (.int best)) (s13 := .val ear) (s14 := .no) (s15 := .val (.int m)) (s16 := .val (.int w)) (s17 := .val (rule m w)) (s18 := .val (.lst (ps.map spT))) (s19 := .val (lstI (daysOf ps))) (s20 := .val (.int e)) (s21 := t21) (s22 := t22) (s23 := .no) (s24 := .no) (s25 := .no) (s26 := .no) (s27 := .no) (s28 := .no) hd8 rfl
  generalize tkN d8 7 = d9 at *
  obtain ⟨y, hy, r34⟩ := row34 (s0 := .val S) (s1 := .own d9) (s2 := t2) (s3 := .val h) (s4 := t4) (s5 := .val (lstI (overL m w (daysOf ps)))) (s6 := .val (.int day)) (s7 := .val (.int lg)) (s8 := .val (.int n)) (s9 := .own G) (s10 := t10) (s11 := .val (.int z)) (s12 := .val (.int best)) (s13 := .val ear) (s15 := .val (.int m)) (s16 := .val (.int w)) (s17 := .val (rule m w)) (s19 := .val (lstI (daysOf ps))) (s20 := .val (.int e)) (s21 := t21) (s22 := t22) (s23 := .no) (s24 := .no) (s25 := .no) (s26 := .no) (s27 := .no) (s28 := .no) (ps := ps) hx
  obtain ⟨u4, r36, q4⟩ := row36 (s0 := .val S) (s1 := .own d9) (s2 := t2) (s3 := .val h) (s4 := t4) (s5 := .val (lstI (overL m w (daysOf ps)))) (s6 := .val (.int day)) (s7 := .val (.int lg)) (s8 := .val (.int n)) (s9 := .own G) (s10 := t10) (s11 := .val (.int z)) (s12 := .val (.int best)) (s13 := .val ear) (s15 := .val (.int m)) (s16 := .val (.int w)) (s19 := .val (lstI (daysOf ps))) (s20 := .val (.int e)) (s21 := t21) (s22 := t22) (s23 := .no) (s24 := .no) (s25 := .no) (s26 := .no) (s27 := .no) (s28 := .no) (m := m) (w := w) ok hl hy p4
  obtain ⟨t23, t24, t25, r38⟩ := row38 (s0 := .val S) (s1 := .own d9) (s2 := t2) (s3 := .val h) (s4 := u4) (s5 := .val (lstI (overL m w (daysOf ps)))) (s6 := .val (.int day)) (s7 := .val (.int lg)) (s8 := .val (.int n)) (s9 := .own G) (s10 := t10) (s11 := .val (.int z)) (s12 := .val (.int best)) (s13 := .val ear) (s14 := .val y) (s15 := .val (.int m)) (s16 := .val (.int w)) (s17 := .val (rule m w)) (s18 := .val (.lst (ps.map spT))) (s19 := .val (lstI (daysOf ps))) (s20 := .val (.int e)) (s21 := t21) (s22 := t22) (s26 := .no) (s27 := .no) (s28 := .no) (fun a b => by
    unfold noEx
    simp only [List.all_cons, List.all_nil, p2.2, q4.2, p8.2, p6.2, p10.2, p21.2, p22.2]
    rfl)
  have hrow : ∃ ρ, m_law [.val S, .no, .no, .no, .no, .no, .no, .no, .no, .no, .no, .no, .no, .no, .no, .no, .no, .no, .no, .no, .no, .no, .no, .no, .no, .no, .no, .no, .no] = .rt (.bl true) ρ := by
    refine ⟨[.val S, .own d9, t2, .val h, u4, .val (lstI (overL m w (daysOf ps))), .val (.int day), .val (.int lg), .val (.int n), .own G, t10, .val (.int z), .val (.int best), .val ear, .val y, .val (.int m), .val (.int w), .val (rule m w), .val (.lst (ps.map spT)), .val (lstI (daysOf ps)), .val (.int e), t21, t22, t23, t24, t25, .no, .no, .no], ?_⟩
    unfold m_law
    rw [seq_nx row0, seq_nx r1, seq_nx r2, seq_nx r4, seq_nx r7, seq_nx r8, seq_nx r10, seq_nx r12, seq_nx r13, seq_nx r14, seq_nx r15, seq_nx r16, seq_nx r18, seq_nx r19, seq_nx r20, seq_nx r21, seq_nx r22, seq_nx r24, seq_nx r25, seq_nx r26, seq_nx r29, seq_nx r31, seq_nx r32, seq_nx r33, seq_nx r34, seq_nx r36, seq_nx r38]
    rfl
  exact hrow
theorem law_plain : ∀ ns : List Int, ns.length ≤ 63 → ∃ os, f_law [.val (.scr (ns.map D.int))] = .ok (.bl true) os := fun ns _ => by
  obtain ⟨ρ, h⟩ := law_rows (ns := ns)
  exact ⟨_, fn_rt (m := m_law) (loc := 28) rfl rfl h rfl⟩
end DL
namespace DL
open PySem L2
abbrev e_BadItem : Stmt := inClass (top 3) 0
abbrev e_BadNumber : Stmt := inClass (top 2) 0
theorem all_mk {l : PySem.W.OpenLaw} {w : World} {K : PySem.W.Frag} {h : Heap} {mg : Str → Option Value} {fa : Addr} (X : K.In h) (G : h.Ns mainGlobals mg) (hfa : mg "law" = some (.ref fa))
    {C_StayRule C_BadItem N_BadItem fI_BadItem cda_BadItem cl_BadItem C_BadNumber N_BadNumber fI_BadNumber cda_BadNumber cl_BadNumber f0 f1 f2 f3 f4 f5 f6 f7 f8 f9 f10 f11 f12 f13 f14 f15 f16 f17 f18 f19 f20 f21 f22 f23 f24 f25 f26 : Addr} {oc_BadItem kV_BadItem dc_BadItem pm_BadItem ct_BadItem ccl_BadItem ocl_BadItem oc_BadNumber kV_BadNumber dc_BadNumber pm_BadNumber ct_BadNumber ccl_BadNumber ocl_BadNumber oc0 kV0 dc0 pm0 cd0 ct0 oc1 kV1 dc1 pm1 cd1 ct1 oc2 kV2 dc2 pm2 cd2 ct2 oc3 kV3 dc3 pm3 cd3 ct3 oc4 kV4 dc4 pm4 cd4 ct4 oc5 kV5 dc5 pm5 cd5 ct5 oc6 kV6 dc6 pm6 cd6 ct6 oc7 kV7 dc7 pm7 cd7 ct7 oc8 kV8 dc8 pm8 cd8 ct8 oc9 kV9 dc9 pm9 cd9 ct9 oc10 kV10 dc10 pm10 cd10 ct10 oc11 kV11 dc11 pm11 cd11 ct11 oc12 kV12 dc12 pm12 cd12 ct12 oc13 kV13 dc13 pm13 cd13 ct13 oc14 kV14 dc14 pm14 cd14 ct14 oc15 kV15 dc15 pm15 cd15 ct15 oc16 kV16 dc16 pm16 cd16 ct16 oc17 kV17 dc17 pm17 cd17 ct17 oc18 kV18 dc18 pm18 cd18 ct18 oc19 kV19 dc19 pm19 cd19 ct19 oc20 kV20 dc20 pm20 cd20 ct20 oc21 kV21 dc21 pm21 cd21 ct21 oc22 kV22 dc22 pm22 cd22 ct22 oc23 kV23 dc23 pm23 cd23 ct23 oc24 kV24 dc24 pm24 cd24 ct24 oc25 kV25 dc25 pm25 cd25 ct25 oc26 kV26 dc26 pm26 cd26 ct26 : Value} {dd_BadItem od_BadItem an_BadItem cdd_BadItem cld_BadItem dd_BadNumber od_BadNumber an_BadNumber cdd_BadNumber cld_BadNumber od0 an0 od1 an1 od2 an2 od3 an3 od4 an4 od5 an5 od6 an6 od7 an7 od8 an8 od9 an9 od10 an10 od11 an11 od12 an12 od13 an13 od14 an14 od15 an15 od16 an16 od17 an17 od18 an18 od19 an19 od20 an20 od21 an21 od22 an22 od23 an23 od24 an24 od25 an25 od26 an26 : Option Addr} {sl_BadItem ccs_BadItem csl_BadItem sl_BadNumber ccs_BadNumber csl_BadNumber sl0 sl1 sl2 sl3 sl4 sl5 sl6 sl7 sl8 sl9 sl10 sl11 sl12 sl13 sl14 sl15 sl16 sl17 sl18 sl19 sl20 sl21 sl22 sl23 sl24 sl25 sl26 : Array (Option Value)} {nm_BadItem qn_BadItem fil_BadItem nm_BadNumber qn_BadNumber fil_BadNumber : Str} {bs_BadItem bm_BadItem sub_BadItem bs_BadNumber bm_BadNumber sub_BadNumber : List Value} {sn_BadItem sn_BadNumber : List Str} {ab_BadItem ab_BadNumber : Bool} {col_BadItem col_BadNumber : Option Bool} {m0_BadItem m1_BadItem m2_BadItem m3_BadItem m5_BadItem m0_BadNumber m1_BadNumber m2_BadNumber m3_BadNumber m5_BadNumber : Option Value} {vs_BadItem vs_BadNumber : Array Value} {t_LAST_DAY t_MOST_WINDOW tf_BadItem tf_BadNumber : Tok}
    (top0 : (l.prog.main.scope.names.lookup ("super" : Str)).isSome = false)
    (g_StayRule : PySem.W.nsIn K mainGlobals "StayRule" = some (some (.ref C_StayRule)))
    (pg_StayRule : PySem.W.plainGet K C_StayRule Str.empty = true)
    (hd_StayRule : PySem.W.hasDictIn K C_StayRule = true)
    (po_StayRule : PySem.W.plainOver K C_StayRule = true)
    (sa_StayRule : PySem.W.findIn K (.ref C_StayRule) "__setattr__" = some (some (.builtin "object.__setattr__")))
    (mk_StayRule : PySem.W.makesIn K C_StayRule = true)
    (kc_StayRule : PySem.W.keepIn K (.ref C_StayRule) = true)
    (cc_StayRule : PySem.W.findIn K (.ref C_StayRule) "__class__" = some (some (.builtin "object.__class__")))
    (mo_StayRule : PySem.W.mroIn K C_StayRule (.type "object") = some true)
    (ne_StayRule : PySem.W.findIn K (.ref C_StayRule) "__ne__" = some (some (.builtin "object.__ne__")))
    (nf_StayRule : tyNames.all (fun n => PySem.W.notFirst K C_StayRule (.type n)) = true)
    (ks_StayRule : tyNames.all (fun n => decide (PySem.W.kitOne K (.type n) (.ref C_StayRule) = some false)) = true)
    (hn0 : PySem.W.specialIn K (.builtin "object.__class__") "__get__" = some (some (.builtin "getset_descriptor.__get__")))
    (ht0 : PySem.W.takesIn K (.builtin "object.__class__") = some true)
    (no_StayRule_most : PySem.W.findIn K (.ref C_StayRule) "most" = some none)
    (no_StayRule_window : PySem.W.findIn K (.ref C_StayRule) "window" = some none)
    (z_bool : PySem.W.nsIn K mainGlobals "bool" = some none)
    (z_enumerate : PySem.W.nsIn K mainGlobals "enumerate" = some none)
    (z_int : PySem.W.nsIn K mainGlobals "int" = some none)
    (z_isinstance : PySem.W.nsIn K mainGlobals "isinstance" = some none)
    (z_len : PySem.W.nsIn K mainGlobals "len" = some none)
    (z_list : PySem.W.nsIn K mainGlobals "list" = some none)
    (z_max : PySem.W.nsIn K mainGlobals "max" = some none)
    (z_min : PySem.W.nsIn K mainGlobals "min" = some none)
    (z_range : PySem.W.nsIn K mainGlobals "range" = some none)
    (z_repr : PySem.W.nsIn K mainGlobals "repr" = some none)
    (z_str : PySem.W.nsIn K mainGlobals "str" = some none)
    (z_sum : PySem.W.nsIn K mainGlobals "sum" = some none)
    (z_tuple : PySem.W.nsIn K mainGlobals "tuple" = some none)
    (z_super : PySem.W.nsIn K mainGlobals "super" = some none)
    (th : PySem.W.nsIn K cStatics "thirdparty.any" = some none)
    (v_LAST_DAY : PySem.W.nsIn K mainGlobals "LAST_DAY" = some (some (.int 9999 t_LAST_DAY)))
    (v_MOST_WINDOW : PySem.W.nsIn K mainGlobals "MOST_WINDOW" = some (some (.int 400 t_MOST_WINDOW)))
    (g_BadItem : PySem.W.nsIn K mainGlobals "BadItem" = some (some (.ref C_BadItem)))
    (x_BadItem : K.lookup C_BadItem = some (excClassObj nm_BadItem qn_BadItem C_BadItem N_BadItem bs_BadItem bm_BadItem true sn_BadItem sub_BadItem ab_BadItem col_BadItem dd_BadItem m0_BadItem m1_BadItem m2_BadItem m3_BadItem m5_BadItem "ValueError.__new__"))
    (rv_BadItem : PySem.HandSPX.refsVE bm_BadItem = true)
    (sa_BadItem : PySem.W.findIn K (.ref C_BadItem) "__setattr__" = some (some (.builtin "object.__setattr__")))
    (eC_BadItem : PySem.W.subIn K (.ref C_BadItem) (.type "BaseException") = some true)
    (tC_BadItem : PySem.W.typeIn K (.ref C_BadItem) = some (.type "type"))
    (kC_BadItem : PySem.W.keepIn K (.ref C_BadItem) = true)
    (i_BadItem : PySem.W.findIn K (.ref C_BadItem) "__init__" = some (some (.ref fI_BadItem)))
    (tI_BadItem : PySem.W.typeIn K (.ref fI_BadItem) = some (.type "function"))
    (l_BadItem : K.lookup fI_BadItem = some ⟨oc_BadItem, od_BadItem, .func (PySem.W.ksFn "__init__" "BadItem.__init__" (defArgs e_BadItem) (defBody e_BadItem) (defScope e_BadItem) .none kV_BadItem dc_BadItem pm_BadItem an_BadItem (.ref cda_BadItem) ct_BadItem cl_BadItem), sl_BadItem⟩)
    (c_BadItem : PySem.W.codeIn K (.ref cda_BadItem) "BadItem.__init__" = true)
    (d_BadItem : K.lookup cda_BadItem = some ⟨ccl_BadItem, cdd_BadItem, .fields vs_BadItem, ccs_BadItem⟩)
    (f_BadItem : vs_BadItem[2]? = some (.str fil_BadItem tf_BadItem))
    (h_BadItem : ((l.prog.main.file : Str) == fil_BadItem) = true)
    (w_BadItem : K.lookup cl_BadItem = some ⟨ocl_BadItem, cld_BadItem, .cell (some (.ref C_BadItem)), csl_BadItem⟩)
    (s_BadItem : PySem.W.ks_superIn K C_BadItem C_BadItem "__init__" = some (some (.builtin "ValueError.__init__")))
    (v_BadItem : PySem.W.subIn K (.ref C_BadItem) (.type "ValueError") = some true)
    (r_BadItem : PySem.W.mroIn K C_BadItem (.ref C_BadItem) = some true)
    (n_BadItem_index : PySem.W.findIn K (.ref C_BadItem) "index" = some none)
    (ga_BadItem : PySem.W.findIn K (.ref C_BadItem) "__getattribute__" = some (some (.builtin "BaseException.__getattribute__")))
    (gg_BadItem : PySem.W.findIn K (.ref C_BadItem) "__getattr__" = some none)
    (hd_BadItem : PySem.W.hasDictIn K C_BadItem = true)
    (g_BadNumber : PySem.W.nsIn K mainGlobals "BadNumber" = some (some (.ref C_BadNumber)))
    (x_BadNumber : K.lookup C_BadNumber = some (excClassObj nm_BadNumber qn_BadNumber C_BadNumber N_BadNumber bs_BadNumber bm_BadNumber true sn_BadNumber sub_BadNumber ab_BadNumber col_BadNumber dd_BadNumber m0_BadNumber m1_BadNumber m2_BadNumber m3_BadNumber m5_BadNumber "ValueError.__new__"))
    (rv_BadNumber : PySem.HandSPX.refsVE bm_BadNumber = true)
    (sa_BadNumber : PySem.W.findIn K (.ref C_BadNumber) "__setattr__" = some (some (.builtin "object.__setattr__")))
    (eC_BadNumber : PySem.W.subIn K (.ref C_BadNumber) (.type "BaseException") = some true)
    (tC_BadNumber : PySem.W.typeIn K (.ref C_BadNumber) = some (.type "type"))
    (kC_BadNumber : PySem.W.keepIn K (.ref C_BadNumber) = true)
    (i_BadNumber : PySem.W.findIn K (.ref C_BadNumber) "__init__" = some (some (.ref fI_BadNumber)))
    (tI_BadNumber : PySem.W.typeIn K (.ref fI_BadNumber) = some (.type "function"))
    (l_BadNumber : K.lookup fI_BadNumber = some ⟨oc_BadNumber, od_BadNumber, .func (PySem.W.ksFn "__init__" "BadNumber.__init__" (defArgs e_BadNumber) (defBody e_BadNumber) (defScope e_BadNumber) .none kV_BadNumber dc_BadNumber pm_BadNumber an_BadNumber (.ref cda_BadNumber) ct_BadNumber cl_BadNumber), sl_BadNumber⟩)
    (c_BadNumber : PySem.W.codeIn K (.ref cda_BadNumber) "BadNumber.__init__" = true)
    (d_BadNumber : K.lookup cda_BadNumber = some ⟨ccl_BadNumber, cdd_BadNumber, .fields vs_BadNumber, ccs_BadNumber⟩)
    (f_BadNumber : vs_BadNumber[2]? = some (.str fil_BadNumber tf_BadNumber))
    (h_BadNumber : ((l.prog.main.file : Str) == fil_BadNumber) = true)
    (w_BadNumber : K.lookup cl_BadNumber = some ⟨ocl_BadNumber, cld_BadNumber, .cell (some (.ref C_BadNumber)), csl_BadNumber⟩)
    (s_BadNumber : PySem.W.ks_superIn K C_BadNumber C_BadNumber "__init__" = some (some (.builtin "ValueError.__init__")))
    (v_BadNumber : PySem.W.subIn K (.ref C_BadNumber) (.type "ValueError") = some true)
    (r_BadNumber : PySem.W.mroIn K C_BadNumber (.ref C_BadNumber) = some true)
    (n_BadNumber_value : PySem.W.findIn K (.ref C_BadNumber) "value" = some none)
    (ga_BadNumber : PySem.W.findIn K (.ref C_BadNumber) "__getattribute__" = some (some (.builtin "BaseException.__getattribute__")))
    (gg_BadNumber : PySem.W.findIn K (.ref C_BadNumber) "__getattr__" = some none)
    (hd_BadNumber : PySem.W.hasDictIn K C_BadNumber = true)
    (ex_BadItem_BadItem : PySem.W.exmOne K (.ref C_BadItem) (.ref C_BadItem) = some true)
    (ex_BadNumber_BadItem : PySem.W.exmOne K (.ref C_BadNumber) (.ref C_BadItem) = some false)
    (ex_BadItem_BadNumber : PySem.W.exmOne K (.ref C_BadItem) (.ref C_BadNumber) = some false)
    (ex_BadNumber_BadNumber : PySem.W.exmOne K (.ref C_BadNumber) (.ref C_BadNumber) = some true)
    (a_is_whole : PySem.W.nsIn K mainGlobals "is_whole" = some (some (.ref f0)))
    (l0 : K.lookup f0 = some ⟨oc0, od0, .func (PySem.W.fnOf "is_whole" "is_whole" (defArgs s_is_whole) (defBody s_is_whole) (defScope s_is_whole) .none kV0 dc0 pm0 an0 cd0 ct0), sl0⟩)
    (c0 : PySem.W.codeIn K cd0 "is_whole" = true)
    (k0 : PySem.W.keepIn K (.ref f0) = true)
    (a_is_number : PySem.W.nsIn K mainGlobals "is_number" = some (some (.ref f1)))
    (l1 : K.lookup f1 = some ⟨oc1, od1, .func (PySem.W.fnOf "is_number" "is_number" (defArgs s_is_number) (defBody s_is_number) (defScope s_is_number) .none kV1 dc1 pm1 an1 cd1 ct1), sl1⟩)
    (c1 : PySem.W.codeIn K cd1 "is_number" = true)
    (k1 : PySem.W.keepIn K (.ref f1) = true)
    (a_is_row : PySem.W.nsIn K mainGlobals "is_row" = some (some (.ref f2)))
    (l2 : K.lookup f2 = some ⟨oc2, od2, .func (PySem.W.fnOf "is_row" "is_row" (defArgs s_is_row) (defBody s_is_row) (defScope s_is_row) .none kV2 dc2 pm2 an2 cd2 ct2), sl2⟩)
    (c2 : PySem.W.codeIn K cd2 "is_row" = true)
    (k2 : PySem.W.keepIn K (.ref f2) = true)
    (a_want_number : PySem.W.nsIn K mainGlobals "want_number" = some (some (.ref f3)))
    (l3 : K.lookup f3 = some ⟨oc3, od3, .func (PySem.W.fnOf "want_number" "want_number" (defArgs s_want_number) (defBody s_want_number) (defScope s_want_number) .none kV3 dc3 pm3 an3 cd3 ct3), sl3⟩)
    (c3 : PySem.W.codeIn K cd3 "want_number" = true)
    (k3 : PySem.W.keepIn K (.ref f3) = true)
    (a_is_span : PySem.W.nsIn K mainGlobals "is_span" = some (some (.ref f4)))
    (l4 : K.lookup f4 = some ⟨oc4, od4, .func (PySem.W.fnOf "is_span" "is_span" (defArgs s_is_span) (defBody s_is_span) (defScope s_is_span) .none kV4 dc4 pm4 an4 cd4 ct4), sl4⟩)
    (c4 : PySem.W.codeIn K cd4 "is_span" = true)
    (k4 : PySem.W.keepIn K (.ref f4) = true)
    (a_want_spans : PySem.W.nsIn K mainGlobals "want_spans" = some (some (.ref f5)))
    (l5 : K.lookup f5 = some ⟨oc5, od5, .func (PySem.W.fnOf "want_spans" "want_spans" (defArgs s_want_spans) (defBody s_want_spans) (defScope s_want_spans) .none kV5 dc5 pm5 an5 cd5 ct5), sl5⟩)
    (c5 : PySem.W.codeIn K cd5 "want_spans" = true)
    (k5 : PySem.W.keepIn K (.ref f5) = true)
    (a_StayRule_uuinit__ : PySem.W.findIn K (.ref C_StayRule) "__init__" = some (some (.ref f6)))
    (i_StayRule_uuinit__ : PySem.W.isFn K (.ref f6) = true)
    (l6 : K.lookup f6 = some ⟨oc6, od6, .func (PySem.W.fnOf "__init__" "StayRule.__init__" (defArgs s_StayRule_uuinit__) (defBody s_StayRule_uuinit__) (defScope s_StayRule_uuinit__) .none kV6 dc6 pm6 an6 cd6 ct6), sl6⟩)
    (c6 : PySem.W.codeIn K cd6 "StayRule.__init__" = true)
    (k6 : PySem.W.keepIn K (.ref f6) = true)
    (a_StayRule_uueq__ : PySem.W.findIn K (.ref C_StayRule) "__eq__" = some (some (.ref f7)))
    (i_StayRule_uueq__ : PySem.W.isFn K (.ref f7) = true)
    (l7 : K.lookup f7 = some ⟨oc7, od7, .func (PySem.W.fnOf "__eq__" "StayRule.__eq__" (defArgs s_StayRule_uueq__) (defBody s_StayRule_uueq__) (defScope s_StayRule_uueq__) .none kV7 dc7 pm7 an7 cd7 ct7), sl7⟩)
    (c7 : PySem.W.codeIn K cd7 "StayRule.__eq__" = true)
    (k7 : PySem.W.keepIn K (.ref f7) = true)
    (a_StayRule_inside : PySem.W.findIn K (.ref C_StayRule) "inside" = some (some (.ref f8)))
    (i_StayRule_inside : PySem.W.isFn K (.ref f8) = true)
    (l8 : K.lookup f8 = some ⟨oc8, od8, .func (PySem.W.fnOf "inside" "StayRule.inside" (defArgs s_StayRule_inside) (defBody s_StayRule_inside) (defScope s_StayRule_inside) .none kV8 dc8 pm8 an8 cd8 ct8), sl8⟩)
    (c8 : PySem.W.codeIn K cd8 "StayRule.inside" = true)
    (k8 : PySem.W.keepIn K (.ref f8) = true)
    (a_StayRule_first_over : PySem.W.findIn K (.ref C_StayRule) "first_over" = some (some (.ref f9)))
    (i_StayRule_first_over : PySem.W.isFn K (.ref f9) = true)
    (l9 : K.lookup f9 = some ⟨oc9, od9, .func (PySem.W.fnOf "first_over" "StayRule.first_over" (defArgs s_StayRule_first_over) (defBody s_StayRule_first_over) (defScope s_StayRule_first_over) .none kV9 dc9 pm9 an9 cd9 ct9), sl9⟩)
    (c9 : PySem.W.codeIn K cd9 "StayRule.first_over" = true)
    (k9 : PySem.W.keepIn K (.ref f9) = true)
    (a_StayRule_is_lawful : PySem.W.findIn K (.ref C_StayRule) "is_lawful" = some (some (.ref f10)))
    (i_StayRule_is_lawful : PySem.W.isFn K (.ref f10) = true)
    (l10 : K.lookup f10 = some ⟨oc10, od10, .func (PySem.W.fnOf "is_lawful" "StayRule.is_lawful" (defArgs s_StayRule_is_lawful) (defBody s_StayRule_is_lawful) (defScope s_StayRule_is_lawful) .none kV10 dc10 pm10 an10 cd10 ct10), sl10⟩)
    (c10 : PySem.W.codeIn K cd10 "StayRule.is_lawful" = true)
    (k10 : PySem.W.keepIn K (.ref f10) = true)
    (a_StayRule_can_stay : PySem.W.findIn K (.ref C_StayRule) "can_stay" = some (some (.ref f11)))
    (i_StayRule_can_stay : PySem.W.isFn K (.ref f11) = true)
    (l11 : K.lookup f11 = some ⟨oc11, od11, .func (PySem.W.fnOf "can_stay" "StayRule.can_stay" (defArgs s_StayRule_can_stay) (defBody s_StayRule_can_stay) (defScope s_StayRule_can_stay) .none kV11 dc11 pm11 an11 cd11 ct11), sl11⟩)
    (c11 : PySem.W.codeIn K cd11 "StayRule.can_stay" = true)
    (k11 : PySem.W.keepIn K (.ref f11) = true)
    (a_StayRule_longest_stay : PySem.W.findIn K (.ref C_StayRule) "longest_stay" = some (some (.ref f12)))
    (i_StayRule_longest_stay : PySem.W.isFn K (.ref f12) = true)
    (l12 : K.lookup f12 = some ⟨oc12, od12, .func (PySem.W.fnOf "longest_stay" "StayRule.longest_stay" (defArgs s_StayRule_longest_stay) (defBody s_StayRule_longest_stay) (defScope s_StayRule_longest_stay) .none kV12 dc12 pm12 an12 cd12 ct12), sl12⟩)
    (c12 : PySem.W.codeIn K cd12 "StayRule.longest_stay" = true)
    (k12 : PySem.W.keepIn K (.ref f12) = true)
    (a_StayRule_longest_up_to : PySem.W.findIn K (.ref C_StayRule) "longest_up_to" = some (some (.ref f13)))
    (i_StayRule_longest_up_to : PySem.W.isFn K (.ref f13) = true)
    (l13 : K.lookup f13 = some ⟨oc13, od13, .func (PySem.W.fnOf "longest_up_to" "StayRule.longest_up_to" (defArgs s_StayRule_longest_up_to) (defBody s_StayRule_longest_up_to) (defScope s_StayRule_longest_up_to) .none kV13 dc13 pm13 an13 cd13 ct13), sl13⟩)
    (c13 : PySem.W.codeIn K cd13 "StayRule.longest_up_to" = true)
    (k13 : PySem.W.keepIn K (.ref f13) = true)
    (a_StayRule_most_days : PySem.W.findIn K (.ref C_StayRule) "most_days" = some (some (.ref f14)))
    (i_StayRule_most_days : PySem.W.isFn K (.ref f14) = true)
    (l14 : K.lookup f14 = some ⟨oc14, od14, .func (PySem.W.fnOf "most_days" "StayRule.most_days" (defArgs s_StayRule_most_days) (defBody s_StayRule_most_days) (defScope s_StayRule_most_days) .none kV14 dc14 pm14 an14 cd14 ct14), sl14⟩)
    (c14 : PySem.W.codeIn K cd14 "StayRule.most_days" = true)
    (k14 : PySem.W.keepIn K (.ref f14) = true)
    (a_StayRule_earliest_days : PySem.W.findIn K (.ref C_StayRule) "earliest_days" = some (some (.ref f15)))
    (i_StayRule_earliest_days : PySem.W.isFn K (.ref f15) = true)
    (l15 : K.lookup f15 = some ⟨oc15, od15, .func (PySem.W.fnOf "earliest_days" "StayRule.earliest_days" (defArgs s_StayRule_earliest_days) (defBody s_StayRule_earliest_days) (defScope s_StayRule_earliest_days) .none kV15 dc15 pm15 an15 cd15 ct15), sl15⟩)
    (c15 : PySem.W.codeIn K cd15 "StayRule.earliest_days" = true)
    (k15 : PySem.W.keepIn K (.ref f15) = true)
    (a_ulaw_taken : PySem.W.nsIn K mainGlobals "_law_taken" = some (some (.ref f16)))
    (l16 : K.lookup f16 = some ⟨oc16, od16, .func (PySem.W.fnOf "_law_taken" "_law_taken" (defArgs s_ulaw_taken) (defBody s_ulaw_taken) (defScope s_ulaw_taken) .none kV16 dc16 pm16 an16 cd16 ct16), sl16⟩)
    (c16 : PySem.W.codeIn K cd16 "_law_taken" = true)
    (k16 : PySem.W.keepIn K (.ref f16) = true)
    (a_ulaw_pick : PySem.W.nsIn K mainGlobals "_law_pick" = some (some (.ref f17)))
    (l17 : K.lookup f17 = some ⟨oc17, od17, .func (PySem.W.fnOf "_law_pick" "_law_pick" (defArgs s_ulaw_pick) (defBody s_ulaw_pick) (defScope s_ulaw_pick) .none kV17 dc17 pm17 an17 cd17 ct17), sl17⟩)
    (c17 : PySem.W.codeIn K cd17 "_law_pick" = true)
    (k17 : PySem.W.keepIn K (.ref f17) = true)
    (a_ulaw_alike : PySem.W.nsIn K mainGlobals "_law_alike" = some (some (.ref f18)))
    (l18 : K.lookup f18 = some ⟨oc18, od18, .func (PySem.W.fnOf "_law_alike" "_law_alike" (defArgs s_ulaw_alike) (defBody s_ulaw_alike) (defScope s_ulaw_alike) .none kV18 dc18 pm18 an18 cd18 ct18), sl18⟩)
    (c18 : PySem.W.codeIn K cd18 "_law_alike" = true)
    (k18 : PySem.W.keepIn K (.ref f18) = true)
    (a_ulaw_mixed : PySem.W.nsIn K mainGlobals "_law_mixed" = some (some (.ref f19)))
    (l19 : K.lookup f19 = some ⟨oc19, od19, .func (PySem.W.fnOf "_law_mixed" "_law_mixed" (defArgs s_ulaw_mixed) (defBody s_ulaw_mixed) (defScope s_ulaw_mixed) .none kV19 dc19 pm19 an19 cd19 ct19), sl19⟩)
    (c19 : PySem.W.codeIn K cd19 "_law_mixed" = true)
    (k19 : PySem.W.keepIn K (.ref f19) = true)
    (a_ulaw_subsets : PySem.W.nsIn K mainGlobals "_law_subsets" = some (some (.ref f20)))
    (l20 : K.lookup f20 = some ⟨oc20, od20, .func (PySem.W.fnOf "_law_subsets" "_law_subsets" (defArgs s_ulaw_subsets) (defBody s_ulaw_subsets) (defScope s_ulaw_subsets) .none kV20 dc20 pm20 an20 cd20 ct20), sl20⟩)
    (c20 : PySem.W.codeIn K cd20 "_law_subsets" = true)
    (k20 : PySem.W.keepIn K (.ref f20) = true)
    (a_ulaw_truth : PySem.W.nsIn K mainGlobals "_law_truth" = some (some (.ref f21)))
    (l21 : K.lookup f21 = some ⟨oc21, od21, .func (PySem.W.fnOf "_law_truth" "_law_truth" (defArgs s_ulaw_truth) (defBody s_ulaw_truth) (defScope s_ulaw_truth) .none kV21 dc21 pm21 an21 cd21 ct21), sl21⟩)
    (c21 : PySem.W.codeIn K cd21 "_law_truth" = true)
    (k21 : PySem.W.keepIn K (.ref f21) = true)
    (a_ulaw_inside : PySem.W.nsIn K mainGlobals "_law_inside" = some (some (.ref f22)))
    (l22 : K.lookup f22 = some ⟨oc22, od22, .func (PySem.W.fnOf "_law_inside" "_law_inside" (defArgs s_ulaw_inside) (defBody s_ulaw_inside) (defScope s_ulaw_inside) .none kV22 dc22 pm22 an22 cd22 ct22), sl22⟩)
    (c22 : PySem.W.codeIn K cd22 "_law_inside" = true)
    (k22 : PySem.W.keepIn K (.ref f22) = true)
    (a_ulaw_lawful : PySem.W.nsIn K mainGlobals "_law_lawful" = some (some (.ref f23)))
    (l23 : K.lookup f23 = some ⟨oc23, od23, .func (PySem.W.fnOf "_law_lawful" "_law_lawful" (defArgs s_ulaw_lawful) (defBody s_ulaw_lawful) (defScope s_ulaw_lawful) .none kV23 dc23 pm23 an23 cd23 ct23), sl23⟩)
    (c23 : PySem.W.codeIn K cd23 "_law_lawful" = true)
    (k23 : PySem.W.keepIn K (.ref f23) = true)
    (a_StayRule_first_entry : PySem.W.findIn K (.ref C_StayRule) "first_entry" = some (some (.ref f24)))
    (i_StayRule_first_entry : PySem.W.isFn K (.ref f24) = true)
    (l24 : K.lookup f24 = some ⟨oc24, od24, .func (PySem.W.fnOf "first_entry" "StayRule.first_entry" (defArgs s_StayRule_first_entry) (defBody s_StayRule_first_entry) (defScope s_StayRule_first_entry) .none kV24 dc24 pm24 an24 cd24 ct24), sl24⟩)
    (c24 : PySem.W.codeIn K cd24 "StayRule.first_entry" = true)
    (k24 : PySem.W.keepIn K (.ref f24) = true)
    (a_ulaw_refused : PySem.W.nsIn K mainGlobals "_law_refused" = some (some (.ref f25)))
    (l25 : K.lookup f25 = some ⟨oc25, od25, .func (PySem.W.fnOf "_law_refused" "_law_refused" (defArgs s_ulaw_refused) (defBody s_ulaw_refused) (defScope s_ulaw_refused) .none kV25 dc25 pm25 an25 cd25 ct25), sl25⟩)
    (c25 : PySem.W.codeIn K cd25 "_law_refused" = true)
    (k25 : PySem.W.keepIn K (.ref f25) = true)
    (a_law : PySem.W.nsIn K mainGlobals "law" = some (some (.ref f26)))
    (l26 : K.lookup f26 = some ⟨oc26, od26, .func (PySem.W.fnOf "law" "law" (defArgs s_law) (defBody s_law) (defScope s_law) .none kV26 dc26 pm26 an26 cd26 ct26), sl26⟩)
    (c26 : PySem.W.codeIn K cd26 "law" = true)
    (k26 : PySem.W.keepIn K (.ref f26) = true)
    (plain : ∀ ns : List Int, ns.length ≤ 63 → ∃ os, f_law [.val (.scr (ns.map D.int))] = .ok (.bl true) os) :
    ∃ fd : FuncData, (∀ (s : Shared) (v : Value), BindsTo s fd ⟨[v], []⟩ [("script", v)]) ∧ ∀ base : Heap, K.In base → base.Ns mainGlobals mg → FnOk l.prog w K mg base (L2.CX l.prog w) 10 fa fd ["script"] (spScript K) := by
  have e := hfa.symm.trans (PySem.W.mg_of X G a_law)
  cases e
  have m_StayRule : mg "StayRule" = some (.ref C_StayRule) := PySem.W.mg_of X G g_StayRule
  have cls_StayRule : Cls K C_StayRule := ⟨pg_StayRule, hd_StayRule, po_StayRule, sa_StayRule⟩
  have ins_StayRule : InsF K C_StayRule := ⟨cls_StayRule, cc_StayRule, hn0, ht0, mo_StayRule⟩
  have m_BadItem : mg "BadItem" = some (.ref C_BadItem) := PySem.W.mg_of X G g_BadItem
  have O_BadItem : OexC K C_BadItem := ⟨⟨_, _, _, _, _, _, _, _, _, _, _, _, _, _, _, x_BadItem, rv_BadItem⟩, sa_BadItem, eC_BadItem, tC_BadItem, kC_BadItem⟩
  have m_BadNumber : mg "BadNumber" = some (.ref C_BadNumber) := PySem.W.mg_of X G g_BadNumber
  have O_BadNumber : OexC K C_BadNumber := ⟨⟨_, _, _, _, _, _, _, _, _, _, _, _, _, _, _, x_BadNumber, rv_BadNumber⟩, sa_BadNumber, eC_BadNumber, tC_BadNumber, kC_BadNumber⟩
  have T_BadItem : ExcT K mg known (caught "BadItem") "BadItem" ["index"] := excT_mk m_BadItem ⟨ga_BadItem, gg_BadItem, eC_BadItem, hd_BadItem⟩ (fun f hf => by
    rcases List.mem_cons.mp hf with rfl | hf
    · exact n_BadItem_index
    cases hf) (fun e he => by
    rcases List.mem_cons.mp he with rfl | he
    · exact ⟨C_BadItem, m_BadItem, ex_BadItem_BadItem⟩
    rcases List.mem_cons.mp he with rfl | he
    · exact ⟨C_BadNumber, m_BadNumber, ex_BadNumber_BadItem⟩
    cases he)
  have T_BadNumber : ExcT K mg known (caught "BadNumber") "BadNumber" ["value"] := excT_mk m_BadNumber ⟨ga_BadNumber, gg_BadNumber, eC_BadNumber, hd_BadNumber⟩ (fun f hf => by
    rcases List.mem_cons.mp hf with rfl | hf
    · exact n_BadNumber_value
    cases hf) (fun e he => by
    rcases List.mem_cons.mp he with rfl | he
    · exact ⟨C_BadItem, m_BadItem, ex_BadItem_BadNumber⟩
    rcases List.mem_cons.mp he with rfl | he
    · exact ⟨C_BadNumber, m_BadNumber, ex_BadNumber_BadNumber⟩
    cases he)
  refine ⟨PySem.W.fnOf "law" "law" (defArgs s_law) (defBody s_law) (defScope s_law) .none kV26 dc26 pm26 an26 cd26 ct26, fun s v => .of_eq rfl, fun base _ _ => ?_⟩
  have E_BadItem : ErrC l.prog w K mg base "BadItem" ["index"] := errC1 m_BadItem O_BadItem i_BadItem tI_BadItem l_BadItem c_BadItem (sup_by (by decide +kernel)) rfl rfl d_BadItem f_BadItem h_BadItem w_BadItem (PySem.W.mg_none_of X G z_super) top0 th s_BadItem v_BadItem r_BadItem n_BadItem_index (by decide) (by decide) (fun us hl => match us, hl with | [_, _], _ => rfl) (fun L => rfl)
  have E_BadNumber : ErrC l.prog w K mg base "BadNumber" ["value"] := errC1 m_BadNumber O_BadNumber i_BadNumber tI_BadNumber l_BadNumber c_BadNumber (sup_by (by decide +kernel)) rfl rfl d_BadNumber f_BadNumber h_BadNumber w_BadNumber (PySem.W.mg_none_of X G z_super) top0 th s_BadNumber v_BadNumber r_BadNumber n_BadNumber_value (by decide) (by decide) (fun us hl => match us, hl with | [_, _], _ => rfl) (fun L => rfl)
  have T : Txt l.prog w K mg base := { c_LAST_DAY := ⟨t_LAST_DAY, PySem.W.mg_of X G v_LAST_DAY⟩, c_MOST_WINDOW := ⟨t_MOST_WINDOW, PySem.W.mg_of X G v_MOST_WINDOW⟩, e_BadItem := E_BadItem, e_BadNumber := E_BadNumber, f_StayRule_most := fld_ok m_StayRule cls_StayRule no_StayRule_most, f_StayRule_window := fld_ok m_StayRule cls_StayRule no_StayRule_window, i_StayRule := ⟨C_StayRule, m_StayRule, ins_StayRule, ks_StayRule⟩, n_bool := PySem.W.mg_none_of X G z_bool, n_enumerate := PySem.W.mg_none_of X G z_enumerate, n_int := PySem.W.mg_none_of X G z_int, n_isinstance := PySem.W.mg_none_of X G z_isinstance, n_len := PySem.W.mg_none_of X G z_len, n_list := PySem.W.mg_none_of X G z_list, n_max := PySem.W.mg_none_of X G z_max, n_min := PySem.W.mg_none_of X G z_min, n_range := PySem.W.mg_none_of X G z_range, n_repr := PySem.W.mg_none_of X G z_repr, n_str := PySem.W.mg_none_of X G z_str, n_sum := PySem.W.mg_none_of X G z_sum, n_tuple := PySem.W.mg_none_of X G z_tuple, x_BadItem := T_BadItem, x_BadNumber := T_BadNumber, ok := trivial }
  have A_is_whole := ok_is_whole T (fun_mk (st := s_is_whole) l0 c0 k0) (PySem.W.mg_of X G a_is_whole)
  have A_is_number := ok_is_number T (fun_mk (st := s_is_number) l1 c1 k1) (PySem.W.mg_of X G a_is_number) A_is_whole
  have A_is_row := ok_is_row T (fun_mk (st := s_is_row) l2 c2 k2) (PySem.W.mg_of X G a_is_row)
  have A_want_number := ok_want_number T (fun_mk (st := s_want_number) l3 c3 k3) (PySem.W.mg_of X G a_want_number) A_is_number
  have A_is_span := ok_is_span T (fun_mk (st := s_is_span) l4 c4 k4) (PySem.W.mg_of X G a_is_span) A_is_row A_is_whole
  have A_want_spans := ok_want_spans T (fun_mk (st := s_want_spans) l5 c5 k5) (PySem.W.mg_of X G a_want_spans) A_is_row A_is_span
  have A_StayRule := ok_StayRule_uuinit__ T (fun_mk (st := s_StayRule_uuinit__) l6 c6 k6) m_StayRule ⟨mk_StayRule, a_StayRule_uuinit__, i_StayRule_uuinit__, kc_StayRule⟩ A_want_number
  have KW_StayRule : MakeKwOk l.prog w K mg base "StayRule" ["most", "window"] 4 f_StayRule_uuinit__ := ⟨C_StayRule, f6, _, ["self", "most", "window"], m_StayRule, ⟨mk_StayRule, a_StayRule_uuinit__, i_StayRule_uuinit__, kc_StayRule⟩, fun_kbn (fun_mk (st := s_StayRule_uuinit__) l6 c6 k6) (fun _ _ _ _ _ _ us ws h1 h2 => match us, ws, h1, h2 with | [_], [_, _], _, _ => rfl), fnk_StayRule_uuinit__ T (fun_mk (st := s_StayRule_uuinit__) l6 c6 k6) A_want_number⟩
  have A_StayRule_uueq__ := ok_StayRule_uueq__ T (fun_mk (st := s_StayRule_uueq__) l7 c7 k7) m_StayRule cls_StayRule ⟨a_StayRule_uueq__, i_StayRule_uueq__, k7⟩
  have Q_StayRule : EqOk l.prog w K mg base "StayRule" 1 f_StayRule_uueq__ := ⟨C_StayRule, f7, _, ["self", "other"], m_StayRule, ins_StayRule, a_StayRule_uueq__, i_StayRule_uueq__, ne_StayRule, nf_StayRule, (fun_mk (st := s_StayRule_uueq__) l7 c7 k7).binds (ps := ["self", "other"]) (fun _ _ _ _ _ _ us hl => match us, hl with | [_, _], _ => rfl), fnk_StayRule_uueq__ T (fun_mk (st := s_StayRule_uueq__) l7 c7 k7)⟩
  have A_StayRule_inside := ok_StayRule_inside T (fun_mk (st := s_StayRule_inside) l8 c8 k8) m_StayRule cls_StayRule ⟨a_StayRule_inside, i_StayRule_inside, k8⟩ A_want_spans
  have A_StayRule_first_over := ok_StayRule_first_over T (fun_mk (st := s_StayRule_first_over) l9 c9 k9) m_StayRule cls_StayRule ⟨a_StayRule_first_over, i_StayRule_first_over, k9⟩ A_want_spans A_StayRule_inside
  have A_StayRule_is_lawful := ok_StayRule_is_lawful T (fun_mk (st := s_StayRule_is_lawful) l10 c10 k10) m_StayRule cls_StayRule ⟨a_StayRule_is_lawful, i_StayRule_is_lawful, k10⟩ A_StayRule_first_over
  have A_StayRule_can_stay := ok_StayRule_can_stay T (fun_mk (st := s_StayRule_can_stay) l11 c11 k11) m_StayRule cls_StayRule ⟨a_StayRule_can_stay, i_StayRule_can_stay, k11⟩ A_want_spans A_StayRule_inside
  have A_StayRule_longest_stay := ok_StayRule_longest_stay T (fun_mk (st := s_StayRule_longest_stay) l12 c12 k12) m_StayRule cls_StayRule ⟨a_StayRule_longest_stay, i_StayRule_longest_stay, k12⟩ A_want_spans A_StayRule_inside
  have A_StayRule_longest_up_to := ok_StayRule_longest_up_to T (fun_mk (st := s_StayRule_longest_up_to) l13 c13 k13) m_StayRule cls_StayRule ⟨a_StayRule_longest_up_to, i_StayRule_longest_up_to, k13⟩ A_StayRule_inside
  have A_StayRule_most_days := ok_StayRule_most_days T (fun_mk (st := s_StayRule_most_days) l14 c14 k14) m_StayRule cls_StayRule ⟨a_StayRule_most_days, i_StayRule_most_days, k14⟩
  have A_StayRule_earliest_days := ok_StayRule_earliest_days T (fun_mk (st := s_StayRule_earliest_days) l15 c15 k15) m_StayRule cls_StayRule ⟨a_StayRule_earliest_days, i_StayRule_earliest_days, k15⟩
  have A_ulaw_taken := ok_ulaw_taken T (fun_mk (st := s_ulaw_taken) l16 c16 k16) (PySem.W.mg_of X G a_ulaw_taken)
  have A_ulaw_pick := ok_ulaw_pick T (fun_mk (st := s_ulaw_pick) l17 c17 k17) (PySem.W.mg_of X G a_ulaw_pick) A_ulaw_taken
  have A_ulaw_alike := ok_ulaw_alike T (fun_mk (st := s_ulaw_alike) l18 c18 k18) (PySem.W.mg_of X G a_ulaw_alike)
  have A_ulaw_mixed := ok_ulaw_mixed T (fun_mk (st := s_ulaw_mixed) l19 c19 k19) (PySem.W.mg_of X G a_ulaw_mixed) A_ulaw_taken
  have A_ulaw_subsets := ok_ulaw_subsets T (fun_mk (st := s_ulaw_subsets) l20 c20 k20) (PySem.W.mg_of X G a_ulaw_subsets)
  have A_ulaw_truth := ok_ulaw_truth T (fun_mk (st := s_ulaw_truth) l21 c21 k21) (PySem.W.mg_of X G a_ulaw_truth)
  have A_ulaw_inside := ok_ulaw_inside T (fun_mk (st := s_ulaw_inside) l22 c22 k22) (PySem.W.mg_of X G a_ulaw_inside)
  have A_ulaw_lawful := ok_ulaw_lawful T (fun_mk (st := s_ulaw_lawful) l23 c23 k23) (PySem.W.mg_of X G a_ulaw_lawful) A_ulaw_inside
  have A_StayRule_first_entry := ok_StayRule_first_entry T (fun_mk (st := s_StayRule_first_entry) l24 c24 k24) m_StayRule cls_StayRule ⟨a_StayRule_first_entry, i_StayRule_first_entry, k24⟩ A_want_spans A_StayRule_longest_up_to
  have A_ulaw_refused := ok_ulaw_refused T (fun_mk (st := s_ulaw_refused) l25 c25 k25) (PySem.W.mg_of X G a_ulaw_refused) A_StayRule_inside A_StayRule_first_over A_StayRule_is_lawful A_StayRule_can_stay A_StayRule_longest_stay A_StayRule_first_entry
  exact (ok_law T (fun_mk (st := s_law) l26 c26 k26) A_ulaw_taken A_StayRule A_ulaw_mixed (A_ulaw_alike 8) KW_StayRule Q_StayRule A_StayRule_inside A_ulaw_inside A_StayRule_first_over A_StayRule_is_lawful A_ulaw_truth A_StayRule_can_stay A_StayRule_longest_stay A_StayRule_first_entry A_ulaw_subsets A_ulaw_lawful A_StayRule_most_days A_StayRule_earliest_days A_ulaw_pick A_ulaw_refused).imp (script_sp plain)
end DL
open PySem PySem.W PyProof.Rows in
set_option maxRecDepth 100000 in
set_option maxHeartbeats 0 in
theorem PySem.Challenge.cw_gateskept_k01_whole_stays_holds : PySem.Challenge.rw_gateskept_k01_whole_stays.Holds := by
  w_on; o_law; k_head; (case hw => w_witness2)
  k_fill
  refine DL.walk_script (l := PySem.Challenge.rw_gateskept_k01_whole_stays) (k := 10) rfl rfl ⟨rfl, by decide, by decide⟩ (fun w h Y => PySem.W.kIn_of Y) ?F
  case F =>
    intro w mg fa h KX G hmg
    replace hmg : mg "law" = some (.ref fa) := hmg
    refine' DL.all_mk KX G hmg ?top0 ?p_g_StayRule ?p_pg_StayRule ?p_hd_StayRule ?p_po_StayRule ?p_sa_StayRule ?p_mk_StayRule ?p_kc_StayRule ?p_cc_StayRule ?p_mo_StayRule ?p_ne_StayRule ?p_nf_StayRule ?p_ks_StayRule ?p_hn0 ?p_ht0 ?p_no_StayRule_most ?p_no_StayRule_window ?p_z_bool ?p_z_enumerate ?p_z_int ?p_z_isinstance ?p_z_len ?p_z_list ?p_z_max ?p_z_min ?p_z_range ?p_z_repr ?p_z_str ?p_z_sum ?p_z_tuple ?p_z_super ?p_th ?p_v_LAST_DAY ?p_v_MOST_WINDOW ?p_g_BadItem ?p_x_BadItem ?p_rv_BadItem ?p_sa_BadItem ?p_eC_BadItem ?p_tC_BadItem ?p_kC_BadItem ?p_i_BadItem ?p_tI_BadItem ?p_l_BadItem ?p_c_BadItem ?p_d_BadItem ?p_f_BadItem ?p_h_BadItem ?p_w_BadItem ?p_s_BadItem ?p_v_BadItem ?p_r_BadItem ?p_n_BadItem_index ?p_ga_BadItem ?p_gg_BadItem ?p_hd_BadItem ?p_g_BadNumber ?p_x_BadNumber ?p_rv_BadNumber ?p_sa_BadNumber ?p_eC_BadNumber ?p_tC_BadNumber ?p_kC_BadNumber ?p_i_BadNumber ?p_tI_BadNumber ?p_l_BadNumber ?p_c_BadNumber ?p_d_BadNumber ?p_f_BadNumber ?p_h_BadNumber ?p_w_BadNumber ?p_s_BadNumber ?p_v_BadNumber ?p_r_BadNumber ?p_n_BadNumber_value ?p_ga_BadNumber ?p_gg_BadNumber ?p_hd_BadNumber ?p_ex_BadItem_BadItem ?p_ex_BadNumber_BadItem ?p_ex_BadItem_BadNumber ?p_ex_BadNumber_BadNumber ?p_a_is_whole ?p_l0 ?p_c0 ?p_k0 ?p_a_is_number ?p_l1 ?p_c1 ?p_k1 ?p_a_is_row ?p_l2 ?p_c2 ?p_k2 ?p_a_want_number ?p_l3 ?p_c3 ?p_k3 ?p_a_is_span ?p_l4 ?p_c4 ?p_k4 ?p_a_want_spans ?p_l5 ?p_c5 ?p_k5 ?p_a_StayRule_uuinit__ ?p_i_StayRule_uuinit__ ?p_l6 ?p_c6 ?p_k6 ?p_a_StayRule_uueq__ ?p_i_StayRule_uueq__ ?p_l7 ?p_c7 ?p_k7 ?p_a_StayRule_inside ?p_i_StayRule_inside ?p_l8 ?p_c8 ?p_k8 ?p_a_StayRule_first_over ?p_i_StayRule_first_over ?p_l9 ?p_c9 ?p_k9 ?p_a_StayRule_is_lawful ?p_i_StayRule_is_lawful ?p_l10 ?p_c10 ?p_k10 ?p_a_StayRule_can_stay ?p_i_StayRule_can_stay ?p_l11 ?p_c11 ?p_k11 ?p_a_StayRule_longest_stay ?p_i_StayRule_longest_stay ?p_l12 ?p_c12 ?p_k12 ?p_a_StayRule_longest_up_to ?p_i_StayRule_longest_up_to ?p_l13 ?p_c13 ?p_k13 ?p_a_StayRule_most_days ?p_i_StayRule_most_days ?p_l14 ?p_c14 ?p_k14 ?p_a_StayRule_earliest_days ?p_i_StayRule_earliest_days ?p_l15 ?p_c15 ?p_k15 ?p_a_ulaw_taken ?p_l16 ?p_c16 ?p_k16 ?p_a_ulaw_pick ?p_l17 ?p_c17 ?p_k17 ?p_a_ulaw_alike ?p_l18 ?p_c18 ?p_k18 ?p_a_ulaw_mixed ?p_l19 ?p_c19 ?p_k19 ?p_a_ulaw_subsets ?p_l20 ?p_c20 ?p_k20 ?p_a_ulaw_truth ?p_l21 ?p_c21 ?p_k21 ?p_a_ulaw_inside ?p_l22 ?p_c22 ?p_k22 ?p_a_ulaw_lawful ?p_l23 ?p_c23 ?p_k23 ?p_a_StayRule_first_entry ?p_i_StayRule_first_entry ?p_l24 ?p_c24 ?p_k24 ?p_a_ulaw_refused ?p_l25 ?p_c25 ?p_k25 ?p_a_law ?p_l26 ?p_c26 ?p_k26 ?plain
    (case top0 => first | rfl | decide +kernel)
    (case p_g_StayRule => k_is)
    (case p_pg_StayRule => k_is)
    (case p_hd_StayRule => k_is)
    (case p_po_StayRule => k_is)
    (case p_sa_StayRule => k_is)
    (case p_mk_StayRule => k_is)
    (case p_kc_StayRule => k_is)
    (case p_cc_StayRule => k_is)
    (case p_mo_StayRule => k_is)
    (case p_ne_StayRule => k_is)
    (case p_nf_StayRule => first | rfl | kernel_rfl | decide +kernel)
    (case p_ks_StayRule => first | rfl | kernel_rfl | decide +kernel)
    (case p_hn0 => k_is)
    (case p_ht0 => k_is)
    (case p_no_StayRule_most => k_is)
    (case p_no_StayRule_window => k_is)
    (case p_z_bool => k_is)
    (case p_z_enumerate => k_is)
    (case p_z_int => k_is)
    (case p_z_isinstance => k_is)
    (case p_z_len => k_is)
    (case p_z_list => k_is)
    (case p_z_max => k_is)
    (case p_z_min => k_is)
    (case p_z_range => k_is)
    (case p_z_repr => k_is)
    (case p_z_str => k_is)
    (case p_z_sum => k_is)
    (case p_z_tuple => k_is)
    (case p_z_super => k_is)
    (case p_th => k_is)
    (case p_v_LAST_DAY => k_is)
    (case p_v_MOST_WINDOW => k_is)
    (case p_g_BadItem => k_is)
    (case p_x_BadItem => k_is)
    (case p_rv_BadItem => first | rfl | decide +kernel)
    (case p_sa_BadItem => k_is)
    (case p_eC_BadItem => k_is)
    (case p_tC_BadItem => k_is)
    (case p_kC_BadItem => k_is)
    (case p_i_BadItem => k_is)
    (case p_tI_BadItem => k_is)
    (case p_l_BadItem => k_is)
    (case p_c_BadItem => k_is)
    (case p_d_BadItem => k_is)
    (case p_f_BadItem => rfl)
    (case p_h_BadItem => first | rfl | decide +kernel)
    (case p_w_BadItem => k_is)
    (case p_s_BadItem => first | ks_is | kernel_rfl | rfl)
    (case p_v_BadItem => k_is)
    (case p_r_BadItem => k_is)
    (case p_n_BadItem_index => k_is)
    (case p_ga_BadItem => k_is)
    (case p_gg_BadItem => k_is)
    (case p_hd_BadItem => k_is)
    (case p_g_BadNumber => k_is)
    (case p_x_BadNumber => k_is)
    (case p_rv_BadNumber => first | rfl | decide +kernel)
    (case p_sa_BadNumber => k_is)
    (case p_eC_BadNumber => k_is)
    (case p_tC_BadNumber => k_is)
    (case p_kC_BadNumber => k_is)
    (case p_i_BadNumber => k_is)
    (case p_tI_BadNumber => k_is)
    (case p_l_BadNumber => k_is)
    (case p_c_BadNumber => k_is)
    (case p_d_BadNumber => k_is)
    (case p_f_BadNumber => rfl)
    (case p_h_BadNumber => first | rfl | decide +kernel)
    (case p_w_BadNumber => k_is)
    (case p_s_BadNumber => first | ks_is | kernel_rfl | rfl)
    (case p_v_BadNumber => k_is)
    (case p_r_BadNumber => k_is)
    (case p_n_BadNumber_value => k_is)
    (case p_ga_BadNumber => k_is)
    (case p_gg_BadNumber => k_is)
    (case p_hd_BadNumber => k_is)
    (case p_ex_BadItem_BadItem => first | k_is | rfl | kernel_rfl)
    (case p_ex_BadNumber_BadItem => first | k_is | rfl | kernel_rfl)
    (case p_ex_BadItem_BadNumber => first | k_is | rfl | kernel_rfl)
    (case p_ex_BadNumber_BadNumber => first | k_is | rfl | kernel_rfl)
    (case p_a_is_whole => k_is)
    (case p_l0 => k_is)
    (case p_c0 => k_is)
    (case p_k0 => k_is)
    (case p_a_is_number => k_is)
    (case p_l1 => k_is)
    (case p_c1 => k_is)
    (case p_k1 => k_is)
    (case p_a_is_row => k_is)
    (case p_l2 => k_is)
    (case p_c2 => k_is)
    (case p_k2 => k_is)
    (case p_a_want_number => k_is)
    (case p_l3 => k_is)
    (case p_c3 => k_is)
    (case p_k3 => k_is)
    (case p_a_is_span => k_is)
    (case p_l4 => k_is)
    (case p_c4 => k_is)
    (case p_k4 => k_is)
    (case p_a_want_spans => k_is)
    (case p_l5 => k_is)
    (case p_c5 => k_is)
    (case p_k5 => k_is)
    (case p_a_StayRule_uuinit__ => k_is)
    (case p_i_StayRule_uuinit__ => k_is)
    (case p_l6 => k_is)
    (case p_c6 => k_is)
    (case p_k6 => k_is)
    (case p_a_StayRule_uueq__ => k_is)
    (case p_i_StayRule_uueq__ => k_is)
    (case p_l7 => k_is)
    (case p_c7 => k_is)
    (case p_k7 => k_is)
    (case p_a_StayRule_inside => k_is)
    (case p_i_StayRule_inside => k_is)
    (case p_l8 => k_is)
    (case p_c8 => k_is)
    (case p_k8 => k_is)
    (case p_a_StayRule_first_over => k_is)
    (case p_i_StayRule_first_over => k_is)
    (case p_l9 => k_is)
    (case p_c9 => k_is)
    (case p_k9 => k_is)
    (case p_a_StayRule_is_lawful => k_is)
    (case p_i_StayRule_is_lawful => k_is)
    (case p_l10 => k_is)
    (case p_c10 => k_is)
    (case p_k10 => k_is)
    (case p_a_StayRule_can_stay => k_is)
    (case p_i_StayRule_can_stay => k_is)
    (case p_l11 => k_is)
    (case p_c11 => k_is)
    (case p_k11 => k_is)
    (case p_a_StayRule_longest_stay => k_is)
    (case p_i_StayRule_longest_stay => k_is)
    (case p_l12 => k_is)
    (case p_c12 => k_is)
    (case p_k12 => k_is)
    (case p_a_StayRule_longest_up_to => k_is)
    (case p_i_StayRule_longest_up_to => k_is)
    (case p_l13 => k_is)
    (case p_c13 => k_is)
    (case p_k13 => k_is)
    (case p_a_StayRule_most_days => k_is)
    (case p_i_StayRule_most_days => k_is)
    (case p_l14 => k_is)
    (case p_c14 => k_is)
    (case p_k14 => k_is)
    (case p_a_StayRule_earliest_days => k_is)
    (case p_i_StayRule_earliest_days => k_is)
    (case p_l15 => k_is)
    (case p_c15 => k_is)
    (case p_k15 => k_is)
    (case p_a_ulaw_taken => k_is)
    (case p_l16 => k_is)
    (case p_c16 => k_is)
    (case p_k16 => k_is)
    (case p_a_ulaw_pick => k_is)
    (case p_l17 => k_is)
    (case p_c17 => k_is)
    (case p_k17 => k_is)
    (case p_a_ulaw_alike => k_is)
    (case p_l18 => k_is)
    (case p_c18 => k_is)
    (case p_k18 => k_is)
    (case p_a_ulaw_mixed => k_is)
    (case p_l19 => k_is)
    (case p_c19 => k_is)
    (case p_k19 => k_is)
    (case p_a_ulaw_subsets => k_is)
    (case p_l20 => k_is)
    (case p_c20 => k_is)
    (case p_k20 => k_is)
    (case p_a_ulaw_truth => k_is)
    (case p_l21 => k_is)
    (case p_c21 => k_is)
    (case p_k21 => k_is)
    (case p_a_ulaw_inside => k_is)
    (case p_l22 => k_is)
    (case p_c22 => k_is)
    (case p_k22 => k_is)
    (case p_a_ulaw_lawful => k_is)
    (case p_l23 => k_is)
    (case p_c23 => k_is)
    (case p_k23 => k_is)
    (case p_a_StayRule_first_entry => k_is)
    (case p_i_StayRule_first_entry => k_is)
    (case p_l24 => k_is)
    (case p_c24 => k_is)
    (case p_k24 => k_is)
    (case p_a_ulaw_refused => k_is)
    (case p_l25 => k_is)
    (case p_c25 => k_is)
    (case p_k25 => k_is)
    (case p_a_law => k_is)
    (case p_l26 => k_is)
    (case p_c26 => k_is)
    (case p_k26 => k_is)
    (case plain => exact DL.law_plain)
