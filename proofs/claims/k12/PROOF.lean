import PyProof.Rows.All
import HandS.ForMost
import HandS.ForExc
import HandS.CallSlots
import HandS.TryMany
import HandS.ExcInit
import HandS.ExcField
import HandS.IsInst
import HandS.Flow
import HandS.ExcCtx
import HandS.SuiteRaise
import HandS.ExcInitHot
import HandS.TupAny
import HandS.TupMul
import HandS.Deep
import HandS.DeepEq
import HandS.NoneIn
import HandS.Sort
import HandS.Zip
import KE.GoesEnum
import HandS.MakeKwOnly
import KE.KExcSuper
import HandS.Style
import HandS.RaiseMore
import HandS.ExcOwn
import HandS.ExcIs
import KE.KExcIs
import HandS.CallLocal
import HandS.FStr
import HandS.HotCalls
import HandS.RaiseFrom
import KE.GoesEnumKw
import HandS.ReplaceLit
import PyProof.StrLawsTight
import PyProof.StrLawsFirst
import HandS.Text
import PyProof.StrCaseBound
import PySem.Challenge.RW_gateskept_k12_whole_notes
set_option Elab.async false
set_option linter.all false
set_option maxRecDepth 100000
set_option maxHeartbeats 4000000
namespace DL
open PySem L2
inductive D where
  | non | bl (b : Bool) | int (i : Int) | str (s : Str)
  | tup (l : List D) | lst (l : List D)
  | obj (c : Str) (ns : List Str) (l : List D)
  | fn (n : Str)
  /-- a list that nobody changes: the script -/
  | scr (l : List D)
/-- an error: its class, its fields -/
structure Ex where
  c : Str
  ns : List Str
  l : List D
/-- what a name of a def holds: nothing; a value; a list of its own; a dict of its own; an instance of its own; a caught error -/
inductive Slot where
  | no | val (d : D) | own (l : List D) | dic (ks vs : List D) | inst (c : Str) (ns : List Str) (l : List D) | ex (e : Ex)
abbrev Ev := List Slot
inductive Out (α : Type) where
  | ok (a : α) (ρ : Ev) | exc (e : Ex) (ρ : Ev) | bad
abbrev M (α : Type) := Ev → Out α
def M.ret {α} (a : α) : M α := fun ρ => .ok a ρ
def M.bnd {α β} (m : M α) (f : α → M β) : M β := fun ρ => match m ρ with
  | .ok a ρ' => f a ρ'
  | .exc e ρ' => .exc e ρ'
  | .bad => .bad
theorem bnd_ok {α β} {m : M α} {f : α → M β} {ρ ρ' : Ev} {a : α} (h : m ρ = .ok a ρ') : M.bnd m f ρ = f a ρ' := by unfold M.bnd; rw [h]
theorem bnd_exc {α β} {m : M α} {f : α → M β} {ρ ρ' : Ev} {e : Ex} (h : m ρ = .exc e ρ') : M.bnd m f ρ = .exc e ρ' := by unfold M.bnd; rw [h]
theorem bnd_bad {α β} {m : M α} {f : α → M β} {ρ : Ev} (h : m ρ = .bad) : M.bnd m f ρ = .bad := by unfold M.bnd; rw [h]
def M.opt {α} : Option α → M α
  | some a => fun ρ => .ok a ρ
  | none => fun _ => .bad
inductive SOut where
  | nx (ρ : Ev) | rt (d : D) (ρ : Ev) | bk (ρ : Ev) | ct (ρ : Ev) | exc (e : Ex) (ρ : Ev) | bad
abbrev S := Ev → SOut
mutual
def Rep (K : PySem.W.Frag) (mg : Str → Option Value) (F : Hp) : D → V → Prop
  | .non, v => v = .non
  | .bl b, v => v = .bl b
  | .int i, v => v = .int i
  | .str s, v => v = .str s
  | .fn n, v => ∃ a, v = .ref a ∧ mg n = some (.ref a)
  | .tup l, v => ∃ a xs, v = .ref a ∧ SqT K F a xs ∧ Reps K mg F l xs
  | .lst l, v => ∃ a xs, v = .ref a ∧ F a = some (.lst xs) ∧ Reps K mg F l xs
  | .scr l, v => ∃ a xs, v = .ref a ∧ SqL K F a xs ∧ Reps K mg F l xs
  | .obj c ns l, v => ∃ a C dx fvs, v = .ref a ∧ mg c = some (.ref C) ∧ F a = some (.ins C dx (ns.zip fvs)) ∧ ns.length = fvs.length ∧ Reps K mg F l fvs
def Reps (K : PySem.W.Frag) (mg : Str → Option Value) (F : Hp) : List D → List V → Prop
  | [], vs => vs = []
  | d :: ds, vs => ∃ v r, vs = v :: r ∧ Rep K mg F d v ∧ Reps K mg F ds r
end
section
variable {K : PySem.W.Frag} {mg : Str → Option Value} {F F' : Hp}
theorem Rd.mono {a : Addr} {u : HO} (s : Same F F') (h : Rd F a u) : Rd F' a u := h.elim (fun h => .inl (s _ _ h)) fun ⟨o, h⟩ => .inr ⟨o, s _ _ h⟩
theorem SqL.mono {a : Addr} {xs : List V} (s : Same F F') (h : SqL K F a xs) : SqL K F' a xs := h.elim (fun h => .inl (Rd.mono s h)) .inr
theorem SqT.mono {a : Addr} {xs : List V} (s : Same F F') (h : SqT K F a xs) : SqT K F' a xs := h.elim (fun h => .inl (Rd.mono s h)) .inr
mutual
theorem Rep.mono (s : Same F F') : ∀ (d : D) (v : V), Rep K mg F d v → Rep K mg F' d v
  | .non, _, h => h
  | .bl _, _, h => h
  | .int _, _, h => h
  | .str _, _, h => h
  | .fn _, _, h => h
  | .tup l, _, ⟨a, xs, e, q, r⟩ => ⟨a, xs, e, SqT.mono s q, Reps.mono s l xs r⟩
  | .lst l, _, ⟨a, xs, e, q, r⟩ => ⟨a, xs, e, s _ _ q, Reps.mono s l xs r⟩
  | .scr l, _, ⟨a, xs, e, q, r⟩ => ⟨a, xs, e, SqL.mono s q, Reps.mono s l xs r⟩
  | .obj _ _ l, _, ⟨a, C, dx, fvs, e, m, q, n, r⟩ => ⟨a, C, dx, fvs, e, m, s _ _ q, n, Reps.mono s l fvs r⟩
theorem Reps.mono (s : Same F F') : ∀ (ds : List D) (vs : List V), Reps K mg F ds vs → Reps K mg F' ds vs
  | [], _, h => h
  | d :: ds, _, ⟨v, r, e, h, t⟩ => ⟨v, r, e, Rep.mono s d v h, Reps.mono s ds r t⟩
end
theorem Reps.nil : Reps K mg F [] [] := rfl
theorem Reps.cons {d : D} {ds : List D} {v : V} {vs : List V} (h : Rep K mg F d v) (t : Reps K mg F ds vs) : Reps K mg F (d :: ds) (v :: vs) := ⟨v, vs, rfl, h, t⟩
theorem Reps.length : ∀ {ds : List D} {vs : List V}, Reps K mg F ds vs → ds.length = vs.length
  | [], _, h => by rw [show _ = [] from h]; rfl
  | d :: ds, _, ⟨v, r, e, h, t⟩ => by subst e; simp [Reps.length t]
theorem Reps.get : ∀ {ds : List D} {vs : List V} {i : Nat} {d : D}, Reps K mg F ds vs → ds[i]? = some d → ∃ v, vs[i]? = some v ∧ Rep K mg F d v
  | [], _, i, d, h, e => by simp at e
  | d' :: ds, _, 0, d, ⟨v, r, e1, h, t⟩, e => by
    subst e1
    simp at e
    subst e
    exact ⟨v, by simp, h⟩
  | d' :: ds, _, i + 1, d, ⟨v, r, e1, h, t⟩, e => by
    subst e1
    obtain ⟨w, h1, h2⟩ := Reps.get (i := i) t (by simpa using e)
    exact ⟨w, by simpa using h1, h2⟩
theorem Reps.getV : ∀ {ds : List D} {vs : List V} {i : Nat} {v : V}, Reps K mg F ds vs → vs[i]? = some v → ∃ d, ds[i]? = some d ∧ Rep K mg F d v := fun {ds vs i v} r e => by
  have hl := r.length
  have hi : i < vs.length := (List.getElem?_eq_some_iff.mp e).1
  have hd : ds[i]? = some ds[i] := by simp [hl, hi]
  obtain ⟨w, h1, h2⟩ := r.get hd
  rw [e] at h1
  cases h1
  exact ⟨_, hd, h2⟩
theorem Reps.append : ∀ {ds es : List D} {vs ws : List V}, Reps K mg F ds vs → Reps K mg F es ws → Reps K mg F (ds ++ es) (vs ++ ws)
  | [], _, _, _, h, t => by rw [show _ = [] from h]; exact t
  | d :: ds, _, _, _, ⟨v, r, e, h, t⟩, u => by subst e; exact ⟨v, _, rfl, h, t.append u⟩
theorem Reps.set : ∀ {ds : List D} {vs : List V} (i : Nat) {d : D} {v : V}, Reps K mg F ds vs → Rep K mg F d v → Reps K mg F (ds.set i d) (vs.set i v)
  | [], _, i, d, v, h, r => by rw [show _ = [] from h]; exact rfl
  | e :: ds, _, 0, d, v, ⟨w, r, e1, h, t⟩, q => by subst e1; exact ⟨v, r, rfl, q, t⟩
  | e :: ds, _, i + 1, d, v, ⟨w, r, e1, h, t⟩, q => by subst e1; exact ⟨w, _, rfl, h, t.set i q⟩
theorem Reps.take : ∀ {ds : List D} {vs : List V} (i : Nat), Reps K mg F ds vs → Reps K mg F (ds.take i) (vs.take i)
  | _, _, 0, _ => rfl
  | [], _, i + 1, h => by rw [show _ = [] from h]; exact rfl
  | e :: ds, _, i + 1, ⟨w, r, e1, h, t⟩ => by subst e1; exact ⟨w, _, rfl, h, t.take i⟩
theorem Reps.drop : ∀ {ds : List D} {vs : List V} (i : Nat), Reps K mg F ds vs → Reps K mg F (ds.drop i) (vs.drop i)
  | _, _, 0, h => h
  | [], _, i + 1, h => by rw [show _ = [] from h]; exact rfl
  | e :: ds, _, i + 1, ⟨w, r, e1, h, t⟩ => by subst e1; exact t.drop i
end
/-- the heap without the objects at A -/
def off (A : List Addr) (H : Hp) : Hp := fun a => if a ∈ A then none else H a
theorem off_same {A : List Addr} {H H' : Hp} (s : ∀ a o, a ∉ A → H a = some o → H' a = some o) : Same (off A H) (off A H') := fun b o h => by
  unfold off at h ⊢
  split at h
  · cases h
  · rename_i hb
    rw [if_neg hb]
    exact s b o hb h
theorem off_Same {A : List Addr} {H H' : Hp} (s : Same H H') : Same (off A H) (off A H') := off_same fun a o _ h => s a o h
theorem off_sub {A B : List Addr} {H : Hp} (s : ∀ a ∈ B, a ∈ A) : Same (off A H) (off B H) := fun b o h => by
  unfold off at h ⊢
  split at h
  · cases h
  · rename_i hb
    rw [if_neg fun z => hb (s b z)]
    exact h
theorem off_le {A : List Addr} {H : Hp} : Same (off A H) H := fun b o h => by
  unfold off at h
  split at h
  · cases h
  · exact h
theorem off_at {A : List Addr} {H : Hp} {a : Addr} {o : HO} (h : H a = some o) (n : a ∉ A) : off A H a = some o := by
  unfold off
  rw [if_neg n]
  exact h
/-- what is fixed while a def runs: the heap at the entry, the objects that callers may change, those that this def may change, where its parameters hold them, how many parameters; the caught error and its dict -/
structure Wd where
  G : Hp
  B : List Addr
  pa : List (Nat × Addr)
  np : Nat
  xx : Addr × Option Addr × Value
/-- the objects that this def may change -/
def Wd.Op (w : Wd) : List Addr := w.pa.map (·.2)
def Slot.isOwn : Slot → Bool
  | .own _ => true
  | .dic _ _ => true
  | .inst _ _ _ => true
  | _ => false
def Slot.has : Slot → Bool
  | .no => false
  | _ => true
def kD : Key → D
  | .inl i => .int i
  | .inr s => .str s
/-- an error, as it lies behind a raise -/
def ExR (K : PySem.W.Frag) (mg : Str → Option Value) (A : List Addr) (H : Hp) (e : Ex) (c : Value) (dd : Option Addr) : Prop :=
  ∃ C, c = .ref C ∧ mg e.c = some (.ref C) ∧ ((e.ns = [] ∧ dd = none) ∨ ∃ d fs, dd = some d ∧ H d = some (.xd fs) ∧ d ∉ A ∧ ∀ (i : Nat) n x, e.ns[i]? = some n → e.l[i]? = some x → ∃ v, fs.lookup n = some v ∧ Rep K mg (off A H) x v)
theorem ExR.to {K : PySem.W.Frag} {mg : Str → Option Value} {A A' : List Addr} {H H' : Hp} {e : Ex} {c : Value} {dd : Option Addr} (sm : Same (off A H) (off A' H')) : ExR K mg A H e c dd → ExR K mg A' H' e c dd := fun ⟨C, e1, e2, z⟩ =>
  ⟨C, e1, e2, z.imp id fun ⟨d, fs, h1, h2, h3, h4⟩ => by
    have q := sm _ _ (off_at h2 h3)
    have q2 : d ∉ A' := fun m => by
      unfold off at q
      rw [if_pos m] at q
      cases q
    exact ⟨d, fs, h1, off_le _ _ q, q2, fun i n x g1 g2 => let ⟨v, r1, r2⟩ := h4 i n x g1 g2; ⟨v, r1, r2.mono sm⟩⟩⟩
def SlotR (K : PySem.W.Frag) (mg : Str → Option Value) (xx : Addr × Option Addr × Value) (A : List Addr) (H : Hp) : Slot → Option V → Prop
  | .no, _ => True
  | .val d, o => ∃ v, o = some v ∧ Rep K mg (off A H) d v
  | .own l, o => ∃ a vs, o = some (.ref a) ∧ a ∈ A ∧ H a = some (.lst vs) ∧ Reps K mg (off A H) l vs
  | .dic ks vs, o => ∃ a kvs, o = some (.ref a) ∧ a ∈ A ∧ H a = some (.dK kvs) ∧ ks = kvs.map (fun p => kD p.1) ∧ Reps K mg (off A H) vs (kvs.map (·.2))
  | .inst c ns l, o => ∃ a C dx fvs, o = some (.ref a) ∧ a ∈ A ∧ mg c = some (.ref C) ∧ H a = some (.ins C dx (ns.zip fvs)) ∧ ns.length = fvs.length ∧ Reps K mg (off A H) l fvs
  | .ex e, o => o = some (.ref xx.1) ∧ ExR K mg A H e xx.2.2 xx.2.1
structure SR (K : PySem.W.Frag) (mg : Str → Option Value) (w : Wd) (A : List Addr) (ρ : Ev) (σ : St) (H : Hp) : Prop where
  len : ρ.length = σ.length
  slots : ∀ (i : Nat) s o, ρ[i]? = some s → σ[i]? = some o → SlotR K mg w.xx A H s o
  dist : ∀ (i j : Nat) s t a, ρ[i]? = some s → ρ[j]? = some t → s.isOwn = true → t.isOwn = true → σ[i]? = some (some (.ref a)) → σ[j]? = some (some (.ref a)) → i = j
  sub : ∀ a ∈ w.B, a ∈ A
  trk : ∀ a ∈ A, H a ≠ none
  frame : ∀ a o, w.G a = some o → a ∉ w.Op → H a = some o
  mine : ∀ (i : Nat) s a, ρ[i]? = some s → s.isOwn = true → σ[i]? = some (some (.ref a)) → a ∈ w.Op ∨ (w.G a = none ∧ a ∉ w.B)
  opB : ∀ a ∈ w.Op, a ∈ w.B
  par : ∀ p ∈ w.pa, p.1 < w.np ∧ σ[p.1]? = some (some (.ref p.2)) ∧ ∃ s, ρ[p.1]? = some s ∧ s.isOwn = true
section
variable {K : PySem.W.Frag} {mg : Str → Option Value} {w : Wd} {A : List Addr} {ρ : Ev} {σ : St} {H H' : Hp}
theorem SlotR.same {xx : Addr × Option Addr × Value} (sm : Same H H') : ∀ {s : Slot} {o : Option V}, SlotR K mg xx A H s o → SlotR K mg xx A H' s o
  | .no, _, _ => trivial
  | .val d, _, ⟨v, e, r⟩ => ⟨v, e, r.mono (off_Same sm)⟩
  | .own l, _, ⟨a, vs, e, m, h, r⟩ => ⟨a, vs, e, m, sm _ _ h, r.mono (off_Same sm)⟩
  | .dic _ _, _, ⟨a, kvs, e, m, h, k, r⟩ => ⟨a, kvs, e, m, sm _ _ h, k, r.mono (off_Same sm)⟩
  | .inst _ _ _, _, ⟨a, C, dx, fvs, e, m, c, h, n, r⟩ => ⟨a, C, dx, fvs, e, m, c, sm _ _ h, n, r.mono (off_Same sm)⟩
  | .ex _, _, ⟨e, r⟩ => ⟨e, r.to (off_Same sm)⟩
theorem SR.same (sm : Same H H') (R : SR K mg w A ρ σ H) : SR K mg w A ρ σ H' :=
  { len := R.len, slots := fun i s o h1 h2 => (R.slots i s o h1 h2).same sm, dist := R.dist, sub := R.sub, mine := R.mine, opB := R.opB, par := R.par
    frame := fun a o h n => sm _ _ (R.frame a o h n)
    trk := fun a ha z => by
      cases e : H a with
      | none => exact R.trk a ha e
      | some o => rw [sm _ _ e] at z; cases z }
theorem same_upd {a : Addr} {o : HO} (n : H a = none) : Same H (upd H a o) := fun b u h => by rw [upd_ne (ne_of_none h n)]; exact h
theorem SR.new {a : Addr} {o : HO} (R : SR K mg w A ρ σ H) (n : H a = none) : SR K mg w A ρ σ (upd H a o) := R.same (same_upd n)
theorem SR.notA {a : Addr} (R : SR K mg w A ρ σ H) (n : H a = none) : a ∉ A := fun z => R.trk a z n
/-- a slot's value -/
theorem SR.val {i : Nat} {d : D} (R : SR K mg w A ρ σ H) (h : ρ[i]? = some (.val d)) : ∃ v, σ[i]? = some (some v) ∧ Rep K mg (off A H) d v := by
  have hi : i < σ.length := by rw [← R.len]; exact (List.getElem?_eq_some_iff.mp h).1
  have e : σ[i]? = some σ[i] := by simp [hi]
  obtain ⟨v, e1, r⟩ := R.slots i _ _ h e
  rw [e1] at e
  exact ⟨v, e, r⟩
theorem SR.at' {i : Nat} {s : Slot} (R : SR K mg w A ρ σ H) (h : ρ[i]? = some s) : ∃ o, σ[i]? = some o ∧ SlotR K mg w.xx A H s o := by
  have hi : i < σ.length := by rw [← R.len]; exact (List.getElem?_eq_some_iff.mp h).1
  have e : σ[i]? = some σ[i] := by simp [hi]
  exact ⟨_, e, R.slots i _ _ h e⟩
end
theorem SlotR.exi {K : PySem.W.Frag} {mg : Str → Option Value} {xx : Addr × Option Addr × Value} {A : List Addr} {H : Hp} : ∀ {s : Slot} {o : Option V}, SlotR K mg xx A H s o → s.has = true → ∃ v, o = some v
  | .no, _, _, h => by cases h
  | .val _, _, ⟨v, e, _⟩, _ => ⟨v, e⟩
  | .own _, _, ⟨_, _, e, _⟩, _ => ⟨_, e⟩
  | .dic _ _, _, ⟨_, _, e, _⟩, _ => ⟨_, e⟩
  | .inst _ _ _, _, ⟨_, _, _, _, e, _⟩, _ => ⟨_, e⟩
  | .ex _, _, ⟨e, _⟩, _ => ⟨_, e⟩
theorem SR.has {K : PySem.W.Frag} {mg : Str → Option Value} {w : Wd} {A : List Addr} {ρ : Ev} {σ : St} {H : Hp} {i : Nat} {s : Slot} (R : SR K mg w A ρ σ H) (h : ρ[i]? = some s) (hh : s.has = true) : ∃ v, σ[i]? = some (some v) := by
  obtain ⟨o, e, r⟩ := R.at' h
  obtain ⟨v, e1⟩ := r.exi hh
  exact ⟨v, e1 ▸ e⟩
/-- what is wished for of an exception; in an except suite: which error is caught -/
structure WZ where
  x : WX
  Z : Wd → Prop
  /-- what is let out may have a context -/
  hot : Bool
instance : CoeFun WZ fun _ => Value → Option Addr → St → Hp → Prop := ⟨WZ.x⟩
abbrev WS (W : WZ) := { w : Wd // W.Z w }
theorem takesN0 {X : Cx} : L2N.Takes X (fun _ _ _ _ => False) := fun u s' x => by
  obtain ⟨_, _, _, _, _, _, _, _, _, _, _, _, _, _, _, _, z⟩ := x
  exact z.elim
structure TakesZ (X : Cx) (W : WZ) : Prop where
  t : L2N.Takes X W.x
  c : W.hot = true → L2.Takes X W.x
  z : X.calm = false → ∀ w, W.Z w → ∃ oe, X.pn.head? = some (w.xx.1, oe) ∧ oe.cls = w.xx.2.2 ∧ oe.dict = w.xx.2.1
def Ext (A : List Addr) (H H' : Hp) : Prop := ∀ a o, a ∉ A → H a = some o → H' a = some o
theorem Ext.refl {A : List Addr} {H : Hp} : Ext A H H := fun _ _ _ h => h
theorem Ext.trans {A : List Addr} {H H1 H2 : Hp} (a : Ext A H H1) (b : Ext A H1 H2) : Ext A H H2 := fun c o n h => b c o n (a c o n h)
theorem Ext.of {A : List Addr} {H H' : Hp} (s : Same H H') : Ext A H H' := fun a o _ h => s a o h
theorem Ext.off {A : List Addr} {H H' : Hp} (s : Ext A H H') : Same (off A H) (off A H') := off_same s
def tE (K : PySem.W.Frag) (mg : Str → Option Value) (W : WZ) (m : M D) : TE := fun σ H Q => ∃ (w : WS W) (A : List Addr) (ρ : Ev), SR K mg w.1 A ρ σ H ∧ match m ρ with
  | .ok d ρ' => ∀ v H', Ext A H H' → SR K mg w.1 A ρ' σ H' → Rep K mg (off A H') d v → Q v H'
  | .exc e ρ' => ∀ c dd H', Ext A H H' → SR K mg w.1 A ρ' σ H' → ExR K mg A H' e c dd → W c dd σ H'
  | .bad => False
def tT (K : PySem.W.Frag) (mg : Str → Option Value) (W : WZ) (m : M Bool) : TT := fun σ H Q => ∃ (w : WS W) (A : List Addr) (ρ : Ev), SR K mg w.1 A ρ σ H ∧ match m ρ with
  | .ok b ρ' => ∀ H', Ext A H H' → SR K mg w.1 A ρ' σ H' → Q b H'
  | .exc e ρ' => ∀ c dd H', Ext A H H' → SR K mg w.1 A ρ' σ H' → ExR K mg A H' e c dd → W c dd σ H'
  | .bad => False
/-- an argument: a value, or the name of a thing of one's own -/
inductive AV where
  | d (d : D) | o (i : Nat)
inductive Arg where
  | v (m : M D) | o (i : Nat)
def Arg.ev : Arg → M AV
  | .v m => M.bnd m fun d => M.ret (.d d)
  | .o i => fun ρ => match ρ[i]? with
    | some s => if s.has then .ok (.o i) ρ else .bad
    | none => .bad
def evs : List Arg → M (List AV)
  | [] => M.ret []
  | a :: r => M.bnd a.ev fun x => M.bnd (evs r) fun xs => M.ret (x :: xs)
def AVR (K : PySem.W.Frag) (mg : Str → Option Value) (A : List Addr) (σ : St) (H : Hp) : AV → V → Prop
  | .d d, v => Rep K mg (off A H) d v
  | .o i, v => σ[i]? = some (some v)
def AVRs (K : PySem.W.Frag) (mg : Str → Option Value) (A : List Addr) (σ : St) (H : Hp) : List AV → List V → Prop
  | [], vs => vs = []
  | a :: as, vs => ∃ v r, vs = v :: r ∧ AVR K mg A σ H a v ∧ AVRs K mg A σ H as r
theorem AVR.ext {K : PySem.W.Frag} {mg : Str → Option Value} {A : List Addr} {σ : St} {H H' : Hp} (s : Ext A H H') : ∀ {a : AV} {v : V}, AVR K mg A σ H a v → AVR K mg A σ H' a v
  | .d d, v, h => Rep.mono s.off d v h
  | .o _, _, h => h
def tO (K : PySem.W.Frag) (mg : Str → Option Value) (W : WZ) (a : Arg) : TE := fun σ H Q => ∃ (w : WS W) (A : List Addr) (ρ : Ev), SR K mg w.1 A ρ σ H ∧ match a.ev ρ with
  | .ok x ρ' => ∀ v H', Ext A H H' → SR K mg w.1 A ρ' σ H' → AVR K mg A σ H' x v → Q v H'
  | .exc e ρ' => ∀ c dd H', Ext A H H' → SR K mg w.1 A ρ' σ H' → ExR K mg A H' e c dd → W c dd σ H'
  | .bad => False
def tA (K : PySem.W.Frag) (mg : Str → Option Value) (W : WZ) (as : List Arg) : TA := fun σ H Q => ∃ (w : WS W) (A : List Addr) (ρ : Ev), SR K mg w.1 A ρ σ H ∧ match evs as ρ with
  | .ok xs ρ' => ∀ vs H', Ext A H H' → SR K mg w.1 A ρ' σ H' → AVRs K mg A σ H' xs vs → Q vs H'
  | .exc e ρ' => ∀ c dd H', Ext A H H' → SR K mg w.1 A ρ' σ H' → ExR K mg A H' e c dd → W c dd σ H'
  | .bad => False
def tS (K : PySem.W.Frag) (mg : Str → Option Value) (np : Nat) (W : WZ) (m : S) : TS := fun E σ H => ∃ (w : WS W) (A : List Addr) (ρ : Ev), w.1.np = np ∧ SR K mg w.1 A ρ σ H ∧ match m ρ with
  | .nx ρ' => ∀ A' σ' H', Same (off A H) (off A' H') → SR K mg w.1 A' ρ' σ' H' → E.nx σ' H'
  | .rt d ρ' => ∀ A' σ' H' v, SR K mg w.1 A' ρ' σ' H' → Rep K mg (off A' H') d v → E.rt v H'
  | .bk ρ' => ∀ A' σ' H', Same (off A H) (off A' H') → SR K mg w.1 A' ρ' σ' H' → E.bk σ' H'
  | .ct ρ' => ∀ A' σ' H', Same (off A H) (off A' H') → SR K mg w.1 A' ρ' σ' H' → E.ct σ' H'
  | .exc e ρ' => ∀ A' σ' H' c dd, Same (off A H) (off A' H') → SR K mg w.1 A' ρ' σ' H' → ExR K mg A' H' e c dd → W c dd σ' H'
  | .bad => False
def DE (X : Cx) (e : Expr) (m : M D) : Prop := ∀ W : WZ, TakesZ X W → PE X e (tE X.K X.mg W m)
def DT (X : Cx) (e : Expr) (m : M Bool) : Prop := ∀ W : WZ, TakesZ X W → PT X e (tT X.K X.mg W m)
def DW (X : Cx) (e : Expr) (m : M Bool) : Prop := ∀ W : WZ, TakesZ X W → PW X e (tT X.K X.mg W m)
def DO (X : Cx) (e : Expr) (a : Arg) : Prop := ∀ W : WZ, TakesZ X W → PE X e (tO X.K X.mg W a)
def DA (X : Cx) (es : List Expr) (as : List Arg) : Prop := ∀ W : WZ, TakesZ X W → PA X es (tA X.K X.mg W as)
def DS (X : Cx) (np : Nat) (st : Stmt) (m : S) : Prop := ∀ W : WZ, TakesZ X W → PS X st (tS X.K X.mg np W m)
def DSs (X : Cx) (np : Nat) (st : List Stmt) (m : S) : Prop := ∀ W : WZ, TakesZ X W → PSs X st (tS X.K X.mg np W m)
section
variable {X : Cx} {e : Expr}
theorem pe_imp {t t' : TE} (h : PE X e t) (q : ∀ σ H Q, t' σ H Q → t σ H Q) : PE X e t' := ⟨fun pins s σ H Q I hw => h.run pins s σ H Q I (q σ H Q hw)⟩
theorem pt_imp {t t' : TT} (h : PT X e t) (q : ∀ σ H Q, t' σ H Q → t σ H Q) : PT X e t' := ⟨fun pins s σ H Q I hw => h.run pins s σ H Q I (q σ H Q hw)⟩
theorem pw_imp {t t' : TT} (h : PW X e t) (q : ∀ σ H Q, t' σ H Q → t σ H Q) : PW X e t' := ⟨fun wh pins s σ H Q I hw => h.run wh pins s σ H Q I (q σ H Q hw)⟩
theorem pa_imp {es : List Expr} {t t' : TA} (h : PA X es t) (q : ∀ σ H Q, t' σ H Q → t σ H Q) : PA X es t' := ⟨fun pos pins s σ H Q I hw => h.run pos pins s σ H Q I (q σ H Q hw)⟩
theorem ps_imp {st : Stmt} {t t' : TS} (h : PS X st t) (q : ∀ E σ H, t' E σ H → t E σ H) : PS X st t' := ⟨fun pins s σ H E I hw => h.run pins s σ H E I (q E σ H hw)⟩
theorem pss_imp {st : List Stmt} {t t' : TS} (h : PSs X st t) (q : ∀ E σ H, t' E σ H → t E σ H) : PSs X st t' := ⟨fun pins s σ H E I hw => h.run pins s σ H E I (q E σ H hw)⟩
end
end DL
namespace DL
open PySem L2
def Rep1 (K : PySem.W.Frag) (mg : Str → Option Value) (A : List Addr) (H : Hp) : D → V → Prop
  | .lst l, v => ∃ a xs, v = .ref a ∧ H a = some (.lst xs) ∧ Reps K mg (off A H) l xs
  | .obj c ns l, v => ∃ a C dx fvs, v = .ref a ∧ mg c = some (.ref C) ∧ H a = some (.ins C dx (ns.zip fvs)) ∧ ns.length = fvs.length ∧ Reps K mg (off A H) l fvs
  | d, v => Rep K mg (off A H) d v
section
variable {K : PySem.W.Frag} {mg : Str → Option Value} {w : Wd} {A : List Addr} {ρ ρ' : Ev} {σ : St} {H H' : Hp}
theorem Rep1.of : ∀ {d : D} {v : V}, Rep K mg (off A H) d v → Rep1 K mg A H d v
  | .lst l, _, ⟨a, xs, e, q, r⟩ => ⟨a, xs, e, off_le _ _ q, r⟩
  | .obj _ _ l, _, ⟨a, C, dx, fvs, e, m, q, n, r⟩ => ⟨a, C, dx, fvs, e, m, off_le _ _ q, n, r⟩
  | .non, _, h => h
  | .bl _, _, h => h
  | .int _, _, h => h
  | .str _, _, h => h
  | .fn _, _, h => h
  | .tup _, _, h => h
  | .scr _, _, h => h
def Slot.rd : Slot → Option D
  | .val d => some d
  | .own l => some (.lst l)
  | .inst c ns l => some (.obj c ns l)
  | _ => none
def rs : AV → Ev → Option D
  | .d d, _ => some d
  | .o i, ρ => (ρ[i]?).bind Slot.rd
def rss : List AV → Ev → Option (List D)
  | [], _ => some []
  | a :: as, ρ => (rs a ρ).bind fun d => (rss as ρ).map fun ds => d :: ds
inductive Reps1 (K : PySem.W.Frag) (mg : Str → Option Value) (A : List Addr) (H : Hp) : List D → List V → Prop
  | nil : Reps1 K mg A H [] []
  | cons {d v ds vs} : Rep1 K mg A H d v → Reps1 K mg A H ds vs → Reps1 K mg A H (d :: ds) (v :: vs)
theorem rs_rep (R : SR K mg w A ρ σ H) {x : AV} {v : V} {d : D} (h : AVR K mg A σ H x v) (e : rs x ρ = some d) : Rep1 K mg A H d v := by
  cases x with
  | d d' =>
    cases (Option.some.inj e)
    exact Rep1.of h
  | o i =>
    obtain ⟨s, hs, e⟩ := Option.bind_eq_some_iff.mp e
    obtain ⟨o, ho, r⟩ := R.at' hs
    have h' : σ[i]? = some (some v) := h
    rw [h'] at ho
    cases ho
    cases s with
    | val d' =>
      cases (Option.some.inj e)
      obtain ⟨v', e', r⟩ := r
      cases e'
      exact Rep1.of r
    | own l =>
      cases (Option.some.inj e)
      obtain ⟨a, vs, e', m, hh, r⟩ := r
      cases e'
      exact ⟨a, vs, rfl, hh, r⟩
    | inst c ns l =>
      cases (Option.some.inj e)
      obtain ⟨a, C, dx, fvs, e', m, c, hh, n, r⟩ := r
      cases e'
      exact ⟨a, C, dx, fvs, rfl, c, hh, n, r⟩
    | no => cases e
    | dic _ _ => cases e
    | ex _ => cases e
theorem rss_rep (R : SR K mg w A ρ σ H) : ∀ {xs : List AV} {vs : List V} {ds : List D}, AVRs K mg A σ H xs vs → rss xs ρ = some ds → Reps1 K mg A H ds vs
  | [], vs, ds, h, e => by
    rw [show vs = [] from h]
    cases (Option.some.inj e)
    exact .nil
  | x :: xs, vs, ds, ⟨v, r, e1, h, t⟩, e => by
    subst e1
    obtain ⟨d, hd, e⟩ := Option.bind_eq_some_iff.mp e
    obtain ⟨ds', hds, e⟩ := Option.map_eq_some_iff.mp e
    subst e
    exact .cons (rs_rep R h hd) (rss_rep R t hds)
end
def op1 (f : D → Option D) (a : Arg) : M D := M.bnd a.ev fun x ρ => match (rs x ρ).bind f with
  | some r => .ok r ρ
  | none => .bad
def op2 (f : D → D → Option D) (a b : Arg) : M D := M.bnd a.ev fun x => M.bnd b.ev fun y ρ => match (rs x ρ).bind fun p => (rs y ρ).bind fun q => f p q with
  | some r => .ok r ρ
  | none => .bad
def opN (f : List D → Option D) (as : List Arg) : M D := M.bnd (evs as) fun xs ρ => match (rss xs ρ).bind f with
  | some r => .ok r ρ
  | none => .bad
def Trk (A : List Addr) (H : Hp) : Prop := ∀ a ∈ A, H a ≠ none
/-- the reading r of values is served by the function f of data -/
def Snd1 (K : PySem.W.Frag) (mg : Str → Option Value) (r : V → Hp → VK → Prop) (f : D → Option D) : Prop :=
  ∀ (A : List Addr) (H : Hp) (x d : D) (v : V) (Q : VK), Trk A H → Rep1 K mg A H x v → f x = some d → (∀ v' H', Same H H' → Rep K mg (off A H') d v' → Q v' H') → r v H Q
def Snd2 (K : PySem.W.Frag) (mg : Str → Option Value) (r : R2) (f : D → D → Option D) : Prop :=
  ∀ (A : List Addr) (H : Hp) (x y d : D) (v u : V) (Q : VK), Trk A H → Rep1 K mg A H x v → Rep1 K mg A H y u → f x y = some d → (∀ v' H', Same H H' → Rep K mg (off A H') d v' → Q v' H') → r v u H Q
def SndN (K : PySem.W.Frag) (mg : Str → Option Value) (r : List V → Hp → VK → Prop) (f : List D → Option D) : Prop :=
  ∀ (A : List Addr) (H : Hp) (xs : List D) (d : D) (vs : List V) (Q : VK), Trk A H → Reps1 K mg A H xs vs → f xs = some d → (∀ v' H', Same H H' → Rep K mg (off A H') d v' → Q v' H') → r vs H Q
section
variable {X : Cx} {e a b : Expr} {es : List Expr} {x y : Arg} {as : List Arg} {pos : Pos}
def var (i : Nat) : M D := fun ρ => match ρ[i]? with
  | some (.val d) => .ok d ρ
  | _ => .bad
theorem de_ret {d : D} {v : V} (h : PE X e (tC v)) (r : ∀ F, Rep X.K X.mg F d v) : DE X e (M.ret d) := fun W _ => pe_imp h fun σ H Q ⟨w, A, ρ, R, q⟩ => q _ H Ext.refl R (r _)
theorem de_int {i : Int} {j} : DE X (.Constant (.int i) j pos) (M.ret (.int i)) := de_ret pe_int fun _ => rfl
theorem de_bl {i : Bool} {j} : DE X (.Constant (.bool i) j pos) (M.ret (.bl i)) := de_ret pe_bl fun _ => rfl
theorem de_non {j} : DE X (.Constant .none j pos) (M.ret .non) := de_ret pe_non fun _ => rfl
theorem de_str {i : Str} {j} : DE X (.Constant (.str i) j pos) (M.ret (.str i)) := de_ret pe_str fun _ => rfl
theorem de_var {i : Nat} (h : PE X e (tVar i)) : DE X e (var i) := fun W _ => pe_imp h fun σ H Q ⟨w, A, ρ, R, q⟩ => by
  unfold var at q
  cases hs : ρ[i]? with
  | none => rw [hs] at q; exact q.elim
  | some s =>
    rw [hs] at q
    cases s with
    | val d =>
      obtain ⟨v, e1, r⟩ := R.val hs
      exact ⟨v, e1, q v H Ext.refl R r⟩
    | _ => exact q.elim
theorem do_v {m : M D} (h : DE X e m) : DO X e (.v m) := fun W tk => pe_imp (h W tk) fun σ H Q ⟨w, A, ρ, R, q⟩ => by
  refine ⟨w, A, ρ, R, ?_⟩
  have e0 : (Arg.v m).ev ρ = M.bnd m (fun d => M.ret (AV.d d)) ρ := rfl
  rw [e0] at q
  cases hm : m ρ with
  | ok d ρ' => rw [bnd_ok hm] at q; exact fun v H' ex R' r => q v H' ex R' r
  | exc e ρ' => rw [bnd_exc hm] at q; exact q
  | bad => rw [bnd_bad hm] at q; exact q
/-- the name of a thing (own or a value), only looked at -/
theorem do_o {i : Nat} (h : PE X e (tVar i)) : DO X e (.o i) := fun W _ => pe_imp h fun σ H Q ⟨w, A, ρ, R, q⟩ => by
  unfold Arg.ev at q
  dsimp only at q
  cases hs : ρ[i]? with
  | none => rw [hs] at q; exact q.elim
  | some s =>
    rw [hs] at q
    by_cases hh : s.has = true
    · obtain ⟨v, hv⟩ := R.has hs hh
      simp only [hh, if_true] at q
      exact ⟨v, hv, q v H Ext.refl R hv⟩
    · simp only [hh, if_false] at q
      exact q.elim
theorem da_nil : DA X [] [] := fun W _ => pa_imp pa_nil fun σ H Q ⟨w, A, ρ, R, q⟩ => q [] H Ext.refl R rfl
theorem da_cons (h : DO X e x) (t : DA X es as) (hs : starEach (e :: es) X.env = (false, eval e X.env) :: starEach es X.env := by rfl) : DA X (e :: es) (x :: as) := fun W tk => pa_imp (pa_cons (h W tk) (t W tk) hs) fun σ H Q ⟨w, A, ρ, R, q⟩ => by
  refine ⟨w, A, ρ, R, ?_⟩
  have e0 : evs (x :: as) ρ = M.bnd x.ev (fun v => M.bnd (evs as) fun vs => M.ret (v :: vs)) ρ := rfl
  rw [e0] at q
  cases hx : x.ev ρ with
  | exc e ρ1 => rw [bnd_exc hx] at q; exact q
  | bad => rw [bnd_bad hx] at q; exact q
  | ok v ρ1 =>
    rw [bnd_ok hx] at q
    intro vv H1 ex1 R1 r1
    refine ⟨w, A, ρ1, R1, ?_⟩
    cases hr : evs as ρ1 with
    | exc e ρ2 => rw [bnd_exc hr] at q; exact fun c dd H2 ex2 R2 z => q c dd H2 (ex1.trans ex2) R2 z
    | bad => rw [bnd_bad hr] at q; exact q
    | ok vs ρ2 => rw [bnd_ok hr] at q; exact fun us H2 ex2 R2 r2 => q _ H2 (ex1.trans ex2) R2 ⟨_, _, rfl, r1.ext ex2, r2⟩
theorem op_end {w : Wd} {A : List Addr} {ρ : Ev} {σ : St} {H H1 : Hp} {Q : VK} {d : D} (R1 : SR X.K X.mg w A ρ σ H1) (ex : Ext A H H1)
    (q : ∀ v H', Ext A H H' → SR X.K X.mg w A ρ σ H' → Rep X.K X.mg (off A H') d v → Q v H') : ∀ v' H', Same H1 H' → Rep X.K X.mg (off A H') d v' → Q v' H' :=
  fun v' H' s r => q v' H' (ex.trans (.of s)) (R1.same s) r
/-- an operation on two values -/
theorem de_two {r : R2} {f : D → D → Option D} {e : Expr} (hp : ∀ ta tb : TE, PE X a ta → PE X b tb → PE X e (tOp r ta tb)) (hs : Snd2 X.K X.mg r f) (ha : DO X a x) (hb : DO X b y) : DE X e (op2 f x y) := fun W tk =>
  pe_imp (hp _ _ (ha W tk) (hb W tk)) fun σ H Q ⟨w, A, ρ, R, q⟩ => by
    refine ⟨w, A, ρ, R, ?_⟩
    unfold op2 at q
    cases hx : x.ev ρ with
    | exc e ρ1 => rw [bnd_exc hx] at q; exact q
    | bad => rw [bnd_bad hx] at q; exact q
    | ok v ρ1 =>
      rw [bnd_ok hx] at q
      intro vv H1 ex1 R1 r1
      refine ⟨w, A, ρ1, R1, ?_⟩
      cases hy : y.ev ρ1 with
      | exc e ρ2 => rw [bnd_exc hy] at q; exact fun c dd H2 ex2 R2 z => q c dd H2 (ex1.trans ex2) R2 z
      | bad => rw [bnd_bad hy] at q; exact q
      | ok u ρ2 =>
        rw [bnd_ok hy] at q
        intro uu H2 ex2 R2 r2
        cases hd : (rs v ρ2).bind fun p => (rs u ρ2).bind fun q => f p q with
        | none => rw [hd] at q; exact q.elim
        | some d =>
          rw [hd] at q
          obtain ⟨p, hp, hd⟩ := Option.bind_eq_some_iff.mp hd
          obtain ⟨p', hp', hd⟩ := Option.bind_eq_some_iff.mp hd
          exact hs A H2 p p' d vv uu Q R2.trk (rs_rep R2 (r1.ext ex2) hp) (rs_rep R2 r2 hp') hd (op_end R2 (ex1.trans ex2) q)
theorem de_one {r : V → Hp → VK → Prop} {f : D → Option D} {e : Expr} (hp : ∀ ta : TE, PE X a ta → PE X e (tUn r ta)) (hs : Snd1 X.K X.mg r f) (ha : DO X a x) : DE X e (op1 f x) := fun W tk =>
  pe_imp (hp _ (ha W tk)) fun σ H Q ⟨w, A, ρ, R, q⟩ => by
    refine ⟨w, A, ρ, R, ?_⟩
    unfold op1 at q
    cases hx : x.ev ρ with
    | exc e ρ1 => rw [bnd_exc hx] at q; exact q
    | bad => rw [bnd_bad hx] at q; exact q
    | ok v ρ1 =>
      rw [bnd_ok hx] at q
      intro vv H1 ex1 R1 r1
      cases hd : (rs v ρ1).bind f with
      | none => rw [hd] at q; exact q.elim
      | some d =>
        rw [hd] at q
        obtain ⟨p, hp, hd⟩ := Option.bind_eq_some_iff.mp hd
        exact hs A H1 p d vv Q R1.trk (rs_rep R1 r1 hp) hd (op_end R1 ex1 q)
theorem de_many {r : List V → Hp → VK → Prop} {f : List D → Option D} {e : Expr} (hp : ∀ t : TA, PA X es t → PE X e (tCB r t)) (hs : SndN X.K X.mg r f) (ha : DA X es as) : DE X e (opN f as) := fun W tk =>
  pe_imp (hp _ (ha W tk)) fun σ H Q ⟨w, A, ρ, R, q⟩ => by
    refine ⟨w, A, ρ, R, ?_⟩
    unfold opN at q
    cases hx : evs as ρ with
    | exc e ρ1 => rw [bnd_exc hx] at q; exact q
    | bad => rw [bnd_bad hx] at q; exact q
    | ok v ρ1 =>
      rw [bnd_ok hx] at q
      intro vv H1 ex1 R1 r1
      cases hd : (rss v ρ1).bind f with
      | none => rw [hd] at q; exact q.elim
      | some d =>
        rw [hd] at q
        obtain ⟨p, hp, hd⟩ := Option.bind_eq_some_iff.mp hd
        exact hs A H1 p d vv Q R1.trk (rss_rep R1 r1 hp) hd (op_end R1 ex1 q)
end
end DL
namespace DL
open PySem L2
theorem OpR.or {X : Cx} {f : Value → Value → Sem Value} {r r' : R2} (h : OpR X f r) (h' : OpR X f r') : OpR X f (fun x y H Q => r x y H Q ∨ r' x y H Q) :=
  fun pins s σ H x y v u Q I rx ry q => q.elim (h pins s σ H x y v u Q I rx ry) (h' pins s σ H x y v u Q I rx ry)
theorem ite_some {α : Type} {c : Prop} [Decidable c] {a d : α} (h : (if c then some a else none) = some d) : c ∧ a = d := by
  by_cases hc : c
  · rw [if_pos hc] at h; exact ⟨hc, Option.some.inj h⟩
  · rw [if_neg hc] at h; cases h
section
variable {K : PySem.W.Frag} {mg : Str → Option Value} {A : List Addr} {H : Hp}
theorem Trk.not {a : Addr} (t : Trk A H) (n : H a = none) : a ∉ A := fun z => t a z n
/-- a new list, a new tuple -/
theorem rep_lst {p : Addr} {vs : List V} {l : List D} (t : Trk A H) (n : H p = none) (r : Reps K mg (off A H) l vs) : Rep K mg (off A (upd H p (.lst vs))) (.lst l) (.ref p) :=
  ⟨p, vs, rfl, off_at upd_same (t.not n), r.mono (off_Same (same_upd n))⟩
theorem rep_tup {p : Addr} {vs : List V} {l : List D} (t : Trk A H) (n : H p = none) (r : Reps K mg (off A H) l vs) : Rep K mg (off A (upd H p (.tup vs))) (.tup l) (.ref p) :=
  ⟨p, vs, rfl, SqT.of (off_at upd_same (t.not n)), r.mono (off_Same (same_upd n))⟩
theorem Trk.upd {p : Addr} {o : HO} (t : Trk A H) : Trk A (upd H p o) := fun a ha z => by
  unfold L2.upd at z
  split at z
  · cases z
  · exact t a ha z
end
def D.add : D → D → Option D
  | .int i, .int j => some (.int (i + j))
  | .str a, .str b => if a.length + b.length ≤ sizeLine then some (.str (a ++ b)) else none
  | .lst a, .lst b => if a.length + b.length ≤ sizeLine then some (.lst (a ++ b)) else none
  | .tup a, .tup b => if a.length + b.length ≤ sizeLine then some (.tup (a ++ b)) else none
  | _, _ => none
def D.sub : D → D → Option D
  | .int i, .int j => some (.int (i - j))
  | _, _ => none
def D.mul : D → D → Option D
  | .int i, .int j => if (decide (-(2 ^ 64) < i) && decide (i < 2 ^ 64)) || (decide (-(2 ^ 64) < j) && decide (j < 2 ^ 64)) then some (.int (i * j)) else none
  | _, _ => none
def D.fdiv : D → D → Option D
  | .int i, .int j => if 0 < j ∧ j < 1073741824 then some (.int (i / j)) else none
  | _, _ => none
def D.mod : D → D → Option D
  | .int i, .int j => if 0 < j then some (.int (i % j)) else none
  | _, _ => none
def D.pow : D → D → Option D
  | .int i, .int j => if 0 ≤ j ∧ j ≤ 1000000 ∧ i.natAbs < 2 ^ 64 then some (.int (i ^ j.toNat)) else none
  | _, _ => none
def D.neg : D → Option D
  | .int i => some (.int (-i))
  | _ => none
section
variable {X : Cx} {a b : Expr} {x y : Arg} {pos : Pos} {K : PySem.W.Frag} {mg : Str → Option Value}
def rAddD (K : PySem.W.Frag) : R2 := fun x y H Q => (rI0 (fun i j => .int (i + j)) x y H Q ∨ (∃ i j, x = .str i ∧ y = .str j ∧ i.length + j.length ≤ sizeLine ∧ Q (.str (i ++ j)) H)) ∨ (rCat x y H Q ∨ rCatA K x y H Q)
theorem op_addD : OpR X (binaryOp .Add) (rAddD X.K) := (op_add.or op_add_str).or (op_cat.or op_catA)
theorem snd_add : Snd2 K mg (rAddD K) D.add := by
  intro A H x y d v u Q tk rx ry e q
  cases x with
  | int i =>
    cases y with
    | int j =>
      cases (Option.some.inj e)
      exact .inl (.inl ⟨i, j, rx, ry, q _ _ (Same.refl _) rfl⟩)
    | _ => cases e
  | str i =>
    cases y with
    | str j =>
      obtain ⟨hz, rfl⟩ := ite_some e
      exact .inl (.inr ⟨i, j, rx, ry, hz, q _ _ (Same.refl _) rfl⟩)
    | _ => cases e
  | lst i =>
    cases y with
    | lst j =>
      obtain ⟨hz, rfl⟩ := ite_some e
      obtain ⟨p, vs, e1, h1, r1⟩ := rx
      obtain ⟨p', us, e2, h2, r2⟩ := ry
      exact .inr (.inl ⟨p, p', vs, us, e1, e2, h1, h2, by rw [← r1.length, ← r2.length]; exact hz, fun t nt => q _ _ (same_upd nt) (rep_lst tk nt (r1.append r2))⟩)
    | _ => cases e
  | tup i =>
    cases y with
    | tup j =>
      obtain ⟨hz, rfl⟩ := ite_some e
      · obtain ⟨p, vs, e1, h1, r1⟩ := rx
        obtain ⟨p', us, e2, h2, r2⟩ := ry
        refine .inr (.inr ⟨p, p', vs, us, e1, e2, SqT.mono off_le h1, SqT.mono off_le h2, by rw [← r1.length, ← r2.length]; exact hz, fun z => ?_, fun _ z => ?_, fun _ _ t nt => q _ _ (same_upd nt) (rep_tup tk nt (r1.append r2))⟩)
        · subst z
          have : i = [] := List.eq_nil_of_length_eq_zero (by rw [r1.length]; rfl)
          subst this
          exact q _ _ (Same.refl _) ⟨p', us, rfl, h2, r2⟩
        · subst z
          have : j = [] := List.eq_nil_of_length_eq_zero (by rw [r2.length]; rfl)
          subst this
          rw [List.append_nil] at q
          exact q _ _ (Same.refl _) ⟨p, vs, rfl, h1, r1⟩
    | _ => cases e
  | _ => cases e
theorem de_add (ha : DO X a x) (hb : DO X b y) : DE X (.BinOp a .Add b pos) (op2 D.add x y) := de_two (fun _ _ h1 h2 => pe_op op_addD h1 h2) snd_add ha hb
theorem snd_int2 {C : Int → Int → Prop} {g : Int → Int → Int} {f : D → D → Option D} (hf : ∀ x y d, f x y = some d → ∃ i j, x = .int i ∧ y = .int j ∧ C i j ∧ d = .int (g i j)) : Snd2 K mg (rI C fun i j => .int (g i j)) f := by
  intro A H x y d v u Q tk rx ry e q
  obtain ⟨i, j, rfl, rfl, c, rfl⟩ := hf _ _ _ e
  exact ⟨i, j, rx, ry, c, q _ _ (Same.refl _) rfl⟩
theorem de_sub (ha : DO X a x) (hb : DO X b y) : DE X (.BinOp a .Sub b pos) (op2 D.sub x y) := de_two (r := rI0 fun i j => .int (i - j)) (fun _ _ h1 h2 => pe_op op_sub h1 h2) (by
  intro A H x y d v u Q tk rx ry e q
  cases x with
  | int i => cases y with
    | int j => cases (Option.some.inj e); exact ⟨i, j, rx, ry, q _ _ (Same.refl _) rfl⟩
    | _ => cases e
  | _ => cases e) ha hb
theorem de_mul (ha : DO X a x) (hb : DO X b y) : DE X (.BinOp a .Mult b pos) (op2 D.mul x y) := de_two (fun _ _ h1 h2 => pe_op op_mul h1 h2) (snd_int2 (C := CMul) (g := fun i j => i * j) fun x y d e => by
  cases x with
  | int i => cases y with
    | int j =>
      obtain ⟨h, rfl⟩ := ite_some e
      refine ⟨i, j, rfl, rfl, ?_, rfl⟩
      simp only [Bool.or_eq_true, Bool.and_eq_true, decide_eq_true_eq] at h
      exact h
    | _ => cases e
  | _ => cases e) ha hb
theorem de_fdiv (ha : DO X a x) (hb : DO X b y) : DE X (.BinOp a .FloorDiv b pos) (op2 D.fdiv x y) := de_two (fun _ _ h1 h2 => pe_op op_fdiv h1 h2) (snd_int2 (C := CDiv) (g := fun i j => i / j) fun x y d e => by
  cases x with
  | int i => cases y with
    | int j =>
      obtain ⟨h, rfl⟩ := ite_some e
      exact ⟨i, j, rfl, rfl, h, rfl⟩
    | _ => cases e
  | _ => cases e) ha hb
theorem de_mod (ha : DO X a x) (hb : DO X b y) : DE X (.BinOp a .Mod b pos) (op2 D.mod x y) := de_two (fun _ _ h1 h2 => pe_op op_mod h1 h2) (snd_int2 (C := fun _ j => 0 < j) (g := fun i j => i % j) fun x y d e => by
  cases x with
  | int i => cases y with
    | int j =>
      obtain ⟨h, rfl⟩ := ite_some e
      exact ⟨i, j, rfl, rfl, h, rfl⟩
    | _ => cases e
  | _ => cases e) ha hb
theorem de_pow (ha : DO X a x) (hb : DO X b y) : DE X (.BinOp a .Pow b pos) (op2 D.pow x y) := de_two (fun _ _ h1 h2 => pe_op op_pow h1 h2) (snd_int2 (C := CPow) (g := fun i j => i ^ j.toNat) fun x y d e => by
  cases x with
  | int i => cases y with
    | int j =>
      obtain ⟨h, rfl⟩ := ite_some e
      exact ⟨i, j, rfl, rfl, h, rfl⟩
    | _ => cases e
  | _ => cases e) ha hb
theorem de_neg (ha : DO X a x) : DE X (.UnaryOp .USub a pos) (op1 D.neg x) := de_one (r := rU fun i => .int (-i)) (fun _ h1 => pe_un un_neg h1) (by
  intro A H x d v Q tk rx e q
  cases x with
  | int i => cases (Option.some.inj e); exact ⟨i, rx, q _ _ (Same.refl _) rfl⟩
  | _ => cases e) ha
def D.isTrue : D → Option Bool
  | .bl b => some b
  | _ => none
def asTest (m : M D) : M Bool := M.bnd m fun d ρ => match d with
  | .bl b => .ok b ρ
  | _ => .bad
theorem dt_of {e : Expr} {m : M D} (hp : ∀ t : TE, PE X e t → PT X e (tTest t)) (h : DE X e m) : DT X e (asTest m) := fun W tk => pt_imp (hp _ (h W tk)) fun σ H Q ⟨w, A, ρ, R, q⟩ => by
  refine ⟨w, A, ρ, R, ?_⟩
  unfold asTest at q
  cases hm : m ρ with
  | exc e ρ1 => rw [bnd_exc hm] at q; exact q
  | bad => rw [bnd_bad hm] at q; exact q
  | ok d ρ1 =>
    rw [bnd_ok hm] at q
    intro v H1 ex R1 r1
    cases d with
    | bl b => exact ⟨b, r1, q H1 ex R1⟩
    | _ => exact q.elim
/-- a comparison by its rule: the value -/
theorem de_cmp {op : CmpOp} {r : R2} {f : D → D → Option D} (ho : OpR X (compareOp op) r) (hs : Snd2 X.K X.mg r f) (hm : behindInMarks op b = false) (ha : DO X a x) (hb : DO X b y) : DE X (.Compare a [op] [b] pos) (op2 f x y) :=
  de_two (fun _ _ h1 h2 => pe_cmpR ho h1 h2 hm) hs ha hb
theorem dt_cmp {op : CmpOp} {r : R2} {f : D → D → Option D} (ho : OpR X (compareOp op) r) (hs : Snd2 X.K X.mg r f) (hm : behindInMarks op b = false) (ha : DO X a x) (hb : DO X b y) : DT X (.Compare a [op] [b] pos) (asTest (op2 f x y)) := fun W tk => by
  have h := de_two (X := X) (e := .Compare a [op] [b] pos) (fun _ _ h1 h2 => pe_cmpR ho h1 h2 hm) hs ha hb
  have hp := pt_cmpR (pos := pos) ho (ha W tk) (hb W tk) hm
  refine pt_imp hp fun σ H Q ⟨w, A, ρ, R, q⟩ => ?_
  refine ⟨w, A, ρ, R, ?_⟩
  unfold asTest op2 at q
  cases hx : x.ev ρ with
  | exc e ρ1 => rw [bnd_exc (bnd_exc hx)] at q; exact q
  | bad => rw [bnd_bad (bnd_bad hx)] at q; exact q
  | ok v ρ1 =>
    intro vv H1 ex1 R1 r1
    refine ⟨w, A, ρ1, R1, ?_⟩
    cases hy : y.ev ρ1 with
    | exc e ρ2 => rw [bnd_exc (by rw [bnd_ok hx]; exact bnd_exc hy)] at q; exact fun c dd H2 ex2 R2 z => q c dd H2 (ex1.trans ex2) R2 z
    | bad => rw [bnd_bad (by rw [bnd_ok hx]; exact bnd_bad hy)] at q; exact q
    | ok u ρ2 =>
      intro uu H2 ex2 R2 r2
      cases hd : (rs v ρ2).bind fun p => (rs u ρ2).bind fun q => f p q with
      | none => rw [bnd_bad (by rw [bnd_ok hx, bnd_ok hy]; simp only [hd])] at q; exact q.elim
      | some d =>
        rw [bnd_ok (a := d) (ρ' := ρ2) (by rw [bnd_ok hx, bnd_ok hy]; simp only [hd])] at q
        obtain ⟨p, hp, hd⟩ := Option.bind_eq_some_iff.mp hd
        obtain ⟨p', hp', hd⟩ := Option.bind_eq_some_iff.mp hd
        refine hs A H2 p p' d vv uu _ R2.trk (rs_rep R2 (r1.ext ex2) hp) (rs_rep R2 r2 hp') hd fun v' H' sm r => ?_
        cases d with
        | bl b => exact ⟨b, r, q H' ((ex1.trans ex2).trans (.of sm)) (R2.same sm)⟩
        | _ => exact q.elim
def D.cmpI (g : Int → Int → Bool) : D → D → Option D
  | .int i, .int j => some (.bl (g i j))
  | _, _ => none
theorem snd_cmpI {g : Int → Int → Bool} : Snd2 K mg (rI0 fun i j => .bl (g i j)) (D.cmpI g) := by
  intro A H x y d v u Q tk rx ry e q
  cases x with
  | int i => cases y with
    | int j => cases (Option.some.inj e); exact ⟨i, j, rx, ry, q _ _ (Same.refl _) rfl⟩
    | _ => cases e
  | _ => cases e
abbrev D.lt : D → D → Option D := D.cmpI fun i j => decide (i < j)
abbrev D.le : D → D → Option D := D.cmpI fun i j => decide (i ≤ j)
abbrev D.gt : D → D → Option D := D.cmpI fun i j => decide (j < i)
abbrev D.ge : D → D → Option D := D.cmpI fun i j => decide (j ≤ i)
mutual
def D.toP : D → Option PyData
  | .non => some .none
  | .bl b => some (.bool b)
  | .int i => some (.int i)
  | .str s => some (.str s)
  | .tup l => (D.toPs l).map .tuple
  | .lst l => (D.toPs l).map .list
  | _ => none
def D.toPs : List D → Option (List PyData)
  | [] => some []
  | d :: ds => (D.toP d).bind fun p => (D.toPs ds).map fun ps => p :: ps
end
mutual
def D.eqb : D → D → Bool
  | .non, .non => true
  | .bl a, .bl b => a == b
  | .bl a, .int b => (if a then 1 else 0) == b
  | .int a, .bl b => a == (if b then 1 else 0)
  | .int a, .int b => a == b
  | .str a, .str b => a == b
  | .tup a, .tup b => D.eqbs a b
  | .lst a, .lst b => D.eqbs a b
  | _, _ => false
def D.eqbs : List D → List D → Bool
  | [], [] => true
  | a :: as, b :: bs => D.eqb a b && D.eqbs as bs
  | _, _ => false
end
def D.sh (d : D) : Bool := match d.toP with
  | some p => SeqAt.shaped p
  | none => false
mutual
theorem dp_of {A : List Addr} {H : Hp} : ∀ (d : D) (v : V) (p : PyData), Rep K mg (off A H) d v → d.toP = some p → Dp K H v p
  | .non, v, p, r, e => by cases r; cases (Option.some.inj e); exact .non
  | .bl b, v, p, r, e => by cases r; cases (Option.some.inj e); exact .bl b
  | .int b, v, p, r, e => by cases r; cases (Option.some.inj e); exact .int b
  | .str b, v, p, r, e => by cases r; cases (Option.some.inj e); exact .str b
  | .tup l, v, p, ⟨a, xs, e1, h, r⟩, e => by
    obtain ⟨ps, e2, e3⟩ := Option.map_eq_some_iff.mp e
    subst e1; subst e3
    exact .tup (SqT.mono off_le h) (dps_of l xs ps r e2)
  | .lst l, v, p, ⟨a, xs, e1, h, r⟩, e => by
    obtain ⟨ps, e2, e3⟩ := Option.map_eq_some_iff.mp e
    subst e1; subst e3
    exact .lst (SqL.of (off_le _ _ h)) (dps_of l xs ps r e2)
  | .obj _ _ _, _, _, _, e => by cases e
  | .fn _, _, _, _, e => by cases e
  | .scr _, _, _, _, e => by cases e
theorem dps_of {A : List Addr} {H : Hp} : ∀ (ds : List D) (vs : List V) (ps : List PyData), Reps K mg (off A H) ds vs → D.toPs ds = some ps → DpAll K H vs ps
  | [], vs, ps, r, e => by cases (show vs = [] from r); cases (Option.some.inj e); exact .nil
  | d :: ds, vs, ps, ⟨v, r, e1, h, t⟩, e => by
    obtain ⟨p, e2, e⟩ := Option.bind_eq_some_iff.mp e
    obtain ⟨qs, e3, e4⟩ := Option.map_eq_some_iff.mp e
    subst e1; subst e4
    exact .cons (dp_of d v p h e2) (dps_of ds r qs t e3)
end
theorem dp1_of {A : List Addr} {H : Hp} {d : D} {v : V} {p : PyData} (r : Rep1 K mg A H d v) (e : d.toP = some p) : Dp K H v p := by
  cases d with
  | lst l =>
    obtain ⟨a, xs, e1, h, r⟩ := r
    obtain ⟨ps, e2, e3⟩ := Option.map_eq_some_iff.mp e
    subst e1; subst e3
    exact .lst (SqL.of h) (dps_of l xs ps r e2)
  | obj _ _ _ => cases e
  | _ => exact dp_of _ v p r e
mutual
theorem eqv_of : ∀ (d e : D) (p q : PyData), d.toP = some p → e.toP = some q → PyData.eqv p q = D.eqb d e
  | .non, e, p, q, h, h' => by
    cases (Option.some.inj h)
    cases e with
    | tup l => obtain ⟨ps, _, e3⟩ := Option.map_eq_some_iff.mp h'; subst e3; simp [PyData.eqv, D.eqb]
    | lst l => obtain ⟨ps, _, e3⟩ := Option.map_eq_some_iff.mp h'; subst e3; simp [PyData.eqv, D.eqb]
    | obj _ _ _ => cases h'
    | fn _ => cases h'
    | scr _ => cases h'
    | _ => cases (Option.some.inj h'); simp [PyData.eqv, D.eqb]
  | .bl b, e, p, q, h, h' => by
    cases (Option.some.inj h)
    cases e with
    | tup l => obtain ⟨ps, _, e3⟩ := Option.map_eq_some_iff.mp h'; subst e3; simp [PyData.eqv, D.eqb]
    | lst l => obtain ⟨ps, _, e3⟩ := Option.map_eq_some_iff.mp h'; subst e3; simp [PyData.eqv, D.eqb]
    | obj _ _ _ => cases h'
    | fn _ => cases h'
    | scr _ => cases h'
    | _ => cases (Option.some.inj h'); simp [PyData.eqv, D.eqb]
  | .int b, e, p, q, h, h' => by
    cases (Option.some.inj h)
    cases e with
    | tup l => obtain ⟨ps, _, e3⟩ := Option.map_eq_some_iff.mp h'; subst e3; simp [PyData.eqv, D.eqb]
    | lst l => obtain ⟨ps, _, e3⟩ := Option.map_eq_some_iff.mp h'; subst e3; simp [PyData.eqv, D.eqb]
    | obj _ _ _ => cases h'
    | fn _ => cases h'
    | scr _ => cases h'
    | _ => cases (Option.some.inj h'); simp [PyData.eqv, D.eqb]
  | .str b, e, p, q, h, h' => by
    cases (Option.some.inj h)
    cases e with
    | tup l => obtain ⟨ps, _, e3⟩ := Option.map_eq_some_iff.mp h'; subst e3; simp [PyData.eqv, D.eqb]
    | lst l => obtain ⟨ps, _, e3⟩ := Option.map_eq_some_iff.mp h'; subst e3; simp [PyData.eqv, D.eqb]
    | obj _ _ _ => cases h'
    | fn _ => cases h'
    | scr _ => cases h'
    | _ => cases (Option.some.inj h'); simp [PyData.eqv, D.eqb]
  | .tup l, e, p, q, h, h' => by
    obtain ⟨ps, e2, e3⟩ := Option.map_eq_some_iff.mp h
    subst e3
    cases e with
    | tup l' => obtain ⟨qs, f2, f3⟩ := Option.map_eq_some_iff.mp h'; subst f3; simp [PyData.eqv, D.eqb, eqvs_of l l' ps qs e2 f2]
    | lst l => obtain ⟨ps, _, e3⟩ := Option.map_eq_some_iff.mp h'; subst e3; simp [PyData.eqv, D.eqb]
    | obj _ _ _ => cases h'
    | fn _ => cases h'
    | scr _ => cases h'
    | _ => cases (Option.some.inj h'); simp [PyData.eqv, D.eqb]
  | .lst l, e, p, q, h, h' => by
    obtain ⟨ps, e2, e3⟩ := Option.map_eq_some_iff.mp h
    subst e3
    cases e with
    | lst l' => obtain ⟨qs, f2, f3⟩ := Option.map_eq_some_iff.mp h'; subst f3; simp [PyData.eqv, D.eqb, eqvs_of l l' ps qs e2 f2]
    | tup l => obtain ⟨ps, _, e3⟩ := Option.map_eq_some_iff.mp h'; subst e3; simp [PyData.eqv, D.eqb]
    | obj _ _ _ => cases h'
    | fn _ => cases h'
    | scr _ => cases h'
    | _ => cases (Option.some.inj h'); simp [PyData.eqv, D.eqb]
  | .obj _ _ _, _, _, _, h, _ => by cases h
  | .fn _, _, _, _, h, _ => by cases h
  | .scr _, _, _, _, h, _ => by cases h
theorem eqvs_of : ∀ (ds es : List D) (ps qs : List PyData), D.toPs ds = some ps → D.toPs es = some qs → PyData.eqvAll ps qs = D.eqbs ds es
  | [], [], ps, qs, h, h' => by cases (Option.some.inj h); cases (Option.some.inj h'); simp [PyData.eqvAll, D.eqbs]
  | [], e :: es, ps, qs, h, h' => by
    cases (Option.some.inj h)
    obtain ⟨p, _, h'⟩ := Option.bind_eq_some_iff.mp h'
    obtain ⟨rs, _, e4⟩ := Option.map_eq_some_iff.mp h'
    subst e4
    simp [PyData.eqvAll, D.eqbs]
  | d :: ds, [], ps, qs, h, h' => by
    cases (Option.some.inj h')
    obtain ⟨p, _, h⟩ := Option.bind_eq_some_iff.mp h
    obtain ⟨rs, _, e4⟩ := Option.map_eq_some_iff.mp h
    subst e4
    simp [PyData.eqvAll, D.eqbs]
  | d :: ds, e :: es, ps, qs, h, h' => by
    obtain ⟨p, hp, h⟩ := Option.bind_eq_some_iff.mp h
    obtain ⟨rs, hr, e4⟩ := Option.map_eq_some_iff.mp h
    obtain ⟨p', hp', h'⟩ := Option.bind_eq_some_iff.mp h'
    obtain ⟨rs', hr', e5⟩ := Option.map_eq_some_iff.mp h'
    subst e4; subst e5
    simp [PyData.eqvAll, D.eqbs, eqv_of d e p p' hp hp', eqvs_of ds es rs rs' hr hr']
end
/-- scalars that == tells apart without more -/
def D.sc : D → D → Bool
  | .non, .non => true | .non, .int _ => true | .int _, .non => true | .non, .bl _ => true | .bl _, .non => true | .non, .str _ => true | .str _, .non => true
  | .int _, .int _ => true | .bl _, .bl _ => true | .str _, .str _ => true
  | .int _, .str _ => true | .str _, .int _ => true | .bl _, .str _ => true | .str _, .bl _ => true
  | _, _ => false
def D.eq (x y : D) : Option D := if D.sc x y || (x.sh && y.sh) then some (.bl (D.eqb x y)) else none
def D.ne (x y : D) : Option D := if D.sc x y || (x.sh && y.sh) then some (.bl (!D.eqb x y)) else none
theorem sc_eq {A : List Addr} {H : Hp} {x y : D} {v u : V} (rx : Rep1 K mg A H x v) (ry : Rep1 K mg A H y u) (h : D.sc x y = true) : scal v u = true ∧ decide (v = u) = D.eqb x y := by
  cases x <;> cases y <;> first
    | (cases h; done)
    | (have e1 := rx; have e2 := ry; cases e1; cases e2; refine ⟨rfl, ?_⟩; first | rfl | (simp [D.eqb]; done) | (rw [Bool.eq_iff_iff]; simp [D.eqb]; done))
def rEqD' (K : PySem.W.Frag) : R2 := fun x y H Q => rEq x y H Q ∨ rEqD K x y H Q
def rNeD' (K : PySem.W.Frag) : R2 := fun x y H Q => rNe x y H Q ∨ rNeD K x y H Q
theorem sh_some {d : D} (h : d.sh = true) : ∃ p, d.toP = some p ∧ SeqAt.shaped p = true := by
  unfold D.sh at h
  cases e : d.toP with
  | none => rw [e] at h; cases h
  | some p => rw [e] at h; exact ⟨p, rfl, h⟩
theorem snd_eq : Snd2 K mg (rEqD' K) D.eq := by
  intro A H x y d v u Q tk rx ry e q
  obtain ⟨h, rfl⟩ := ite_some e
  rcases Bool.or_eq_true_iff.mp h with h | h
  · obtain ⟨h1, h2⟩ := sc_eq rx ry h
    exact .inl ⟨h1, by rw [h2]; exact q _ _ (Same.refl _) rfl⟩
  · obtain ⟨h1, h2⟩ := Bool.and_eq_true_iff.mp h
    obtain ⟨p, e1, s1⟩ := sh_some h1
    obtain ⟨p', e2, s2⟩ := sh_some h2
    exact .inr ⟨p, p', dp1_of rx e1, dp1_of ry e2, s1, s2, by rw [eqv_of _ _ _ _ e1 e2]; exact q _ _ (Same.refl _) rfl⟩
theorem snd_ne : Snd2 K mg (rNeD' K) D.ne := by
  intro A H x y d v u Q tk rx ry e q
  obtain ⟨h, rfl⟩ := ite_some e
  rcases Bool.or_eq_true_iff.mp h with h | h
  · obtain ⟨h1, h2⟩ := sc_eq rx ry h
    exact .inl ⟨h1, by rw [h2]; exact q _ _ (Same.refl _) rfl⟩
  · obtain ⟨h1, h2⟩ := Bool.and_eq_true_iff.mp h
    obtain ⟨p, e1, s1⟩ := sh_some h1
    obtain ⟨p', e2, s2⟩ := sh_some h2
    exact .inr ⟨p, p', dp1_of rx e1, dp1_of ry e2, s1, s2, by rw [eqv_of _ _ _ _ e1 e2]; exact q _ _ (Same.refl _) rfl⟩
theorem op_eqD' (hu : X.A.units + 64 < cLine) : OpR X (compareOp .Eq) (rEqD' X.K) := op_eq.or (op_eqD hu)
theorem op_neD' (hu : X.A.units + 64 < cLine) : OpR X (compareOp .NotEq) (rNeD' X.K) := op_ne.or (op_neD hu)
def D.isN : D → D → Option D
  | .non, .non => some (.bl true)
  | _, .non => some (.bl false)
  | _, _ => none
end
end DL
namespace DL
open PySem L2
section
variable {X : Cx} {a b c : Expr} {x y : Arg} {pos : Pos} {K : PySem.W.Frag} {mg : Str → Option Value}
theorem snd_isN : Snd2 K mg (fun x y H Q => y = .non ∧ Q (.bl (decide (x = .non))) H) D.isN := by
  intro A H x y d v u Q tk rx ry e q
  cases y with
  | non =>
    refine ⟨ry, ?_⟩
    cases x with
    | non => cases rx; cases (Option.some.inj e); exact q _ _ (Same.refl _) rfl
    | bl _ => cases rx; cases (Option.some.inj e); exact q _ _ (Same.refl _) rfl
    | int _ => cases rx; cases (Option.some.inj e); exact q _ _ (Same.refl _) rfl
    | str _ => cases rx; cases (Option.some.inj e); exact q _ _ (Same.refl _) rfl
    | tup _ => obtain ⟨a, xs, e1, _⟩ := rx; subst e1; cases (Option.some.inj e); exact q _ _ (Same.refl _) rfl
    | lst _ => obtain ⟨a, xs, e1, _⟩ := rx; subst e1; cases (Option.some.inj e); exact q _ _ (Same.refl _) rfl
    | scr _ => obtain ⟨a, xs, e1, _⟩ := rx; subst e1; cases (Option.some.inj e); exact q _ _ (Same.refl _) rfl
    | fn _ => obtain ⟨a, e1, _⟩ := rx; subst e1; cases (Option.some.inj e); exact q _ _ (Same.refl _) rfl
    | obj _ _ _ => obtain ⟨a, C, dx, fvs, e1, _⟩ := rx; subst e1; cases (Option.some.inj e); exact q _ _ (Same.refl _) rfl
  | _ => cases x <;> cases e
def D.notN (x y : D) : Option D := match D.isN x y with
  | some (.bl k) => some (.bl (!k))
  | _ => none
theorem snd_notN : Snd2 K mg (fun x y H Q => y = .non ∧ Q (.bl (!decide (x = .non))) H) D.notN := by
  intro A H x y d v u Q tk rx ry e q
  unfold D.notN at e
  cases h : D.isN x y with
  | none => rw [h] at e; cases e
  | some z =>
    rw [h] at e
    refine (snd_isN (K := K) (mg := mg) A H x y z v u (fun z' H' => ∀ k, z' = .bl k → Q (.bl (!k)) H') tk rx ry h fun v' H' sm r k hk => ?_).imp id fun q' => q' _ rfl
    cases z with
    | bl k' =>
      cases (Option.some.inj e)
      cases r
      cases hk
      exact q _ _ sm rfl
    | _ => cases e
def D.items : D → Option (List D)
  | .lst l => some l
  | .tup l => some l
  | _ => none
/-- one sign within a text, a value within a list or a tuple -/
def D.mem (x y : D) : Option D := match x, y with
  | .str s, .str z => match s.cps.toList with
    | [c] => some (.bl (decide (c ∈ z.cps.toList)))
    | _ => none
  | x, .lst l => if x.sh && D.sh (.lst l) then some (.bl (l.any fun z => D.eqb z x)) else none
  | x, .tup l => if x.sh && D.sh (.tup l) then some (.bl (l.any fun z => D.eqb z x)) else none
  | _, _ => none
def D.nmem (x y : D) : Option D := match D.mem x y with
  | some (.bl k) => some (.bl (!k))
  | _ => none
def rInA (K : PySem.W.Frag) (neg : Bool) : R2 := fun x y H Q =>
  (∃ (c : Nat) (z : Str), x = .str ⟨#[c]⟩ ∧ y = .str z ∧ Q (.bl (if neg then !decide (c ∈ z.cps.toList) else decide (c ∈ z.cps.toList))) H) ∨
  (∃ d ds, Dp K H x d ∧ (Dp K H y (.list ds) ∨ Dp K H y (.tuple ds)) ∧ SeqAt.shaped d = true ∧ SeqAt.shaped (.list ds) = true ∧ Q (.bl (if neg then !(ds.any fun z => PyData.eqv z d) else ds.any fun z => PyData.eqv z d)) H)
theorem op_inA (hu : X.A.units + 65 < cLine) : OpR X (compareOp .In) (rInA X.K false) := by
  intro pins s σ H x y v u Q I rx ry h
  rcases h with ⟨c, z, e1, e2, q⟩ | ⟨d, ds, hd, he, sd, se, q⟩
  · exact op_in_sign pins s σ H x y v u Q I rx ry ⟨c, z, e1, e2, q⟩
  · obtain ⟨as, r1⟩ := Dp.reads I d x v hd rx
    rcases he with he | he
    · obtain ⟨bs, r2⟩ := Dp.reads I (.list ds) y u he ry
      exact SeqAt.in_list_reads r2 r1 (SeqAt.canLay_of_shaped se) (SeqAt.canLay_of_shaped sd) (PyProof.Rows.room_in_shaped sd hu) ⟨.bl _, H, I, rfl, q⟩
    · obtain ⟨bs, r2⟩ := Dp.reads I (.tuple ds) y u he ry
      exact SeqAt.in_tuple_reads r2 r1 (SeqAt.canLay_of_shaped se) (SeqAt.canLay_of_shaped sd) (PyProof.Rows.room_in_shaped sd hu) ⟨.bl _, H, I, rfl, q⟩
theorem op_notInA (hu : X.A.units + 65 < cLine) : OpR X (compareOp .NotIn) (rInA X.K true) := by
  intro pins s σ H x y v u Q I rx ry h
  rcases h with ⟨c, z, e1, e2, q⟩ | ⟨d, ds, hd, he, sd, se, q⟩
  · exact op_notIn_sign pins s σ H x y v u Q I rx ry ⟨c, z, e1, e2, q⟩
  · obtain ⟨as, r1⟩ := Dp.reads I d x v hd rx
    rcases he with he | he
    · obtain ⟨bs, r2⟩ := Dp.reads I (.list ds) y u he ry
      exact SeqAt.notIn_list_reads r2 r1 (SeqAt.canLay_of_shaped se) (SeqAt.canLay_of_shaped sd) (PyProof.Rows.room_in_shaped sd hu) ⟨.bl _, H, I, rfl, q⟩
    · obtain ⟨bs, r2⟩ := Dp.reads I (.tuple ds) y u he ry
      exact SeqAt.notIn_tuple_reads r2 r1 (SeqAt.canLay_of_shaped se) (SeqAt.canLay_of_shaped sd) (PyProof.Rows.room_in_shaped sd hu) ⟨.bl _, H, I, rfl, q⟩
theorem any_eqv {x : D} {p : PyData} (hp : x.toP = some p) : ∀ {l : List D} {ps : List PyData}, D.toPs l = some ps → (ps.any fun z => PyData.eqv z p) = l.any fun z => D.eqb z x
  | [], ps, h => by cases (Option.some.inj h); rfl
  | d :: l, ps, h => by
    obtain ⟨q, hq, h⟩ := Option.bind_eq_some_iff.mp h
    obtain ⟨qs, hqs, e⟩ := Option.map_eq_some_iff.mp h
    subst e
    rw [List.any_cons, List.any_cons, eqv_of d x q p hq hp, any_eqv hp hqs]
theorem snd_inA {A : List Addr} {H : Hp} {x y d : D} {v u : V} {Q : VK} (neg : Bool) (rx : Rep1 K mg A H x v) (ry : Rep1 K mg A H y u) (e : D.mem x y = some d) (q : ∀ k, d = .bl k → Q (.bl (if neg then !k else k)) H) : rInA K neg v u H Q := by
  unfold D.mem at e
  split at e
  · rename_i s z
    split at e
    · rename_i c hc
      cases (Option.some.inj e)
      refine .inl ⟨c, z, ?_, ry, q _ rfl⟩
      have : s = ⟨#[c]⟩ := by
        obtain ⟨cps⟩ := s
        congr
        exact Array.toList_inj.mp hc
      rw [← this]
      exact rx
    · cases e
  · rename_i l
    obtain ⟨h, rfl⟩ := ite_some e
    obtain ⟨h1, h2⟩ := Bool.and_eq_true_iff.mp h
    obtain ⟨p, e1, s1⟩ := sh_some h1
    obtain ⟨p', e2, s2⟩ := sh_some h2
    obtain ⟨ps, e3, e4⟩ := Option.map_eq_some_iff.mp (show (D.toPs l).map PyData.list = some p' from e2)
    subst e4
    refine .inr ⟨p, ps, dp1_of rx e1, .inl (dp1_of ry e2), s1, s2, ?_⟩
    rw [any_eqv e1 e3]
    exact q _ rfl
  · rename_i l
    obtain ⟨h, rfl⟩ := ite_some e
    obtain ⟨h1, h2⟩ := Bool.and_eq_true_iff.mp h
    obtain ⟨p, e1, s1⟩ := sh_some h1
    obtain ⟨p', e2, s2⟩ := sh_some h2
    obtain ⟨ps, e3, e4⟩ := Option.map_eq_some_iff.mp (show (D.toPs l).map PyData.tuple = some p' from e2)
    subst e4
    refine .inr ⟨p, ps, dp1_of rx e1, .inr (dp1_of ry e2), s1, ?_, ?_⟩
    · unfold SeqAt.shaped at s2 ⊢
      simpa [PyData.canLay0, PyData.depth] using s2
    · rw [any_eqv e1 e3]
      exact q _ rfl
  · cases e
theorem mem_bl {x y d : D} (e : D.mem x y = some d) : ∃ k, d = .bl k := by
  unfold D.mem at e
  split at e
  · split at e
    · cases (Option.some.inj e); exact ⟨_, rfl⟩
    · cases e
  · obtain ⟨h, rfl⟩ := ite_some e; exact ⟨_, rfl⟩
  · obtain ⟨h, rfl⟩ := ite_some e; exact ⟨_, rfl⟩
  · cases e
theorem snd_mem : Snd2 K mg (rInA K false) D.mem := by
  intro A H x y d v u Q tk rx ry e q
  exact snd_inA false rx ry e fun k hk => q _ _ (Same.refl _) (by subst hk; rfl)
theorem snd_nmem : Snd2 K mg (rInA K true) D.nmem := by
  intro A H x y d v u Q tk rx ry e q
  unfold D.nmem at e
  cases h : D.mem x y with
  | none => rw [h] at e; cases e
  | some z =>
    obtain ⟨k, rfl⟩ := mem_bl h
    rw [h] at e
    cases (Option.some.inj e)
    exact snd_inA true rx ry h fun k' hk => by
      cases hk
      exact q _ _ (Same.refl _) rfl
theorem de_lt (ha : DO X a x) (hb : DO X b y) : DE X (.Compare a [.Lt] [b] pos) (op2 D.lt x y) := de_cmp op_lt snd_cmpI (nomark _) ha hb
theorem de_le (ha : DO X a x) (hb : DO X b y) : DE X (.Compare a [.LtE] [b] pos) (op2 D.le x y) := de_cmp op_le snd_cmpI (nomark _) ha hb
theorem de_gt (ha : DO X a x) (hb : DO X b y) : DE X (.Compare a [.Gt] [b] pos) (op2 D.gt x y) := de_cmp op_gt snd_cmpI (nomark _) ha hb
theorem de_ge (ha : DO X a x) (hb : DO X b y) : DE X (.Compare a [.GtE] [b] pos) (op2 D.ge x y) := de_cmp op_ge snd_cmpI (nomark _) ha hb
theorem de_eq (hu : X.A.units + 64 < cLine) (ha : DO X a x) (hb : DO X b y) : DE X (.Compare a [.Eq] [b] pos) (op2 D.eq x y) := de_cmp (op_eqD' hu) snd_eq (nomark _) ha hb
theorem de_ne (hu : X.A.units + 64 < cLine) (ha : DO X a x) (hb : DO X b y) : DE X (.Compare a [.NotEq] [b] pos) (op2 D.ne x y) := de_cmp (op_neD' hu) snd_ne (nomark _) ha hb
theorem de_isN (ha : DO X a x) (hb : DO X b y) : DE X (.Compare a [.Is] [b] pos) (op2 D.isN x y) := de_cmp op_isN snd_isN (nomark _) ha hb
theorem de_notN (ha : DO X a x) (hb : DO X b y) : DE X (.Compare a [.IsNot] [b] pos) (op2 D.notN x y) := de_cmp op_notN snd_notN (nomark _) ha hb
theorem de_in (hu : X.A.units + 65 < cLine) (ha : DO X a x) (hb : DO X b y) (hm : behindInMarks .In b = false := by with_unfolding_all rfl) : DE X (.Compare a [.In] [b] pos) (op2 D.mem x y) := de_cmp (op_inA hu) snd_mem hm ha hb
theorem de_nin (hu : X.A.units + 65 < cLine) (ha : DO X a x) (hb : DO X b y) (hm : behindInMarks .NotIn b = false := by with_unfolding_all rfl) : DE X (.Compare a [.NotIn] [b] pos) (op2 D.nmem x y) := de_cmp (op_notInA hu) snd_nmem hm ha hb
theorem dt_lt (ha : DO X a x) (hb : DO X b y) : DT X (.Compare a [.Lt] [b] pos) (asTest (op2 D.lt x y)) := dt_cmp op_lt snd_cmpI (nomark _) ha hb
theorem dt_le (ha : DO X a x) (hb : DO X b y) : DT X (.Compare a [.LtE] [b] pos) (asTest (op2 D.le x y)) := dt_cmp op_le snd_cmpI (nomark _) ha hb
theorem dt_gt (ha : DO X a x) (hb : DO X b y) : DT X (.Compare a [.Gt] [b] pos) (asTest (op2 D.gt x y)) := dt_cmp op_gt snd_cmpI (nomark _) ha hb
theorem dt_ge (ha : DO X a x) (hb : DO X b y) : DT X (.Compare a [.GtE] [b] pos) (asTest (op2 D.ge x y)) := dt_cmp op_ge snd_cmpI (nomark _) ha hb
theorem dt_eq (hu : X.A.units + 64 < cLine) (ha : DO X a x) (hb : DO X b y) : DT X (.Compare a [.Eq] [b] pos) (asTest (op2 D.eq x y)) := dt_cmp (op_eqD' hu) snd_eq (nomark _) ha hb
theorem dt_ne (hu : X.A.units + 64 < cLine) (ha : DO X a x) (hb : DO X b y) : DT X (.Compare a [.NotEq] [b] pos) (asTest (op2 D.ne x y)) := dt_cmp (op_neD' hu) snd_ne (nomark _) ha hb
theorem dt_isN (ha : DO X a x) (hb : DO X b y) : DT X (.Compare a [.Is] [b] pos) (asTest (op2 D.isN x y)) := dt_cmp op_isN snd_isN (nomark _) ha hb
theorem dt_notN (ha : DO X a x) (hb : DO X b y) : DT X (.Compare a [.IsNot] [b] pos) (asTest (op2 D.notN x y)) := dt_cmp op_notN snd_notN (nomark _) ha hb
theorem dt_in (hu : X.A.units + 65 < cLine) (ha : DO X a x) (hb : DO X b y) (hm : behindInMarks .In b = false := by with_unfolding_all rfl) : DT X (.Compare a [.In] [b] pos) (asTest (op2 D.mem x y)) := dt_cmp (op_inA hu) snd_mem hm ha hb
theorem dt_nin (hu : X.A.units + 65 < cLine) (ha : DO X a x) (hb : DO X b y) (hm : behindInMarks .NotIn b = false := by with_unfolding_all rfl) : DT X (.Compare a [.NotIn] [b] pos) (asTest (op2 D.nmem x y)) := dt_cmp (op_notInA hu) snd_nmem hm ha hb
variable {e : Expr} {m n : M D} {t u : M Bool} {rest : List Expr}
theorem dt_val (h : DE X e m) (he : ∀ whole, isTrue e X.env whole = (do let v ← whole; standAt e.pos; holding [v] (truthy v)) := by intro _; rfl) : DT X e (asTest m) :=
  dt_of (fun _ h => pt_val h he) h
def bAnd (t u : M Bool) : M Bool := M.bnd t fun c => if c = true then u else M.ret false
def bOr (t u : M Bool) : M Bool := M.bnd t fun c => if c = true then M.ret true else u
def bNot (t : M Bool) : M Bool := M.bnd t fun c => M.ret (!c)
theorem dt_imp2 {σ : St} {H : Hp} {W : WZ} {Q : Bool → Hp → Prop} {f : Bool → M Bool} {G : Bool → Hp → Prop}
    (h : tT K mg W (M.bnd t f) σ H Q) (hq : ∀ (w : WS W) (A : List Addr) (ρ1 : Ev) c H1, SR K mg w A ρ1 σ H1 → (match f c ρ1 with
      | .ok b ρ' => ∀ H', Ext A H1 H' → SR K mg w A ρ' σ H' → Q b H'
      | .exc e ρ' => ∀ c dd H', Ext A H1 H' → SR K mg w A ρ' σ H' → ExR K mg A H' e c dd → W c dd σ H'
      | .bad => False) → G c H1) : tT K mg W t σ H G := by
  obtain ⟨w, A, ρ, R, q⟩ := h
  refine ⟨w, A, ρ, R, ?_⟩
  cases ht : t ρ with
  | exc e ρ1 => rw [bnd_exc ht] at q; exact q
  | bad => rw [bnd_bad ht] at q; exact q
  | ok c ρ1 =>
    rw [bnd_ok ht] at q
    intro H1 ex1 R1
    refine hq w A ρ1 c H1 R1 ?_
    cases hf : f c ρ1 with
    | exc e ρ2 => rw [hf] at q; exact fun c dd H2 ex2 R2 z => q c dd H2 (ex1.trans ex2) R2 z
    | bad => rw [hf] at q; exact q
    | ok c ρ2 => rw [hf] at q; exact fun H2 ex2 R2 => q H2 (ex1.trans ex2) R2
theorem dw_and1 (h : DT X a t) : DW X (.BoolOp .And [a] pos) t := fun W tk => pw_and1 (h W tk)
theorem dw_or1 (h : DT X a t) : DW X (.BoolOp .Or [a] pos) t := fun W tk => pw_or1 (h W tk)
theorem dw_and (h : DT X a t) (h2 : DW X (.BoolOp .And (b :: rest) pos) u) : DW X (.BoolOp .And (a :: b :: rest) pos) (bAnd t u) := fun W tk =>
  pw_imp (pw_and (h W tk) (h2 W tk)) fun σ H Q q => dt_imp2 q fun w A ρ1 c H1 R1 z => by
    cases c with
    | true => simp only [if_true] at z ⊢; exact ⟨w, A, ρ1, R1, z⟩
    | false => simp only [Bool.false_eq_true, if_false] at z ⊢; exact z H1 Ext.refl R1
theorem dw_or (h : DT X a t) (h2 : DW X (.BoolOp .Or (b :: rest) pos) u) : DW X (.BoolOp .Or (a :: b :: rest) pos) (bOr t u) := fun W tk =>
  pw_imp (pw_or (h W tk) (h2 W tk)) fun σ H Q q => dt_imp2 q fun w A ρ1 c H1 R1 z => by
    cases c with
    | false => simp only [Bool.false_eq_true, if_false] at z ⊢; exact ⟨w, A, ρ1, R1, z⟩
    | true => simp only [if_true] at z ⊢; exact z H1 Ext.refl R1
theorem dt_w (h : DW X e t) : DT X e t := fun W tk => (h W tk).pt
theorem dt_not (h : DT X a t) : DT X (.UnaryOp .Not a pos) (bNot t) := fun W tk => pt_imp (pt_not (h W tk)) fun σ H Q q => dt_imp2 q fun w A ρ1 c H1 R1 z => z H1 Ext.refl R1
theorem de_imp2 {σ : St} {H : Hp} {W : WZ} {Q : VK} {f : D → M D} {G : VK}
    (h : tE K mg W (M.bnd m f) σ H Q) (hq : ∀ (w : WS W) (A : List Addr) (ρ1 : Ev) d v H1, SR K mg w A ρ1 σ H1 → Rep K mg (off A H1) d v → (match f d ρ1 with
      | .ok d' ρ' => ∀ v H', Ext A H1 H' → SR K mg w A ρ' σ H' → Rep K mg (off A H') d' v → Q v H'
      | .exc e ρ' => ∀ c dd H', Ext A H1 H' → SR K mg w A ρ' σ H' → ExR K mg A H' e c dd → W c dd σ H'
      | .bad => False) → G v H1) : tE K mg W m σ H G := by
  obtain ⟨w, A, ρ, R, q⟩ := h
  refine ⟨w, A, ρ, R, ?_⟩
  cases ht : m ρ with
  | exc e ρ1 => rw [bnd_exc ht] at q; exact q
  | bad => rw [bnd_bad ht] at q; exact q
  | ok c ρ1 =>
    rw [bnd_ok ht] at q
    intro v H1 ex1 R1 r1
    refine hq w A ρ1 c v H1 R1 r1 ?_
    cases hf : f c ρ1 with
    | exc e ρ2 => rw [hf] at q; exact fun c dd H2 ex2 R2 z => q c dd H2 (ex1.trans ex2) R2 z
    | bad => rw [hf] at q; exact q
    | ok c ρ2 => rw [hf] at q; exact fun v2 H2 ex2 R2 => q v2 H2 (ex1.trans ex2) R2
def vAnd (m n : M D) : M D := M.bnd m fun d => match d with
  | .bl true => n
  | .bl false => M.ret (.bl false)
  | _ => fun _ => .bad
def vOr (m n : M D) : M D := M.bnd m fun d => match d with
  | .bl true => M.ret (.bl true)
  | .bl false => n
  | _ => fun _ => .bad
def vNot (m : M D) : M D := M.bnd m fun d => match d with
  | .bl k => M.ret (.bl (!k))
  | _ => fun _ => .bad
theorem de_one1 {op} (h : DE X a m) : DE X (.BoolOp op [a] pos) m := fun W tk => pe_one (h W tk)
theorem de_and (h : DE X a m) (h2 : DE X (.BoolOp .And (b :: rest) pos) n) : DE X (.BoolOp .And (a :: b :: rest) pos) (vAnd m n) := fun W tk =>
  pe_imp (pe_and (h W tk) (h2 W tk)) fun σ H Q q => de_imp2 q fun w A ρ1 d v H1 R1 r z => by
    cases d with
    | bl k =>
      cases r
      refine ⟨k, rfl, ?_⟩
      cases k with
      | true => simp only [if_true]; exact ⟨w, A, ρ1, R1, z⟩
      | false => simp only [Bool.false_eq_true, if_false]; exact z _ H1 Ext.refl R1 rfl
    | _ => exact z.elim
theorem de_or (h : DE X a m) (h2 : DE X (.BoolOp .Or (b :: rest) pos) n) : DE X (.BoolOp .Or (a :: b :: rest) pos) (vOr m n) := fun W tk =>
  pe_imp (pe_or (h W tk) (h2 W tk)) fun σ H Q q => de_imp2 q fun w A ρ1 d v H1 R1 r z => by
    cases d with
    | bl k =>
      cases r
      refine ⟨k, rfl, ?_⟩
      cases k with
      | false => simp only [Bool.false_eq_true, if_false]; exact ⟨w, A, ρ1, R1, z⟩
      | true => simp only [if_true]; exact z _ H1 Ext.refl R1 rfl
    | _ => exact z.elim
theorem de_not (h : DE X a m) : DE X (.UnaryOp .Not a pos) (vNot m) := fun W tk =>
  pe_imp (pe_not (h W tk)) fun σ H Q q => de_imp2 q fun w A ρ1 d v H1 R1 r z => by
    cases d with
    | bl k => cases r; exact ⟨k, rfl, z _ H1 Ext.refl R1 rfl⟩
    | _ => exact z.elim
def vIf (t : M Bool) (m n : M D) : M D := M.bnd t fun c => if c = true then m else n
theorem de_ifExp (ht : DT X c t) (ha : DE X a m) (hb : DE X b n) : DE X (.IfExp c a b pos) (vIf t m n) := fun W tk =>
  pe_imp (pe_ifExp (ht W tk) (ha W tk) (hb W tk)) fun σ H Q ⟨w, A, ρ, R, q⟩ => by
    refine ⟨w, A, ρ, R, ?_⟩
    unfold vIf at q
    cases hc : t ρ with
    | exc e ρ1 => rw [bnd_exc hc] at q; exact q
    | bad => rw [bnd_bad hc] at q; exact q
    | ok k ρ1 =>
      rw [bnd_ok hc] at q
      intro H1 ex1 R1
      cases k with
      | true =>
        simp only [if_true] at q ⊢
        refine ⟨w, A, ρ1, R1, ?_⟩
        cases hf : m ρ1 with
        | exc e ρ2 => rw [hf] at q; exact fun c dd H2 ex2 R2 z => q c dd H2 (ex1.trans ex2) R2 z
        | bad => rw [hf] at q; exact q
        | ok c ρ2 => rw [hf] at q; exact fun v2 H2 ex2 R2 => q v2 H2 (ex1.trans ex2) R2
      | false =>
        simp only [Bool.false_eq_true, if_false] at q ⊢
        refine ⟨w, A, ρ1, R1, ?_⟩
        cases hf : n ρ1 with
        | exc e ρ2 => rw [hf] at q; exact fun c dd H2 ex2 R2 z => q c dd H2 (ex1.trans ex2) R2 z
        | bad => rw [hf] at q; exact q
        | ok c ρ2 => rw [hf] at q; exact fun v2 H2 ex2 R2 => q v2 H2 (ex1.trans ex2) R2
end
end DL
namespace DL
open PySem L2
section
variable {X : Cx} {a b c e : Expr} {es : List Expr} {x y : Arg} {as : List Arg} {pos p : Pos} {K : PySem.W.Frag} {mg : Str → Option Value}
theorem ixN_congr {n m : Nat} (h : n = m) (i : Int) : ixN n i = ixN m i := by rw [h]
theorem Reps.atI {F : Hp} {ds : List D} {vs : List V} {i : Int} {d : D} (r : Reps K mg F ds vs) (h : atI ds i = some d) : ∃ v, L2.atI vs i = some v ∧ Rep K mg F d v := by
  unfold L2.atI at h ⊢
  rw [r.length] at h
  obtain ⟨j, h1, h2⟩ := Option.bind_eq_some_iff.mp h
  obtain ⟨v, h3, h4⟩ := r.get h2
  exact ⟨v, by rw [h1]; exact h3, h4⟩
def D.ix : D → D → Option D
  | .lst l, .int i => L2.atI l i
  | .tup l, .int i => L2.atI l i
  | .scr l, .int i => L2.atI l i
  | .str s, .int i => if s.length ≤ sizeLine then (L2.atI s.cps.toList i).map fun c => .str ⟨#[c]⟩ else none
  | _, _ => none
theorem snd_ix : Snd2 K mg (rIx K) D.ix := by
  intro A H x y d v u Q tk rx ry e q
  cases x with
  | lst l =>
    cases y with
    | int i =>
      obtain ⟨p, vs, e1, h, r⟩ := rx
      obtain ⟨w, h1, h2⟩ := r.atI e
      exact .inl ⟨p, vs, i, w, e1, ry, SqL.of h, h1, q _ _ (Same.refl _) h2⟩
    | _ => cases e
  | scr l =>
    cases y with
    | int i =>
      obtain ⟨p, vs, e1, h, r⟩ := rx
      obtain ⟨w, h1, h2⟩ := r.atI e
      exact .inl ⟨p, vs, i, w, e1, ry, SqL.mono off_le h, h1, q _ _ (Same.refl _) h2⟩
    | _ => cases e
  | tup l =>
    cases y with
    | int i =>
      obtain ⟨p, vs, e1, h, r⟩ := rx
      obtain ⟨w, h1, h2⟩ := r.atI e
      exact .inr (.inl ⟨p, vs, i, w, e1, ry, SqT.mono off_le h, h1, q _ _ (Same.refl _) h2⟩)
    | _ => cases e
  | str s =>
    cases y with
    | int i =>
      have e : (if s.length ≤ sizeLine then (L2.atI s.cps.toList i).map fun c => D.str ⟨#[c]⟩ else none) = some d := e
      by_cases hz : s.length ≤ sizeLine
      · rw [if_pos hz] at e
        obtain ⟨c, h1, h2⟩ := Option.map_eq_some_iff.mp e
        subst h2
        exact .inr (.inr ⟨s, i, c, rx, ry, hz, h1, q _ _ (Same.refl _) rfl⟩)
      · rw [if_neg hz] at e; cases e
    | _ => cases e
  | _ => cases e
theorem de_ix (ha : DO X a x) (hb : DO X b y) (hs : PlainIx b := by intro _ _; rfl) : DE X (.Subscript a b pos) (op2 D.ix x y) := de_two (fun _ _ h1 h2 => pe_ix ix_seq h1 h2 hs) snd_ix ha hb
def cutG {α : Type} (xs : List α) (lo hi : Option Int) : List α := (xs.drop (HT.sIx xs.length 0 lo)).take (HT.sIx xs.length xs.length hi - HT.sIx xs.length 0 lo)
theorem Reps.cut {F : Hp} {ds : List D} {vs : List V} {lo hi : Option Int} (r : Reps K mg F ds vs) : Reps K mg F (cutG ds lo hi) (cutV vs lo hi) := by
  unfold cutG cutV
  rw [r.length]
  exact (r.drop _).take _
def D.cut (lo hi : Option Int) : D → Option D
  | .lst l => some (.lst (cutG l lo hi))
  | .tup l => some (.tup (cutG l lo hi))
  | .str s => if s.length ≤ sizeLine then some (.str (cutS s lo hi)) else none
  | _ => none
/-- a part of a slice: none, or a whole number -/
def Pt := Option (M D)
def Pt.ev : Option (M D) → M (Option Int)
  | none => M.ret none
  | some m => M.bnd m fun d ρ => match d with
    | .int i => .ok (some i) ρ
    | _ => .bad
def tP (K : PySem.W.Frag) (mg : Str → Option Value) (W : WZ) (o : Option (M D)) : TO := fun σ H Q => ∃ (w : WS W) (A : List Addr) (ρ : Ev), SR K mg w A ρ σ H ∧ match Pt.ev o ρ with
  | .ok x ρ' => ∀ H', Ext A H H' → SR K mg w A ρ' σ H' → Q x H'
  | .exc e ρ' => ∀ c dd H', Ext A H H' → SR K mg w A ρ' σ H' → ExR K mg A H' e c dd → W c dd σ H'
  | .bad => False
def DP (X : Cx) (e : Option Expr) (o : Option (M D)) : Prop := ∀ W : WZ, TakesZ X W → PO X e (tP X.K X.mg W o)
theorem po_imp {e : Option Expr} {t t' : TO} (h : PO X e t) (q : ∀ σ H Q, t' σ H Q → t σ H Q) : PO X e t' := ⟨fun pins s σ H Q I hw => h.run pins s σ H Q I (q σ H Q hw)⟩
theorem dp_none : DP X none none := fun W _ => po_imp po_none fun σ H Q ⟨w, A, ρ, R, q⟩ => q H Ext.refl R
theorem dp_some {m : M D} (h : DE X e m) : DP X (some e) (some m) := fun W tk => po_imp (po_some (h W tk)) fun σ H Q ⟨w, A, ρ, R, q⟩ => by
  refine ⟨w, A, ρ, R, ?_⟩
  have e0 : Pt.ev (some m) ρ = M.bnd m (fun d ρ => match d with | .int i => .ok (some i) ρ | _ => .bad) ρ := rfl
  rw [e0] at q
  cases hm : m ρ with
  | exc e ρ1 => rw [bnd_exc hm] at q; exact q
  | bad => rw [bnd_bad hm] at q; exact q
  | ok d ρ1 =>
    rw [bnd_ok hm] at q
    intro v H1 ex1 R1 r1
    cases d with
    | int i => exact ⟨i, r1, q H1 ex1 R1⟩
    | _ => exact q.elim
def slc (x : Arg) (lo hi : Option (M D)) : M D := M.bnd x.ev fun v => M.bnd (Pt.ev lo) fun l => M.bnd (Pt.ev hi) fun u ρ => match (rs v ρ).bind (D.cut l u) with
  | some r => .ok r ρ
  | none => .bad
def rSlAll (K : PySem.W.Frag) : V → Option Int → Option Int → Hp → VK → Prop := fun x lo hi H Q => rSlL K x lo hi H Q ∨ (rSlA K x lo hi H Q ∨ ∃ z, x = .str z ∧ z.length ≤ sizeLine ∧ Q (.str (cutS z lo hi)) H)
theorem sIx_whole {α : Type} {xs : List α} {lo hi : Option Int} (h : HT.sIx xs.length 0 lo = 0 ∧ HT.sIx xs.length xs.length hi = xs.length) : cutG xs lo hi = xs := by
  unfold cutG
  rw [h.1, h.2]
  simp
theorem snd_cut {A : List Addr} {H : Hp} {x d : D} {v : V} {lo hi : Option Int} {Q : VK} (tk : Trk A H) (rx : Rep1 K mg A H x v) (e : D.cut lo hi x = some d)
    (q : ∀ v' H', Same H H' → Rep K mg (off A H') d v' → Q v' H') : rSlAll K v lo hi H Q := by
  cases x with
  | lst l =>
    cases (Option.some.inj e)
    obtain ⟨p, vs, e1, h, r⟩ := rx
    exact .inl ⟨p, vs, e1, SqL.of h, fun t nt => q _ _ (same_upd nt) (rep_lst tk nt r.cut)⟩
  | tup l =>
    cases (Option.some.inj e)
    obtain ⟨p, vs, e1, h, r⟩ := rx
    refine .inr (.inl ⟨p, vs, e1, SqT.mono off_le h, fun hw => ?_, fun _ t nt => q _ _ (same_upd nt) (rep_tup tk nt r.cut)⟩)
    have hl := r.length
    rw [← hl] at hw
    rw [sIx_whole hw] at q
    exact q _ _ (Same.refl _) ⟨p, vs, rfl, h, r⟩
  | str s =>
    obtain ⟨hz, rfl⟩ := ite_some e
    exact .inr (.inr ⟨s, rx, hz, q _ _ (Same.refl _) rfl⟩)
  | _ => cases e
theorem de_slice {lo hi : Option Expr} {l u : Option (M D)} {p2 : Pos} (ha : DO X a x) (hl : DP X lo l) (hu : DP X hi u) : DE X (.Subscript a (.Slice lo hi none p2) pos) (slc x l u) := fun W tk =>
  pe_imp (pe_slice (sl_list.or (sl_tupA.or sl_str)) (ha W tk) (hl W tk) (hu W tk)) fun σ H Q ⟨w, A, ρ, R, q⟩ => by
    refine ⟨w, A, ρ, R, ?_⟩
    unfold slc at q
    cases hx : x.ev ρ with
    | exc e ρ1 => rw [bnd_exc hx] at q; exact q
    | bad => rw [bnd_bad hx] at q; exact q
    | ok v ρ1 =>
      rw [bnd_ok hx] at q
      intro vv H1 ex1 R1 r1
      refine ⟨w, A, ρ1, R1, ?_⟩
      cases hy : Pt.ev l ρ1 with
      | exc e ρ2 => rw [bnd_exc hy] at q; exact fun c dd H2 ex2 R2 z => q c dd H2 (ex1.trans ex2) R2 z
      | bad => rw [bnd_bad hy] at q; exact q
      | ok lv ρ2 =>
        rw [bnd_ok hy] at q
        intro H2 ex2 R2
        refine ⟨w, A, ρ2, R2, ?_⟩
        cases hz : Pt.ev u ρ2 with
        | exc e ρ3 => rw [bnd_exc hz] at q; exact fun c dd H3 ex3 R3 z => q c dd H3 ((ex1.trans ex2).trans ex3) R3 z
        | bad => rw [bnd_bad hz] at q; exact q
        | ok uv ρ3 =>
          rw [bnd_ok hz] at q
          intro H3 ex3 R3
          cases hd : (rs v ρ3).bind (D.cut lv uv) with
          | none => rw [hd] at q; exact q.elim
          | some d =>
            rw [hd] at q
            obtain ⟨p', hp', hd⟩ := Option.bind_eq_some_iff.mp hd
            exact snd_cut R3.trk (rs_rep R3 (r1.ext (ex2.trans ex3)) hp') hd (op_end R3 ((ex1.trans ex2).trans ex3) q)
def dvs : List AV → Option (List D)
  | [] => some []
  | .d d :: as => (dvs as).map fun ds => d :: ds
  | .o _ :: _ => none
theorem dvs_rep {A : List Addr} {σ : St} {H : Hp} : ∀ {xs : List AV} {vs : List V} {ds : List D}, AVRs K mg A σ H xs vs → dvs xs = some ds → Reps K mg (off A H) ds vs
  | [], vs, ds, h, e => by cases (Option.some.inj e); exact h
  | .d d :: xs, vs, ds, ⟨v, r, e1, h, t⟩, e => by
    obtain ⟨ds', h2, e2⟩ := Option.map_eq_some_iff.mp e
    subst e1; subst e2
    exact ⟨v, r, rfl, h, dvs_rep t h2⟩
  | .o _ :: _, _, _, _, e => by cases e
def opV (f : List D → Option D) (as : List Arg) : M D := M.bnd (evs as) fun xs ρ => match (dvs xs).bind f with
  | some r => .ok r ρ
  | none => .bad
theorem de_vals {r : TA → TE} {f : List D → Option D} {e : Expr} (hp : ∀ t : TA, PA X es t → PE X e (r t)) (hm : ∀ (t : TA) σ H Q G, t σ H G → (∀ vs H1, G vs H1 → r (fun _ H' Q' => Q' vs H') σ H1 Q) → r t σ H Q)
    (hs : ∀ (A : List Addr) (σ : St) (H : Hp) (xs : List D) (d : D) (vs : List V) (Q : VK), Trk A H → Reps K mg (off A H) xs vs → f xs = some d → (∀ v' H', Same H H' → Rep K mg (off A H') d v' → Q v' H') → r (fun _ H' Q' => Q' vs H') σ H Q)
    (ha : DA X es as) (hK : X.K = K) (hg : X.mg = mg) : DE X e (opV f as) := fun W tk =>
  pe_imp (hp _ (ha W tk)) fun σ H Q ⟨w, A, ρ, R, q⟩ => by
    subst hK hg
    refine hm _ σ H Q (fun vs H1 => r (fun _ H' Q' => Q' vs H') σ H1 Q) ⟨w, A, ρ, R, ?_⟩ fun _ _ h => h
    unfold opV at q
    cases hx : evs as ρ with
    | exc e ρ1 => rw [bnd_exc hx] at q; exact q
    | bad => rw [bnd_bad hx] at q; exact q
    | ok v ρ1 =>
      rw [bnd_ok hx] at q
      intro vv H1 ex1 R1 r1
      cases hd : (dvs v).bind f with
      | none => rw [hd] at q; exact q.elim
      | some d =>
        rw [hd] at q
        obtain ⟨p, hp, hd⟩ := Option.bind_eq_some_iff.mp hd
        exact hs A σ H1 p d vv Q R1.trk (dvs_rep r1 hp) hd (op_end R1 ex1 q)
def D.mkL (l : List D) : Option D := if l.length ≤ sizeLine then some (.lst l) else none
def D.mkT (l : List D) : Option D := if l.length ≤ sizeLine then some (.tup l) else none
theorem da_mono {t : TA} {W : WZ} (h : PA X es (tA X.K X.mg W as)) : PA X es (tA X.K X.mg W as) := h
theorem de_lst (ha : DA X es as) : DE X (.List es pos) (opV D.mkL as) := fun W tk => pe_imp (pe_lst (ha W tk)) fun σ H Q ⟨w, A, ρ, R, q⟩ => by
  refine ⟨w, A, ρ, R, ?_⟩
  unfold opV at q
  cases hx : evs as ρ with
  | exc e ρ1 => rw [bnd_exc hx] at q; exact q
  | bad => rw [bnd_bad hx] at q; exact q
  | ok v ρ1 =>
    rw [bnd_ok hx] at q
    intro vv H1 ex1 R1 r1
    cases hd : (dvs v).bind D.mkL with
    | none => rw [hd] at q; exact q.elim
    | some d =>
      rw [hd] at q
      obtain ⟨p, hp, hd⟩ := Option.bind_eq_some_iff.mp hd
      obtain ⟨hz, rfl⟩ := ite_some hd
      have r := dvs_rep r1 hp
      exact ⟨by rw [← r.length]; exact hz, fun t nt => op_end R1 ex1 q _ _ (same_upd nt) (rep_lst R1.trk nt r)⟩
theorem de_tup {x1} (ha : DA X es as) : DE X (.Tuple es x1 pos) (opV D.mkT as) := fun W tk => pe_imp (pe_tup (ha W tk)) fun σ H Q ⟨w, A, ρ, R, q⟩ => by
  refine ⟨w, A, ρ, R, ?_⟩
  unfold opV at q
  cases hx : evs as ρ with
  | exc e ρ1 => rw [bnd_exc hx] at q; exact q
  | bad => rw [bnd_bad hx] at q; exact q
  | ok v ρ1 =>
    rw [bnd_ok hx] at q
    intro vv H1 ex1 R1 r1
    cases hd : (dvs v).bind D.mkT with
    | none => rw [hd] at q; exact q.elim
    | some d =>
      rw [hd] at q
      obtain ⟨p, hp, hd⟩ := Option.bind_eq_some_iff.mp hd
      obtain ⟨hz, rfl⟩ := ite_some hd
      have r := dvs_rep r1 hp
      exact ⟨by rw [← r.length]; exact hz, fun t nt => op_end R1 ex1 q _ _ (same_upd nt) (rep_tup R1.trk nt r)⟩
theorem zip_lookup {F : Hp} {f : Str} : ∀ {ns : List Str} {ds : List D} {vs : List V} {d : D}, Reps K mg F ds vs → (ns.zip ds).lookup f = some d → ∃ v, (ns.zip vs).lookup f = some v ∧ Rep K mg F d v
  | [], _, _, _, _, h => by simp at h
  | n :: ns, [], _, _, _, h => by simp at h
  | n :: ns, d' :: ds, _, d, ⟨v, r, e, h1, h2⟩, h => by
    subst e
    rw [List.zip_cons_cons, List.lookup_cons] at h ⊢
    cases hf : f == n with
    | true => rw [hf] at h; cases (Option.some.inj h); exact ⟨v, rfl, h1⟩
    | false => rw [hf] at h; exact zip_lookup h2 h
def D.fld (c f : Str) : D → Option D
  | .obj c' ns l => if c' = c then (ns.zip l).lookup f else none
  | _ => none
/-- what the written part says of a class and a field of it -/
def FldOk (K : PySem.W.Frag) (mg : Str → Option Value) (c f : Str) : Prop := ∀ C, mg c = some (.ref C) → Cls K C ∧ NoAttr K C f
theorem de_fld {c f : Str} (ok : FldOk X.K X.mg c f) (ha : DO X a x) (hb : attributeBase a f X.env (eval a X.env) = eval a X.env := by rfl) : DE X (.Attribute a f pos) (op1 (D.fld c f) x) :=
  de_one (r := fun x H1 Q => ∃ a C dx fs v, x = .ref a ∧ H1 a = some (.ins C dx fs) ∧ Cls X.K C ∧ NoAttr X.K C f ∧ fs.lookup f = some v ∧ Q v H1) (fun _ h => pe_fld h hb) (by
    intro A H x d v Q tk rx e q
    cases x with
    | obj c' ns l =>
      obtain ⟨a, C, dx, fvs, e1, m, h, n, r⟩ := rx
      have e : (if c' = c then (ns.zip l).lookup f else none) = some d := e
      by_cases hc : c' = c
      · subst hc
        rw [if_pos rfl] at e
        obtain ⟨u, h1, h2⟩ := zip_lookup r e
        exact ⟨a, C, dx, _, u, e1, h, (ok C m).1, (ok C m).2, h1, q _ _ (Same.refl _) h2⟩
      · rw [if_neg hc] at e; cases e
    | _ => cases e) ha
def D.len : List D → Option D
  | [.lst l] => some (.int l.length)
  | [.tup l] => some (.int l.length)
  | [.scr l] => some (.int l.length)
  | [.str s] => if s.length ≤ sizeLine then some (.int s.length) else none
  | _ => none
def D.toL : List D → Option D
  | [.lst l] => some (.lst l)
  | [.tup l] => some (.lst l)
  | _ => none
def D.toT : List D → Option D
  | [.lst l] => some (.tup l)
  | [.tup l] => some (.tup l)
  | _ => none
def D.toI : List D → Option D
  | [.int i] => some (.int i)
  | [.bl k] => some (.int (if k then 1 else 0))
  | _ => none
theorem Reps1.one {A : List Addr} {H : Hp} {d : D} {vs : List V} (h : Reps1 K mg A H [d] vs) : ∃ v, vs = [v] ∧ Rep1 K mg A H d v := by
  cases h with
  | cons h t => cases t; exact ⟨_, rfl, h⟩
theorem Reps1.two {A : List Addr} {H : Hp} {d d' : D} {vs : List V} (h : Reps1 K mg A H [d, d'] vs) : ∃ v u, vs = [v, u] ∧ Rep1 K mg A H d v ∧ Rep1 K mg A H d' u := by
  cases h with
  | cons h t => cases t with
    | cons h' t => cases t; exact ⟨_, _, rfl, h, h'⟩
theorem snd_len : SndN K mg (fun xs H Q => (∃ p ys, xs = [.ref p] ∧ (SqL K H p ys ∨ SqT K H p ys) ∧ Q (.int ys.length) H) ∨ ∃ z, xs = [.str z] ∧ z.length ≤ sizeLine ∧ Q (.int z.length) H) D.len := by
  intro A H xs d vs Q tk rx e q
  match xs, rx, e with
  | [.lst l], rx, e =>
    obtain ⟨v, rfl, p, us, rfl, h, r⟩ := rx.one
    cases (Option.some.inj e)
    exact .inl ⟨p, us, rfl, .inl (SqL.of h), q _ _ (Same.refl _) (by rw [r.length]; rfl)⟩
  | [.scr l], rx, e =>
    obtain ⟨v, rfl, p, us, rfl, h, r⟩ := rx.one
    cases (Option.some.inj e)
    exact .inl ⟨p, us, rfl, .inl (SqL.mono off_le h), q _ _ (Same.refl _) (by rw [r.length]; rfl)⟩
  | [.tup l], rx, e =>
    obtain ⟨v, rfl, p, us, rfl, h, r⟩ := rx.one
    cases (Option.some.inj e)
    exact .inl ⟨p, us, rfl, .inr (SqT.mono off_le h), q _ _ (Same.refl _) (by rw [r.length]; rfl)⟩
  | [.str s], rx, e =>
    obtain ⟨v, rfl, r⟩ := rx.one
    cases r
    obtain ⟨hz, rfl⟩ := ite_some e
    exact .inr ⟨s, rfl, hz, q _ _ (Same.refl _) rfl⟩
theorem de_len (hg : Gl X "len") (hm : X.mg "len" = none) (ha : DA X (e :: es) as)
    (he : starEach (e :: es) X.env = (false, eval e X.env) :: starEach es X.env := by rfl) (hpl : (backTo pos (starEach es X.env)).any (·.1) = false := by rfl) : DE X (.Call (.Name "len" p) (e :: es) [] pos) (opN D.len as) :=
  de_many (fun _ h => pe_callB (call_len_seq.or call_len_str) hg hm PySem.boot_len h (he := he) (hpl := hpl)) snd_len ha
theorem de_list (hg : Gl X "list") (hm : X.mg "list" = none) (ha : DA X (e :: es) as)
    (he : starEach (e :: es) X.env = (false, eval e X.env) :: starEach es X.env := by rfl) (hpl : (backTo pos (starEach es X.env)).any (·.1) = false := by rfl) : DE X (.Call (.Name "list" p) (e :: es) [] pos) (opN D.toL as) :=
  de_many (fun _ h => pe_callTy call_list_of hg hm (by decide +kernel) h (he := he) (hpl := hpl)) (by
    intro A H xs d vs Q tk rx e q
    match xs, rx, e with
    | [.lst l], rx, e =>
      obtain ⟨v, rfl, p, us, rfl, h, r⟩ := rx.one
      cases (Option.some.inj e)
      exact ⟨p, us, rfl, .inl (SqL.of h), fun t nt => q _ _ (same_upd nt) (rep_lst tk nt r)⟩
    | [.tup l], rx, e =>
      obtain ⟨v, rfl, p, us, rfl, h, r⟩ := rx.one
      cases (Option.some.inj e)
      exact ⟨p, us, rfl, .inr (SqT.mono off_le h), fun t nt => q _ _ (same_upd nt) (rep_lst tk nt r)⟩) ha
theorem de_tuple (hg : Gl X "tuple") (hm : X.mg "tuple" = none) (ha : DA X (e :: es) as)
    (he : starEach (e :: es) X.env = (false, eval e X.env) :: starEach es X.env := by rfl) (hpl : (backTo pos (starEach es X.env)).any (·.1) = false := by rfl) : DE X (.Call (.Name "tuple" p) (e :: es) [] pos) (opN D.toT as) :=
  de_many (fun _ h => pe_callTy call_tuple_of hg hm (by decide +kernel) h (he := he) (hpl := hpl)) (by
    intro A H xs d vs Q tk rx e q
    match xs, rx, e with
    | [.lst l], rx, e =>
      obtain ⟨v, rfl, p, us, rfl, h, r⟩ := rx.one
      cases (Option.some.inj e)
      exact ⟨p, us, rfl, .inl ⟨SqL.of h, fun t nt => q _ _ (same_upd nt) (rep_tup tk nt r)⟩⟩
    | [.tup l], rx, e =>
      obtain ⟨v, rfl, p, us, rfl, h, r⟩ := rx.one
      cases (Option.some.inj e)
      exact ⟨p, us, rfl, .inr ⟨SqT.mono off_le h, q _ _ (Same.refl _) ⟨p, us, rfl, h, r⟩⟩⟩) ha
theorem de_intc (hg : Gl X "int") (hm : X.mg "int" = none) (ha : DA X (e :: es) as)
    (he : starEach (e :: es) X.env = (false, eval e X.env) :: starEach es X.env := by rfl) (hpl : (backTo pos (starEach es X.env)).any (·.1) = false := by rfl) : DE X (.Call (.Name "int" p) (e :: es) [] pos) (opN D.toI as) :=
  de_many (fun _ h => pe_callTy call_int1 hg hm (by decide +kernel) h (he := he) (hpl := hpl)) (by
    intro A H xs d vs Q tk rx e q
    match xs, rx, e with
    | [.int l], rx, e =>
      obtain ⟨v, rfl, r⟩ := rx.one
      cases r
      cases (Option.some.inj e)
      exact .inl ⟨l, rfl, q _ _ (Same.refl _) rfl⟩
    | [.bl l], rx, e =>
      obtain ⟨v, rfl, r⟩ := rx.one
      cases r
      cases (Option.some.inj e)
      exact .inr ⟨l, rfl, q _ _ (Same.refl _) rfl⟩) ha
end
end DL
namespace DL
open PySem L2
section
variable {X : Cx} {a b c e : Expr} {es : List Expr} {x y : Arg} {as : List Arg} {pos p : Pos} {K : PySem.W.Frag} {mg : Str → Option Value}
theorem Rep1.same {A : List Addr} {H H' : Hp} (s : Same H H') : ∀ {d : D} {v : V}, Rep1 K mg A H d v → Rep1 K mg A H' d v
  | .lst l, _, ⟨a, xs, e, q, r⟩ => ⟨a, xs, e, s _ _ q, r.mono (off_Same s)⟩
  | .obj _ _ l, _, ⟨a, C, dx, fvs, e, m, q, n, r⟩ => ⟨a, C, dx, fvs, e, m, s _ _ q, n, r.mono (off_Same s)⟩
  | .non, _, h => h
  | .bl _, _, h => h
  | .int _, _, h => h
  | .str _, _, h => h
  | .fn _, _, h => h
  | .tup l, v, h => Rep.mono (off_Same s) (.tup l) v h
  | .scr l, v, h => Rep.mono (off_Same s) (.scr l) v h
def D.intsOf : List D → Option (List Int)
  | [] => some []
  | .int i :: r => (D.intsOf r).map fun is => i :: is
  | _ => none
def D.blsOf : List D → Option (List Bool)
  | [] => some []
  | .bl i :: r => (D.blsOf r).map fun is => i :: is
  | _ => none
theorem ints_vals {F : Hp} : ∀ {l : List D} {vs : List V} {ns : List Int}, Reps K mg F l vs → D.intsOf l = some ns → vs = ns.map V.int
  | [], _, _, r, e => by cases (Option.some.inj e); exact r
  | .int i :: l, _, _, ⟨v, r, e1, h, t⟩, e => by
    obtain ⟨ns', h2, e2⟩ := Option.map_eq_some_iff.mp e
    subst e1; subst e2
    rw [ints_vals t h2, show v = .int i from h]
    rfl
  | .non :: _, _, _, _, e => by cases e
  | .bl _ :: _, _, _, _, e => by cases e
  | .str _ :: _, _, _, _, e => by cases e
  | .tup _ :: _, _, _, _, e => by cases e
  | .lst _ :: _, _, _, _, e => by cases e
  | .obj _ _ _ :: _, _, _, _, e => by cases e
  | .fn _ :: _, _, _, _, e => by cases e
  | .scr _ :: _, _, _, _, e => by cases e
theorem bls_vals {F : Hp} : ∀ {l : List D} {vs : List V} {ns : List Bool}, Reps K mg F l vs → D.blsOf l = some ns → vs = ns.map V.bl
  | [], _, _, r, e => by cases (Option.some.inj e); exact r
  | .bl i :: l, _, _, ⟨v, r, e1, h, t⟩, e => by
    obtain ⟨ns', h2, e2⟩ := Option.map_eq_some_iff.mp e
    subst e1; subst e2
    rw [bls_vals t h2, show v = .bl i from h]
    rfl
  | .non :: _, _, _, _, e => by cases e
  | .int _ :: _, _, _, _, e => by cases e
  | .str _ :: _, _, _, _, e => by cases e
  | .tup _ :: _, _, _, _, e => by cases e
  | .lst _ :: _, _, _, _, e => by cases e
  | .obj _ _ _ :: _, _, _, _, e => by cases e
  | .fn _ :: _, _, _, _, e => by cases e
  | .scr _ :: _, _, _, _, e => by cases e
@[simp] theorem intsOf_map (l : List Int) : D.intsOf (l.map D.int) = some l := by
  induction l with
  | nil => rfl
  | cons a r ih => show (D.intsOf (r.map D.int)).map _ = _; rw [ih]; rfl
@[simp] theorem blsOf_map (l : List Bool) : D.blsOf (l.map D.bl) = some l := by
  induction l with
  | nil => rfl
  | cons a r ih => show (D.blsOf (r.map D.bl)).map _ = _; rw [ih]; rfl
/-- a built-in function called by its name -/
theorem de_callB {nm : Str} {id : String} {r : List V → Hp → VK → Prop} {f : List D → Option D} (hc : CallR X (.builtin id) r) (hs : SndN X.K X.mg r f) (hv : bootBuiltins nm = some (.builtin id)) (hn : nm ≠ "__name__") (hdb : (nm == ("__debug__" : Str)) = false)
    (hg : Gl X nm) (hm : X.mg nm = none) (ha : DA X (e :: es) as)
    (he : starEach (e :: es) X.env = (false, eval e X.env) :: starEach es X.env := by rfl) (hpl : (backTo pos (starEach es X.env)).any (·.1) = false := by rfl) : DE X (.Call (.Name nm p) (e :: es) [] pos) (opN f as) :=
  de_many (fun _ h => pe_callB hc hg hm hv h hn hdb he hpl) hs ha
theorem de_callTy {nm : Str} {T : String} {r : List V → Hp → VK → Prop} {f : List D → Option D} (hc : CallR X (.type T) r) (hs : SndN X.K X.mg r f) (hv : bootBuiltins nm = some (.type T)) (hn : nm ≠ "__name__") (hdb : (nm == ("__debug__" : Str)) = false)
    (hg : Gl X nm) (hm : X.mg nm = none) (ha : DA X (e :: es) as)
    (he : starEach (e :: es) X.env = (false, eval e X.env) :: starEach es X.env := by rfl) (hpl : (backTo pos (starEach es X.env)).any (·.1) = false := by rfl) : DE X (.Call (.Name nm p) (e :: es) [] pos) (opN f as) :=
  de_many (fun _ h => pe_callTy hc hg hm hv h hn hdb he hpl) hs ha
def D.sum : List D → Option D
  | [.lst l] => (D.intsOf l).map fun ns => .int ns.sum
  | _ => none
def lmax : Int → List Int → Int
  | a, [] => a
  | a, b :: r => lmax (max a b) r
def lmin : Int → List Int → Int
  | a, [] => a
  | a, b :: r => lmin (min a b) r
theorem lmax_ge : ∀ (r : List Int) (a : Int), a ≤ lmax a r ∧ ∀ y ∈ r, y ≤ lmax a r
  | [], a => ⟨Int.le_refl _, fun y h => by cases h⟩
  | b :: r, a => by
    obtain ⟨h1, h2⟩ := lmax_ge r (max a b)
    refine ⟨by show a ≤ lmax (max a b) r; omega, fun y hy => ?_⟩
    rcases List.mem_cons.mp hy with rfl | hy
    · show y ≤ lmax (max a y) r; omega
    · exact h2 y hy
theorem lmax_mem : ∀ (r : List Int) (a : Int), lmax a r ∈ a :: r
  | [], a => by simp [lmax]
  | b :: r, a => by
    have h := lmax_mem r (max a b)
    show lmax (max a b) r ∈ _
    rcases List.mem_cons.mp h with h | h
    · rw [h]
      rcases Int.le_total a b with q | q
      · rw [Int.max_eq_right q]; simp
      · rw [Int.max_eq_left q]; simp
    · simp [h]
theorem lmin_le : ∀ (r : List Int) (a : Int), lmin a r ≤ a ∧ ∀ y ∈ r, lmin a r ≤ y
  | [], a => ⟨Int.le_refl _, fun y h => by cases h⟩
  | b :: r, a => by
    obtain ⟨h1, h2⟩ := lmin_le r (min a b)
    refine ⟨by show lmin (min a b) r ≤ a; omega, fun y hy => ?_⟩
    rcases List.mem_cons.mp hy with rfl | hy
    · show lmin (min a y) r ≤ y; omega
    · exact h2 y hy
theorem lmin_mem : ∀ (r : List Int) (a : Int), lmin a r ∈ a :: r
  | [], a => by simp [lmin]
  | b :: r, a => by
    have h := lmin_mem r (min a b)
    show lmin (min a b) r ∈ _
    rcases List.mem_cons.mp h with h | h
    · rw [h]
      rcases Int.le_total a b with q | q
      · rw [Int.min_eq_left q]; simp
      · rw [Int.min_eq_right q]; simp
    · simp [h]
theorem lmax_only {a : Int} {r : List Int} {m : Int} (h1 : m ∈ a :: r) (h2 : ∀ y ∈ a :: r, y ≤ m) : m = lmax a r := by
  have h3 := h2 _ (lmax_mem r a)
  obtain ⟨h4, h5⟩ := lmax_ge r a
  rcases List.mem_cons.mp h1 with h | h
  · omega
  · have := h5 m h; omega
theorem lmin_only {a : Int} {r : List Int} {m : Int} (h1 : m ∈ a :: r) (h2 : ∀ y ∈ a :: r, m ≤ y) : m = lmin a r := by
  have h3 := h2 _ (lmin_mem r a)
  obtain ⟨h4, h5⟩ := lmin_le r a
  rcases List.mem_cons.mp h1 with h | h
  · omega
  · have := h5 m h; omega
def D.max : List D → Option D
  | [.int i, .int j] => some (.int (Max.max i j))
  | [.lst l] => (D.intsOf l).bind fun ns => match ns with
    | a :: r => some (.int (lmax a r))
    | [] => none
  | _ => none
def D.min : List D → Option D
  | [.int i, .int j] => some (.int (Min.min i j))
  | [.lst l] => (D.intsOf l).bind fun ns => match ns with
    | a :: r => some (.int (lmin a r))
    | [] => none
  | _ => none
def D.all : List D → Option D
  | [.lst l] => (D.blsOf l).map fun ns => .bl (ns.all id)
  | _ => none
def D.any : List D → Option D
  | [.lst l] => (D.blsOf l).map fun ns => .bl (ns.any id)
  | _ => none
theorem de_sum (hc : X.calm = true) (hg : Gl X "sum") (hm : X.mg "sum" = none) (ha : DA X (e :: es) as)
    (he : starEach (e :: es) X.env = (false, eval e X.env) :: starEach es X.env := by rfl) (hpl : (backTo pos (starEach es X.env)).any (·.1) = false := by rfl) : DE X (.Call (.Name "sum" p) (e :: es) [] pos) (opN D.sum as) :=
  de_callB (cr_sum hc) (by
    intro A H xs d vs Q tk rx e q
    match xs, rx, e with
    | [.lst l], rx, e =>
      obtain ⟨v, rfl, p, us, rfl, h, r⟩ := rx.one
      obtain ⟨ns, h1, e1⟩ := Option.map_eq_some_iff.mp e
      subst e1
      rw [ints_vals r h1] at h
      exact ⟨p, ns, rfl, SqL.of h, q _ _ (Same.refl _) rfl⟩) PyProof.Rows.boot_sum (by decide) (by decide) hg hm ha he hpl
theorem de_max (hc : X.calm = true) (hg : Gl X "max") (hm : X.mg "max" = none) (ha : DA X (e :: es) as)
    (he : starEach (e :: es) X.env = (false, eval e X.env) :: starEach es X.env := by rfl) (hpl : (backTo pos (starEach es X.env)).any (·.1) = false := by rfl) : DE X (.Call (.Name "max" p) (e :: es) [] pos) (opN D.max as) :=
  de_callB ((call_max2 hc).or (cr_max hc)) (by
    intro A H xs d vs Q tk rx e q
    match xs, rx, e with
    | [.int i, .int j], rx, e =>
      obtain ⟨v, u, rfl, r1, r2⟩ := rx.two
      cases r1; cases r2
      cases (Option.some.inj e)
      refine .inl ⟨i, j, rfl, ?_⟩
      have : (if j > i then j else i) = Max.max i j := by split <;> omega
      rw [this]
      exact q _ _ (Same.refl _) rfl
    | [.lst l], rx, e =>
      obtain ⟨v, rfl, p, us, rfl, h, r⟩ := rx.one
      obtain ⟨ns, h1, e1⟩ := Option.bind_eq_some_iff.mp e
      rw [ints_vals r h1] at h
      cases ns with
      | nil => cases e1
      | cons n ns =>
        cases (Option.some.inj e1)
        exact .inr ⟨p, _, rfl, SqL.of h, by simp, fun m h1 h2 => by rw [lmax_only h1 h2]; exact q _ _ (Same.refl _) rfl⟩) PyProof.Rows.boot_max (by decide) (by decide) hg hm ha he hpl
theorem de_min (hc : X.calm = true) (hg : Gl X "min") (hm : X.mg "min" = none) (ha : DA X (e :: es) as)
    (he : starEach (e :: es) X.env = (false, eval e X.env) :: starEach es X.env := by rfl) (hpl : (backTo pos (starEach es X.env)).any (·.1) = false := by rfl) : DE X (.Call (.Name "min" p) (e :: es) [] pos) (opN D.min as) :=
  de_callB ((call_min2 hc).or (cr_min hc)) (by
    intro A H xs d vs Q tk rx e q
    match xs, rx, e with
    | [.int i, .int j], rx, e =>
      obtain ⟨v, u, rfl, r1, r2⟩ := rx.two
      cases r1; cases r2
      cases (Option.some.inj e)
      refine .inl ⟨i, j, rfl, ?_⟩
      have : (if j < i then j else i) = Min.min i j := by split <;> omega
      rw [this]
      exact q _ _ (Same.refl _) rfl
    | [.lst l], rx, e =>
      obtain ⟨v, rfl, p, us, rfl, h, r⟩ := rx.one
      obtain ⟨ns, h1, e1⟩ := Option.bind_eq_some_iff.mp e
      rw [ints_vals r h1] at h
      cases ns with
      | nil => cases e1
      | cons n ns =>
        cases (Option.some.inj e1)
        exact .inr ⟨p, _, rfl, SqL.of h, by simp, fun m h1 h2 => by rw [lmin_only h1 h2]; exact q _ _ (Same.refl _) rfl⟩) PyProof.Rows.boot_min (by decide) (by decide) hg hm ha he hpl
theorem boot_all : bootBuiltins "all" = some (.builtin "all") := by decide +kernel
theorem boot_any : bootBuiltins "any" = some (.builtin "any") := by decide +kernel
theorem de_all (hc : X.calm = true) (hg : Gl X "all") (hm : X.mg "all" = none) (ha : DA X (e :: es) as)
    (he : starEach (e :: es) X.env = (false, eval e X.env) :: starEach es X.env := by rfl) (hpl : (backTo pos (starEach es X.env)).any (·.1) = false := by rfl) : DE X (.Call (.Name "all" p) (e :: es) [] pos) (opN D.all as) :=
  de_callB (cr_all hc) (by
    intro A H xs d vs Q tk rx e q
    match xs, rx, e with
    | [.lst l], rx, e =>
      obtain ⟨v, rfl, p, us, rfl, h, r⟩ := rx.one
      obtain ⟨ns, h1, e1⟩ := Option.map_eq_some_iff.mp e
      subst e1
      rw [bls_vals r h1] at h
      exact ⟨p, ns, rfl, SqL.of h, q _ _ (Same.refl _) rfl⟩) boot_all (by decide) (by decide) hg hm ha he hpl
theorem de_any (hc : X.calm = true) (hg : Gl X "any") (hm : X.mg "any" = none) (ha : DA X (e :: es) as)
    (he : starEach (e :: es) X.env = (false, eval e X.env) :: starEach es X.env := by rfl) (hpl : (backTo pos (starEach es X.env)).any (·.1) = false := by rfl) : DE X (.Call (.Name "any" p) (e :: es) [] pos) (opN D.any as) :=
  de_callB (cr_any hc) (by
    intro A H xs d vs Q tk rx e q
    match xs, rx, e with
    | [.lst l], rx, e =>
      obtain ⟨v, rfl, p, us, rfl, h, r⟩ := rx.one
      obtain ⟨ns, h1, e1⟩ := Option.map_eq_some_iff.mp e
      subst e1
      rw [bls_vals r h1] at h
      exact ⟨p, ns, rfl, SqL.of h, q _ _ (Same.refl _) rfl⟩) boot_any (by decide) (by decide) hg hm ha he hpl
/-- the built-in classes that are asked for -/
inductive Ty where
  | int | bool | str | list | tuple
def Ty.nm : Ty → String
  | .int => "int" | .bool => "bool" | .str => "str" | .list => "list" | .tuple => "tuple"
def D.tn : D → Option String
  | .non => some "NoneType"
  | .bl _ => some "bool"
  | .int _ => some "int"
  | .str _ => some "str"
  | .tup _ => some "tuple"
  | .lst _ => some "list"
  | .scr _ => some "list"
  | _ => none
def D.is : Ty → D → Option Bool
  | .int, .int _ => some true | .int, .bl _ => some true | .bool, .bl _ => some true | .str, .str _ => some true
  | .list, .lst _ => some true | .list, .scr _ => some true | .tuple, .tup _ => some true
  | _, d => d.tn.map fun _ => false
theorem is_kit : ∀ (t : Ty) (d : D) (k : Bool), D.is t d = some k → ∃ n, d.tn = some n ∧ kitB n t.nm = some k := by
  intro t d k h
  cases t <;> cases d <;> first
    | (cases h; done)
    | (cases (Option.some.inj h); exact ⟨_, rfl, by decide +kernel⟩)
theorem tyx_of {A : List Addr} {H : Hp} {d : D} {v : V} {n : String} (r : Rep1 K mg A H d v) (h : d.tn = some n) : TyX K H v (.type n) := by
  cases d with
  | non => cases r; cases (Option.some.inj h); exact .base .non
  | bl b => cases r; cases (Option.some.inj h); exact .base (.bl _)
  | int b => cases r; cases (Option.some.inj h); exact .base (.int _)
  | str b => cases r; cases (Option.some.inj h); exact .base (.str _)
  | tup l =>
    obtain ⟨a, xs, rfl, q, _⟩ := r
    cases (Option.some.inj h)
    rcases SqT.mono off_le q with (q | ⟨o, q⟩) | ⟨o, its, n, q1, q2, _⟩
    · exact .base (.tup q)
    · exact .fTuple q
    · exact .kTuple q1 q2
  | lst l =>
    obtain ⟨a, xs, rfl, q, _⟩ := r
    cases (Option.some.inj h)
    exact .base (.lst q)
  | scr l =>
    obtain ⟨a, xs, rfl, q, _⟩ := r
    cases (Option.some.inj h)
    rcases SqL.mono off_le q with (q | ⟨o, q⟩) | ⟨o, its, n, q1, q2, _⟩
    · exact .base (.lst q)
    · exact .base (.frz q)
    · exact .kList q1 q2
  | obj _ _ _ => cases h
  | fn _ => cases h
def isiB (t : Ty) (d : D) : Option D := (D.is t d).map D.bl
def isi2 (t u : Ty) (d : D) : Option D := match D.is t d, D.is u d with
  | some a, some b => some (.bl (a || b))
  | _, _ => none
/-- isinstance(x, T) -/
theorem de_isi (t : Ty) {nm : Str} {p2 : Pos} (hg : Gl X "isinstance") (hm : X.mg "isinstance" = none) (hg2 : Gl X nm) (hm2 : X.mg nm = none) (hv : bootBuiltins nm = some (.type t.nm)) (ha : DO X a x)
    (hn : nm ≠ "__name__" := by decide) (hdb : (nm == ("__debug__" : Str)) = false := by decide)
    (hs : starEach [a, .Name nm p2] X.env = (false, eval a X.env) :: starEach [.Name nm p2] X.env := by rfl) (hs2 : starEach [.Name nm p2] X.env = (false, eval (.Name nm p2) X.env) :: starEach [] X.env := by rfl)
    (hpl : (backTo pos (starEach [.Name nm p2] X.env)).any (·.1) = false := by rfl) :
    DE X (.Call (.Name "isinstance" p) [a, .Name nm p2] [] pos) (op1 (isiB t) x) :=
  de_one (r := fun v H Q => rIsi X.K [v, .ty t.nm] H Q) (fun ta h => pe_imp (pe_callB call_isi hg hm PyProof.Rows.boot_isinstance (pa_cons h (pa_cons (pe_bltn (v := .ty t.nm) hg2 hm2 hv rfl hn hdb) pa_nil hs2) hs) (he := hs) (hpl := hpl)) fun σ H Q q => q) (by
    intro A H x d v Q tk rx e q
    obtain ⟨k, h1, e1⟩ := Option.map_eq_some_iff.mp e
    subst e1
    obtain ⟨n, h2, h3⟩ := is_kit t x k h1
    exact ⟨v, .ty t.nm, .type n, .type t.nm, k, rfl, .ty _, tyx_of rx h2, kit_ty h3, q _ _ (Same.refl _) rfl⟩) ha
/-- isinstance(x, (T, U)) -/
theorem de_isi2 (t u : Ty) {nm nm' : Str} {p2 p3 p4 : Pos} {k4} (hg : Gl X "isinstance") (hm : X.mg "isinstance" = none) (hg2 : Gl X nm) (hm2 : X.mg nm = none) (hv : bootBuiltins nm = some (.type t.nm)) (hg3 : Gl X nm') (hm3 : X.mg nm' = none) (hv3 : bootBuiltins nm' = some (.type u.nm)) (ha : DO X a x)
    (hn : nm ≠ "__name__" := by decide) (hdb : (nm == ("__debug__" : Str)) = false := by decide) (hn3 : nm' ≠ "__name__" := by decide) (hdb3 : (nm' == ("__debug__" : Str)) = false := by decide)
    (hs : starEach [a, .Tuple [.Name nm p2, .Name nm' p3] k4 p4] X.env = (false, eval a X.env) :: starEach [.Tuple [.Name nm p2, .Name nm' p3] k4 p4] X.env := by rfl)
    (hs2 : starEach [.Tuple [.Name nm p2, .Name nm' p3] k4 p4] X.env = (false, eval (.Tuple [.Name nm p2, .Name nm' p3] k4 p4) X.env) :: starEach [] X.env := by rfl)
    (hs3 : starEach [.Name nm p2, .Name nm' p3] X.env = (false, eval (.Name nm p2) X.env) :: starEach [.Name nm' p3] X.env := by rfl)
    (hs4 : starEach [.Name nm' p3] X.env = (false, eval (.Name nm' p3) X.env) :: starEach [] X.env := by rfl)
    (hpl : (backTo pos (starEach [.Tuple [.Name nm p2, .Name nm' p3] k4 p4] X.env)).any (·.1) = false := by rfl) :
    DE X (.Call (.Name "isinstance" p) [a, .Tuple [.Name nm p2, .Name nm' p3] k4 p4] [] pos) (op1 (isi2 t u) x) :=
  de_one (r := fun v H Q => [V.ty t.nm, V.ty u.nm].length ≤ sizeLine ∧ ∀ tp, H tp = none → rIsiT X.K [v, .ref tp] (upd H tp (.tup [.ty t.nm, .ty u.nm])) Q) (fun ta h => pe_imp (pe_callB call_isiT hg hm PyProof.Rows.boot_isinstance
      (pa_cons h (pa_cons (pe_tup (pa_cons (pe_bltn (v := .ty t.nm) hg2 hm2 hv rfl hn hdb) (pa_cons (pe_bltn (v := .ty u.nm) hg3 hm3 hv3 rfl hn3 hdb3) pa_nil hs4) hs3)) pa_nil hs2) hs) (he := hs) (hpl := hpl))
      fun σ H Q q => q) (by
    intro A H x d v Q tk rx e q
    refine ⟨by show 2 ≤ sizeLine; decide, fun tp hn => ?_⟩
    unfold isi2 at e
    cases h1 : D.is t x with
    | none => rw [h1] at e; cases e
    | some k1 =>
      cases h2 : D.is u x with
      | none => rw [h1, h2] at e; cases e
      | some k2 =>
        rw [h1, h2] at e
        cases (Option.some.inj e)
        obtain ⟨n, g1, g2⟩ := is_kit t x k1 h1
        obtain ⟨n', g3, g4⟩ := is_kit u x k2 h2
        rw [g1] at g3
        cases g3
        have ty : TyX X.K (upd H tp (.tup [.ty t.nm, .ty u.nm])) v (.type n) := tyx_of (rx.same (same_upd hn)) g1
        refine ⟨v, tp, [.ty t.nm, .ty u.nm], .type n, [.type t.nm, .type u.nm], (k1 || k2), rfl, upd_same, .cons (.ty _) (.cons (.ty _) .nil), ty, ?_, q _ _ (same_upd hn) rfl⟩
        refine kitAny_cons (kit_ty g2) (fun z => ?_) (fun z => by rw [z]; rfl)
        subst z
        refine kitAny_cons (kit_ty g4) (fun z => ?_) (fun z => by rw [z]; rfl)
        subst z
        exact kitAny_nil) ha
def D.strI : List D → Option D
  | [.int i] => if i.natAbs.log2 < 1920 then some (.str (toString i)) else none
  | _ => none
theorem de_strc (hg : Gl X "str") (hm : X.mg "str" = none) (ha : DA X (e :: es) as)
    (he : starEach (e :: es) X.env = (false, eval e X.env) :: starEach es X.env := by rfl) (hpl : (backTo pos (starEach es X.env)).any (·.1) = false := by rfl) : DE X (.Call (.Name "str" p) (e :: es) [] pos) (opN D.strI as) :=
  de_callTy call_str_int (by
    intro A H xs d vs Q tk rx e q
    match xs, rx, e with
    | [.int i], rx, e =>
      obtain ⟨v, rfl, r⟩ := rx.one
      cases r
      obtain ⟨hz, rfl⟩ := ite_some e
      exact ⟨i, rfl, hz, q _ _ (Same.refl _) rfl⟩) (by decide +kernel) (by decide) (by decide) hg hm ha he hpl
/-- lo, lo + 1, .. below hi -/
def rng (lo hi : Int) : List D := (List.range (hi - lo).toNat).map fun (k : Nat) => D.int (lo + (k : Int))
def D.rngOk (lo hi : Int) : Bool := decide (-(2 ^ 62) ≤ lo) && decide (lo < 2 ^ 62) && decide (-(2 ^ 62) ≤ hi) && decide (hi < 2 ^ 62)
def D.listRng : List D → Option D
  | [.int lo, .int hi] => if D.rngOk lo hi ∧ (hi - lo).toNat ≤ sizeLine then some (.lst (rng lo hi)) else none
  | [.int hi] => if D.rngOk 0 hi ∧ (hi - 0).toNat ≤ sizeLine then some (.lst (rng 0 hi)) else none
  | _ => none
theorem rngOk_of {lo hi : Int} (h : D.rngOk lo hi = true) : -(2 ^ 62) ≤ lo ∧ lo < 2 ^ 62 ∧ -(2 ^ 62) ≤ hi ∧ hi < 2 ^ 62 := by
  unfold D.rngOk at h
  simp only [Bool.and_eq_true, decide_eq_true_eq] at h
  exact ⟨h.1.1.1, h.1.1.2, h.1.2, h.2⟩
theorem reps_ints {F : Hp} : ∀ (l : List Int), Reps K mg F (l.map D.int) (l.map V.int)
  | [] => rfl
  | i :: l => ⟨.int i, _, rfl, rfl, reps_ints l⟩
theorem vals_of_ix : ∀ {xs : List V} {us : List Value}, xs.length = us.length → (∀ (k : Nat) x u, xs[k]? = some x → us[k]? = some u → RelV x u) → Vals xs us
  | [], [], _, _ => .nil
  | [], _ :: _, h, _ => by cases h
  | _ :: _, [], h, _ => by cases h
  | x :: xs, u :: us, h, r => .cons (r 0 x u (by simp) (by simp)) (vals_of_ix (by simpa using h) fun k y v h1 h2 => r (k + 1) y v (by simpa using h1) (by simpa using h2))
theorem call_list_rng (hc : X.calm = true) : CallR X (.type "list") (fun xs H Q => ∃ p i j, xs = [.ref p] ∧ H p = some (.rng i j) ∧ D.rngOk i j = true ∧ (j - i).toNat ≤ sizeLine ∧
    ∀ l, H l = none → Q (.ref l) (upd H l (.lst ((List.range (j - i).toNat).map fun (k : Nat) => V.int (i + (k : Int)))))) := by
  intro pins s σ H xs us Q I r h
  obtain ⟨p, i, j, rfl, hp, hb, hz, q⟩ := h
  obtain ⟨u, rfl, r1⟩ := vals1 r
  cases r1
  obtain ⟨t, u, v, hr⟩ := (show ObjOk X.prog X.w H s.heap p (.rng i j) from I.hok p _ hp)
  obtain ⟨b1, b2, b3, b4⟩ := rngOk_of hb
  have hsz : Builtin.Range.rangeSize i j 1 = (((j - i).toNat : Nat) : Int) := by
    rw [rangeSize_one]
    split <;> omega
  refine call_list_range (I.ok.hd hc) hr (small_one b1 b2 b3 b4) hsz (by rw [sizeLine_eq] at hz; omega) fun h' tk acc' c' hk hS hacc => ?_
  refine ⟨.ref s.heap.objs.size, _, I.laid (t' := tk) (o := .lst ((List.range (j - i).toNat).map fun (k : Nat) => V.int (i + (k : Int)))) hk (Nat.le_refl _) ?_, rfl, q _ (I.hok.fresh (Nat.le_refl _))⟩
  refine ⟨by simpa using hz, acc'.toList, c', ?_, by simpa using hS⟩
  obtain ⟨ha, hb⟩ := hacc
  refine vals_of_ix (by simpa using ha.symm) fun k x v hx hk => ?_
  rw [List.getElem?_map] at hx
  obtain ⟨k', hk', e⟩ := Option.map_eq_some_iff.mp hx
  have : k' = k := by
    obtain ⟨h1, h2⟩ := List.getElem?_eq_some_iff.mp hk'
    simpa using h2.symm
  subst this
  subst e
  obtain ⟨t, ht⟩ := hb k' v (by simpa using hk)
  exact ⟨t, by rw [ht]; congr 1; omega⟩
end
end DL
namespace DL
open PySem L2
section
variable {X : Cx} {a b c e : Expr} {es : List Expr} {x y : Arg} {as : List Arg} {pos p : Pos} {K : PySem.W.Frag} {mg : Str → Option Value}
theorem cr_range1 : CallR X (.type "range") (fun vs H Q => ∃ j, vs = [V.int j] ∧ ∀ p, H p = none → Q (.ref p) (upd H p (.rng 0 j))) := by
  intro pins s σ H vs us Q I r h
  obtain ⟨j, rfl, q⟩ := h
  obtain ⟨u1, rfl, rj⟩ := vals1 r
  obtain ⟨u, rfl⟩ := rj
  refine PySem.call_range_1 ⟨.ref s.heap.objs.size, upd H s.heap.objs.size (.rng 0 j), I.laid (t' := _) (fun b o e => Heap.get?_push_of_some _ e) (Nat.le_refl _) ?_, rfl, q _ (I.hok.fresh (Nat.le_refl _))⟩
  exact ⟨_, _, _, Heap.get?_push_size _ rfl⟩
def rRngA : List V → Hp → VK → Prop := fun vs H Q => (∃ j, vs = [V.int j] ∧ ∀ p, H p = none → Q (.ref p) (upd H p (.rng 0 j))) ∨ ∃ i j, vs = [V.int i, V.int j] ∧ ∀ p, H p = none → Q (.ref p) (upd H p (.rng i j))
def rLstRng : List V → Hp → VK → Prop := fun xs H Q => ∃ p i j, xs = [.ref p] ∧ H p = some (.rng i j) ∧ D.rngOk i j = true ∧ (j - i).toNat ≤ sizeLine ∧
    ∀ l, H l = none → Q (.ref l) (upd H l (.lst ((List.range (j - i).toNat).map fun (k : Nat) => V.int (i + (k : Int)))))
theorem de_listrng {p2 pos2 : Pos} (hc : X.calm = true) (hg : Gl X "list") (hm : X.mg "list" = none) (hg2 : Gl X "range") (hm2 : X.mg "range" = none) (ha : DA X (e :: es) as)
    (he : starEach [.Call (.Name "range" p2) (e :: es) [] pos2] X.env = (false, eval (.Call (.Name "range" p2) (e :: es) [] pos2) X.env) :: starEach [] X.env := by rfl) (hpl : (backTo pos (starEach [] X.env)).any (·.1) = false := by rfl)
    (he2 : starEach (e :: es) X.env = (false, eval e X.env) :: starEach es X.env := by rfl) (hpl2 : (backTo pos2 (starEach es X.env)).any (·.1) = false := by rfl) :
    DE X (.Call (.Name "list" p) [.Call (.Name "range" p2) (e :: es) [] pos2] [] pos) (opN D.listRng as) :=
  de_many (r := fun vs H Q => rRngA vs H fun x H2 => rLstRng [x] H2 Q)
    (fun t h => pe_callTy (r := rLstRng) (call_list_rng hc) hg hm (by decide +kernel) (pa_cons (pe_callTy (r := rRngA) (cr_range1.or cr_range2) hg2 hm2 (by decide +kernel) h (he := he2) (hpl := hpl2)) pa_nil he) (he := he) (hpl := hpl)) (by
    intro A H xs d vs Q tk rx e q
    match xs, rx, e with
    | [.int lo, .int hi], rx, e =>
      obtain ⟨v, u, rfl, r1, r2⟩ := rx.two
      cases r1; cases r2
      obtain ⟨⟨hb, hz⟩, rfl⟩ := ite_some e
      refine .inr ⟨lo, hi, rfl, fun t nt => ⟨t, lo, hi, rfl, upd_same, hb, hz, fun l nl => ?_⟩⟩
      have nl' : H l = none := by
        cases e : H l with
        | none => rfl
        | some o => rw [upd_ne (ne_of_none e nt), e] at nl; cases nl
      refine q _ _ ((same_upd nt).trans (same_upd nl)) (rep_lst (H := upd H t (.rng lo hi)) tk.upd nl ?_)
      unfold rng
      rw [show ((List.range (hi - lo).toNat).map fun (k : Nat) => D.int (lo + (k : Int))) = ((List.range (hi - lo).toNat).map fun (k : Nat) => (lo + (k : Int))).map D.int by rw [List.map_map]; rfl,
        show ((List.range (hi - lo).toNat).map fun (k : Nat) => V.int (lo + (k : Int))) = ((List.range (hi - lo).toNat).map fun (k : Nat) => (lo + (k : Int))).map V.int by rw [List.map_map]; rfl]
      exact reps_ints _
    | [.int hi], rx, e =>
      obtain ⟨v, rfl, r1⟩ := rx.one
      cases r1
      obtain ⟨⟨hb, hz⟩, rfl⟩ := ite_some e
      refine .inl ⟨hi, rfl, fun t nt => ⟨t, 0, hi, rfl, upd_same, hb, hz, fun l nl => ?_⟩⟩
      have nl' : H l = none := by
        cases e : H l with
        | none => rfl
        | some o => rw [upd_ne (ne_of_none e nt), e] at nl; cases nl
      refine q _ _ ((same_upd nt).trans (same_upd nl)) (rep_lst (H := upd H t (.rng 0 hi)) tk.upd nl ?_)
      unfold rng
      rw [show ((List.range (hi - 0).toNat).map fun (k : Nat) => D.int (0 + (k : Int))) = ((List.range (hi - 0).toNat).map fun (k : Nat) => (0 + (k : Int))).map D.int by rw [List.map_map]; rfl,
        show ((List.range (hi - 0).toNat).map fun (k : Nat) => V.int (0 + (k : Int))) = ((List.range (hi - 0).toNat).map fun (k : Nat) => (0 + (k : Int))).map V.int by rw [List.map_map]; rfl]
      exact reps_ints _) ha
def chL (f : D → D → Option D) (mb : M D) (d : D) : M D := M.bnd mb fun y => M.opt (f d y)
def chC (f : D → D → Option D) (mb : M D) (rest : D → M D) (d : D) : M D := M.bnd mb fun y => M.bnd (M.opt (f d y)) fun z => match z with
  | .bl true => rest y
  | .bl false => M.ret (.bl false)
  | _ => fun _ => .bad
structure CH (X : Cx) (ops : List CmpOp) (es : List Expr) (m : D → M D) : Prop where
  run : ∀ (W : WZ), TakesZ X W → ∀ (pos : Pos) (pins : List (Addr × Obj)) (s : Shared) (σ : St) (H : Hp) (Q : VK) (x : V) (v : Value) (w : WS W) (A : List Addr) (ρ : Ev) (d : D), Inv X pins σ H s → RelV x v → SR X.K X.mg w A ρ σ H → Rep X.K X.mg (off A H) d x →
    (match m d ρ with
      | .ok d' ρ' => ∀ v H', Ext A H H' → SR X.K X.mg w A ρ' σ H' → Rep X.K X.mg (off A H') d' v → Q v H'
      | .exc e ρ' => ∀ c dd H', Ext A H H' → SR X.K X.mg w A ρ' σ H' → ExR X.K X.mg A H' e c dd → W c dd σ H'
      | .bad => False) → wpAny (model X.prog X.w) X.A (compareChain pos v ops (evalEach es X.env)) (EP X pins σ Q) X.xe s
  test : ∀ (W : WZ), TakesZ X W → ∀ (pos : Pos) (pins : List (Addr × Obj)) (s : Shared) (σ : St) (H : Hp) (Q : Bool → Hp → Prop) (x : V) (v : Value) (w : WS W) (A : List Addr) (ρ : Ev) (d : D), Inv X pins σ H s → RelV x v → SR X.K X.mg w A ρ σ H → Rep X.K X.mg (off A H) d x →
    (match asTest (m d) ρ with
      | .ok d' ρ' => ∀ H', Ext A H H' → SR X.K X.mg w A ρ' σ H' → Q d' H'
      | .exc e ρ' => ∀ c dd H', Ext A H H' → SR X.K X.mg w A ρ' σ H' → ExR X.K X.mg A H' e c dd → W c dd σ H'
      | .bad => False) → wpAny (model X.prog X.w) X.A (testChain pos v ops (evalEach es X.env)) (TP X pins σ Q) X.xe s
variable {op op' : CmpOp} {ops : List CmpOp} {r : R2} {f : D → D → Option D} {m mb : M D} {rest : D → M D}
theorem ch_last (ho : OpR X (compareOp op) r) (hs : Snd2 X.K X.mg r f) (hb : DE X b mb) : CH X [op] [b] (chL f mb) where
  run := by
    intro W tk pos pins s σ H Q x v w A ρ d I rx R r0 q
    refine PyProof.Rows.chain_last ?_
    refine thn ((hb W tk).run pins s σ H (fun y H1 => r x y H1 Q) I ⟨w, A, ρ, R, ?_⟩) fun u s1 ⟨y, H1, I1, r1, q1⟩ => ho pins s1 σ H1 x y v u Q I1 rx r1 q1
    unfold chL at q
    cases hm : mb ρ with
    | exc e ρ1 => rw [bnd_exc hm] at q; exact q
    | bad => rw [bnd_bad hm] at q; exact q
    | ok d1 ρ1 =>
      rw [bnd_ok hm] at q
      intro v1 H1 ex1 R1 r1
      cases hf : f d d1 with
      | none => rw [hf] at q; exact q.elim
      | some z => rw [hf] at q; exact hs A H1 d d1 z x v1 Q R1.trk (Rep1.of (r0.mono ex1.off)) (Rep1.of r1) hf (op_end R1 ex1 q)
  test := by
    intro W tk pos pins s σ H Q x v w A ρ d I rx R r0 q
    refine PyProof.Rows.test_last ?_
    refine thn ((hb W tk).run pins s σ H (fun y H1 => r x y H1 fun z H2 => ∃ k, z = .bl k ∧ Q k H2) I ⟨w, A, ρ, R, ?_⟩) fun u s1 ⟨y, H1, I1, r1, q1⟩ => thn (ho pins s1 σ H1 x y v u _ I1 rx r1 q1) fun c s2 ⟨z, H2, I2, r2, k, e, q2⟩ => by
      subst e
      cases r2
      exact wpAny_truthy_bool ⟨H2, I2, q2⟩
    unfold asTest chL at q
    cases hm : mb ρ with
    | exc e ρ1 => rw [bnd_exc (bnd_exc hm)] at q; exact q
    | bad => rw [bnd_bad (bnd_bad hm)] at q; exact q
    | ok d1 ρ1 =>
      intro v1 H1 ex1 R1 r1
      cases hf : f d d1 with
      | none => rw [bnd_bad (by rw [bnd_ok hm, hf]; rfl)] at q; exact q.elim
      | some z =>
        rw [bnd_ok (a := z) (ρ' := ρ1) (by rw [bnd_ok hm, hf]; rfl)] at q
        refine hs A H1 d d1 z x v1 _ R1.trk (Rep1.of (r0.mono ex1.off)) (Rep1.of r1) hf fun v' H' sm rr => ?_
        cases z with
        | bl k => exact ⟨k, rr, q H' (ex1.trans (.of sm)) (R1.same sm)⟩
        | _ => exact q.elim
theorem ch_cons {b2 : Expr} (ho : OpR X (compareOp op) r) (hs : Snd2 X.K X.mg r f) (hb : DE X b mb) (hr : CH X (op' :: ops) (b2 :: es) rest) : CH X (op :: op' :: ops) (b :: b2 :: es) (chC f mb rest) where
  run := by
    intro W tk pos pins s σ H Q x v w A ρ d I rx R r0 q
    refine PyProof.Rows.chain_link ?_
    refine thn ((hb W tk).run pins s σ H (fun y H1 => r x y H1 fun z H2 => ∃ k, z = .bl k ∧ if k = true then (∃ (w : WS W) (A : List Addr) (ρ : Ev) (d : D), SR X.K X.mg w A ρ σ H2 ∧ Rep X.K X.mg (off A H2) d y ∧ (match rest d ρ with
        | .ok d' ρ' => ∀ v H', Ext A H2 H' → SR X.K X.mg w A ρ' σ H' → Rep X.K X.mg (off A H') d' v → Q v H'
        | .exc e ρ' => ∀ c dd H', Ext A H2 H' → SR X.K X.mg w A ρ' σ H' → ExR X.K X.mg A H' e c dd → W c dd σ H'
        | .bad => False)) else Q (.bl false) H2) I ⟨w, A, ρ, R, ?_⟩) fun u s1 ⟨y, H1, I1, r1, q1⟩ => thn (ho pins s1 σ H1 x y v u _ I1 rx r1 q1) fun c s2 ⟨z, H2, I2, r2, k, e, q2⟩ => by
      subst e
      cases r2
      refine wpAny_truthy_bool ?_
      cases k with
      | false =>
        simp only [Bool.false_eq_true, if_false] at q2 ⊢
        exact ⟨.bl false, H2, I2, rfl, q2⟩
      | true =>
        simp only [if_true] at q2 ⊢
        obtain ⟨w2, A2, ρ2, d2, R2, rr2, q3⟩ := q2
        exact hr.run W tk pos pins s2 σ H2 Q y u w2 A2 ρ2 d2 I2 r1 R2 rr2 q3
    unfold chC at q
    cases hm : mb ρ with
    | exc e ρ1 => rw [bnd_exc hm] at q; exact q
    | bad => rw [bnd_bad hm] at q; exact q
    | ok d1 ρ1 =>
      rw [bnd_ok hm] at q
      intro v1 H1 ex1 R1 r1
      cases hf : f d d1 with
      | none => rw [hf, bnd_bad (m := M.opt none) rfl] at q; exact q.elim
      | some z =>
        rw [hf, bnd_ok (m := M.opt (some z)) (a := z) (ρ' := ρ1) rfl] at q
        refine hs A H1 d d1 z x v1 _ R1.trk (Rep1.of (r0.mono ex1.off)) (Rep1.of r1) hf fun v' H' sm rr => ?_
        cases z with
        | bl k =>
          refine ⟨k, rr, ?_⟩
          cases k with
          | false =>
            simp only [Bool.false_eq_true, if_false]
            exact q _ H' (ex1.trans (.of sm)) (R1.same sm) rfl
          | true =>
            simp only [if_true]
            refine ⟨w, A, ρ1, d1, R1.same sm, r1.mono (off_Same sm), ?_⟩
            dsimp only at q
            cases hf : rest d1 ρ1 with
            | exc e ρ2 => rw [hf] at q; exact fun c dd H2 ex2 R2 z => q c dd H2 ((ex1.trans (.of sm)).trans ex2) R2 z
            | bad => rw [hf] at q; exact q
            | ok c ρ2 => rw [hf] at q; exact fun v2 H2 ex2 R2 => q v2 H2 ((ex1.trans (.of sm)).trans ex2) R2
        | _ => exact q.elim
  test := by
    intro W tk pos pins s σ H Q x v w A ρ d I rx R r0 q
    refine PyProof.Rows.test_link ?_
    refine thn ((hb W tk).run pins s σ H (fun y H1 => r x y H1 fun z H2 => ∃ k, z = .bl k ∧ if k = true then (∃ (w : WS W) (A : List Addr) (ρ : Ev) (d : D), SR X.K X.mg w A ρ σ H2 ∧ Rep X.K X.mg (off A H2) d y ∧ (match asTest (rest d) ρ with
        | .ok d' ρ' => ∀ H', Ext A H2 H' → SR X.K X.mg w A ρ' σ H' → Q d' H'
        | .exc e ρ' => ∀ c dd H', Ext A H2 H' → SR X.K X.mg w A ρ' σ H' → ExR X.K X.mg A H' e c dd → W c dd σ H'
        | .bad => False)) else Q false H2) I ⟨w, A, ρ, R, ?_⟩) fun u s1 ⟨y, H1, I1, r1, q1⟩ => thn (ho pins s1 σ H1 x y v u _ I1 rx r1 q1) fun c s2 ⟨z, H2, I2, r2, k, e, q2⟩ => by
      subst e
      cases r2
      refine wpAny_truthy_bool ?_
      cases k with
      | false =>
        simp only [Bool.false_eq_true, if_false] at q2 ⊢
        exact ⟨H2, I2, q2⟩
      | true =>
        simp only [if_true] at q2 ⊢
        obtain ⟨w2, A2, ρ2, d2, R2, rr2, q3⟩ := q2
        exact hr.test W tk pos pins s2 σ H2 Q y u w2 A2 ρ2 d2 I2 r1 R2 rr2 q3
    unfold asTest chC at q
    cases hm : mb ρ with
    | exc e ρ1 => rw [bnd_exc (bnd_exc hm)] at q; exact q
    | bad => rw [bnd_bad (bnd_bad hm)] at q; exact q
    | ok d1 ρ1 =>
      intro v1 H1 ex1 R1 r1
      cases hf : f d d1 with
      | none => rw [bnd_bad (by rw [bnd_ok hm, hf]; rfl)] at q; exact q.elim
      | some z =>
        refine hs A H1 d d1 z x v1 _ R1.trk (Rep1.of (r0.mono ex1.off)) (Rep1.of r1) hf fun v' H' sm rr => ?_
        cases z with
        | bl k =>
          refine ⟨k, rr, ?_⟩
          cases k with
          | false =>
            rw [bnd_ok (a := .bl false) (ρ' := ρ1) (by rw [bnd_ok hm, hf]; rfl)] at q
            simp only [Bool.false_eq_true, if_false]
            exact q H' (ex1.trans (.of sm)) (R1.same sm)
          | true =>
            simp only [if_true]
            refine ⟨w, A, ρ1, d1, R1.same sm, r1.mono (off_Same sm), ?_⟩
            unfold asTest
            cases hr2 : rest d1 ρ1 with
            | exc e ρ2 =>
              rw [bnd_exc (e := e) (ρ' := ρ2) (by rw [bnd_ok hm, hf]; exact hr2)] at q
              rw [bnd_exc hr2]
              exact fun c dd H2 ex2 R2 z => q c dd H2 ((ex1.trans (.of sm)).trans ex2) R2 z
            | bad =>
              rw [bnd_bad (by rw [bnd_ok hm, hf]; exact hr2)] at q
              exact q.elim
            | ok c ρ2 =>
              rw [bnd_ok (a := c) (ρ' := ρ2) (by rw [bnd_ok hm, hf]; exact hr2)] at q
              rw [bnd_ok hr2]
              cases c with
              | bl kk => exact fun H2 ex2 R2 => q H2 ((ex1.trans (.of sm)).trans ex2) R2
              | _ => exact q
        | _ => rw [bnd_bad (by rw [bnd_ok hm, hf]; rfl)] at q; exact q.elim
def chain (ma : M D) (rest : D → M D) : M D := M.bnd ma rest
theorem de_chain {op1 op2 : CmpOp} {b1 b2 : Expr} (ha : DE X a m) (hr : CH X (op1 :: op2 :: ops) (b1 :: b2 :: es) rest) (hm : lastMarks (op1 :: op2 :: ops) (b1 :: b2 :: es) = false := by with_unfolding_all rfl) :
    DE X (.Compare a (op1 :: op2 :: ops) (b1 :: b2 :: es) pos) (chain m rest) := fun W tk => by
  refine ⟨fun pins s σ H Q I h => ?_⟩
  refine PyProof.Rows.Compare_chain (thn ((ha W tk).run pins s σ H _ I (de_imp2 (G := fun x H1 => ∃ (w : WS W) (A : List Addr) (ρ : Ev) (d : D), SR X.K X.mg w A ρ σ H1 ∧ Rep X.K X.mg (off A H1) d x ∧ (match rest d ρ with
        | .ok d' ρ' => ∀ v H', Ext A H1 H' → SR X.K X.mg w A ρ' σ H' → Rep X.K X.mg (off A H') d' v → Q v H'
        | .exc e ρ' => ∀ c dd H', Ext A H1 H' → SR X.K X.mg w A ρ' σ H' → ExR X.K X.mg A H' e c dd → W c dd σ H'
        | .bad => False)) h fun w A ρ1 d v H1 R1 r1 q => ⟨w, A, ρ1, d, R1, r1, q⟩)) fun v s1 ⟨x, H1, I1, rx, w, A, ρ, d, R, r0, q⟩ => ?_) hm
  exact hr.run W tk _ pins s1 σ H1 Q x v w A ρ d I1 rx R r0 q
theorem dt_chain {op1 op2 : CmpOp} {b1 b2 : Expr} (ha : DE X a m) (hr : CH X (op1 :: op2 :: ops) (b1 :: b2 :: es) rest) (hm : lastMarks (op1 :: op2 :: ops) (b1 :: b2 :: es) = false := by with_unfolding_all rfl) :
    DT X (.Compare a (op1 :: op2 :: ops) (b1 :: b2 :: es) pos) (asTest (chain m rest)) := fun W tk => by
  refine ⟨fun pins s σ H Q I h => ?_⟩
  obtain ⟨w, A, ρ, R, q⟩ := h
  refine PyProof.Rows.isTrue_chain (thn ((ha W tk).run pins s σ H (fun x H1 => ∃ (w : WS W) (A : List Addr) (ρ : Ev) (d : D), SR X.K X.mg w A ρ σ H1 ∧ Rep X.K X.mg (off A H1) d x ∧ (match asTest (rest d) ρ with
        | .ok d' ρ' => ∀ H', Ext A H1 H' → SR X.K X.mg w A ρ' σ H' → Q d' H'
        | .exc e ρ' => ∀ c dd H', Ext A H1 H' → SR X.K X.mg w A ρ' σ H' → ExR X.K X.mg A H' e c dd → W c dd σ H'
        | .bad => False)) I ⟨w, A, ρ, R, ?_⟩) fun v s1 ⟨x, H1, I1, rx, w, A, ρ, d, R, r0, q⟩ => ?_) hm
  · unfold asTest chain at q
    cases hm : m ρ with
    | exc e ρ1 => rw [bnd_exc (bnd_exc hm)] at q; exact q
    | bad => rw [bnd_bad (bnd_bad hm)] at q; exact q
    | ok d ρ1 =>
      intro v1 H1 ex1 R1 r1
      refine ⟨w, A, ρ1, d, R1, r1, ?_⟩
      unfold asTest
      cases hr2 : rest d ρ1 with
      | exc e ρ2 => rw [bnd_exc (e := e) (ρ' := ρ2) (by rw [bnd_ok hm]; exact hr2)] at q; rw [bnd_exc hr2]; exact fun c dd H2 ex2 R2 z => q c dd H2 (ex1.trans ex2) R2 z
      | bad => rw [bnd_bad (by rw [bnd_ok hm]; exact hr2)] at q; exact q.elim
      | ok c ρ2 =>
        rw [bnd_ok (a := c) (ρ' := ρ2) (by rw [bnd_ok hm]; exact hr2)] at q
        rw [bnd_ok hr2]
        cases c with
        | bl kk => exact fun H2 ex2 R2 => q H2 (ex1.trans ex2) R2
        | _ => exact q
  · exact hr.test W tk _ pins s1 σ H1 Q x v w A ρ d I1 rx R r0 q
end
end DL
namespace DL
open PySem L2
/-- the slots but those at is are as they were -/
def Agr (is : List Nat) (σ σ' : L2.St) : Prop := σ'.length = σ.length ∧ ∀ (j : Nat), j ∉ is → σ'[j]? = σ[j]?
theorem Agr.trans {is js : List Nat} {σ σ1 σ2 : L2.St} (a : Agr is σ σ1) (b : Agr js σ1 σ2) : Agr (is ++ js) σ σ2 :=
  ⟨b.1.trans a.1, fun j hj => (b.2 j fun z => hj (List.mem_append_right _ z)).trans (a.2 j fun z => hj (List.mem_append_left _ z))⟩
def tG (K : PySem.W.Frag) (mg : Str → Option Value) (is : List Nat) (t : D → Ev → Option Ev) : TG := fun v σ H Q => ∃ w A ρ d, SR K mg w A ρ σ H ∧ Rep K mg (off A H) d v ∧ match t d ρ with
  | some ρ' => ∀ σ', Agr is σ σ' → SR K mg w A ρ' σ' H → Q σ' H
  | none => False
def tGs (K : PySem.W.Frag) (mg : Str → Option Value) (is : List Nat) (t : List D → Ev → Option Ev) : TGs := fun vs σ H Q => ∃ w A ρ ds, SR K mg w A ρ σ H ∧ Reps K mg (off A H) ds vs ∧ match t ds ρ with
  | some ρ' => ∀ σ', Agr is σ σ' → SR K mg w A ρ' σ' H → Q σ' H
  | none => False
def DG (X : Cx) (e : Expr) (is : List Nat) (t : D → Ev → Option Ev) : Prop := PG X e (tG X.K X.mg is t)
def DGs (X : Cx) (es : List Expr) (is : List Nat) (t : List D → Ev → Option Ev) : Prop := PGs X es (tGs X.K X.mg is t)
section
variable {X : Cx} {e : Expr} {es : List Expr} {pos : Pos} {K : PySem.W.Frag} {mg : Str → Option Value} {w : Wd} {A : List Addr} {ρ : Ev} {σ : L2.St} {H : Hp}
theorem pg_imp {g g' : TG} (h : PG X e g) (q : ∀ v σ H Q, g' v σ H Q → g v σ H Q) : PG X e g' := ⟨fun pins s σ H v u Q I r hw => h.run pins s σ H v u Q I r (q v σ H Q hw)⟩
theorem pgs_imp {g g' : TGs} (h : PGs X es g) (q : ∀ v σ H Q, g' v σ H Q → g v σ H Q) : PGs X es g' := ⟨fun pins s σ H v u Q I r hw => h.run pins s σ H v u Q I r (q v σ H Q hw)⟩
/-- the i-th name takes a value; a thing of one's own is not lost so -/
def gN (i : Nat) (d : D) (ρ : Ev) : Option Ev := match ρ[i]? with
  | some s => if s.isOwn then none else some (ρ.set i (.val d))
  | none => none
theorem SR.set {i : Nat} {s : Slot} {d : D} {v : V} (R : SR K mg w A ρ σ H) (h : ρ[i]? = some s) (ho : s.isOwn = false) (r : Rep K mg (off A H) d v) : SR K mg w A (ρ.set i (.val d)) (σ.set i (some v)) H := by
  have hi : i < ρ.length := (List.getElem?_eq_some_iff.mp h).1
  have hi' : i < σ.length := by rw [← R.len]; exact hi
  refine ⟨by simp [R.len], fun j s' o h1 h2 => ?_, fun j k s1 s2 a h1 h2 o1 o2 e1 e2 => ?_, R.sub, R.trk, R.frame, fun j s' a h1 o1 e1 => ?_, R.opB, fun p hp => ?_⟩
  · by_cases hj : j = i
    · subst hj
      rw [List.getElem?_set_self hi] at h1
      rw [List.getElem?_set_self hi'] at h2
      cases h1; cases h2
      exact ⟨v, rfl, r⟩
    · rw [List.getElem?_set_ne (Ne.symm hj)] at h1 h2
      exact R.slots j s' o h1 h2
  · have nj : j ≠ i := fun z => by
      subst z
      rw [List.getElem?_set_self hi] at h1
      cases h1
      cases o1
    have nk : k ≠ i := fun z => by
      subst z
      rw [List.getElem?_set_self hi] at h2
      cases h2
      cases o2
    rw [List.getElem?_set_ne (Ne.symm nj)] at h1 e1
    rw [List.getElem?_set_ne (Ne.symm nk)] at h2 e2
    exact R.dist j k s1 s2 a h1 h2 o1 o2 e1 e2
  · have nj : j ≠ i := fun z => by
      subst z
      rw [List.getElem?_set_self hi] at h1
      cases h1
      cases o1
    rw [List.getElem?_set_ne (Ne.symm nj)] at h1 e1
    exact R.mine j s' a h1 o1 e1
  · obtain ⟨p1, p2, s', p3, p4⟩ := R.par p hp
    have np : p.1 ≠ i := fun z => by
      rw [z, h] at p3
      cases p3
      rw [ho] at p4
      cases p4
    exact ⟨p1, by rw [List.getElem?_set_ne (Ne.symm np)]; exact p2, s', by rw [List.getElem?_set_ne (Ne.symm np)]; exact p3, p4⟩
theorem dg_name {i : Nat} (h : PG X e (gName i)) : DG X e [i] (gN i) := pg_imp h fun v σ H Q ⟨w, A, ρ, d, R, r, q⟩ => by
  unfold gN at q
  cases hs : ρ[i]? with
  | none => rw [hs] at q; exact q.elim
  | some s =>
    rw [hs] at q
    dsimp only at q
    cases ho : s.isOwn with
    | true => rw [ho] at q; exact q.elim
    | false =>
      rw [ho] at q
      exact q _ ⟨by simp, fun j hj => List.getElem?_set_ne fun z => hj (by simp [z])⟩ (R.set hs ho r)
def gTu (t : List D → Ev → Option Ev) (n : Nat) : D → Ev → Option Ev
  | .tup l, ρ => if l.length = n then t l ρ else none
  | _, _ => none
theorem dg_tup {k n : Nat} {is : List Nat} {t : List D → Ev → Option Ev} (hc : X.calm = true) (h : DGs X es is t) (hn : (assignEach es X.env).length = n := by rfl) (hst : (assignEach es X.env).findIdx? (·.1) = none := by rfl) : DG X (.Tuple es k pos) is (gTu t n) :=
  pg_imp (pg_tup hc h hn hst) fun v σ H Q ⟨w, A, ρ, d, R, r, q⟩ => by
    cases d with
    | tup l =>
      obtain ⟨a, xs, rfl, hq, rr⟩ := r
      have q : match (if l.length = n then t l ρ else none) with | some ρ' => ∀ σ', Agr is σ σ' → SR X.K X.mg w A ρ' σ' H → Q σ' H | none => False := q
      by_cases hl : l.length = n
      · rw [if_pos hl] at q
        exact ⟨a, xs, rfl, SqT.mono off_le hq, by rw [← rr.length]; exact hl, w, A, ρ, l, R, rr, q⟩
      · rw [if_neg hl] at q; exact q.elim
    | _ => exact q.elim
def gNi : List D → Ev → Option Ev
  | [], ρ => some ρ
  | _ :: _, _ => none
def gCo (t : D → Ev → Option Ev) (u : List D → Ev → Option Ev) : List D → Ev → Option Ev
  | [], _ => none
  | d :: ds, ρ => (t d ρ).bind (u ds)
theorem dgs_nil : DGs X [] [] gNi := pgs_imp pgs_nil fun v σ H Q ⟨w, A, ρ, ds, R, r, q⟩ => by
  cases ds with
  | nil => exact ⟨r, q σ ⟨rfl, fun _ _ => rfl⟩ R⟩
  | cons _ _ => exact q.elim
theorem dgs_cons {is js : List Nat} {t : D → Ev → Option Ev} {u : List D → Ev → Option Ev} (h : DG X e is t) (h2 : DGs X es js u) (hs : (assignEach (e :: es) X.env).map (·.2) = assign e X.env :: (assignEach es X.env).map (·.2) := by rfl) : DGs X (e :: es) (is ++ js) (gCo t u) :=
  pgs_imp (pgs_cons h h2 hs) fun vs σ H Q ⟨w, A, ρ, ds, R, r, q⟩ => by
    cases ds with
    | nil => exact q.elim
    | cons d ds =>
      obtain ⟨v, us, rfl, rd, rr⟩ := r
      refine ⟨v, us, rfl, w, A, ρ, d, R, rd, ?_⟩
      have q : match (t d ρ).bind (u ds) with | some ρ' => ∀ σ', Agr (is ++ js) σ σ' → SR X.K X.mg w A ρ' σ' H → Q σ' H | none => False := q
      cases ht : t d ρ with
      | none => rw [ht] at q; exact q.elim
      | some ρ1 =>
        rw [ht] at q
        refine fun σ1 a1 R1 => ⟨w, A, ρ1, ds, R1, rr, ?_⟩
        have q : match u ds ρ1 with | some ρ' => ∀ σ', Agr (is ++ js) σ σ' → SR X.K X.mg w A ρ' σ' H → Q σ' H | none => False := q
        cases hu : u ds ρ1 with
        | none => rw [hu] at q; exact q.elim
        | some ρ2 => rw [hu] at q; exact fun σ2 a2 R2 => q σ2 (a1.trans a2) R2
end
def Wk (K : PySem.W.Frag) (mg : Str → Option Value) (A : List Addr) (ds : List D) (J : It) (H0 : Hp) : Prop := ∀ (i : Nat) (A' : List Addr) (H : Hp), Same (off A H0) (off A' H) → Trk A' H →
  (∀ d, ds[i]? = some d → J.go i H ∧ ∀ x H', J.yld i H x H' → Same H H' ∧ Rep K mg (off A' H') d x) ∧ (ds.length ≤ i → J.stop i H)
def iD (K : PySem.W.Frag) (mg : Str → Option Value) (W : WZ) (src : M (List D)) : TI := fun σ H R => ∃ (w : WS W) (A : List Addr) (ρ : Ev), SR K mg w A ρ σ H ∧ match src ρ with
  | .ok ds ρ' => ∀ J H', Ext A H H' → SR K mg w A ρ' σ H' → Wk K mg A ds J H' → ds.length ≤ sizeLine → R J H'
  | .exc e ρ' => ∀ c dd H', Ext A H H' → SR K mg w A ρ' σ H' → ExR K mg A H' e c dd → W c dd σ H'
  | .bad => False
def DI (X : Cx) (tg iter : Expr) (src : M (List D)) : Prop := ∀ W : WZ, TakesZ X W → PI X tg iter (iD X.K X.mg W src)
theorem pi_imp {X : Cx} {tg e : Expr} {t t' : TI} (h : PI X tg e t) (q : ∀ σ H R, t' σ H R → t σ H R) : PI X tg e t' := ⟨fun pins s σ H R I hw => h.run pins s σ H R I (q σ H R hw)⟩
section
variable {X : Cx} {tg e e2 : Expr} {es : List Expr} {as : List Arg} {pos p tpos : Pos} {m : M D} {K : PySem.W.Frag} {mg : Str → Option Value} {A : List Addr} {H0 : Hp}
theorem wk_list {a : Addr} {vs : List V} {ds : List D} (h : off A H0 a = some (.lst vs)) (r : Reps K mg (off A H0) ds vs) : Wk K mg A ds (Itl K a) H0 := fun i A' H sm tk => by
  have q : SqL K H a vs := SqL.of (off_le _ _ (sm _ _ h))
  refine ⟨fun d hd => ?_, fun hl => ⟨vs, q, by rw [← r.length]; exact hl⟩⟩
  obtain ⟨v, h1, h2⟩ := r.get hd
  refine ⟨⟨vs, v, q, h1⟩, fun x H' y => ?_⟩
  obtain ⟨e, y⟩ := y
  subst e
  have := y vs q
  rw [h1] at this
  cases this
  exact ⟨Same.refl _, h2.mono sm⟩
theorem wk_scr {a : Addr} {vs : List V} {ds : List D} (h : SqL K (off A H0) a vs) (r : Reps K mg (off A H0) ds vs) : Wk K mg A ds (Itl K a) H0 := fun i A' H sm tk => by
  have q : SqL K H a vs := SqL.mono off_le (SqL.mono sm h)
  refine ⟨fun d hd => ?_, fun hl => ⟨vs, q, by rw [← r.length]; exact hl⟩⟩
  obtain ⟨v, h1, h2⟩ := r.get hd
  refine ⟨⟨vs, v, q, h1⟩, fun x H' y => ?_⟩
  obtain ⟨e, y⟩ := y
  subst e
  have := y vs q
  rw [h1] at this
  cases this
  exact ⟨Same.refl _, h2.mono sm⟩
theorem wk_tup {a : Addr} {vs : List V} {ds : List D} (h : SqT K (off A H0) a vs) (r : Reps K mg (off A H0) ds vs) : Wk K mg A ds (Itt K a) H0 := fun i A' H sm tk => by
  have q : SqT K H a vs := SqT.mono off_le (SqT.mono sm h)
  refine ⟨fun d hd => ?_, fun hl => ⟨vs, q, by rw [← r.length]; exact hl⟩⟩
  obtain ⟨v, h1, h2⟩ := r.get hd
  refine ⟨⟨vs, v, q, h1⟩, fun x H' y => ?_⟩
  obtain ⟨e, y⟩ := y
  subst e
  have := y vs q
  rw [h1] at this
  cases this
  exact ⟨Same.refl _, h2.mono sm⟩
theorem wk_rng {lo : Int} {n : Nat} : Wk K mg A ((List.range n).map fun (k : Nat) => D.int (lo + (k : Int))) (Itr lo n) H0 := fun i A' H sm tk => by
  refine ⟨fun d hd => ?_, fun hl => (by show n ≤ i; simpa using hl)⟩
  rw [List.getElem?_map] at hd
  obtain ⟨k, hk, e⟩ := Option.map_eq_some_iff.mp hd
  obtain ⟨h1, h2⟩ := List.getElem?_eq_some_iff.mp hk
  have : k = i := by simpa using h2.symm
  subst this
  subst e
  refine ⟨(by show k < n; simpa using h1), fun x H' y => ?_⟩
  obtain ⟨e, y⟩ := y
  subst e y
  exact ⟨Same.refl _, rfl⟩
/-- over a list or a tuple -/
def iSeq (K : PySem.W.Frag) (tl : TE) : TI := fun σ H R => tl σ H fun x H1 => ∃ a xs, x = .ref a ∧ ((SqL K H1 a xs ∧ (xs.length ≤ sizeLine → R (Itl K a) H1)) ∨ (SqT K H1 a xs ∧ (xs.length ≤ sizeLine → R (Itt K a) H1)))
theorem pi_seq {l : Expr} {tl : TE} (hl : PE X l tl) : PI X tg l (iSeq X.K tl) := ⟨fun pins s σ H R I h => by
  refine thn (hl.run pins s σ H _ I h) fun v s1 ⟨x, H1, I1, r1, q1⟩ => ?_
  obtain ⟨a, xs, rfl, hx⟩ := q1
  cases r1
  have fr : ∀ b ∈ [s1.heap.objs.size], FpOk X pins H1 b := fun b hb => by
    cases (List.mem_singleton.mp hb)
    exact I1.fpOk (Nat.le_refl _) (I1.hok.fresh (Nat.le_refl _))
  have kp : ∀ (o : Obj), L2.Inv X pins σ H1 { s1 with heap := s1.heap.push o } := fun o => I1.kept (t' := s1.toks) fun b u z => Heap.get?_push_of_some _ z
  rcases hx with ⟨hq, q⟩ | ⟨hq, q⟩
  · obtain ⟨its, rv, hp, hz⟩ := I1.list hq
    exact wpAny_pyIter_list hp.isList ⟨_, _, _, _, H1, rfl, kp _, turn_list a _, ⟨_, Heap.get?_push_size _ rfl, rfl, rfl⟩, fr, q hz⟩
  · obtain ⟨its, rv, hp, hz⟩ := I1.tuple hq
    exact wpAny_pyIter_tuple (show s1.heap.IsTuple a its.toArray from hp) ⟨_, _, _, _, H1, rfl, kp _, turn_tuple a _, ⟨_, Heap.get?_push_size _ rfl, rfl, rfl⟩, fr, q hz⟩⟩
def seqM (m : M D) : M (List D) := M.bnd m fun d ρ => match d with
  | .lst l => .ok l ρ
  | .tup l => .ok l ρ
  | .scr l => .ok l ρ
  | _ => .bad
theorem di_seq (h : DE X e m) : DI X tg e (seqM m) := fun W tk => pi_imp (pi_seq (h W tk)) fun σ H R ⟨w, A, ρ, Rr, q⟩ => by
  refine ⟨w, A, ρ, Rr, ?_⟩
  unfold seqM at q
  cases hm : m ρ with
  | exc e ρ1 => rw [bnd_exc hm] at q; exact q
  | bad => rw [bnd_bad hm] at q; exact q
  | ok d ρ1 =>
    rw [bnd_ok hm] at q
    intro v H1 ex1 R1 r1
    cases d with
    | lst l =>
      obtain ⟨a, xs, rfl, h, r⟩ := r1
      exact ⟨a, xs, rfl, .inl ⟨SqL.of (off_le _ _ h), fun z => q _ H1 ex1 R1 (wk_list h r) (by rw [r.length]; exact z)⟩⟩
    | scr l =>
      obtain ⟨a, xs, rfl, h, r⟩ := r1
      exact ⟨a, xs, rfl, .inl ⟨SqL.mono off_le h, fun z => q _ H1 ex1 R1 (wk_scr h r) (by rw [r.length]; exact z)⟩⟩
    | tup l =>
      obtain ⟨a, xs, rfl, h, r⟩ := r1
      exact ⟨a, xs, rfl, .inr ⟨SqT.mono off_le h, fun z => q _ H1 ex1 R1 (wk_tup h r) (by rw [r.length]; exact z)⟩⟩
    | _ => exact q.elim
/-- a source made of arguments -/
def srcN (f : List D → Option (List D)) (as : List Arg) : M (List D) := M.bnd (evs as) fun xs ρ => match (dvs xs).bind f with
  | some r => .ok r ρ
  | none => .bad
def D.rng1 : List D → Option (List D)
  | [.int hi] => if D.rngOk 0 hi ∧ (hi - 0).toNat ≤ sizeLine then some (rng 0 hi) else none
  | _ => none
def D.rng2 : List D → Option (List D)
  | [.int lo, .int hi] => if D.rngOk lo hi ∧ (hi - lo).toNat ≤ sizeLine then some (rng lo hi) else none
  | _ => none
theorem di_range1 {a : Expr} (hg : Gl X "range") (hm : X.mg "range" = none) (ha : DA X [a] as) (hs : starEach [a] X.env = [(false, eval a X.env)] := by rfl) : DI X tg (.Call (.Name "range" p) [a] [] pos) (srcN D.rng1 as) :=
  fun W tk => pi_imp (pi_range1 hg hm (ha W tk) hs) fun σ H R ⟨w, A, ρ, Rr, q⟩ => by
    refine ⟨w, A, ρ, Rr, ?_⟩
    unfold srcN at q
    cases hx : evs as ρ with
    | exc e ρ1 => rw [bnd_exc hx] at q; exact q
    | bad => rw [bnd_bad hx] at q; exact q
    | ok v ρ1 =>
      rw [bnd_ok hx] at q
      intro vv H1 ex1 R1 r1
      cases hd : (dvs v).bind D.rng1 with
      | none => rw [hd] at q; exact q.elim
      | some d =>
        rw [hd] at q
        obtain ⟨ds, h1, h2⟩ := Option.bind_eq_some_iff.mp hd
        have r := dvs_rep r1 h1
        match ds, h2, r with
        | [.int hi], h2, ⟨v, _, e1, e2, e3⟩ =>
          obtain ⟨⟨hb, hz⟩, rfl⟩ := ite_some h2
          cases e3; cases e2; subst e1
          obtain ⟨b1, b2, b3, b4⟩ := rngOk_of hb
          refine ⟨hi, rfl, b3, b4, q _ H1 ex1 R1 ?_ (by unfold rng; simpa using hz)⟩
          have := wk_rng (K := X.K) (mg := X.mg) (A := A) (H0 := H1) (lo := 0) (n := hi.toNat)
          unfold rng
          rw [Int.sub_zero]
          exact this
theorem di_range2 {a b : Expr} (hg : Gl X "range") (hm : X.mg "range" = none) (ha : DA X [a, b] as) (hs : starEach [a, b] X.env = [(false, eval a X.env), (false, eval b X.env)] := by rfl) (hs2 : starEach [b] X.env = [(false, eval b X.env)] := by rfl) :
    DI X tg (.Call (.Name "range" p) [a, b] [] pos) (srcN D.rng2 as) :=
  fun W tk => pi_imp (pi_range2 hg hm (ha W tk) hs hs2) fun σ H R ⟨w, A, ρ, Rr, q⟩ => by
    refine ⟨w, A, ρ, Rr, ?_⟩
    unfold srcN at q
    cases hx : evs as ρ with
    | exc e ρ1 => rw [bnd_exc hx] at q; exact q
    | bad => rw [bnd_bad hx] at q; exact q
    | ok v ρ1 =>
      rw [bnd_ok hx] at q
      intro vv H1 ex1 R1 r1
      cases hd : (dvs v).bind D.rng2 with
      | none => rw [hd] at q; exact q.elim
      | some d =>
        rw [hd] at q
        obtain ⟨ds, h1, h2⟩ := Option.bind_eq_some_iff.mp hd
        have r := dvs_rep r1 h1
        match ds, h2, r with
        | [.int lo, .int hi], h2, ⟨v, _, e1, e2, v', _, e3, e4, e5⟩ =>
          obtain ⟨⟨hb, hz⟩, rfl⟩ := ite_some h2
          cases e5; cases e4; subst e3; cases e2; subst e1
          obtain ⟨b1, b2, b3, b4⟩ := rngOk_of hb
          exact ⟨lo, hi, rfl, ⟨b1, b2, b3, b4⟩, q _ H1 ex1 R1 wk_rng (by unfold rng; simpa using hz)⟩
end
end DL
namespace DL
open PySem L2
theorem enum_new1 {v : Value} {o : Obj} {P : Heap → Prop} (B : Begins v o P) : Meets (Builtin.«enumerate.__new__» ⟨[.type "enumerate", v], []⟩) (fun _ R s => P s.heap ∧
    R (.ok (.ret (.ref (s.heap.push o).objs.size))) { s with heap := (s.heap.push o).push { cls := .type "enumerate", data := .fields #[.none, .bool false, .ref s.heap.objs.size, rawInt 0, .none, .none] } }) := .of_wp fun P' w A R s h => by
  obtain ⟨g0, g1, g2, g3, g4⟩ := s
  have sub := sub_enumerate
  have it : ∀ {A' : Around} {E : Value → Shared → Prop} {Q : Value → Shared → Prop}, Q (.ref g0.objs.size) ⟨g0.push o, g1, g2, g3, g4⟩ → wpAny (model P' w) A' (pyIter v) Q E ⟨g0, g1, g2, g3, g4⟩ :=
    fun q => B.iter P' w _ _ ⟨g0, g1, g2, g3, g4⟩ _ h.1 q
  wp_walk using it
  refine wpAny_stack_any fun _ => wpAny_pure ?_
  split
  · rename_i c _ _ _ _ _
    cases (c == Value.type "enumerate") <;> (wp_walk using it; exact ⟨_, rfl, h.2⟩)
  · wp_walk using it
    exact ⟨_, rfl, h.2⟩
theorem enum_call {prog : Program} {w : World} {A : Around} {E : Value → Shared → Prop} {s : Shared} {v : Value} {o : Obj} {P : Heap → Prop} {Q : Value → Shared → Prop} (B : Begins v o P) (h1 : P s.heap)
    (h : ∀ h', IsEnum h' (s.heap.objs.size + 1) s.heap.objs.size 0 .none → h'.get? s.heap.objs.size = some o → (∀ b u, s.heap.get? b = some u → h'.get? b = some u) → Q (.ref (s.heap.objs.size + 1)) { s with heap := h' }) :
    wpAny (model prog w) A (call (.type "enumerate") [v]) Q E s := by
  have sz : (s.heap.push o).objs.size = s.heap.objs.size + 1 := Heap.size_push ..
  have he := Heap.get?_push_size (s.heap.push o) (o := { cls := .type "enumerate", data := .fields #[.none, .bool false, .ref s.heap.objs.size, rawInt 0, .none, .none] }) rfl
  rw [sz] at he
  refine callType_new F.called_enumerate (by decide) (F.typeCall_enumerate_1 _) (F.newCall_enumerate_1 _) (fun x => F.args_object_init_2 x _) F.entry_enumerate_new (enum_new1 B) ⟨h1, ?_⟩
  show _ ∧ _
  rw [sz]
  exact ⟨⟨_, he, rfl⟩, h _ he (Heap.get?_push_of_some _ (Heap.get?_push_size _ B.free)) fun b u q => Heap.get?_push_of_some _ (Heap.get?_push_of_some _ q)⟩
/-- the tuple at a, its items numbered, each pair new -/
def IteT (K : PySem.W.Frag) (a : Addr) : It where
  go := fun i H => ∃ (xs : List V) (x : V), SqT K H a xs ∧ xs[i]? = some x
  yld := fun i H v H' => ∃ T x, v = .ref T ∧ H T = none ∧ H' = upd H T (.tup [.int (i : Nat), x]) ∧ ∀ xs, SqT K H a xs → xs[i]? = some x
  stop := fun i H => ∃ xs : List V, SqT K H a xs ∧ xs.length ≤ i
theorem turn_enumT {P : Program} {w : World} {K : PySem.W.Frag} {elts : List Expr} {kk : Nat} {tpos : Pos} (a e it : Addr) :
    Turn P w K (.Tuple elts kk tpos) (IteT K a) [e, it] e (fun i h => (∃ x, IsEnum h e it ((i : Nat) : Int) x) ∧ h.IsTupleIter it a i ∧ e ≠ it ∧ a ≠ e ∧ a ≠ it) where
  mem := by simp
  obj := fun i h ⟨⟨x, z⟩, ⟨o, h1, _, h2⟩, _⟩ b hb => by
    rcases (show b = e ∨ b = it by simpa using hb) with q | q <;> subst q
    · exact ⟨_, z, fun v q => nomatch q⟩
    · exact ⟨o, h1, fun v q => by rw [h2] at q; cases q⟩
  keep := fun i h h' ⟨⟨x, z⟩, y, n⟩ k => ⟨⟨x, k e (by simp) _ z⟩, y.at fun o q => k it (by simp) o q, n⟩
  self := fun A i s Q E ⟨⟨_, z⟩, _⟩ h => wpAny_pyIter_enum z h
  item := by
    intro X hP hw hK hc i pins s σ H E I hf st hg
    subst hP hw hK
    obtain ⟨⟨old, z⟩, y, n1, n2, n3⟩ := st
    obtain ⟨xs, x, hq, hx⟩ := hg
    obtain ⟨its, rv, p, hz⟩ := I.tuple hq
    obtain ⟨u, hu, ru⟩ := rv.get hx
    have le : e < s.heap.objs.size := Heap.lt_size z
    have li : it < s.heap.objs.size := let ⟨_, q, _⟩ := y; Heap.lt_size q
    have hi : i < its.toArray.size := by simpa using (List.getElem?_eq_some_iff.mp hu).1
    have dr := Draws.tuple (prog := X.prog) (w := X.w) (A := X.A.in1) (show X.A.in1.handled = none from I.ok.hd hc) it a n3 its.toArray
    refine wpAny_pyNext_enum_itemD dr z ⟨y, p⟩ hi n1 (by simp [n1, Ne.symm n2]) fun x' h' tk hx' ho st' hT hsz hk => ?_
    have ex : x' = u := by
      have e1 : its.toArray[i]? = some u := by simpa using hu
      rw [e1] at hx'
      exact (Option.some.inj hx').symm
    subst ex
    refine ⟨_, rfl, wpAny_letOwnedTupleGo_enum (s := { s with heap := h', toks := tk + 1 }) ho fun h2 z2 sb => ?_⟩
    have neT : s.heap.objs.size ≠ e := Nat.ne_of_gt le
    have hT2 := (sb.2 _ neT).trans hT
    have I1 : L2.Inv X pins σ (upd H s.heap.objs.size (.tup [.int (i : Nat), x])) { s with heap := h2, toks := tk + 1 } :=
      I.turnedNew (ch := [e, it]) (fun b ob nb q => by
        have ⟨nb1, nb2⟩ : b ≠ e ∧ b ≠ it := by simpa using nb
        exact (sb.2 b nb1).trans (hk b ob nb1 nb2 q)) hf (Nat.le_refl _) ⟨by show 2 ≤ sizeLine; decide, [.int i tk, x'], .cons ⟨_, rfl⟩ (.cons ru .nil), ⟨_, hT2, rfl, _, rfl⟩⟩
    refine ⟨.ref s.heap.objs.size, _, I1, rfl, ⟨_, x, rfl, I.hok.fresh (Nat.le_refl _), rfl, fun ys hy => by rw [I.tuple_inj hy hq]; exact hx⟩, ⟨⟨x', ?_⟩, st'.1.at fun o q => (sb.2 it (Ne.symm n1)).trans q, n1, n2, n3⟩, fun b hb => ?_⟩
    · rw [show ((i + 1 : Nat) : Int) = (i : Int) + 1 by omega]
      exact z2
    · have lb : b < s.heap.objs.size := by rcases (show b = e ∨ b = it by simpa using hb) with q | q <;> (subst q; assumption)
      rw [upd_ne (Nat.ne_of_lt lb)]
      exact (hf b hb).1
  done := by
    intro X hP hw hK hc i pins s σ H E I hf st hg
    subst hP hw hK
    obtain ⟨⟨old, z⟩, y, n1, n2, n3⟩ := st
    obtain ⟨xs, hq, hx⟩ := hg
    obtain ⟨its, rv, p, hz⟩ := I.tuple hq
    have hl := rv.length
    have hh : X.A.in1.handled = none := I.ok.hd hc
    have out : its.toArray[i]? = none := by simp; omega
    have dr : Draws X.prog X.w X.A.in1 it [it, a] i (fun _ _ => True) (fun j h => j = i ∧ h.IsTupleIter it a i ∧ h.IsTuple a its.toArray) :=
      { live := fun _ _ st => let ⟨o, q, _⟩ := st.2.1; ⟨o, q⟩
        frame := fun _ _ _ st k => ⟨st.1, st.2.1.at fun o q => k it (by simp) o q, st.2.2.at fun o q => k a (by simp) o q⟩
        item := fun j s' Q' E' hj st _ => by rw [st.1] at hj; exact absurd hj (Nat.lt_irrefl _)
        done := fun s' Q' E' st hE => wpAny_nextOf_tuple_end hh st.2.1 st.2.2 out hE }
    obtain ⟨f0, f1, f2, f3, f4, f5⟩ := hf it (by simp)
    exact wpAny_pyNext_enum_endD dr z ⟨rfl, y, p⟩ fun h' eb => ⟨rfl, I.turned (t' := s.toks) (fun b o hb q => eb b o hb q) f0 f1 f3 f4 f5⟩
def iEnumA (K : PySem.W.Frag) (ta : TA) : TI := fun σ H R => ta σ H fun vs H1 => ∃ a xs, vs = [.ref a] ∧ ((SqL K H1 a xs ∧ (xs.length ≤ sizeLine → R (Ite K a) H1)) ∨ (SqT K H1 a xs ∧ (xs.length ≤ sizeLine → R (IteT K a) H1)))
theorem pi_enumA {X : Cx} {e : Expr} {ta : TA} {p pos tpos : Pos} {elts : List Expr} {kk : Nat} (hg : Gl X "enumerate") (hm : X.mg "enumerate" = none) (ha : PA X [e] ta) (hs : starEach [e] X.env = [(false, eval e X.env)] := by rfl) :
    PI X (.Tuple elts kk tpos) (.Call (.Name "enumerate" p) [e] [] pos) (iEnumA X.K ta) := by
  refine ⟨fun pins s σ H R I h => PyProof.Rows.Call_ (ld_blt I hg hm PyProof.Rows.boot_enumerate (PyProof.Rows.callWith_type1 (thn (ha.run pos pins s σ H _ I h) fun us s1 ⟨vs, H1, I1, r1, a, xs, e1, q1⟩ => ?_) hs rfl))⟩
  subst e1
  cases r1 with
  | cons r rr =>
    cases rr
    cases r
    have fr : ∀ b ∈ [s1.heap.objs.size + 1, s1.heap.objs.size], FpOk X pins H1 b := fun b hb => by
      have hle : s1.heap.objs.size ≤ b := by
        rcases (show b = s1.heap.objs.size + 1 ∨ b = s1.heap.objs.size by simpa using hb) with q | q <;> subst q <;> omega
      exact I1.fpOk hle (I1.hok.fresh hle)
    rcases q1 with ⟨hq, q⟩ | ⟨hq, q⟩
    · obtain ⟨its, rv, pl, hz⟩ := I1.list hq
      refine enum_call (begins_list a its.toArray) pl.isList fun h' z ho hk => wpAny_pyIter_enum z ?_
      exact ⟨_, _, _, _, H1, rfl, I1.kept (t' := s1.toks) hk, turn_enum a (s1.heap.objs.size + 1) s1.heap.objs.size, ⟨⟨.none, z⟩, ⟨_, ho, rfl, rfl⟩, Nat.succ_ne_self _⟩, fr, q hz⟩
    · obtain ⟨its, rv, pl, hz⟩ := I1.tuple hq
      have la : a < s1.heap.objs.size := pl.lt
      refine enum_call (begins_tuple a its.toArray) (show s1.heap.IsTuple a its.toArray from pl) fun h' z ho hk => wpAny_pyIter_enum z ?_
      exact ⟨_, _, _, _, H1, rfl, I1.kept (t' := s1.toks) hk, turn_enumT a (s1.heap.objs.size + 1) s1.heap.objs.size, ⟨⟨.none, z⟩, ⟨_, ho, rfl, rfl⟩, Nat.succ_ne_self _, Nat.ne_of_lt (Nat.lt_succ_of_lt la), Nat.ne_of_lt la⟩, fr, q hz⟩
section
variable {X : Cx} {e : Expr} {as : List Arg} {pos p tpos : Pos} {K : PySem.W.Frag} {mg : Str → Option Value} {A : List Addr} {H0 : Hp}
def numd (i : Nat) : List D → List D
  | [] => []
  | d :: ds => .tup [.int (i : Int), d] :: numd (i + 1) ds
theorem numd_get : ∀ (ds : List D) (n i : Nat), (numd n ds)[i]? = (ds[i]?).map fun d => D.tup [.int ((n + i : Nat) : Int), d]
  | [], _, _ => by simp [numd]
  | d :: ds, n, 0 => by simp [numd]
  | d :: ds, n, i + 1 => by
    show (numd (n + 1) ds)[i]? = (ds[i]?).map _
    rw [numd_get ds (n + 1) i, show n + 1 + i = n + (i + 1) by omega]
theorem numd_len : ∀ (ds : List D) (n : Nat), (numd n ds).length = ds.length
  | [], _ => rfl
  | d :: ds, n => by show (numd (n + 1) ds).length + 1 = _; rw [numd_len]; rfl
theorem rep_pair {A' : List Addr} {H : Hp} {T : Addr} {x y : D} {v u : V} (tk : Trk A' H) (n : H T = none) (r1 : Rep K mg (off A' H) x v) (r2 : Rep K mg (off A' H) y u) : Rep K mg (off A' (upd H T (.tup [v, u]))) (.tup [x, y]) (.ref T) :=
  rep_tup tk n (.cons r1 (.cons r2 .nil))
theorem wk_enum {a : Addr} {vs : List V} {ds : List D} (h : SqL K (off A H0) a vs) (r : Reps K mg (off A H0) ds vs) : Wk K mg A (numd 0 ds) (Ite K a) H0 := fun i A' H sm tk => by
  have q : SqL K H a vs := SqL.mono off_le (SqL.mono sm h)
  refine ⟨fun d hd => ?_, fun hl => ⟨vs, q, by rw [numd_len] at hl; rw [← r.length]; exact hl⟩⟩
  rw [numd_get] at hd
  obtain ⟨d0, hd, e⟩ := Option.map_eq_some_iff.mp hd
  obtain ⟨v, h1, h2⟩ := r.get hd
  refine ⟨⟨vs, v, q, h1⟩, fun x H' ⟨T, x', e1, nT, e2, y⟩ => ?_⟩
  have := y vs q
  rw [h1] at this
  cases this
  subst e e1 e2
  rw [Nat.zero_add]
  exact ⟨same_upd nT, rep_pair tk nT rfl (h2.mono sm)⟩
theorem wk_enumT {a : Addr} {vs : List V} {ds : List D} (h : SqT K (off A H0) a vs) (r : Reps K mg (off A H0) ds vs) : Wk K mg A (numd 0 ds) (IteT K a) H0 := fun i A' H sm tk => by
  have q : SqT K H a vs := SqT.mono off_le (SqT.mono sm h)
  refine ⟨fun d hd => ?_, fun hl => ⟨vs, q, by rw [numd_len] at hl; rw [← r.length]; exact hl⟩⟩
  rw [numd_get] at hd
  obtain ⟨d0, hd, e⟩ := Option.map_eq_some_iff.mp hd
  obtain ⟨v, h1, h2⟩ := r.get hd
  refine ⟨⟨vs, v, q, h1⟩, fun x H' ⟨T, x', e1, nT, e2, y⟩ => ?_⟩
  have := y vs q
  rw [h1] at this
  cases this
  subst e e1 e2
  rw [Nat.zero_add]
  exact ⟨same_upd nT, rep_pair tk nT rfl (h2.mono sm)⟩
def D.enum : List D → Option (List D)
  | [.lst l] => some (numd 0 l)
  | [.tup l] => some (numd 0 l)
  | [.scr l] => some (numd 0 l)
  | _ => none
theorem di_enum {elts : List Expr} {kk : Nat} (hg : Gl X "enumerate") (hm : X.mg "enumerate" = none) (ha : DA X [e] as) (hs : starEach [e] X.env = [(false, eval e X.env)] := by rfl) :
    DI X (.Tuple elts kk tpos) (.Call (.Name "enumerate" p) [e] [] pos) (srcN D.enum as) :=
  fun W tk => pi_imp (pi_enumA hg hm (ha W tk) hs) fun σ H R ⟨w, A, ρ, Rr, q⟩ => by
    refine ⟨w, A, ρ, Rr, ?_⟩
    unfold srcN at q
    cases hx : evs as ρ with
    | exc e ρ1 => rw [bnd_exc hx] at q; exact q
    | bad => rw [bnd_bad hx] at q; exact q
    | ok v ρ1 =>
      rw [bnd_ok hx] at q
      intro vv H1 ex1 R1 r1
      cases hd : (dvs v).bind D.enum with
      | none => rw [hd] at q; exact q.elim
      | some d =>
        rw [hd] at q
        obtain ⟨ds, h1, h2⟩ := Option.bind_eq_some_iff.mp hd
        have r := dvs_rep r1 h1
        match ds, h2, r with
        | [.lst l], h2, ⟨v, _, e1, ⟨a, xs, e2, hh, rr⟩, e3⟩ =>
          cases (Option.some.inj h2)
          cases e3; subst e2; subst e1
          exact ⟨a, xs, rfl, .inl ⟨SqL.of (off_le _ _ hh), fun z => q _ H1 ex1 R1 (wk_enum (SqL.of hh) rr) (by rw [numd_len, rr.length]; exact z)⟩⟩
        | [.scr l], h2, ⟨v, _, e1, ⟨a, xs, e2, hh, rr⟩, e3⟩ =>
          cases (Option.some.inj h2)
          cases e3; subst e2; subst e1
          exact ⟨a, xs, rfl, .inl ⟨SqL.mono off_le hh, fun z => q _ H1 ex1 R1 (wk_enum hh rr) (by rw [numd_len, rr.length]; exact z)⟩⟩
        | [.tup l], h2, ⟨v, _, e1, ⟨a, xs, e2, hh, rr⟩, e3⟩ =>
          cases (Option.some.inj h2)
          cases e3; subst e2; subst e1
          exact ⟨a, xs, rfl, .inr ⟨SqT.mono off_le hh, fun z => q _ H1 ex1 R1 (wk_enumT hh rr) (by rw [numd_len, rr.length]; exact z)⟩⟩
end
end DL
namespace DL
open PySem L2
def wipeE (ρ : Ev) : List Nat → Ev
  | [] => ρ
  | v :: vs => (wipeE ρ vs).set v .no
/-- what a block leaves: the things of one's own as it leaves them, all else as it was -/
def mergeE : Ev → Ev → Option Ev
  | [], [] => some []
  | a :: r, b :: s => if a.isOwn then (if b.isOwn then (mergeE r s).map fun t => b :: t else none) else (mergeE r s).map fun t => a :: t
  | _, _ => none
/-- one of the names holds a thing of one's own -/
def ownAt (vs : List Nat) (ρ : Ev) : Bool := vs.any fun v => match ρ[v]? with
  | some s => s.isOwn
  | none => false
theorem ownAt_no {vs : List Nat} {ρ : Ev} (h : ownAt vs ρ = false) : ∀ v ∈ vs, ∀ s, ρ[v]? = some s → s.isOwn = false := fun v hv s hs => by
  unfold ownAt at h
  have := List.any_eq_false.mp h v hv
  rw [hs] at this
  simpa using this
def lcL (vs : List Nat) (t : D → Ev → Option Ev) (tt : M Bool) (te : M D) : List D → Ev → List D → Out (List D)
  | [], ρ, acc => .ok acc ρ
  | d :: ds, ρ, acc => match t d ρ with
    | none => .bad
    | some ρ1 => match tt ρ1 with
      | .ok true ρ2 => match te ρ2 with
        | .ok y ρ3 => if ownAt vs ρ3 then .bad else lcL vs t tt te ds (wipeE ρ3 vs) (acc ++ [y])
        | _ => .bad
      | .ok false ρ2 => if ownAt vs ρ2 then .bad else lcL vs t tt te ds (wipeE ρ2 vs) acc
      | _ => .bad
def compM (vs : List Nat) (src : M (List D)) (t : D → Ev → Option Ev) (tt : M Bool) (te : M D) : M D := M.bnd src fun ds ρ1 =>
  if ownAt vs ρ1 then .bad else match lcL vs t tt te ds (wipeE ρ1 vs) [] with
    | .ok acc ρ2 => match mergeE ρ1 ρ2 with
      | some ρ3 => .ok (.lst acc) ρ3
      | none => .bad
    | _ => .bad
def noTest : M Bool := M.ret true
section
variable {K : PySem.W.Frag} {mg : Str → Option Value} {w : Wd} {A : List Addr} {ρ ρ' : Ev} {σ σ' : L2.St} {H : Hp}
theorem wipeE_len : ∀ (vs : List Nat) (ρ : Ev), (wipeE ρ vs).length = ρ.length
  | [], _ => rfl
  | v :: vs, ρ => by show ((wipeE ρ vs).set v .no).length = _; rw [List.length_set, wipeE_len vs ρ]
theorem wipeE_get : ∀ (vs : List Nat) (ρ : Ev) (j : Nat), (wipeE ρ vs)[j]? = if j ∈ vs then (if j < ρ.length then some .no else none) else ρ[j]?
  | [], ρ, j => by simp [wipeE]
  | v :: vs, ρ, j => by
    show ((wipeE ρ vs).set v .no)[j]? = _
    by_cases hj : j = v
    · subst hj
      simp only [List.mem_cons, true_or, if_true]
      by_cases hl : j < ρ.length
      · rw [if_pos hl, List.getElem?_set_self (by rw [wipeE_len]; exact hl)]
      · rw [if_neg hl]; exact List.getElem?_eq_none (by simpa [wipeE_len] using hl)
    · rw [List.getElem?_set_ne (Ne.symm hj), wipeE_get vs ρ j]
      simp [hj]
theorem wipe_get : ∀ (vs : List Nat) (σ : L2.St) (j : Nat), (wipe σ vs)[j]? = if j ∈ vs then (if j < σ.length then some none else none) else σ[j]?
  | [], σ, j => by simp [wipe]
  | v :: vs, σ, j => by
    show ((wipe σ vs).set v none)[j]? = _
    by_cases hj : j = v
    · subst hj
      simp only [List.mem_cons, true_or, if_true]
      by_cases hl : j < σ.length
      · rw [if_pos hl, List.getElem?_set_self (by rw [wipe_length]; exact hl)]
      · rw [if_neg hl]; exact List.getElem?_eq_none (by simpa [wipe_length] using hl)
    · rw [List.getElem?_set_ne (Ne.symm hj), wipe_get vs σ j]
      simp [hj]
theorem wipe_agr {vs is : List Nat} (a : Agr is (wipe σ vs) σ') (h : ∀ i ∈ is, i ∈ vs) : wipe σ' vs = wipe σ vs := by
  refine List.ext_getElem? fun j => ?_
  rw [wipe_get, wipe_get]
  have hl : σ'.length = σ.length := by rw [a.1, wipe_length]
  by_cases hj : j ∈ vs
  · rw [if_pos hj, if_pos hj, hl]
  · rw [if_neg hj, if_neg hj, a.2 j fun z => hj (h j z), wipe_get, if_neg hj]
theorem SR.wipe {vs : List Nat} (R : SR K mg w A ρ σ H) (ho : ∀ v ∈ vs, ∀ s, ρ[v]? = some s → s.isOwn = false) : SR K mg w A (wipeE ρ vs) (wipe σ vs) H := by
  have get : ∀ {j : Nat} {s : Slot}, (wipeE ρ vs)[j]? = some s → s = .no ∨ (j ∉ vs ∧ ρ[j]? = some s) := fun {j s} h => by
    rw [wipeE_get] at h
    split at h
    · split at h
      · exact .inl (Option.some.inj h).symm
      · cases h
    · rename_i hj
      exact .inr ⟨hj, h⟩
  have own : ∀ {j : Nat} {s : Slot}, (wipeE ρ vs)[j]? = some s → s.isOwn = true → j ∉ vs ∧ ρ[j]? = some s := fun {j s} h o => by
    rcases get h with z | z
    · subst z; cases o
    · exact z
  have sg : ∀ {j : Nat}, j ∉ vs → (L2.wipe σ vs)[j]? = σ[j]? := fun {j} hj => by rw [wipe_get, if_neg hj]
  refine ⟨by rw [wipeE_len, wipe_length, R.len], fun j s o h1 h2 => ?_, fun i j s t a h1 h2 o1 o2 e1 e2 => ?_, R.sub, R.trk, R.frame, fun i s a h1 o1 e1 => ?_, R.opB, fun p hp => ?_⟩
  · rcases get h1 with z | ⟨z, h⟩
    · subst z; trivial
    · rw [sg z] at h2
      exact R.slots j s o h h2
  · obtain ⟨n1, g1⟩ := own h1 o1
    obtain ⟨n2, g2⟩ := own h2 o2
    rw [sg n1] at e1
    rw [sg n2] at e2
    exact R.dist i j s t a g1 g2 o1 o2 e1 e2
  · obtain ⟨n1, g1⟩ := own h1 o1
    rw [sg n1] at e1
    exact R.mine i s a g1 o1 e1
  · obtain ⟨p1, p2, s, p3, p4⟩ := R.par p hp
    have np : p.1 ∉ vs := fun z => by rw [ho _ z s p3] at p4; cases p4
    exact ⟨p1, by rw [sg np]; exact p2, s, by rw [wipeE_get, if_neg np]; exact p3, p4⟩
/-- the new list, while it grows, is a thing that changes -/
theorem off_cons {p : Addr} {o : HO} (n : H p = none) : off (p :: A) (upd H p o) = off A H := by
  funext b
  unfold off
  by_cases hb : b = p
  · subst hb
    rw [if_pos List.mem_cons_self]
    split
    · rfl
    · exact n.symm
  · rw [upd_ne hb]
    by_cases hA : b ∈ A
    · rw [if_pos (List.mem_cons_of_mem _ hA), if_pos hA]
    · rw [if_neg hA, if_neg fun z => (List.mem_cons.mp z).elim hb hA]
theorem SlotR.grow {xx : Addr × Option Addr × Value} {p : Addr} {o : HO} (n : H p = none) (t : Trk A H) : ∀ {s : Slot} {v : Option V}, SlotR K mg xx A H s v → SlotR K mg xx (p :: A) (upd H p o) s v
  | .no, _, _ => trivial
  | .val d, _, ⟨v, e, r⟩ => ⟨v, e, by rw [off_cons n]; exact r⟩
  | .own l, _, ⟨a, vs, e, m, h, r⟩ => ⟨a, vs, e, List.mem_cons_of_mem _ m, by rw [upd_ne (ne_of_none h n)]; exact h, by rw [off_cons n]; exact r⟩
  | .dic _ _, _, ⟨a, kvs, e, m, h, k, r⟩ => ⟨a, kvs, e, List.mem_cons_of_mem _ m, by rw [upd_ne (ne_of_none h n)]; exact h, k, by rw [off_cons n]; exact r⟩
  | .inst _ _ _, _, ⟨a, C, dx, fvs, e, m, c, h, l, r⟩ => ⟨a, C, dx, fvs, e, List.mem_cons_of_mem _ m, c, by rw [upd_ne (ne_of_none h n)]; exact h, l, by rw [off_cons n]; exact r⟩
  | .ex _, _, ⟨e, r⟩ => ⟨e, r.to (by rw [off_cons n]; exact Same.refl _)⟩
/-- a thing that changes and that no name holds -/
def Wd.with (w : Wd) (p : Addr) (o : HO) : Wd := { w with B := p :: w.B, G := upd w.G p o }
theorem SR.noOp {p : Addr} (R : SR K mg w A ρ σ H) (n : H p = none) : p ∉ w.Op := fun z => R.trk p (R.sub p (R.opB p z)) n
theorem SR.noG {p : Addr} (R : SR K mg w A ρ σ H) (n : H p = none) : w.G p = none := by
  cases e : w.G p with
  | none => rfl
  | some o => rw [R.frame p o e (R.noOp n)] at n; cases n
/-- an own slot's object stands -/
theorem SR.stood {p : Addr} (R : SR K mg w A ρ σ H) (n : H p = none) (i : Nat) (s : Slot) (h : ρ[i]? = some s) (o : s.isOwn = true) : σ[i]? ≠ some (some (.ref p)) := fun z => by
  have := R.slots i s _ h z
  cases s with
  | own l => obtain ⟨b, vs', e, m, hh, _⟩ := this; cases e; rw [n] at hh; cases hh
  | dic ks vs => obtain ⟨b, vs', e, m, hh, _⟩ := this; cases e; rw [n] at hh; cases hh
  | inst c ns l => obtain ⟨b, C, dx, fvs, e, m, c, hh, _⟩ := this; cases e; rw [n] at hh; cases hh
  | _ => cases o
theorem SR.grow {p : Addr} {o : HO} (R : SR K mg w A ρ σ H) (n : H p = none) : SR K mg (w.with p o) (p :: A) ρ σ (upd H p o) :=
  { len := R.len, slots := fun i s v h1 h2 => (R.slots i s v h1 h2).grow n R.trk, dist := R.dist
    sub := fun a h => (List.mem_cons.mp h).elim (fun z => z ▸ List.mem_cons_self) fun z => List.mem_cons_of_mem _ (R.sub a z)
    trk := fun a ha z => by
      rcases List.mem_cons.mp ha with q | q
      · subst q; rw [upd_same] at z; cases z
      · exact Trk.upd (show Trk A H from R.trk) a q z
    frame := fun a u h nn => by
      by_cases ha : a = p
      · subst ha
        have h' : upd w.G a o a = some u := h
        rw [upd_same] at h' ⊢
        exact h'
      · have h' : upd w.G p o a = some u := h
        rw [upd_ne ha] at h' ⊢
        exact R.frame a u h' nn
    mine := fun i s a h o' e => (R.mine i s a h o' e).imp id fun ⟨z1, z2⟩ => by
      have ne : a ≠ p := fun y => R.stood n i s h o' (by rw [e, y])
      exact ⟨by show upd w.G p o a = none; rw [upd_ne ne]; exact z1, fun z => (List.mem_cons.mp z).elim ne z2⟩
    opB := fun a h => List.mem_cons_of_mem _ (R.opB a h)
    par := R.par }
/-- another content of the list that grows -/
theorem off_in {p : Addr} {o : HO} (h : p ∈ A) : off A (upd H p o) = off A H := by
  funext b
  unfold off
  by_cases hb : b = p
  · subst hb; rw [if_pos h, if_pos h]
  · rw [upd_ne hb]
theorem mergeE_get : ∀ {ρ ρ' ρ2 : Ev}, mergeE ρ ρ' = some ρ2 → ρ2.length = ρ.length ∧ ρ'.length = ρ.length ∧ ∀ (j : Nat) s, ρ2[j]? = some s → (s.isOwn = true ∧ ρ'[j]? = some s ∧ ∃ u, ρ[j]? = some u ∧ u.isOwn = true) ∨ (s.isOwn = false ∧ ρ[j]? = some s)
  | [], [], _, h => by cases (Option.some.inj h); exact ⟨rfl, rfl, fun j s h => by simp at h⟩
  | [], _ :: _, _, h => by cases h
  | _ :: _, [], _, h => by cases h
  | a :: r, b :: s, ρ2, h => by
    unfold mergeE at h
    by_cases ha : a.isOwn = true
    · rw [if_pos ha] at h
      by_cases hb : b.isOwn = true
      · rw [if_pos hb] at h
        obtain ⟨t, h1, e⟩ := Option.map_eq_some_iff.mp h
        subst e
        obtain ⟨l1, l2, g⟩ := mergeE_get h1
        refine ⟨by simp [l1], by simp [l2], fun j s h => ?_⟩
        cases j with
        | zero => simp at h; subst h; exact .inl ⟨hb, by simp, a, by simp, ha⟩
        | succ j => simpa using g j s (by simpa using h)
      · rw [if_neg hb] at h; cases h
    · rw [if_neg ha] at h
      obtain ⟨t, h1, e⟩ := Option.map_eq_some_iff.mp h
      subst e
      obtain ⟨l1, l2, g⟩ := mergeE_get h1
      refine ⟨by simp [l1], by simp [l2], fun j s h => ?_⟩
      cases j with
      | zero => simp at h; subst h; exact .inr ⟨by simpa using ha, by simp⟩
      | succ j => simpa using g j s (by simpa using h)
theorem SlotR.shrink {xx : Addr × Option Addr × Value} {p : Addr} {s0 : Option V} (h : ∀ a, s0 = some (V.ref a) → a ≠ p) : ∀ {s : Slot}, SlotR K mg xx (p :: A) H s s0 → SlotR K mg xx A H s s0 := by
  intro s r
  have sm : Same (off (p :: A) H) (off A H) := off_sub fun a ha => List.mem_cons_of_mem _ ha
  have inA : ∀ {a : Addr}, s0 = some (.ref a) → a ∈ p :: A → a ∈ A := fun {a} e m => (List.mem_cons.mp m).elim (fun z => absurd z (h a e)) id
  cases s with
  | no => trivial
  | val d => obtain ⟨v, e, r⟩ := r; exact ⟨v, e, r.mono sm⟩
  | own l => obtain ⟨a, vs, e, m, hh, r⟩ := r; exact ⟨a, vs, e, inA e m, hh, r.mono sm⟩
  | dic ks vs => obtain ⟨a, kvs, e, m, hh, k, r⟩ := r; exact ⟨a, kvs, e, inA e m, hh, k, r.mono sm⟩
  | inst c ns l => obtain ⟨a, C, dx, fvs, e, m, c, hh, n, r⟩ := r; exact ⟨a, C, dx, fvs, e, inA e m, c, hh, n, r.mono sm⟩
  | ex e => exact ⟨r.1, r.2.to sm⟩
/-- behind the block: the outer slots again -/
theorem SR.back {H1 : Hp} {vs : List Nat} {ρ2 ρ3 : Ev} {p : Addr} {o : HO} (R : SR K mg w A ρ σ H1) (n : H1 p = none) (R2 : SR K mg (w.with p o) (p :: A) ρ2 (L2.wipe σ vs) H) (sm : Same (off A H1) (off (p :: A) H)) (hm : mergeE ρ ρ2 = some ρ3) (ho : ∀ v ∈ vs, ∀ s, ρ[v]? = some s → s.isOwn = false) :
    SR K mg w A ρ3 σ H := by
  obtain ⟨l1, l2, g⟩ := mergeE_get hm
  have sub : Same (off (p :: A) H) (off A H) := off_sub fun a ha => List.mem_cons_of_mem _ ha
  have sA : Same (off A H1) (off A H) := sm.trans sub
  have own : ∀ {j : Nat} {s : Slot}, ρ3[j]? = some s → s.isOwn = true → ρ2[j]? = some s ∧ j ∉ vs ∧ (∃ u, ρ[j]? = some u ∧ u.isOwn = true) := fun {j s} h o => by
    rcases g j s h with ⟨_, h2, u, h3, h4⟩ | ⟨z, _⟩
    · exact ⟨h2, fun hv => (by rw [ho j hv u h3] at h4; cases h4), u, h3, h4⟩
    · rw [z] at o; cases o
  have sg : ∀ {j : Nat}, j ∉ vs → (L2.wipe σ vs)[j]? = σ[j]? := fun {j} hj => by rw [wipe_get, if_neg hj]
  refine ⟨by rw [l1, R.len], fun j s o h1 h2 => ?_, fun i j s t a h1 h2 o1 o2 e1 e2 => ?_, R.sub, fun a ha => R2.trk a (List.mem_cons_of_mem _ ha), fun a u h nn => R2.frame a u (by show upd w.G p o a = some u; rw [upd_ne (ne_of_none h (R.noG n))]; exact h) nn, fun i s a h1 o1 e1 => ?_, R.opB, fun q hq => ?_⟩
  · by_cases hs : s.isOwn = true
    · obtain ⟨h3, nv, u, h4, o4⟩ := own h1 hs
      rw [← sg nv] at h2
      refine SlotR.shrink (fun a e z => ?_) (R2.slots j s o h3 h2)
      rw [sg nv] at h2
      subst e z
      exact R.stood n j u h4 o4 h2
    · rcases g j s h1 with ⟨z, _⟩ | ⟨_, h3⟩
      · exact absurd z hs
      · have q := R.slots j s o h3 h2
        cases s with
        | no => trivial
        | val d => obtain ⟨v, e, r⟩ := q; exact ⟨v, e, r.mono sA⟩
        | ex e =>
          exact ⟨q.1, q.2.to sA⟩
        | _ => exact absurd rfl hs
  · obtain ⟨g1, n1, _⟩ := own h1 o1
    obtain ⟨g2, n2, _⟩ := own h2 o2
    exact R2.dist i j s t a g1 g2 o1 o2 (by rw [sg n1]; exact e1) (by rw [sg n2]; exact e2)
  · obtain ⟨g1, n1, _⟩ := own h1 o1
    exact (R2.mine i s a g1 o1 (by rw [sg n1]; exact e1)).imp id fun ⟨z1, z2⟩ => by
      have ne : a ≠ p := fun y => z2 (by rw [y]; exact List.mem_cons_self)
      exact ⟨by have z1' : upd w.G p o a = none := z1; rw [upd_ne ne] at z1'; exact z1', fun z => z2 (List.mem_cons_of_mem _ z)⟩
  · obtain ⟨p1, p2, s, p3, p4⟩ := R.par q hq
    have hj : q.1 < ρ3.length := by rw [l1]; exact (List.getElem?_eq_some_iff.mp p3).1
    have e3 : ρ3[q.1]? = some ρ3[q.1] := by simp [hj]
    rcases g q.1 _ e3 with ⟨z, _, _⟩ | ⟨z, h3⟩
    · exact ⟨p1, p2, _, e3, z⟩
    · rw [p3] at h3; cases h3; rw [z] at p4; cases p4
end
end DL
namespace DL
open PySem L2
/-- nothing is wished for -/
abbrev WF : WZ := ⟨fun _ _ _ _ => False, fun _ => True, false⟩
theorem takesF {X : Cx} {s : Shared} {H : Hp} {scope : Scope} {env : Env} {fp : List Addr} (hc : X.calm = true) : TakesZ (X.blk s H scope env fp) WF := ⟨takesN0, fun h => (by cases h), fun h => by
  have z : X.calm = false := h
  rw [hc] at z
  cases z⟩
def DTs (X : Cx) (ifs : List Expr) (t : M Bool) : Prop := ∀ W : WZ, TakesZ X W → PTs X ifs (tT X.K X.mg W t)
section
variable {X : Cx} {e : Expr} {K : PySem.W.Frag} {mg : Str → Option Value} {w : Wd} {A : List Addr} {ρ ρ' : Ev} {σ σ' : L2.St} {H : Hp} {t : M Bool}
theorem dts_nil : DTs X [] noTest := fun W _ => ⟨fun pins s σ H Q I ⟨w, A, ρ, R, q⟩ => (pts_nil (X := X)).run pins s σ H Q I (q H Ext.refl R)⟩
theorem dts_one (h : DT X e t) : DTs X [e] t := fun W tk => pts_one (h W tk)
theorem ext_own {p : Addr} {o : HO} (h : p ∈ A) : Same (off A H) (off A (upd H p o)) := by rw [off_in h]; exact Same.refl _
/-- the list that grows takes one more -/
theorem SR.more {p : Addr} {xs ys : List V} (R : SR K mg (w.with p (.lst xs)) (p :: A) ρ σ H) (nO : p ∉ w.Op) : SR K mg (w.with p (.lst ys)) (p :: A) ρ σ (upd H p (.lst ys)) := by
  have e : off (p :: A) (upd H p (.lst ys)) = off (p :: A) H := off_in List.mem_cons_self
  have no : ∀ (i : Nat) s, ρ[i]? = some s → s.isOwn = true → σ[i]? ≠ some (some (.ref p)) := fun i s h o z => by
    rcases R.mine i s p h o z with q | ⟨_, q⟩
    · exact nO q
    · exact q List.mem_cons_self
  refine ⟨R.len, fun i s o h1 h2 => ?_, R.dist, R.sub, Trk.upd (show Trk (p :: A) H from R.trk), fun a u hu nu => ?_, fun i s a h1 o1 e1 => (R.mine i s a h1 o1 e1).imp id fun ⟨z1, z2⟩ => ?_, R.opB, R.par⟩
  · have r := R.slots i s o h1 h2
    cases s with
    | no => trivial
    | val d => obtain ⟨v, e1, r⟩ := r; exact ⟨v, e1, by rw [e]; exact r⟩
    | own l => obtain ⟨a, vs, e1, m, hh, r⟩ := r; subst e1; exact ⟨a, vs, rfl, m, by rw [upd_ne fun z => no i _ h1 rfl (by rw [h2, z])]; exact hh, by rw [e]; exact r⟩
    | dic ks vs => obtain ⟨a, kvs, e1, m, hh, k, r⟩ := r; subst e1; exact ⟨a, kvs, rfl, m, by rw [upd_ne fun z => no i _ h1 rfl (by rw [h2, z])]; exact hh, k, by rw [e]; exact r⟩
    | inst c ns l => obtain ⟨a, C, dx, fvs, e1, m, c, hh, n, r⟩ := r; subst e1; exact ⟨a, C, dx, fvs, rfl, m, c, by rw [upd_ne fun z => no i _ h1 rfl (by rw [h2, z])]; exact hh, n, by rw [e]; exact r⟩
    | ex ee => exact ⟨r.1, r.2.to (by rw [e]; exact Same.refl _)⟩
  · have hu' : upd w.G p (.lst ys) a = some u := hu
    by_cases ha : a = p
    · subst ha
      rw [upd_same] at hu' ⊢
      exact hu'
    · rw [upd_ne ha] at hu' ⊢
      exact R.frame a u (by show upd w.G p (.lst xs) a = some u; rw [upd_ne ha]; exact hu') nu
  · have ne : a ≠ p := fun y => z2 (by rw [y]; exact List.mem_cons_self)
    refine ⟨?_, z2⟩
    have z1' : upd w.G p (.lst xs) a = none := z1
    show upd w.G p (.lst ys) a = none
    rw [upd_ne ne] at z1' ⊢
    exact z1'
theorem wipe_own {vs : List Nat} {i : Nat} {s : Slot} (h : (wipeE ρ vs)[i]? = some s) (hv : i ∈ vs) : s = .no := by
  rw [wipeE_get, if_pos hv] at h
  split at h
  · exact (Option.some.inj h).symm
  · cases h
theorem lc_go {vs is : List Nat} {t : D → Ev → Option Ev} {tt : M Bool} {te : M D} {J : It} {H1 : Hp} {p : Addr} {ds : List D} {Q : VK} {ρ1 : Ev}
    (his : ∀ i ∈ is, i ∈ vs) (R1 : SR K mg w A ρ1 σ H1) (np : H1 p = none) (wk : Wk K mg A ds J H1) (hz : ds.length ≤ sizeLine) (ho : ∀ v ∈ vs, ∀ s, ρ1[v]? = some s → s.isOwn = false)
    (q : match lcL vs t tt te ds (wipeE ρ1 vs) [] with
      | .ok acc ρ2 => match mergeE ρ1 ρ2 with
        | some ρ3 => ∀ H', Same (off A H1) (off (p :: A) H') → SR K mg w A ρ3 σ H' → Rep K mg (off A H') (.lst acc) (.ref p) → Q (.ref p) H'
        | none => False
      | _ => False) :
    ∃ W : Nat → Nat → Hp → Prop, (∃ m, W 0 m (upd H1 p (.lst []))) ∧ ∀ i m H, W i m H →
      (J.stop i H ∧ Q (.ref p) H) ∨ (J.go i H ∧ ∃ Nx : Hp → Prop, (∀ H', Nx H' → ∃ m', m' < m ∧ W (i + 1) m' H') ∧ ∀ x H', J.yld i H x H' → tG K mg is t x (L2.wipe σ vs) H' fun σ2 H2 => L2.wipe σ2 vs = L2.wipe σ vs ∧ tT K mg WF tt σ2 H2 fun b H3 =>
        if b = true then tE K mg WF te σ2 H3 fun y H4 => ∃ acc, H4 p = some (.lst acc) ∧ acc.length < sizeLine ∧ Nx (upd H4 p (.lst (acc ++ [y]))) else Nx H3) := by
  generalize hE : lcL vs t tt te ds (wipeE ρ1 vs) [] = E0 at q
  let St := fun (i : Nat) (H : Hp) (ρi : Ev) (acc : List D) => Same (off A H1) (off (p :: A) H) ∧ (∃ xs, SR K mg (w.with p (.lst xs)) (p :: A) ρi (L2.wipe σ vs) H ∧ Reps K mg (off (p :: A) H) acc xs) ∧ acc.length ≤ i ∧ i ≤ ds.length ∧
    lcL vs t tt te (ds.drop i) ρi acc = E0
  refine ⟨fun i m H => m = ds.length - i ∧ ∃ ρi acc, St i H ρi acc, ⟨ds.length, by simp, wipeE ρ1 vs, [], by rw [off_cons np]; exact Same.refl _, ⟨[], (R1.wipe ho).grow np, rfl⟩, Nat.zero_le _, Nat.zero_le _, hE⟩, ?_⟩
  rintro i m H ⟨rfl, ρi, acc, sm, ⟨xs, R, rs⟩, ha, hi, el⟩
  have nO : p ∉ w.Op := R1.noOp np
  have at_p : ∀ {H : Hp} {ρ : Ev} {σ : L2.St}, SR K mg (w.with p (.lst xs)) (p :: A) ρ σ H → H p = some (.lst xs) := fun {H ρ σ} R => R.frame p _ (by show upd w.G p (.lst xs) p = _; exact upd_same) nO
  obtain ⟨wk1, wk2⟩ := wk i (p :: A) H sm R.trk
  by_cases hlt : i < ds.length
  · right
    obtain ⟨go, yld⟩ := wk1 ds[i] (by simp [hlt])
    refine ⟨go, fun H' => ∃ ρi acc, St (i + 1) H' ρi acc, fun H' h => ⟨ds.length - (i + 1), by omega, rfl, h⟩, fun x H' y => ?_⟩
    obtain ⟨s1, rx⟩ := yld x H' y
    have sm1 : Same (off A H1) (off (p :: A) H') := sm.trans (off_Same s1)
    have R' := R.same s1
    rw [show ds.drop i = ds[i] :: ds.drop (i + 1) from List.drop_eq_getElem_cons hlt] at el
    refine ⟨w.with p (.lst xs), p :: A, ρi, ds[i], R', rx, ?_⟩
    rw [← el] at q
    unfold lcL at q el
    cases ht : t ds[i] ρi with
    | none => rw [ht] at q; exact q.elim
    | some ρ2 =>
      rw [ht] at q el
      dsimp only at q el
      intro σ2 ag R2
      have hw : L2.wipe σ2 vs = L2.wipe σ vs := wipe_agr ag his
      refine ⟨hw, ⟨w.with p (.lst xs), trivial⟩, p :: A, ρ2, R2, ?_⟩
      cases htt : tt ρ2 with
      | exc e ρ3 => rw [htt] at q; exact q.elim
      | bad => rw [htt] at q; exact q.elim
      | ok b ρ3 =>
        rw [htt] at q el
        intro H3 ex3 R3
        have sm3 : Same (off A H1) (off (p :: A) H3) := sm1.trans ex3.off
        have rs3 : Reps K mg (off (p :: A) H3) acc xs := (rs.mono (off_Same s1)).mono ex3.off
        cases b with
        | false =>
          simp only [Bool.false_eq_true, if_false]
          dsimp only at q el
          cases hw2 : ownAt vs ρ3 with
          | true => rw [hw2] at q; exact q.elim
          | false =>
            rw [hw2] at q el
            simp only [Bool.false_eq_true, if_false] at el
            refine ⟨wipeE ρ3 vs, acc, sm3, ⟨xs, ?_, rs3⟩, by omega, hlt, el⟩
            rw [← hw]
            exact R3.wipe (ownAt_no hw2)
        | true =>
          simp only [if_true]
          refine ⟨⟨w.with p (.lst xs), trivial⟩, p :: A, ρ3, R3, ?_⟩
          dsimp only at q el
          cases hte : te ρ3 with
          | exc e ρ4 => rw [hte] at q; exact q.elim
          | bad => rw [hte] at q; exact q.elim
          | ok y ρ4 =>
            rw [hte] at q el
            dsimp only at q el
            cases hw2 : ownAt vs ρ4 with
            | true => rw [hw2] at q; exact q.elim
            | false =>
              rw [hw2] at q el
              simp only [Bool.false_eq_true, if_false] at el
              intro v H4 ex4 R4 r4
              have rs4 : Reps K mg (off (p :: A) H4) acc xs := rs3.mono ex4.off
              have hp4 : H4 p = some (.lst xs) := at_p R4
              have e4 : off (p :: A) (upd H4 p (.lst (xs ++ [v]))) = off (p :: A) H4 := off_in List.mem_cons_self
              refine ⟨xs, hp4, by rw [← rs4.length]; omega, wipeE ρ4 vs, acc ++ [y], by rw [e4]; exact sm3.trans ex4.off, ⟨xs ++ [v], ?_, by rw [e4]; exact rs4.append (.cons r4 .nil)⟩, by simp; omega, hlt, el⟩
              rw [← hw]
              exact (R4.more nO).wipe (ownAt_no hw2)
  · have e : i = ds.length := by omega
    subst e
    left
    refine ⟨wk2 (Nat.le_refl _), ?_⟩
    rw [List.drop_length] at el
    rw [← el] at q
    have q : match mergeE ρ1 ρi with
        | some ρ3 => ∀ H', Same (off A H1) (off (p :: A) H') → SR K mg w A ρ3 σ H' → Rep K mg (off A H') (.lst acc) (.ref p) → Q (.ref p) H'
        | none => False := q
    cases hm : mergeE ρ1 ρi with
    | none => rw [hm] at q; exact q.elim
    | some ρ3 =>
      rw [hm] at q
      refine q H sm (R1.back np R sm hm ho) ⟨p, xs, rfl, off_at (at_p R) fun z => R1.trk p z np, rs.mono (off_sub fun a ha => List.mem_cons_of_mem _ ha)⟩
/-- [elt for target in .. if ..] -/
theorem de_lc {elt tg iter : Expr} {ifs : List Expr} {scope : Scope} {own : List (Str × Nat)} {pos : Pos} {is : List Nat} {src : M (List D)} {t : D → Ev → Option Ev} {tt : M Bool} {te : M D} (hc : X.calm = true) (hN : X.N.Nodup) (hi : DI X tg iter src) (ok : blkC X.N X.env.scope scope own = true)
    (hg : ∀ (s : Shared) (H : Hp) (C : Addr) (cl : List (Str × Addr)) (fp : List Addr), DG (X.blk s H scope (compEnvC scope cl C X.env) fp) tg is t) (ht : ∀ (s : Shared) (H : Hp) (C : Addr) (cl : List (Str × Addr)) (fp : List Addr), DTs (X.blk s H scope (compEnvC scope cl C X.env) fp) ifs tt)
    (he : ∀ (s : Shared) (H : Hp) (C : Addr) (cl : List (Str × Addr)) (fp : List Addr), DE (X.blk s H scope (compEnvC scope cl C X.env) fp) elt te) (his : is.all (fun i => (own.map (·.2)).contains i) = true := by rfl) (hs : ∀ x, foldedSetIterable iter X.env x = pure x := by intro _; rfl) :
    DE X (.ListComp elt [⟨tg, iter, ifs, 0⟩] scope pos) (compM (own.map (·.2)) src t tt te) := fun W tk =>
  pe_imp (pe_lc (g := tG X.K X.mg is t) (tt := tT X.K X.mg WF tt) (te := tE X.K X.mg WF te) hc hN (hi W tk) (blkOk_by ok) hg (fun s H C cl fp => ht s H C cl fp WF (takesF hc)) (fun s H C cl fp => he s H C cl fp WF (takesF hc)) hs) fun σ H Q ⟨w, A, ρ, R, q⟩ => by
    refine ⟨w, A, ρ, R, ?_⟩
    unfold compM at q
    cases hm : src ρ with
    | exc e ρ1 => rw [bnd_exc hm] at q; exact q
    | bad => rw [bnd_bad hm] at q; exact q
    | ok ds ρ1 =>
      rw [bnd_ok hm] at q
      intro J H1 ex1 R1 wk hz p np
      cases hw : ownAt (own.map (·.2)) ρ1 with
      | true => rw [hw] at q; exact q.elim
      | false =>
        rw [hw] at q
        refine lc_go (fun i hi => ?_) R1 np wk hz (ownAt_no hw) ?_
        · have := List.all_eq_true.mp his i hi
          simpa using this
        · simp only [Bool.false_eq_true, if_false] at q
          cases hl : lcL (own.map (·.2)) t tt te ds (wipeE ρ1 (own.map (·.2))) [] with
          | exc e ρ2 => rw [hl] at q; exact q.elim
          | bad => rw [hl] at q; exact q.elim
          | ok acc ρ2 =>
            rw [hl] at q
            dsimp only at q ⊢
            cases hmm : mergeE ρ1 ρ2 with
            | none => rw [hmm] at q; exact q.elim
            | some ρ3 =>
              rw [hmm] at q
              exact fun H' sm R' r => q _ H' (ex1.trans fun a o ha h => off_le _ _ (sm _ _ (off_at h ha))) R' r
end
end DL
namespace DL
open PySem L2
section
variable {X : Cx} {np : Nat} {st : Stmt} {rest : List Stmt} {e : Expr} {m : M D} {s s' : S} {pos : Pos} {K : PySem.W.Frag} {mg : Str → Option Value} {w : Wd} {A : List Addr} {ρ : Ev} {σ : L2.St} {H : Hp}
def sSeq (a b : S) : S := fun ρ => match a ρ with
  | .nx ρ' => b ρ'
  | .rt d ρ' => .rt d ρ' | .bk ρ' => .bk ρ' | .ct ρ' => .ct ρ' | .exc e ρ' => .exc e ρ' | .bad => .bad
def sNx : S := fun ρ => .nx ρ
/-- what is wanted behind an outcome -/
def Aft (K : PySem.W.Frag) (mg : Str → Option Value) (W : WZ) (w : Wd) (A : List Addr) (H : Hp) (E : Ends) : SOut → Prop
  | .nx ρ' => ∀ A' σ' H', Same (off A H) (off A' H') → SR K mg w A' ρ' σ' H' → E.nx σ' H'
  | .rt d ρ' => ∀ A' σ' H' v, SR K mg w A' ρ' σ' H' → Rep K mg (off A' H') d v → E.rt v H'
  | .bk ρ' => ∀ A' σ' H', Same (off A H) (off A' H') → SR K mg w A' ρ' σ' H' → E.bk σ' H'
  | .ct ρ' => ∀ A' σ' H', Same (off A H) (off A' H') → SR K mg w A' ρ' σ' H' → E.ct σ' H'
  | .exc e ρ' => ∀ A' σ' H' c dd, Same (off A H) (off A' H') → SR K mg w A' ρ' σ' H' → ExR K mg A' H' e c dd → W c dd σ' H'
  | .bad => False
theorem tS_iff {W : WZ} {E : Ends} : tS K mg np W s E σ H ↔ ∃ (w : WS W) (A : List Addr) (ρ : Ev), w.1.np = np ∧ SR K mg w A ρ σ H ∧ Aft K mg W w A H E (s ρ) := by
  unfold tS
  constructor <;> rintro ⟨w, A, ρ, h, R, q⟩ <;> refine ⟨w, A, ρ, h, R, ?_⟩ <;> cases hs : s ρ <;> (rw [hs] at q; exact q)
theorem Aft.from {W : WZ} {E : Ends} {A1 : List Addr} {H1 : Hp} (sm : Same (off A H) (off A1 H1)) : ∀ {o : SOut}, Aft K mg W w A H E o → Aft K mg W w A1 H1 E o
  | .nx _, q => fun A' σ' H' s2 R => q A' σ' H' (sm.trans s2) R
  | .rt _ _, q => q
  | .bk _, q => fun A' σ' H' s2 R => q A' σ' H' (sm.trans s2) R
  | .ct _, q => fun A' σ' H' s2 R => q A' σ' H' (sm.trans s2) R
  | .exc _ _, q => fun A' σ' H' c dd s2 R => q A' σ' H' c dd (sm.trans s2) R
  | .bad, q => q
theorem dss_nil : DSs X np [] sNx := fun W _ => pss_imp pss_nil fun E σ H ⟨w, A, ρ, hn, R, q⟩ => q A σ H (Same.refl _) R
theorem dss_cons (h : DS X np st s) (h2 : DSs X np rest s') : DSs X np (st :: rest) (sSeq s s') := fun W tk => pss_imp (pss_cons (h W tk) (h2 W tk)) fun E σ H q => by
  obtain ⟨w, A, ρ, hn, R, q⟩ := tS_iff.mp q
  refine tS_iff.mpr ⟨w, A, ρ, hn, R, ?_⟩
  unfold sSeq at q
  cases hs : s ρ with
  | nx ρ1 =>
    rw [hs] at q
    exact fun A' σ' H' sm R' => tS_iff.mpr ⟨w, A', ρ1, hn, R', Aft.from sm q⟩
  | rt d ρ1 => rw [hs] at q; exact q
  | bk ρ1 => rw [hs] at q; exact q
  | ct ρ1 => rw [hs] at q; exact q
  | exc e ρ1 => rw [hs] at q; exact q
  | bad => rw [hs] at q; exact q
theorem dss_one (h : DS X np st s) : DSs X np [st] s := fun W tk => pss_one (h W tk)
theorem ds_pass : DS X np (.Pass pos) sNx := fun W _ => ps_imp ps_pass fun E σ H ⟨w, A, ρ, hn, R, q⟩ => q A σ H (Same.refl _) R
theorem ds_break : DS X np (.Break pos) (fun ρ => .bk ρ) := fun W _ => ps_imp ps_break fun E σ H ⟨w, A, ρ, hn, R, q⟩ => q A σ H (Same.refl _) R
theorem ds_continue : DS X np (.Continue pos) (fun ρ => .ct ρ) := fun W _ => ps_imp ps_continue fun E σ H ⟨w, A, ρ, hn, R, q⟩ => q A σ H (Same.refl _) R
/-- a value, then what is done with it -/
def sV (m : M D) (f : D → S) : S := fun ρ => match m ρ with
  | .ok d ρ' => f d ρ'
  | .exc e ρ' => .exc e ρ'
  | .bad => .bad
theorem te_of {W : WZ} {E : Ends} {f : D → S} {Q : VK} (h : tS K mg np W (sV m f) E σ H)
    (hq : ∀ (w : WS W) (A : List Addr) (ρ1 : Ev) d v H1, w.1.np = np → SR K mg w A ρ1 σ H1 → Rep K mg (off A H1) d v → Aft K mg W w A H1 E (f d ρ1) → Q v H1) : tE K mg W m σ H Q := by
  obtain ⟨w, A, ρ, hn, R, q⟩ := tS_iff.mp h
  refine ⟨w, A, ρ, R, ?_⟩
  unfold sV at q
  cases hm : m ρ with
  | exc e ρ1 => rw [hm] at q; exact fun c dd H' ex R' z => q A σ H' c dd ex.off R' z
  | bad => rw [hm] at q; exact q
  | ok d ρ1 =>
    rw [hm] at q
    exact fun v H1 ex R1 r1 => hq w A ρ1 d v H1 hn R1 r1 (Aft.from ex.off q)
theorem ds_expr (h : DE X e m) (hs : swapsWith e none pos.line X.env = pure false := by rfl) : DS X np (.Expr e pos) (sV m fun _ => sNx) := fun W tk =>
  ps_imp (ps_expr (h W tk) hs) fun E σ H q => te_of q fun w A ρ1 d v H1 hn R1 r1 z => z A σ H1 (Same.refl _) R1
theorem ds_ret (h : DE X e m) : DS X np (.Return (some e) pos) (sV m fun d ρ => .rt d ρ) := fun W tk =>
  ps_imp (ps_ret (h W tk)) fun E σ H q => te_of q fun w A ρ1 d v H1 hn R1 r1 z => z A σ H1 v R1 r1
theorem ds_retN : DS X np (.Return none pos) (fun ρ => .rt .non ρ) := fun W tk => ps_imp ps_retN fun E σ H ⟨w, A, ρ, hn, R, q⟩ => q A σ H .non R rfl
/-- target = value -/
def sAsg (m : M D) (t : D → Ev → Option Ev) : S := sV m fun d ρ => match t d ρ with
  | some ρ' => .nx ρ'
  | none => .bad
theorem ds_asg {tg : Expr} {is : List Nat} {t : D → Ev → Option Ev} (h : DE X e m) (hg : DG X tg is t) (hs : swapsWithSole [tg] e pos.line X.env = pure false := by rfl) (hw : swappedStores [tg] e X.env = pure none := by rfl)
    (h1 : (assignEach [tg] X.env).map (·.2) = [assign tg X.env] := by rfl) : DS X np (.Assign [tg] e pos) (sAsg m t) := fun W tk =>
  ps_imp (ps_asg (h W tk) hg hs hw h1) fun E σ H q => te_of q fun w A ρ1 d v H1 hn R1 r1 z => by
    refine ⟨w, A, ρ1, d, R1, r1, ?_⟩
    cases ht : t d ρ1 with
    | none => rw [ht] at z; exact z.elim
    | some ρ2 => rw [ht] at z; exact fun σ' _ R2 => z A σ' H1 (Same.refl _) R2
theorem ds_set {i : Nat} {x : Str} {pos' : Pos} (hN : X.N.Nodup) (hi : X.N[i]? = some x) (hx : Loc X.env.scope x) (h : DE X e m) (hs : swapsWith e (some (.Name x pos')) pos.line X.env = pure false := by rfl)
    (hf : X.fn x = true ∨ X.env.scope.names.lookup x = some .local := by first | exact .inl rfl | exact .inr rfl | assumption) : DS X np (.Assign [.Name x pos'] e pos) (sAsg m (gN i)) := fun W tk =>
  ps_imp (ps_set hN hi hx (h W tk) hs hf) fun E σ H q => te_of q fun w A ρ1 d v H1 hn R1 r1 z => by
    unfold gN at z
    cases hs : ρ1[i]? with
    | none => rw [hs] at z; exact z.elim
    | some s0 =>
      rw [hs] at z
      dsimp only at z
      cases ho : s0.isOwn with
      | true => rw [ho] at z; exact z.elim
      | false => rw [ho] at z; exact z A _ H1 (Same.refl _) (R1.set hs ho r1)
/-- name = [..] on one line -/
theorem ds_setLc {i : Nat} {y : Str} {py : Pos} {elt tg iter : Expr} {ifs : List Expr} {scope : Scope} {own : List (Str × Nat)} {pos spos : Pos} {is : List Nat} {src : M (List D)} {t : D → Ev → Option Ev} {tt : M Bool} {te : M D} (hc : X.calm = true) (hN : X.N.Nodup) (hy : X.N[i]? = some y) (hyl : X.env.scope.names.lookup y = some .local)
    (hsw : swapsWith (.ListComp elt [⟨tg, iter, ifs, 0⟩] scope pos) (some (.Name y py)) spos.line X.env = pure true) (hi : DI X tg iter src) (ok : blkC X.N X.env.scope scope own = true)
    (hg : ∀ (s : Shared) (H : Hp) (C : Addr) (cl : List (Str × Addr)) (fp : List Addr), DG (X.blk s H scope (compEnvC scope cl C X.env) fp) tg is t) (ht : ∀ (s : Shared) (H : Hp) (C : Addr) (cl : List (Str × Addr)) (fp : List Addr), DTs (X.blk s H scope (compEnvC scope cl C X.env) fp) ifs tt)
    (he : ∀ (s : Shared) (H : Hp) (C : Addr) (cl : List (Str × Addr)) (fp : List Addr), DE (X.blk s H scope (compEnvC scope cl C X.env) fp) elt te) (his : is.all (fun i => (own.map (·.2)).contains i) = true := by rfl) (hs : ∀ x, foldedSetIterable iter X.env x = pure x := by intro _; rfl) :
    DS X np (.Assign [.Name y py] (.ListComp elt [⟨tg, iter, ifs, 0⟩] scope pos) spos) (sAsg (compM (own.map (·.2)) src t tt te) (gN i)) := fun W tk =>
  ps_imp (ps_setLc (g := tG X.K X.mg is t) (tt := tT X.K X.mg WF tt) (te := tE X.K X.mg WF te) hc hN hy hyl hsw (hi W tk) (blkOk_by ok) hg (fun s H C cl fp => ht s H C cl fp WF (takesF hc)) (fun s H C cl fp => he s H C cl fp WF (takesF hc)) hs) fun E σ H q => by
    obtain ⟨w, A, ρ, hn, R, q⟩ := tS_iff.mp q
    refine ⟨w, A, ρ, R, ?_⟩
    unfold sAsg sV compM at q
    cases hm : src ρ with
    | exc e ρ1 => rw [bnd_exc hm] at q; exact fun c dd H' ex R' z => q A σ H' c dd ex.off R' z
    | bad => rw [bnd_bad hm] at q; exact q
    | ok ds ρ1 =>
      rw [bnd_ok hm] at q
      intro J H1 ex1 R1 wk hz p np'
      cases hw : ownAt (own.map (·.2)) ρ1 with
      | true => rw [hw] at q; exact q.elim
      | false =>
        rw [hw] at q
        refine lc_go (Q := fun x H1 => gName i x σ H1 E.nx) (is := is) (fun i hi => ?_) R1 np' wk hz (ownAt_no hw) ?_
        · have := List.all_eq_true.mp his i hi
          simpa using this
        · simp only [Bool.false_eq_true, if_false] at q
          cases hl : lcL (own.map (·.2)) t tt te ds (wipeE ρ1 (own.map (·.2))) [] with
          | exc e ρ2 => rw [hl] at q; exact q.elim
          | bad => rw [hl] at q; exact q.elim
          | ok acc ρ2 =>
            rw [hl] at q
            dsimp only at q ⊢
            cases hmm : mergeE ρ1 ρ2 with
            | none => rw [hmm] at q; exact q.elim
            | some ρ3 =>
              rw [hmm] at q
              intro H' sm R' r
              dsimp only at q
              unfold gN at q
              cases hs : ρ3[i]? with
              | none => rw [hs] at q; exact q.elim
              | some s0 =>
                rw [hs] at q
                dsimp only at q
                cases ho : s0.isOwn with
                | true => rw [ho] at q; exact q.elim
                | false =>
                  rw [ho] at q
                  exact q A _ H' (ex1.off.trans (sm.trans (off_sub fun a ha => List.mem_cons_of_mem _ ha))) (R'.set hs ho r)
/-- if -/
def sIf (t : M Bool) (a b : S) : S := fun ρ => match t ρ with
  | .ok true ρ' => a ρ'
  | .ok false ρ' => b ρ'
  | .exc e ρ' => .exc e ρ'
  | .bad => .bad
theorem ds_if {c : Expr} {a b : List Stmt} {t : M Bool} (h : DT X c t) (ha : DSs X np a s) (hb : DSs X np b s') : DS X np (.If c a b pos) (sIf t s s') := fun W tk =>
  ps_imp (ps_if (h W tk) (ha W tk) (hb W tk)) fun E σ H q => by
    obtain ⟨w, A, ρ, hn, R, q⟩ := tS_iff.mp q
    refine ⟨w, A, ρ, R, ?_⟩
    unfold sIf at q
    cases ht : t ρ with
    | exc e ρ1 => rw [ht] at q; exact fun c dd H' ex R' z => q A σ H' c dd ex.off R' z
    | bad => rw [ht] at q; exact q
    | ok b ρ1 =>
      rw [ht] at q
      intro H1 ex R1
      cases b with
      | true => exact tS_iff.mpr ⟨w, A, ρ1, hn, R1, Aft.from ex.off q⟩
      | false => exact tS_iff.mpr ⟨w, A, ρ1, hn, R1, Aft.from ex.off q⟩
/-- for -/
def forL (t : D → Ev → Option Ev) (b : S) : List D → S
  | [], ρ => .nx ρ
  | d :: ds, ρ => match t d ρ with
    | none => .bad
    | some ρ1 => match b ρ1 with
      | .nx ρ2 => forL t b ds ρ2
      | .ct ρ2 => forL t b ds ρ2
      | .bk ρ2 => .nx ρ2
      | .rt d ρ2 => .rt d ρ2
      | .exc e ρ2 => .exc e ρ2
      | .bad => .bad
def sFor (src : M (List D)) (t : D → Ev → Option Ev) (b : S) : S := fun ρ => match src ρ with
  | .ok ds ρ' => forL t b ds ρ'
  | .exc e ρ' => .exc e ρ'
  | .bad => .bad
theorem ds_for {tg iter : Expr} {body : List Stmt} {is : List Nat} {src : M (List D)} {t : D → Ev → Option Ev} (hp : PassesOwn (model X.prog X.w) X.A X.env X.xe) (hc : X.calm = true) (hi : DI X tg iter src) (hg : DG X tg is t) (hb : DSs X np body s)
    (hs : ∀ x, foldedSetIterable iter X.env x = pure x := by intro _; rfl) : DS X np (.For tg iter body [] pos) (sFor src t s) := fun W tk =>
  ps_imp (ps_for hp hc (hi W tk) hg (hb W tk) hs) fun E σ H q => by
    obtain ⟨w, A, ρ, hn, R, q⟩ := tS_iff.mp q
    refine ⟨w, A, ρ, R, ?_⟩
    unfold sFor at q
    cases hm : src ρ with
    | exc e ρ1 => rw [hm] at q; exact fun c dd H' ex R' z => q A σ H' c dd ex.off R' z
    | bad => rw [hm] at q; exact q
    | ok ds ρ1 =>
      rw [hm] at q
      intro J H1 ex1 R1 wk hz
      have q := Aft.from ex1.off q
      refine ⟨fun i m σ2 H2 => m = ds.length - i ∧ i ≤ ds.length ∧ ∃ A2 ρ2, SR X.K X.mg w A2 ρ2 σ2 H2 ∧ Same (off A H1) (off A2 H2) ∧ Aft X.K X.mg W w A2 H2 E (forL t s (ds.drop i) ρ2), ⟨ds.length, by simp, Nat.zero_le _, A, ρ1, R1, Same.refl _, q⟩, ?_⟩
      rintro i m σ2 H2 ⟨rfl, hle, A2, ρ2, R2, sm, z⟩
      obtain ⟨wk1, wk2⟩ := wk i A2 H2 sm R2.trk
      by_cases hlt : i < ds.length
      · right
        obtain ⟨go, yld⟩ := wk1 ds[i] (by simp [hlt])
        rw [show ds.drop i = ds[i] :: ds.drop (i + 1) from List.drop_eq_getElem_cons hlt] at z
        unfold forL at z
        refine ⟨go, fun σ3 H3 => ∃ A3 ρ3, SR X.K X.mg w A3 ρ3 σ3 H3 ∧ Same (off A H1) (off A3 H3) ∧ Aft X.K X.mg W w A3 H3 E (forL t s (ds.drop (i + 1)) ρ3), fun σ3 H3 h => ⟨_, by omega, rfl, by omega, h⟩, fun x H' y => ?_⟩
        obtain ⟨s1, rx⟩ := yld x H' y
        refine ⟨w, A2, ρ2, ds[i], R2.same s1, rx, ?_⟩
        cases ht : t ds[i] ρ2 with
        | none => rw [ht] at z; exact z.elim
        | some ρ3 =>
          rw [ht] at z
          dsimp only at z
          intro σ3 _ R3
          refine tS_iff.mpr ⟨w, A2, ρ3, hn, R3, ?_⟩
          have z := Aft.from (off_Same s1) z
          have sm3 := sm.trans (off_Same s1)
          cases hb : s ρ3 with
          | nx ρ4 => rw [hb] at z; exact fun A4 σ4 H4 s4 R4 => ⟨A4, ρ4, R4, sm3.trans s4, Aft.from s4 z⟩
          | ct ρ4 => rw [hb] at z; exact fun A4 σ4 H4 s4 R4 => ⟨A4, ρ4, R4, sm3.trans s4, Aft.from s4 z⟩
          | bk ρ4 => rw [hb] at z; exact z
          | rt d ρ4 => rw [hb] at z; exact z
          | exc e ρ4 => rw [hb] at z; exact z
          | bad => rw [hb] at z; exact z
      · left
        have e : i = ds.length := by omega
        subst e
        rw [List.drop_length] at z
        exact ⟨wk2 (Nat.le_refl _), z A2 σ2 H2 (Same.refl _) R2⟩
/-- while: at most so many turns -/
def whL (t : M Bool) (b : S) : Nat → S
  | 0, _ => .bad
  | n + 1, ρ => match t ρ with
    | .ok false ρ1 => .nx ρ1
    | .ok true ρ1 => (match b ρ1 with
      | .nx ρ2 => whL t b n ρ2
      | .ct ρ2 => whL t b n ρ2
      | .bk ρ2 => .nx ρ2
      | .rt d ρ2 => .rt d ρ2
      | .exc e ρ2 => .exc e ρ2
      | .bad => .bad)
    | .exc e ρ1 => .exc e ρ1
    | .bad => .bad
theorem ds_while {c : Expr} {body : List Stmt} {t : M Bool} (n : Nat) (hp : PassesOwn (model X.prog X.w) X.A X.env X.xe) (hc : DT X c t) (hb : DSs X np body s) : DS X np (.While c body [] pos) (whL t s n) := fun W tk =>
  ps_imp (ps_while hp (hc W tk) (hb W tk)) fun E σ H q => by
    obtain ⟨w, A, ρ, hn, R, q⟩ := tS_iff.mp q
    refine ⟨fun m σ2 H2 => ∃ A2 ρ2, SR X.K X.mg w A2 ρ2 σ2 H2 ∧ Aft X.K X.mg W w A2 H2 E (whL t s m ρ2), ⟨n, A, ρ, R, q⟩, ?_⟩
    rintro m σ2 H2 ⟨A2, ρ2, R2, z⟩
    refine ⟨w, A2, ρ2, R2, ?_⟩
    cases m with
    | zero => exact z.elim
    | succ m =>
      unfold whL at z
      cases ht : t ρ2 with
      | exc e ρ3 => rw [ht] at z; exact fun c dd H' ex R' y => z A2 σ2 H' c dd ex.off R' y
      | bad => rw [ht] at z; exact z
      | ok k ρ3 =>
        rw [ht] at z
        intro H3 ex3 R3
        have z := Aft.from ex3.off z
        cases k with
        | false => simp only [Bool.false_eq_true, if_false]; exact z A2 σ2 H3 (Same.refl _) R3
        | true =>
          simp only [if_true]
          refine ⟨fun σ4 H4 => ∃ A2 ρ2, SR X.K X.mg w A2 ρ2 σ4 H4 ∧ Aft X.K X.mg W w A2 H4 E (whL t s m ρ2), fun σ4 H4 h => ⟨m, Nat.lt_succ_self _, h⟩, ?_⟩
          refine tS_iff.mpr ⟨w, A2, ρ3, hn, R3, ?_⟩
          dsimp only at z
          cases hb : s ρ3 with
          | nx ρ4 => rw [hb] at z; exact fun A4 σ4 H4 s4 R4 => ⟨A4, ρ4, R4, Aft.from s4 z⟩
          | ct ρ4 => rw [hb] at z; exact fun A4 σ4 H4 s4 R4 => ⟨A4, ρ4, R4, Aft.from s4 z⟩
          | bk ρ4 => rw [hb] at z; exact z
          | rt d ρ4 => rw [hb] at z; exact z
          | exc e ρ4 => rw [hb] at z; exact z
          | bad => rw [hb] at z; exact z
end
end DL
namespace DL
open PySem L2
section
variable {X : Cx} {np : Nat} {e : Expr} {es : List Expr} {as : List Arg} {m : M D} {s s' : S} {pos : Pos} {K : PySem.W.Frag} {mg : Str → Option Value} {w : Wd} {A : List Addr} {ρ : Ev} {σ : L2.St} {H : Hp}
/-- a new object that no name holds may change from now on -/
theorem SR.growA {p : Addr} {o : HO} (R : SR K mg w A ρ σ H) (n : H p = none) : SR K mg w (p :: A) ρ σ (upd H p o) :=
  { len := R.len, slots := fun i s v h1 h2 => (R.slots i s v h1 h2).grow n R.trk, dist := R.dist
    sub := fun a h => List.mem_cons_of_mem _ (R.sub a h)
    trk := fun a ha z => by
      rcases List.mem_cons.mp ha with q | q
      · subst q; rw [upd_same] at z; cases z
      · exact Trk.upd (show Trk A H from R.trk) a q z
    frame := fun a u h nn => by have := R.frame a u h nn; rw [upd_ne (ne_of_none this n)]; exact this
    mine := R.mine, opB := R.opB, par := R.par }
/-- .. and the i-th name holds it -/
theorem SR.hold {i : Nat} {p : Addr} {vs : List V} {l : List D} {s0 : Slot} (R : SR K mg w A ρ σ H) (hi : ρ[i]? = some s0) (hn : w.np ≤ i) (hp : H p = some (.lst vs)) (hA : p ∈ A) (r : Reps K mg (off A H) l vs)
    (no : ∀ (j : Nat) s, ρ[j]? = some s → s.isOwn = true → σ[j]? ≠ some (some (.ref p))) (nG : w.G p = none) (nB : p ∉ w.B) : SR K mg w A (ρ.set i (.own l)) (σ.set i (some (.ref p))) H := by
  have li : i < ρ.length := (List.getElem?_eq_some_iff.mp hi).1
  have li' : i < σ.length := by rw [← R.len]; exact li
  refine ⟨by simp [R.len], fun j s o h1 h2 => ?_, fun j k s1 s2 a h1 h2 o1 o2 e1 e2 => ?_, R.sub, R.trk, R.frame, fun j s a h1 o1 e1 => ?_, R.opB, fun q hq => ?_⟩
  · by_cases hj : j = i
    · subst hj
      rw [List.getElem?_set_self li] at h1
      rw [List.getElem?_set_self li'] at h2
      cases h1; cases h2
      exact ⟨p, vs, rfl, hA, hp, r⟩
    · rw [List.getElem?_set_ne (Ne.symm hj)] at h1 h2
      exact R.slots j s o h1 h2
  · by_cases hj : j = i
    · by_cases hk : k = i
      · omega
      · subst hj
        rw [List.getElem?_set_self li'] at e1
        cases e1
        rw [List.getElem?_set_ne (Ne.symm hk)] at h2 e2
        exact absurd e2 (no k s2 h2 o2)
    · rw [List.getElem?_set_ne (Ne.symm hj)] at h1 e1
      by_cases hk : k = i
      · subst hk
        rw [List.getElem?_set_self li'] at e2
        cases e2
        exact absurd e1 (no j s1 h1 o1)
      · rw [List.getElem?_set_ne (Ne.symm hk)] at h2 e2
        exact R.dist j k s1 s2 a h1 h2 o1 o2 e1 e2
  · by_cases hj : j = i
    · subst hj
      rw [List.getElem?_set_self li'] at e1
      cases e1
      exact .inr ⟨nG, nB⟩
    · rw [List.getElem?_set_ne (Ne.symm hj)] at h1 e1
      exact R.mine j s a h1 o1 e1
  · obtain ⟨p1, p2, s, p3, p4⟩ := R.par q hq
    have nq : q.1 ≠ i := by omega
    exact ⟨p1, by rw [List.getElem?_set_ne (Ne.symm nq)]; exact p2, s, by rw [List.getElem?_set_ne (Ne.symm nq)]; exact p3, p4⟩
/-- name = [..], a list of its own from now on -/
def sOwn (i np : Nat) (as : List Arg) : S := fun ρ => match evs as ρ with
  | .ok xs ρ' => (match dvs xs, ρ'[i]? with
    | some l, some _ => if np ≤ i ∧ l.length ≤ sizeLine then .nx (ρ'.set i (.own l)) else .bad
    | _, _ => .bad)
  | .exc e ρ' => .exc e ρ'
  | .bad => .bad
theorem ds_own {i : Nat} {x : Str} {pos' pos'' : Pos} (hN : X.N.Nodup) (hi : X.N[i]? = some x) (hx : Loc X.env.scope x) (h : DA X es as) (hs : swapsWith (.List es pos'') (some (.Name x pos')) pos.line X.env = pure false := by rfl)
    (hf : X.fn x = true ∨ X.env.scope.names.lookup x = some .local := by first | exact .inl rfl | exact .inr rfl | assumption) : DS X np (.Assign [.Name x pos'] (.List es pos'') pos) (sOwn i np as) := fun W tk =>
  ps_imp (ps_set hN hi hx (pe_lst (h W tk)) hs hf) fun E σ H q => by
    obtain ⟨w, A, ρ, hn, R, q⟩ := tS_iff.mp q
    refine ⟨w, A, ρ, R, ?_⟩
    unfold sOwn at q
    cases hx : evs as ρ with
    | exc e ρ1 => rw [hx] at q; exact fun c dd H' ex R' z => q A σ H' c dd ex.off R' z
    | bad => rw [hx] at q; exact q
    | ok xs ρ1 =>
      rw [hx] at q
      intro vv H1 ex1 R1 r1
      dsimp only at q
      cases hd : dvs xs with
      | none => rw [hd] at q; exact q.elim
      | some l =>
        cases hs : ρ1[i]? with
        | none => rw [hd, hs] at q; exact q.elim
        | some s0 =>
          rw [hd, hs] at q
          dsimp only at q
          by_cases hc : np ≤ i ∧ l.length ≤ sizeLine
          · rw [if_pos hc] at q
            have r := dvs_rep r1 hd
            refine ⟨by rw [← r.length]; exact hc.2, fun p hp => ?_⟩
            have nB : p ∉ w.1.B := fun z => R1.trk p (R1.sub p z) hp
            refine q (p :: A) _ _ ?_ ((R1.growA hp).hold hs (by omega) upd_same List.mem_cons_self (by rw [off_cons hp]; exact r) (R1.stood hp) (R1.noG hp) nB)
            rw [off_cons hp]
            exact ex1.off
          · rw [if_neg hc] at q; exact q.elim
/-- another content of an own list -/
theorem SR.put {i : Nat} {p : Addr} {vs vs' : List V} {l l' : List D} (R : SR K mg w A ρ σ H) (hi : ρ[i]? = some (.own l)) (hp : σ[i]? = some (some (.ref p))) (r : Reps K mg (off A H) l' vs') : p ∈ A ∧ SR K mg w A (ρ.set i (.own l')) σ (upd H p (.lst vs')) := by
  have li : i < ρ.length := (List.getElem?_eq_some_iff.mp hi).1
  obtain ⟨a, us, e, hA, hh, _⟩ := R.slots i _ _ hi hp
  cases e
  have e : off A (upd H p (.lst vs')) = off A H := off_in hA
  have other : ∀ {j : Nat} {s : Slot} {a : Addr}, j ≠ i → ρ[j]? = some s → s.isOwn = true → σ[j]? = some (some (.ref a)) → a ≠ p := fun {j s a} hj h o e1 z => hj (R.dist j i s (.own l) p h hi o rfl (by rw [e1, z]) hp)
  refine ⟨hA, by simp [R.len], fun j s o h1 h2 => ?_, fun j k s1 s2 a h1 h2 o1 o2 e1 e2 => ?_, R.sub, Trk.upd (show Trk A H from R.trk), fun a u h nn => ?_, fun j s a h1 o1 e1 => ?_, R.opB, fun q hq => ?_⟩
  · by_cases hj : j = i
    · subst hj
      rw [List.getElem?_set_self li] at h1
      rw [hp] at h2
      cases h1; cases h2
      exact ⟨p, vs', rfl, hA, upd_same, by rw [e]; exact r⟩
    · rw [List.getElem?_set_ne (Ne.symm hj)] at h1
      have q := R.slots j s o h1 h2
      cases s with
      | no => trivial
      | val d => obtain ⟨v, e1, r⟩ := q; exact ⟨v, e1, by rw [e]; exact r⟩
      | own l => obtain ⟨a, vs, e1, m, hh, r⟩ := q; subst e1; exact ⟨a, vs, rfl, m, by rw [upd_ne (other hj h1 rfl h2)]; exact hh, by rw [e]; exact r⟩
      | dic ks vs => obtain ⟨a, kvs, e1, m, hh, k, r⟩ := q; subst e1; exact ⟨a, kvs, rfl, m, by rw [upd_ne (other hj h1 rfl h2)]; exact hh, k, by rw [e]; exact r⟩
      | inst c ns l => obtain ⟨a, C, dx, fvs, e1, m, c, hh, n, r⟩ := q; subst e1; exact ⟨a, C, dx, fvs, rfl, m, c, by rw [upd_ne (other hj h1 rfl h2)]; exact hh, n, by rw [e]; exact r⟩
      | ex ee => exact ⟨q.1, q.2.to (by rw [e]; exact Same.refl _)⟩
  · have o1' : ∃ t, ρ[j]? = some t ∧ t.isOwn = true := by
      by_cases hj : j = i
      · subst hj; exact ⟨_, hi, rfl⟩
      · rw [List.getElem?_set_ne (Ne.symm hj)] at h1; exact ⟨_, h1, o1⟩
    have o2' : ∃ t, ρ[k]? = some t ∧ t.isOwn = true := by
      by_cases hj : k = i
      · subst hj; exact ⟨_, hi, rfl⟩
      · rw [List.getElem?_set_ne (Ne.symm hj)] at h2; exact ⟨_, h2, o2⟩
    obtain ⟨t1, g1, g2⟩ := o1'
    obtain ⟨t2, g3, g4⟩ := o2'
    exact R.dist j k t1 t2 a g1 g3 g2 g4 e1 e2
  · have q := R.frame a u h nn
    rcases R.mine i _ p hi rfl hp with z | ⟨z, _⟩
    · rw [upd_ne fun (y : a = p) => nn (by rw [y]; exact z)]; exact q
    · rw [upd_ne fun (y : a = p) => by rw [y, z] at h; cases h]; exact q
  · by_cases hj : j = i
    · subst hj; exact R.mine j _ a hi rfl e1
    · rw [List.getElem?_set_ne (Ne.symm hj)] at h1; exact R.mine j s a h1 o1 e1
  · obtain ⟨p1, p2, s, p3, p4⟩ := R.par q hq
    refine ⟨p1, p2, ?_⟩
    by_cases hj : q.1 = i
    · exact ⟨.own l', by rw [hj, List.getElem?_set_self li], rfl⟩
    · exact ⟨s, by rw [List.getElem?_set_ne (Ne.symm hj)]; exact p3, p4⟩
/-- name.append(e) -/
def sApp (i : Nat) (m : M D) : S := fun ρ => match ρ[i]? with
  | some (.own _) => (match m ρ with
    | .ok d ρ' => (match ρ'[i]? with
      | some (.own l) => if l.length < sizeLine then .nx (ρ'.set i (.own (l ++ [d]))) else .bad
      | _ => .bad)
    | .exc e ρ' => .exc e ρ'
    | .bad => .bad)
  | _ => .bad
theorem own_at {i : Nat} {l : List D} (R : SR K mg w A ρ σ H) (h : ρ[i]? = some (.own l)) : ∃ p vs, σ[i]? = some (some (.ref p)) ∧ p ∈ A ∧ H p = some (.lst vs) ∧ Reps K mg (off A H) l vs := by
  obtain ⟨o, ho, p, vs, e, hA, hh, r⟩ := R.at' h
  subst e
  exact ⟨p, vs, ho, hA, hh, r⟩
theorem ds_append {i : Nat} {o : Expr} {apos cpos pos : Pos} (ho : PE X o (tVar i)) (h : DE X e m) (hm1 : ∀ t : TE, PE X e t → PE X (.Call (.Attribute o "append" apos) [e] [] cpos) (tBM X.K "list" rAppend (tVar i) (tCons t tNil)))
    (hs : swapsWith (.Call (.Attribute o "append" apos) [e] [] cpos) none pos.line X.env = pure false := by rfl) : DS X np (.Expr (.Call (.Attribute o "append" apos) [e] [] cpos) pos) (sApp i m) := fun W tk =>
  ps_imp (ps_expr (hm1 _ (h W tk)) hs) fun E σ H q => by
    obtain ⟨w, A, ρ, hn, R, q⟩ := tS_iff.mp q
    unfold sApp at q
    cases hs : ρ[i]? with
    | none => rw [hs] at q; exact q.elim
    | some s0 =>
      rw [hs] at q
      cases s0 with
      | own l0 =>
        obtain ⟨p, vs, h1, hA, hh, r⟩ := own_at R hs
        refine ⟨.ref p, h1, .inl ⟨rfl, vs, SqL.of hh⟩, w, A, ρ, R, ?_⟩
        dsimp only at q
        cases hm : m ρ with
        | exc e ρ1 => rw [hm] at q; exact fun c dd H' ex R' z => q A σ H' c dd ex.off R' z
        | bad => rw [hm] at q; exact q
        | ok d ρ1 =>
          rw [hm] at q
          dsimp only at q
          intro v H1 ex1 R1 r1
          cases hs1 : ρ1[i]? with
          | none => rw [hs1] at q; exact q.elim
          | some s1 =>
            rw [hs1] at q
            cases s1 with
            | own l =>
              dsimp only at q
              by_cases hz : l.length < sizeLine
              · rw [if_pos hz] at q
                obtain ⟨p', us, g1, gA, gh, gr⟩ := own_at R1 hs1
                rw [h1] at g1
                cases g1
                refine ⟨p, us, v, rfl, rfl, gh, by rw [← gr.length]; exact hz, ?_⟩
                obtain ⟨_, R2⟩ := R1.put (vs := us) hs1 h1 (gr.append (.cons r1 .nil))
                exact q A σ _ (by rw [off_in gA]; exact ex1.off) R2
              · rw [if_neg hz] at q; exact q.elim
            | _ => exact q.elim
      | _ => exact q.elim
/-- an own list is a value from now on -/
theorem SR.froze {i : Nat} {l : List D} (R : SR K mg w A ρ σ H) (h : ρ[i]? = some (.own l)) (hn : w.np ≤ i) : ∃ A', Same (off A H) (off A' H) ∧ SR K mg w A' (ρ.set i (.val (.lst l))) σ H := by
  have li : i < ρ.length := (List.getElem?_eq_some_iff.mp h).1
  obtain ⟨p, vs, hp, hA, hh, r⟩ := own_at R h
  refine ⟨A.filter (· ≠ p), off_sub fun a ha => (List.mem_filter.mp ha).1, ?_⟩
  have sm : Same (off A H) (off (A.filter (· ≠ p)) H) := off_sub fun a ha => (List.mem_filter.mp ha).1
  have other : ∀ {j : Nat} {s : Slot} {a : Addr}, j ≠ i → ρ[j]? = some s → s.isOwn = true → σ[j]? = some (some (.ref a)) → a ≠ p := fun {j s a} hj h1 o e1 z => hj (R.dist j i s (.own l) p h1 h o rfl (by rw [e1, z]) hp)
  have keep : ∀ {j : Nat} {s : Slot} {a : Addr}, j ≠ i → ρ[j]? = some s → s.isOwn = true → σ[j]? = some (some (.ref a)) → a ∈ A → a ∈ A.filter (· ≠ p) := fun {j s a} hj h1 o e1 ha => List.mem_filter.mpr ⟨ha, by simpa using other hj h1 o e1⟩
  have ne : ∀ {j : Nat} {s : Slot}, (ρ.set i (.val (.lst l)))[j]? = some s → s.isOwn = true → j ≠ i ∧ ρ[j]? = some s := fun {j s} h1 o => by
    by_cases hj : j = i
    · subst hj
      rw [List.getElem?_set_self li] at h1
      cases h1
      cases o
    · rw [List.getElem?_set_ne (Ne.symm hj)] at h1
      exact ⟨hj, h1⟩
  have nB : p ∉ w.B := by
    rcases R.mine i _ p h rfl hp with z | ⟨_, z⟩
    · obtain ⟨q, hq, e⟩ := List.mem_map.mp z
      obtain ⟨p1, p2, s, p3, p4⟩ := R.par q hq
      have := R.dist q.1 i s _ p p3 h p4 rfl (by rw [p2, e]) hp
      omega
    · exact z
  refine ⟨by simp [R.len], fun j s o h1 h2 => ?_, fun j k s1 s2 a h1 h2 o1 o2 e1 e2 => ?_, fun a ha => ?_, fun a ha => R.trk a (List.mem_filter.mp ha).1, R.frame, fun j s a h1 o1 e1 => ?_, R.opB, fun q hq => ?_⟩
  · by_cases hj : j = i
    · subst hj
      rw [List.getElem?_set_self li] at h1
      rw [hp] at h2
      cases h1; cases h2
      exact ⟨_, rfl, p, vs, rfl, off_at hh fun z => by simpa using (List.mem_filter.mp z).2, r.mono sm⟩
    · rw [List.getElem?_set_ne (Ne.symm hj)] at h1
      have q := R.slots j s o h1 h2
      cases s with
      | no => trivial
      | val d => obtain ⟨v, e1, r⟩ := q; exact ⟨v, e1, r.mono sm⟩
      | own l => obtain ⟨a, vs, e1, m, hh, r⟩ := q; subst e1; exact ⟨a, vs, rfl, keep hj h1 rfl h2 m, hh, r.mono sm⟩
      | dic ks vs => obtain ⟨a, kvs, e1, m, hh, k, r⟩ := q; subst e1; exact ⟨a, kvs, rfl, keep hj h1 rfl h2 m, hh, k, r.mono sm⟩
      | inst c ns l => obtain ⟨a, C, dx, fvs, e1, m, c, hh, n, r⟩ := q; subst e1; exact ⟨a, C, dx, fvs, rfl, keep hj h1 rfl h2 m, c, hh, n, r.mono sm⟩
      | ex ee => exact ⟨q.1, q.2.to sm⟩
  · obtain ⟨n1, g1⟩ := ne h1 o1
    obtain ⟨n2, g2⟩ := ne h2 o2
    exact R.dist j k s1 s2 a g1 g2 o1 o2 e1 e2
  · refine List.mem_filter.mpr ⟨R.sub a ha, ?_⟩
    have : a ≠ p := fun z => nB (z ▸ ha)
    simpa using this
  · obtain ⟨n1, g1⟩ := ne h1 o1
    exact R.mine j s a g1 o1 e1
  · obtain ⟨p1, p2, s, p3, p4⟩ := R.par q hq
    have nq : q.1 ≠ i := by omega
    exact ⟨p1, p2, s, by rw [List.getElem?_set_ne (Ne.symm nq)]; exact p3, p4⟩
def sFrz (i np : Nat) : S := fun ρ => match ρ[i]? with
  | some (.own l) => if np ≤ i then .nx (ρ.set i (.val (.lst l))) else .bad
  | _ => .nx ρ
theorem ds_frz {st : Stmt} (i : Nat) (h : DS X np st s) : DS X np st (sSeq (sFrz i np) s) := fun W tk => ps_imp (h W tk) fun E σ H q => by
  obtain ⟨w, A, ρ, hn, R, q⟩ := tS_iff.mp q
  unfold sSeq sFrz at q
  cases hs : ρ[i]? with
  | none => rw [hs] at q; exact tS_iff.mpr ⟨w, A, ρ, hn, R, q⟩
  | some s0 =>
    rw [hs] at q
    cases s0 with
    | own l =>
      dsimp only at q
      by_cases hi : np ≤ i
      · rw [if_pos hi] at q
        obtain ⟨A', sm, R'⟩ := R.froze hs (by omega)
        exact tS_iff.mpr ⟨w, A', _, hn, R', Aft.from sm q⟩
      · rw [if_neg hi] at q; exact q.elim
    | _ => exact tS_iff.mpr ⟨w, A, ρ, hn, R, q⟩
/-- name += e, whole numbers -/
def sAug (f : D → D → Option D) (i : Nat) (m : M D) : S := fun ρ => match ρ[i]? with
  | some (.val x) => (match m ρ with
    | .ok y ρ' => (match f x y, ρ'[i]? with
      | some z, some (.val _) => .nx (ρ'.set i (.val z))
      | _, _ => .bad)
    | .exc e ρ' => .exc e ρ'
    | .bad => .bad)
  | _ => .bad
theorem ds_aug {i : Nat} {x : Str} {op : Operator} {g : Int → Int → Int} {f : D → D → Option D} {pos' : Pos} (hN : X.N.Nodup) (hi : X.N[i]? = some x) (hx : Loc X.env.scope x) (h : DE X e m) (ho : PIp X op (ipI g)) (hff : ∀ a b d, f a b = some d → ∃ i j, a = .int i ∧ b = .int j ∧ d = .int (g i j))
    (hf : X.fn x = true ∨ X.env.scope.names.lookup x = some .local := by first | exact .inl rfl | exact .inr rfl | assumption) : DS X np (.AugAssign (.Name x pos') op e pos) (sAug f i m) := fun W tk =>
  ps_imp (ps_aug hN hi hx (h W tk) ho hf) fun E σ H q => by
    obtain ⟨w, A, ρ, hn, R, q⟩ := tS_iff.mp q
    unfold sAug at q
    cases hs : ρ[i]? with
    | none => rw [hs] at q; exact q.elim
    | some s0 =>
      rw [hs] at q
      cases s0 with
      | val x0 =>
        obtain ⟨v, hv, rv⟩ := R.val hs
        refine ⟨v, hv, w, A, ρ, R, ?_⟩
        dsimp only at q
        cases hm : m ρ with
        | exc e ρ1 => rw [hm] at q; exact fun c dd H' ex R' z => q A σ H' c dd ex.off R' z
        | bad => rw [hm] at q; exact q
        | ok y ρ1 =>
          rw [hm] at q
          intro u H1 ex1 R1 r1
          dsimp only at q
          cases hz : f x0 y with
          | none => rw [hz] at q; exact q.elim
          | some z =>
            cases hs1 : ρ1[i]? with
            | none => rw [hz, hs1] at q; exact q.elim
            | some s1 =>
              rw [hz, hs1] at q
              cases s1 with
              | val _ =>
                obtain ⟨a, b, rfl, rfl, rfl⟩ := hff _ _ _ hz
                cases rv; cases r1
                exact ⟨a, b, rfl, rfl, q A _ H1 ex1.off (R1.set hs1 rfl rfl)⟩
              | _ => exact q.elim
      | _ => exact q.elim
theorem ds_iadd {i : Nat} {x : Str} {pos' : Pos} (hN : X.N.Nodup) (hi : X.N[i]? = some x) (hx : Loc X.env.scope x) (h : DE X e m)
    (hf : X.fn x = true ∨ X.env.scope.names.lookup x = some .local := by first | exact .inl rfl | exact .inr rfl | assumption) : DS X np (.AugAssign (.Name x pos') .Add e pos) (sAug (fun x y => match x, y with | .int i, .int j => some (.int (i + j)) | _, _ => none) i m) :=
  ds_aug hN hi hx h ip_add (fun a b d e => by
    cases a with
    | int i => cases b with
      | int j => cases (Option.some.inj e); exact ⟨i, j, rfl, rfl, rfl⟩
      | _ => cases e
    | _ => cases e) hf
end
end DL
namespace DL
open PySem L2
inductive FOut where
  | ok (d : D) (os : List Slot) | exc (e : Ex) (os : List Slot) | bad
abbrev Fn := List Slot → FOut
/-- what may be handed -/
def Slot.arg : Slot → Bool
  | .no => false
  | .ex _ => false
  | _ => true
section
variable (K : PySem.W.Frag) (mg : Str → Option Value)
/-- the arguments as they stand; B: all that callers may change -/
structure ArgsR (B : List Addr) (H : Hp) (as : List Slot) (vs : List V) : Prop where
  len : as.length = vs.length
  at_ : ∀ (i : Nat) s v, as[i]? = some s → vs[i]? = some v → SlotR K mg (0, none, .none) B H s (some v)
  dist : ∀ (i j : Nat) s t a, as[i]? = some s → as[j]? = some t → s.isOwn = true → t.isOwn = true → vs[i]? = some (.ref a) → vs[j]? = some (.ref a) → i = j
  trk : ∀ a ∈ B, H a ≠ none
/-- the arguments behind the call -/
structure Post (B : List Addr) (H : Hp) (as : List Slot) (vs : List V) (os : List Slot) (H' : Hp) : Prop where
  keep : ∀ a o, H a = some o → (∀ (i : Nat) s, as[i]? = some s → s.isOwn = true → vs[i]? ≠ some (.ref a)) → H' a = some o
  own : ∀ (i : Nat) s v, as[i]? = some s → s.isOwn = true → vs[i]? = some v → ∃ t, os[i]? = some t ∧ t.isOwn = true ∧ SlotR K mg (0, none, .none) B H' t (some v)
def spD (φ : Fn) : Sp := fun vs H Q E => ∃ (B : List Addr) (as : List Slot), ArgsR K mg B H as vs ∧ match φ as with
  | .ok d os => ∀ v H', Post K mg B H as vs os H' → Rep K mg (off B H') d v → Q v H'
  | .exc e os => ∀ c dd H', Post K mg B H as vs os H' → ExR K mg B H' e c dd → E c dd H'
  | .bad => False
end
/-- a def by its body: n parameters, so many other names -/
def fnF (n loc : Nat) (m : S) : Fn := fun as => if as.length = n ∧ as.all Slot.arg = true then match m (as ++ List.replicate loc .no) with
  | .rt d ρ => .ok d (ρ.take n)
  | .nx ρ => .ok .non (ρ.take n)
  | .exc e ρ => .exc e (ρ.take n)
  | _ => .bad else .bad
section
variable {K : PySem.W.Frag} {mg : Str → Option Value}
def ownPs : List Slot → List V → Nat → List (Nat × Addr)
  | s :: as, v :: vs, i => (match s.isOwn, v with
    | true, .ref a => [(i, a)]
    | _, _ => []) ++ ownPs as vs (i + 1)
  | _, _, _ => []
theorem ownPs_mem : ∀ {as : List Slot} {vs : List V} {n : Nat} {p : Nat × Addr}, p ∈ ownPs as vs n → ∃ (i : Nat) (s : Slot), p.1 = n + i ∧ as[i]? = some s ∧ s.isOwn = true ∧ vs[i]? = some (.ref p.2)
  | [], _, _, _, h => by simp [ownPs] at h
  | _ :: _, [], _, _, h => by simp [ownPs] at h
  | s :: as, v :: vs, n, p, h => by
    unfold ownPs at h
    rcases List.mem_append.mp h with h | h
    · cases hs : s.isOwn with
      | false => rw [hs] at h; simp at h
      | true =>
        rw [hs] at h
        cases v with
        | ref a =>
          have e : p = (n, a) := List.mem_singleton.mp h
          subst e
          exact ⟨0, s, rfl, by simp, hs, by simp⟩
        | _ => simp at h
    · obtain ⟨i, t, h1, h2, h3, h4⟩ := ownPs_mem h
      exact ⟨i + 1, t, by omega, by simpa using h2, h3, by simpa using h4⟩
theorem ownPs_of : ∀ {as : List Slot} {vs : List V} {n i : Nat} {s : Slot} {a : Addr}, as[i]? = some s → s.isOwn = true → vs[i]? = some (.ref a) → (n + i, a) ∈ ownPs as vs n
  | [], _, _, i, _, _, h, _, _ => by simp at h
  | _ :: _, [], _, i, _, _, _, _, h => by simp at h
  | s :: as, v :: vs, n, 0, t, a, h1, h2, h3 => by
    simp at h1 h3
    subst h1 h3
    unfold ownPs
    rw [h2]
    simp
  | s :: as, v :: vs, n, i + 1, t, a, h1, h2, h3 => by
    unfold ownPs
    refine List.mem_append_right _ ?_
    rw [show n + (i + 1) = n + 1 + i by omega]
    exact ownPs_of (by simpa using h1) h2 (by simpa using h3)
theorem own_ref {xx : Addr × Option Addr × Value} {B : List Addr} {H : Hp} {s : Slot} {v : V} (h : SlotR K mg xx B H s (some v)) (o : s.isOwn = true) : ∃ a, v = .ref a ∧ a ∈ B := by
  cases s with
  | own l => obtain ⟨a, vs, e, m, _⟩ := h; cases e; exact ⟨a, rfl, m⟩
  | dic ks vs => obtain ⟨a, kvs, e, m, _⟩ := h; cases e; exact ⟨a, rfl, m⟩
  | inst c ns l => obtain ⟨a, C, dx, fvs, e, m, _⟩ := h; cases e; exact ⟨a, rfl, m⟩
  | _ => cases o
theorem SlotR.off {xx xx' : Addr × Option Addr × Value} {A B : List Addr} {H : Hp} {s0 : Option V} (sm : Same (off A H) (off B H)) : ∀ {s : Slot}, (s.isOwn = true → ∀ a, s0 = Option.some (V.ref a) → a ∈ B) → s.arg = true → SlotR K mg xx A H s s0 → SlotR K mg xx' B H s s0 := by
  intro s inB ha r
  cases s with
  | no => cases ha
  | ex e => cases ha
  | val d => obtain ⟨v, e, r⟩ := r; exact ⟨v, e, r.mono sm⟩
  | own l => obtain ⟨a, vs, e, m, hh, r⟩ := r; exact ⟨a, vs, e, inB rfl a e, hh, r.mono sm⟩
  | dic ks vs => obtain ⟨a, kvs, e, m, hh, k, r⟩ := r; exact ⟨a, kvs, e, inB rfl a e, hh, k, r.mono sm⟩
  | inst c ns l => obtain ⟨a, C, dx, fvs, e, m, c, hh, n, r⟩ := r; exact ⟨a, C, dx, fvs, e, inB rfl a e, c, hh, n, r.mono sm⟩
theorem own_arg {s : Slot} (h : s.isOwn = true) : s.arg = true := by cases s <;> first | rfl | cases h
/-- the state at a def's entry -/
theorem sr_start {B : List Addr} {H : Hp} {as : List Slot} {vs : List V} {N : List Str} {n loc : Nat} (a : ArgsR K mg B H as vs) (hn : as.length = n) (hN : N.length = n + loc) (ha : as.all Slot.arg = true) :
    SR K mg { G := H, B := B, pa := ownPs as vs 0, np := n, xx := (0, none, .none) } B (as ++ List.replicate loc .no) (L2.start N vs) H := by
  have hl := a.len
  have get : ∀ {i : Nat} {s : Slot}, (as ++ List.replicate loc Slot.no)[i]? = some s → as[i]? = some s ∨ s = .no := fun {i s} h => by
    by_cases hi : i < as.length
    · rw [List.getElem?_append_left hi] at h; exact .inl h
    · rw [List.getElem?_append_right (by omega), List.getElem?_replicate] at h
      split at h
      · exact .inr (Option.some.inj h).symm
      · cases h
  have getv : ∀ {i : Nat}, i < vs.length → (L2.start N vs)[i]? = (vs[i]?).map some := fun {i} h => by
    unfold L2.start
    rw [List.getElem?_append_left (by simpa using h), List.getElem?_map]
  have own : ∀ {i : Nat} {s : Slot}, (as ++ List.replicate loc Slot.no)[i]? = some s → s.isOwn = true → as[i]? = some s ∧ i < vs.length := fun {i s} h o => by
    rcases get h with z | z
    · exact ⟨z, by rw [← hl]; exact (List.getElem?_eq_some_iff.mp z).1⟩
    · subst z; cases o
  refine ⟨?_, fun i s o h1 h2 => ?_, fun i j s t b h1 h2 o1 o2 e1 e2 => ?_, fun _ h => h, a.trk, fun _ _ h _ => h, fun i s b h1 o1 e1 => ?_, fun b hb => ?_, fun p hp => ?_⟩
  · unfold L2.start
    simp
    omega
  · rcases get h1 with z | z
    · have hi : i < vs.length := by rw [← hl]; exact (List.getElem?_eq_some_iff.mp z).1
      have e : vs[i]? = some vs[i] := by simp [hi]
      rw [getv hi, e] at h2
      cases h2
      exact a.at_ i s _ z e
    · subst z; trivial
  · obtain ⟨g1, l1⟩ := own h1 o1
    obtain ⟨g2, l2⟩ := own h2 o2
    rw [getv l1] at e1
    rw [getv l2] at e2
    obtain ⟨v, q1, q2⟩ := Option.map_eq_some_iff.mp e1
    obtain ⟨v', q3, q4⟩ := Option.map_eq_some_iff.mp e2
    cases q2; cases q4
    exact a.dist i j s t b g1 g2 o1 o2 q1 q3
  · obtain ⟨g1, l1⟩ := own h1 o1
    rw [getv l1] at e1
    obtain ⟨v, q1, q2⟩ := Option.map_eq_some_iff.mp e1
    cases q2
    have := ownPs_of (n := 0) g1 o1 q1
    exact .inl (List.mem_map.mpr ⟨_, this, rfl⟩)
  · obtain ⟨p, hp, e⟩ := List.mem_map.mp hb
    obtain ⟨i, s, h1, h2, h3, h4⟩ := ownPs_mem hp
    obtain ⟨c, e1, m⟩ := own_ref (a.at_ i s _ h2 h4) h3
    cases e1
    rw [← e]
    exact m
  · obtain ⟨i, s, h1, h2, h3, h4⟩ := ownPs_mem hp
    have hi : i < as.length := (List.getElem?_eq_some_iff.mp h2).1
    rw [Nat.zero_add] at h1
    refine ⟨by show p.1 < n; omega, ?_, s, ?_, h3⟩
    · rw [h1, getv (by omega), h4]; rfl
    · rw [h1, List.getElem?_append_left hi]; exact h2
theorem post_of {B A' : List Addr} {H H' : Hp} {as : List Slot} {vs : List V} {n : Nat} {ρ' : Ev} {σ' : L2.St} (hl : as.length = n) (a : ArgsR K mg B H as vs)
    (R : SR K mg { G := H, B := B, pa := ownPs as vs 0, np := n, xx := (0, none, .none) } A' ρ' σ' H') : Post K mg B H as vs (ρ'.take n) H' ∧ Same (off A' H') (off B H') := by
  have sm : Same (off A' H') (off B H') := off_sub R.sub
  refine ⟨⟨fun b o h nn => R.frame b o h fun z => ?_, fun i s v h1 h2 h3 => ?_⟩, sm⟩
  · obtain ⟨p, hp, e⟩ := List.mem_map.mp z
    obtain ⟨i, s, g1, g2, g3, g4⟩ := ownPs_mem hp
    exact nn i s g2 g3 (by rw [g4, e])
  · obtain ⟨b, e, m⟩ := own_ref (a.at_ i s v h1 h3) h2
    subst e
    have hp := ownPs_of (n := 0) h1 h2 h3
    rw [Nat.zero_add] at hp
    obtain ⟨p1, p2, t, p3, p4⟩ := R.par _ hp
    refine ⟨t, by rw [List.getElem?_take_of_lt p1]; exact p3, p4, ?_⟩
    exact SlotR.off sm (fun _ c z => by cases z; exact m) (own_arg p4) (R.slots i t _ p3 p2)
/-- as Fun.okX, for any way of being let out -/
theorem okXG {CX : CXT} {P : Program} {w : World} {base : Heap} {x qual : Str} {st : Stmt} {f : Addr} {fd : FuncData} {N ps : List Str} {k : Nat} {sp : Sp} (F : Fun K x qual st f fd) (S : FnScope N ps (defScope st)) (len : ∀ vs H Q E, sp vs H Q E → vs.length = ps.length)
    (hbody : ∀ (cdv : Value) (A : Around) (outer : List Env) (s : Shared) (H : Hp) (vs : List V) (Q : VK) (E : XK), Room k (A.deeper (PyProof.Rows.envOfC qual (defScope st) s.heap.objs.size f cdv)) → sp vs H Q E →
      ∃ t, PSs (cxOf CX P w K mg base N qual (defScope st) f cdv A outer s H E) (defBody st) t ∧ t { nx := fun _ H' => Q .non H', rt := Q } (start N vs) H) : FnOk P w K mg base CX (k + 1) f fd ps sp := by
  obtain ⟨oc, od, kV, doc, pm, an, cdv, ct, osl, rfl, lk, hcd⟩ := F.ex
  exact fn_of lk hcd S len fun A outer s H vs Q E hr hsp => hbody cdv A outer s H vs Q E hr hsp
/-- a def keeps the promise that its body gives -/
theorem fn_ok {P : Program} {w : World} {base : Heap} {x qual : Str} {st : Stmt} {f : Addr} {fd : FuncData} {N ps : List Str} {k loc : Nat} {m : S} (F : Fun K x qual st f fd) (Sc : FnScope N ps (defScope st)) (hN : N.length = ps.length + loc)
    (hbody : ∀ (cdv : Value) (A : Around) (outer : List Env) (s : Shared) (H : Hp) (E : XK), Room k (A.deeper (PyProof.Rows.envOfC qual (defScope st) s.heap.objs.size f cdv)) →
      DSs (cxOf (L2N.CX P w) P w K mg base N qual (defScope st) f cdv A outer s H E) ps.length (defBody st) m) :
    FnOk P w K mg base (L2N.CX P w) (k + 1) f fd ps (spD K mg (fnF ps.length loc m)) := by
  have split : ∀ {as : List Slot}, fnF ps.length loc m as ≠ .bad → as.length = ps.length ∧ as.all Slot.arg = true := fun {as} h => by
    unfold fnF at h
    split at h
    · assumption
    · exact absurd rfl h
  refine okXG F Sc (fun vs H Q E h => ?_) (fun cdv A outer s H vs Q E hr h => ?_)
  · obtain ⟨B, as, a, q⟩ := h
    have := (split (as := as) fun z => by rw [z] at q; exact q).1
    rw [← a.len, this]
  · obtain ⟨B, as, a, q⟩ := h
    obtain ⟨hl, ha⟩ := split (as := as) fun z => by rw [z] at q; exact q
    have tk : L2N.Takes (cxOf (L2N.CX P w) P w K mg base N qual (defScope st) f cdv A outer s H E) (fun cls d _ H => E cls d H) := L2N.takes_of rfl rfl rfl rfl
    refine ⟨_, hbody cdv A outer s H E hr ⟨fun cls d _ H => E cls d H, fun _ => True, false⟩ ⟨tk, fun h => (by cases h), fun h => by cases h⟩, tS_iff.mpr ⟨⟨_, trivial⟩, B, _, rfl, sr_start a hl hN ha, ?_⟩⟩
    unfold fnF at q
    rw [if_pos ⟨hl, ha⟩] at q
    cases hm : m (as ++ List.replicate loc .no) with
    | nx ρ =>
      rw [hm] at q
      intro A' σ' H' _ R
      obtain ⟨p, sm⟩ := post_of hl a R
      exact q .non H' p rfl
    | rt d ρ =>
      rw [hm] at q
      intro A' σ' H' v R r
      obtain ⟨p, sm⟩ := post_of hl a R
      exact q v H' p (r.mono sm)
    | exc e ρ =>
      rw [hm] at q
      intro A' σ' H' c dd _ R r
      obtain ⟨p, sm⟩ := post_of hl a R
      obtain ⟨C, e1, e2, z⟩ := r
      refine q c dd H' p ⟨C, e1, e2, z.imp id fun ⟨d, fs, y1, y2, y3, y4⟩ => ⟨d, fs, y1, y2, fun y => y3 (R.sub d y), fun i n x g1 g2 => ?_⟩⟩
      obtain ⟨v, z1, z2⟩ := y4 i n x g1 g2
      exact ⟨v, z1, z2.mono sm⟩
    | bk _ => rw [hm] at q; exact q.elim
    | ct _ => rw [hm] at q; exact q.elim
    | bad => rw [hm] at q; exact q.elim
end
end DL
namespace DL
open PySem L2
/-- the slots with new contents at some places -/
def updE : Ev → List (Nat × Slot) → Ev
  | ρ, [] => ρ
  | ρ, (i, t) :: r => updE (ρ.set i t) r
theorem updE_len : ∀ (ps : List (Nat × Slot)) (ρ : Ev), (updE ρ ps).length = ρ.length
  | [], _ => rfl
  | (i, t) :: r, ρ => by show (updE (ρ.set i t) r).length = _; rw [updE_len, List.length_set]
theorem updE_get : ∀ (ps : List (Nat × Slot)) (ρ : Ev) (j : Nat) (s : Slot), (updE ρ ps)[j]? = some s → (j, s) ∈ ps ∨ ((∀ t, (j, t) ∉ ps) ∧ ρ[j]? = some s)
  | [], ρ, j, s, h => .inr ⟨fun t z => (by cases z), h⟩
  | (i, t) :: r, ρ, j, s, h => by
    rcases updE_get r (ρ.set i t) j s h with z | ⟨z1, z2⟩
    · exact .inl (List.mem_cons_of_mem _ z)
    · by_cases hj : j = i
      · subst hj
        have hl : j < ρ.length := by
          have := (List.getElem?_eq_some_iff.mp z2).1
          simpa using this
        rw [List.getElem?_set_self hl] at z2
        cases z2
        exact .inl List.mem_cons_self
      · rw [List.getElem?_set_ne (Ne.symm hj)] at z2
        refine .inr ⟨fun u hu => ?_, z2⟩
        rcases List.mem_cons.mp hu with e | e
        · cases e; exact hj rfl
        · exact z1 u e
section
variable {K : PySem.W.Frag} {mg : Str → Option Value} {w : Wd} {A : List Addr} {ρ : Ev} {σ : L2.St} {H H' : Hp}
/-- behind a call that changed the things at ps -/
theorem SR.upds {ps : List (Nat × Slot)} (R : SR K mg w A ρ σ H) (keep : ∀ a o, H a = some o → (∀ i t, (i, t) ∈ ps → σ[i]? ≠ some (some (.ref a))) → H' a = some o)
    (at_ : ∀ i t, (i, t) ∈ ps → (∃ s, ρ[i]? = some s ∧ s.isOwn = true) ∧ t.isOwn = true ∧ ∃ v, σ[i]? = some (some v) ∧ SlotR K mg w.xx A H' t (some v)) : SR K mg w A (updE ρ ps) σ H' := by
  have mem : ∀ {a : Addr} {i : Nat} {t : Slot}, (i, t) ∈ ps → σ[i]? = some (some (.ref a)) → a ∈ A := fun {a i t} h e => by
    obtain ⟨_, o, v, e1, r⟩ := at_ i t h
    rw [e] at e1
    cases e1
    obtain ⟨b, e2, m⟩ := own_ref r o
    cases e2
    exact m
  have sm : Same (off A H) (off A H') := off_same fun a o ha h => keep a o h fun i t hi e => ha (mem hi e)
  have own : ∀ {j : Nat} {s : Slot}, (updE ρ ps)[j]? = some s → s.isOwn = true → ∃ u, ρ[j]? = some u ∧ u.isOwn = true := fun {j s} h o => by
    rcases updE_get ps ρ j s h with z | ⟨_, z⟩
    · exact (at_ j s z).1
    · exact ⟨s, z, o⟩
  refine ⟨by rw [updE_len, R.len], fun j s o h1 h2 => ?_, fun i j s t a h1 h2 o1 o2 e1 e2 => ?_, R.sub, fun a ha z => ?_, fun a o h nn => ?_, fun i s a h1 o1 e1 => ?_, R.opB, fun q hq => ?_⟩
  · rcases updE_get ps ρ j s h1 with z | ⟨z1, z2⟩
    · obtain ⟨_, _, v, e1, r⟩ := at_ j s z
      rw [h2] at e1
      cases e1
      exact r
    · have r := R.slots j s o z2 h2
      have st : ∀ {a : Addr} {u : HO}, s.isOwn = true → o = some (.ref a) → H a = some u → H' a = some u := fun {a u} os e h => keep a u h fun i t hi e2 => by
        obtain ⟨⟨s2, g1, g2⟩, _⟩ := at_ i t hi
        subst e
        have := R.dist j i s s2 a z2 g1 os g2 h2 e2
        subst this
        exact z1 t hi
      cases s with
      | no => trivial
      | val d => obtain ⟨v, e, r⟩ := r; exact ⟨v, e, r.mono sm⟩
      | own l => obtain ⟨a, vs, e, m, hh, r⟩ := r; exact ⟨a, vs, e, m, st rfl e hh, r.mono sm⟩
      | dic ks vs => obtain ⟨a, kvs, e, m, hh, k, r⟩ := r; exact ⟨a, kvs, e, m, st rfl e hh, k, r.mono sm⟩
      | inst c ns l => obtain ⟨a, C, dx, fvs, e, m, c, hh, n, r⟩ := r; exact ⟨a, C, dx, fvs, e, m, c, st rfl e hh, n, r.mono sm⟩
      | ex ee => exact ⟨r.1, r.2.to sm⟩
  · obtain ⟨u1, g1, g2⟩ := own h1 o1
    obtain ⟨u2, g3, g4⟩ := own h2 o2
    exact R.dist i j u1 u2 a g1 g3 g2 g4 e1 e2
  · cases e : H a with
    | none => exact R.trk a ha e
    | some o =>
      by_cases hz : ∃ i t, (i, t) ∈ ps ∧ σ[i]? = some (some (.ref a))
      · obtain ⟨i, t, hi, e2⟩ := hz
        obtain ⟨_, o1, v, e1, r⟩ := at_ i t hi
        rw [e2] at e1
        cases e1
        cases t with
        | own l => obtain ⟨b, vs, e, m, hh, r⟩ := r; cases e; rw [z] at hh; cases hh
        | dic ks vs => obtain ⟨b, kvs, e, m, hh, r⟩ := r; cases e; rw [z] at hh; cases hh
        | inst c ns l => obtain ⟨b, C, dx, fvs, e, m, c, hh, r⟩ := r; cases e; rw [z] at hh; cases hh
        | _ => cases o1
      · rw [keep a o e fun i t hi e2 => hz ⟨i, t, hi, e2⟩] at z; cases z
  · refine keep a o (R.frame a o h nn) fun i t hi e => ?_
    obtain ⟨⟨s2, g1, g2⟩, _⟩ := at_ i t hi
    rcases R.mine i s2 a g1 g2 e with z | ⟨z, _⟩
    · exact nn z
    · rw [h] at z; cases z
  · obtain ⟨u, g1, g2⟩ := own h1 o1
    exact R.mine i u a g1 g2 e1
  · obtain ⟨p1, p2, s, p3, p4⟩ := R.par q hq
    have hl : q.1 < (updE ρ ps).length := by rw [updE_len]; exact (List.getElem?_eq_some_iff.mp p3).1
    have e : (updE ρ ps)[q.1]? = some (updE ρ ps)[q.1] := by simp [hl]
    refine ⟨p1, p2, _, e, ?_⟩
    rcases updE_get ps ρ q.1 _ e with z | ⟨_, z⟩
    · exact (at_ _ _ z).2.1
    · rw [p3] at z; cases z; exact p4
/-- what is handed -/
def slotsOf : List AV → Ev → Option (List Slot)
  | [], _ => some []
  | .d d :: r, ρ => (slotsOf r ρ).map fun ss => .val d :: ss
  | .o i :: r, ρ => match ρ[i]? with
    | some s => if s.arg then (slotsOf r ρ).map fun ss => s :: ss else none
    | none => none
def ownIx : List AV → Ev → List Nat
  | [], _ => []
  | .d _ :: r, ρ => ownIx r ρ
  | .o i :: r, ρ => match ρ[i]? with
    | some s => if s.isOwn then i :: ownIx r ρ else ownIx r ρ
    | none => ownIx r ρ
/-- what comes back of one's own things -/
def upsOf : List AV → List Slot → Ev → Option (List (Nat × Slot))
  | [], _, _ => some []
  | .d _ :: r, _ :: os, ρ => upsOf r os ρ
  | .o i :: r, t :: os, ρ => match ρ[i]? with
    | some s => if s.isOwn then (if t.isOwn then (upsOf r os ρ).map fun ps => (i, t) :: ps else none) else upsOf r os ρ
    | none => none
  | _ :: _, [], _ => none
theorem avrs_get : ∀ {xs : List AV} {vs : List V} {i : Nat} {x : AV}, AVRs K mg A σ H xs vs → xs[i]? = some x → ∃ v, vs[i]? = some v ∧ AVR K mg A σ H x v
  | [], _, i, _, _, h => by simp at h
  | y :: xs, _, 0, x, ⟨v, r, e, h1, h2⟩, h => by subst e; simp at h; subst h; exact ⟨v, by simp, h1⟩
  | y :: xs, _, i + 1, x, ⟨v, r, e, h1, h2⟩, h => by
    subst e
    obtain ⟨u, q1, q2⟩ := avrs_get (i := i) h2 (by simpa using h)
    exact ⟨u, by simpa using q1, q2⟩
theorem avrs_len : ∀ {xs : List AV} {vs : List V}, AVRs K mg A σ H xs vs → xs.length = vs.length
  | [], _, h => by rw [show _ = [] from h]; rfl
  | y :: xs, _, ⟨v, r, e, h1, h2⟩ => by subst e; simp [avrs_len h2]
theorem slotsOf_get : ∀ {xs : List AV} {ss : List Slot} {i : Nat} {s : Slot}, slotsOf xs ρ = some ss → ss[i]? = some s → (∃ d, xs[i]? = some (.d d) ∧ s = .val d) ∨ (∃ j, xs[i]? = some (.o j) ∧ ρ[j]? = some s ∧ s.arg = true)
  | [], ss, i, s, h, hs => by cases (Option.some.inj h); simp at hs
  | .d d :: r, ss, i, s, h, hs => by
    obtain ⟨ts, h1, e⟩ := Option.map_eq_some_iff.mp h
    subst e
    cases i with
    | zero => simp at hs; exact .inl ⟨d, by simp, hs.symm⟩
    | succ i => simpa using slotsOf_get (i := i) h1 (by simpa using hs)
  | .o j :: r, ss, i, s, h, hs => by
    unfold slotsOf at h
    cases hj : ρ[j]? with
    | none => rw [hj] at h; cases h
    | some t =>
      rw [hj] at h
      dsimp only at h
      by_cases ha : t.arg = true
      · rw [if_pos ha] at h
        obtain ⟨ts, h1, e⟩ := Option.map_eq_some_iff.mp h
        subst e
        cases i with
        | zero => simp at hs; subst hs; exact .inr ⟨j, by simp, hj, ha⟩
        | succ i => simpa using slotsOf_get (i := i) h1 (by simpa using hs)
      · rw [if_neg ha] at h; cases h
theorem slotsOf_len : ∀ {xs : List AV} {ss : List Slot}, slotsOf xs ρ = some ss → ss.length = xs.length
  | [], ss, h => by cases (Option.some.inj h); rfl
  | .d d :: r, ss, h => by
    obtain ⟨ts, h1, e⟩ := Option.map_eq_some_iff.mp h
    subst e
    simp [slotsOf_len h1]
  | .o j :: r, ss, h => by
    unfold slotsOf at h
    cases hj : ρ[j]? with
    | none => rw [hj] at h; cases h
    | some t =>
      rw [hj] at h
      dsimp only at h
      by_cases ha : t.arg = true
      · rw [if_pos ha] at h
        obtain ⟨ts, h1, e⟩ := Option.map_eq_some_iff.mp h
        subst e
        simp [slotsOf_len h1]
      · rw [if_neg ha] at h; cases h
theorem ownIx_mem : ∀ {xs : List AV} {i j : Nat} {s : Slot}, xs[i]? = some (.o j) → ρ[j]? = some s → s.isOwn = true → j ∈ ownIx xs ρ
  | [], i, _, _, h, _, _ => by simp at h
  | .d d :: r, 0, j, s, h, _, _ => by simp at h
  | .d d :: r, i + 1, j, s, h, h2, h3 => by unfold ownIx; exact ownIx_mem (i := i) (by simpa using h) h2 h3
  | .o k :: r, 0, j, s, h, h2, h3 => by
    simp at h
    subst h
    unfold ownIx
    rw [h2]
    simp [h3]
  | .o k :: r, i + 1, j, s, h, h2, h3 => by
    have := ownIx_mem (i := i) (xs := r) (by simpa using h) h2 h3
    unfold ownIx
    split
    · split
      · exact List.mem_cons_of_mem _ this
      · exact this
    · exact this
theorem ownIx_inj : ∀ {xs : List AV} {i k j : Nat} {s : Slot}, (ownIx xs ρ).Nodup → xs[i]? = some (.o j) → xs[k]? = some (.o j) → ρ[j]? = some s → s.isOwn = true → i = k
  | [], i, _, _, _, _, h, _, _, _ => by simp at h
  | .d d :: r, i, k, j, s, nd, h1, h2, h3, h4 => by
    cases i with
    | zero => simp at h1
    | succ i => cases k with
      | zero => simp at h2
      | succ k => rw [ownIx_inj (i := i) (k := k) (xs := r) (by unfold ownIx at nd; exact nd) (by simpa using h1) (by simpa using h2) h3 h4]
  | .o l :: r, i, k, j, s, nd, h1, h2, h3, h4 => by
    have tail : (ownIx r ρ).Nodup := by
      unfold ownIx at nd
      split at nd
      · split at nd
        · exact (List.nodup_cons.mp nd).2
        · exact nd
      · exact nd
    have head : ∀ {m : Nat}, r[m]? = some (.o j) → l = j → False := fun {m} hm e => by
      subst e
      have := ownIx_mem hm h3 h4
      unfold ownIx at nd
      rw [h3] at nd
      simp only [h4, if_true] at nd
      exact (List.nodup_cons.mp nd).1 this
    cases i with
    | zero => cases k with
      | zero => rfl
      | succ k => exact (head (m := k) (by simpa using h2) (by simpa using h1)).elim
    | succ i => cases k with
      | zero => exact (head (m := i) (by simpa using h1) (by simpa using h2)).elim
      | succ k => rw [ownIx_inj (i := i) (k := k) (xs := r) tail (by simpa using h1) (by simpa using h2) h3 h4]
theorem upsOf_mem : ∀ {xs : List AV} {os : List Slot} {ps : List (Nat × Slot)} {j : Nat} {t : Slot}, upsOf xs os ρ = some ps → (j, t) ∈ ps → ∃ (i : Nat) (s : Slot), xs[i]? = some (.o j) ∧ os[i]? = some t ∧ ρ[j]? = some s ∧ s.isOwn = true ∧ t.isOwn = true
  | [], os, ps, j, t, h, hm => by cases (Option.some.inj h); cases hm
  | .d d :: r, u :: os, ps, j, t, h, hm => by
    obtain ⟨i, s, h1, h2, h3⟩ := upsOf_mem (xs := r) (os := os) h hm
    exact ⟨i + 1, s, by simpa using h1, by simpa using h2, h3⟩
  | .d d :: r, [], ps, j, t, h, hm => by cases h
  | .o k :: r, [], ps, j, t, h, hm => by cases h
  | .o k :: r, u :: os, ps, j, t, h, hm => by
    unfold upsOf at h
    cases hk : ρ[k]? with
    | none => rw [hk] at h; cases h
    | some s =>
      rw [hk] at h
      dsimp only at h
      by_cases ho : s.isOwn = true
      · rw [if_pos ho] at h
        by_cases hu : u.isOwn = true
        · rw [if_pos hu] at h
          obtain ⟨qs, h1, e⟩ := Option.map_eq_some_iff.mp h
          subst e
          rcases List.mem_cons.mp hm with e | hm
          · cases e
            exact ⟨0, s, by simp, by simp, hk, ho, hu⟩
          · obtain ⟨i, s, h2, h3, h4⟩ := upsOf_mem (xs := r) (os := os) h1 hm
            exact ⟨i + 1, s, by simpa using h2, by simpa using h3, h4⟩
        · rw [if_neg hu] at h; cases h
      · rw [if_neg ho] at h
        obtain ⟨i, s, h2, h3, h4⟩ := upsOf_mem (xs := r) (os := os) h hm
        exact ⟨i + 1, s, by simpa using h2, by simpa using h3, h4⟩
theorem upsOf_of : ∀ {xs : List AV} {os : List Slot} {ps : List (Nat × Slot)} {i j : Nat} {s : Slot}, upsOf xs os ρ = some ps → xs[i]? = some (.o j) → ρ[j]? = some s → s.isOwn = true → ∃ t, (j, t) ∈ ps
  | [], os, ps, i, j, s, h, h1, _, _ => by simp at h1
  | .d d :: r, [], ps, i, j, s, h, h1, _, _ => by cases h
  | .o k :: r, [], ps, i, j, s, h, h1, _, _ => by cases h
  | .d d :: r, u :: os, ps, i, j, s, h, h1, h2, h3 => by
    cases i with
    | zero => simp at h1
    | succ i => exact upsOf_of (xs := r) (os := os) (i := i) h (by simpa using h1) h2 h3
  | .o k :: r, u :: os, ps, i, j, s, h, h1, h2, h3 => by
    unfold upsOf at h
    cases hk : ρ[k]? with
    | none => rw [hk] at h; cases h
    | some s' =>
      rw [hk] at h
      dsimp only at h
      by_cases ho : s'.isOwn = true
      · rw [if_pos ho] at h
        by_cases hu : u.isOwn = true
        · rw [if_pos hu] at h
          obtain ⟨qs, g1, e⟩ := Option.map_eq_some_iff.mp h
          subst e
          cases i with
          | zero => simp at h1; subst h1; exact ⟨u, List.mem_cons_self⟩
          | succ i =>
            obtain ⟨t, ht⟩ := upsOf_of (xs := r) (os := os) (i := i) g1 (by simpa using h1) h2 h3
            exact ⟨t, List.mem_cons_of_mem _ ht⟩
        · rw [if_neg hu] at h; cases h
      · rw [if_neg ho] at h
        cases i with
        | zero => simp at h1; subst h1; rw [hk] at h2; cases h2; exact absurd h3 ho
        | succ i => exact upsOf_of (xs := r) (os := os) (i := i) h (by simpa using h1) h2 h3
/-- the arguments as the callee sees them -/
theorem args_of {xs : List AV} {vs : List V} {ss : List Slot} (R : SR K mg w A ρ σ H) (r : AVRs K mg A σ H xs vs) (h : slotsOf xs ρ = some ss) (nd : (ownIx xs ρ).Nodup) : ArgsR K mg A H ss vs := by
  have val : ∀ {i : Nat} {s : Slot} {v : V}, ss[i]? = some s → vs[i]? = some v → s.isOwn = true → ∃ j, xs[i]? = some (.o j) ∧ ρ[j]? = some s ∧ σ[j]? = some (some v) := fun {i s v} h1 h2 o => by
    rcases slotsOf_get h h1 with ⟨d, _, e⟩ | ⟨j, g1, g2, g3⟩
    · subst e; cases o
    · obtain ⟨u, q1, q2⟩ := avrs_get r g1
      rw [h2] at q1
      cases q1
      exact ⟨j, g1, g2, q2⟩
  refine ⟨by rw [slotsOf_len h, avrs_len r], fun i s v h1 h2 => ?_, fun i k s t a h1 h2 o1 o2 e1 e2 => ?_, R.trk⟩
  · rcases slotsOf_get h h1 with ⟨d, g1, e⟩ | ⟨j, g1, g2, g3⟩
    · subst e
      obtain ⟨u, q1, q2⟩ := avrs_get r g1
      rw [h2] at q1
      cases q1
      exact ⟨v, rfl, q2⟩
    · obtain ⟨u, q1, q2⟩ := avrs_get r g1
      rw [h2] at q1
      cases q1
      have q2 : σ[j]? = some (some v) := q2
      have := R.slots j s _ g2 q2
      refine SlotR.off (Same.refl _) (fun o a z => ?_) g3 this
      cases s with
      | own l => obtain ⟨b, vs, e, m, _⟩ := this; cases z; cases e; exact m
      | dic ks vs => obtain ⟨b, vs, e, m, _⟩ := this; cases z; cases e; exact m
      | inst c ns l => obtain ⟨b, C, dx, fvs, e, m, _⟩ := this; cases z; cases e; exact m
      | _ => cases o
  · obtain ⟨j, g1, g2, g3⟩ := val h1 e1 o1
    obtain ⟨l, g4, g5, g6⟩ := val h2 e2 o2
    have e := R.dist j l s t a g2 g5 o1 o2 g3 g6
    subst e
    exact ownIx_inj nd g1 g4 g2 o1
end
end DL
namespace DL
open PySem L2
def callV (φ : Fn) (xs : List AV) : M D := fun ρ => match slotsOf xs ρ with
  | none => .bad
  | some ss => if (ownIx xs ρ).Nodup then (match φ ss with
    | .ok d os => (match upsOf xs os ρ with
      | some ps => .ok d (updE ρ ps)
      | none => .bad)
    | .exc e os => (match upsOf xs os ρ with
      | some ps => .exc e (updE ρ ps)
      | none => .bad)
    | .bad => .bad) else .bad
def callF (φ : Fn) (as : List Arg) : M D := M.bnd (evs as) (callV φ)
section
variable {K : PySem.W.Frag} {mg : Str → Option Value} {w : Wd} {A : List Addr} {ρ : Ev} {σ : L2.St} {H : Hp}
theorem ups_sr {xs : List AV} {vs : List V} {ss os : List Slot} {ps : List (Nat × Slot)} {H' : Hp} (R : SR K mg w A ρ σ H) (r : AVRs K mg A σ H xs vs) (h : slotsOf xs ρ = some ss) (nd : (ownIx xs ρ).Nodup) (hp : upsOf xs os ρ = some ps) (p : Post K mg A H ss vs os H') :
    SR K mg w A (updE ρ ps) σ H' ∧ Ext A H H' := by
  have a := args_of R r h nd
  have handed : ∀ {i : Nat} {j : Nat} {s : Slot}, xs[i]? = some (.o j) → ρ[j]? = some s → s.isOwn = true → ss[i]? = some s ∧ ∃ v, vs[i]? = some v ∧ σ[j]? = some (some v) := fun {i j s} h1 h2 o => by
    obtain ⟨v, q1, q2⟩ := avrs_get r h1
    have hi : i < ss.length := by rw [slotsOf_len h]; exact (List.getElem?_eq_some_iff.mp h1).1
    have e : ss[i]? = some ss[i] := by simp [hi]
    rcases slotsOf_get h e with ⟨d, g1, _⟩ | ⟨k, g1, g2, _⟩
    · rw [h1] at g1; cases g1
    · rw [h1] at g1
      cases g1
      rw [h2] at g2
      cases g2
      exact ⟨e, v, q1, q2⟩
  have keep : ∀ b o, H b = some o → (∀ j t, (j, t) ∈ ps → σ[j]? ≠ some (some (.ref b))) → H' b = some o := fun b o hb hn => p.keep b o hb fun i s g1 g2 g3 => by
    rcases slotsOf_get h g1 with ⟨d, _, e⟩ | ⟨j, k1, k2, _⟩
    · subst e; cases g2
    · obtain ⟨t, ht⟩ := upsOf_of hp k1 k2 g2
      obtain ⟨v, q1, q2⟩ := avrs_get r k1
      rw [g3] at q1
      cases q1
      exact hn j t ht q2
  refine ⟨R.upds keep fun j t hjt => ?_, fun b o hb h1 => keep b o h1 fun j t hjt e => ?_⟩
  · obtain ⟨i, s, k1, k2, k3, k4, k5⟩ := upsOf_mem hp hjt
    obtain ⟨g1, v, g2, g3⟩ := handed k1 k3 k4
    obtain ⟨t', q1, q2, q3⟩ := p.own i s v g1 k4 g2
    rw [k2] at q1
    cases q1
    refine ⟨⟨s, k3, k4⟩, k5, v, g3, ?_⟩
    exact SlotR.off (Same.refl _) (fun _ a z => by
      obtain ⟨b, e, m⟩ := own_ref q3 k5
      cases z
      cases e
      exact m) (own_arg k5) q3
  · obtain ⟨i, s, k1, k2, k3, k4, k5⟩ := upsOf_mem hp hjt
    obtain ⟨c, e2, m⟩ := own_ref (R.slots j s _ k3 e) k4
    cases e2
    exact hb m
theorem call_end {W : WZ} {Q : VK} {φ : Fn} {xs : List AV} {vs : List V} (R : SR K mg w A ρ σ H) (r : AVRs K mg A σ H xs vs)
    (q : match callV φ xs ρ with
      | .ok d ρ' => ∀ v H', Ext A H H' → SR K mg w A ρ' σ H' → Rep K mg (off A H') d v → Q v H'
      | .exc e ρ' => ∀ c dd H', Ext A H H' → SR K mg w A ρ' σ H' → ExR K mg A H' e c dd → W c dd σ H'
      | .bad => False) : spD K mg φ vs H Q (WE W σ) := by
  unfold callV at q
  cases h : slotsOf xs ρ with
  | none => rw [h] at q; exact q.elim
  | some ss =>
    rw [h] at q
    dsimp only at q
    by_cases nd : (ownIx xs ρ).Nodup
    · rw [if_pos nd] at q
      refine ⟨A, ss, args_of R r h nd, ?_⟩
      cases hf : φ ss with
      | bad => rw [hf] at q; exact q.elim
      | ok d os =>
        rw [hf] at q
        dsimp only at q
        cases hp : upsOf xs os ρ with
        | none => rw [hp] at q; exact q.elim
        | some ps =>
          rw [hp] at q
          intro v H' p rv
          obtain ⟨R', ex⟩ := ups_sr R r h nd hp p
          exact q v H' ex R' rv
      | exc e os =>
        rw [hf] at q
        dsimp only at q
        cases hp : upsOf xs os ρ with
        | none => rw [hp] at q; exact q.elim
        | some ps =>
          rw [hp] at q
          intro c dd H' p rv
          obtain ⟨R', ex⟩ := ups_sr R r h nd hp p
          exact q c dd H' ex R' rv
    · rw [if_neg nd] at q; exact q.elim
end
section
variable {X : Cx} {k : Nat} {f C : Addr} {fd : FuncData} {ps : List Str} {φ : Fn} {x m : Str} {p pos apos : Pos} {e o : Expr} {es : List Expr} {as : List Arg} {mo : M D}
/-- f(e, ..) -/
theorem de_call (F : FnOk X.prog X.w X.K X.mg X.base (L2N.CX X.prog X.w) k f fd ps (spD X.K X.mg φ)) (hr : Room k X.A) (hg : Gl X x) (hm : X.mg x = some (.ref f)) (hk : PySem.W.keepIn X.K (.ref f) = true) (hb : Binds X.K fd ps [])
    (ha : DA X (e :: es) as) (hdb : (x == ("__debug__" : Str)) = false := by decide) (he : starEach (e :: es) X.env = (false, eval e X.env) :: starEach es X.env := by rfl) (hpl : (backTo pos (starEach es X.env)).any (·.1) = false := by rfl) :
    DE X (.Call (.Name x p) (e :: es) [] pos) (callF φ as) := fun W tk =>
  pe_imp (pe_callSD (E := WE W) F hr hg hm hk hb .nil (fun σ => L2N.passAt tk.t σ) (ha W tk) hdb he hpl) fun σ H Q ⟨w, A, ρ, R, q⟩ => by
    refine ⟨w, A, ρ, R, ?_⟩
    unfold callF at q
    cases hx : evs as ρ with
    | exc e ρ1 => rw [bnd_exc hx] at q; exact q
    | bad => rw [bnd_bad hx] at q; exact q
    | ok xs ρ1 =>
      rw [bnd_ok hx] at q
      intro vs H1 ex1 R1 r1
      rw [List.append_nil]
      refine call_end R1 r1 ?_
      cases hc : callV φ xs ρ1 with
      | ok d ρ2 => rw [hc] at q; exact fun v H2 ex2 R2 r2 => q v H2 (ex1.trans ex2) R2 r2
      | exc e ρ2 => rw [hc] at q; exact fun c dd H2 ex2 R2 r2 => q c dd H2 (ex1.trans ex2) R2 r2
      | bad => rw [hc] at q; exact q
/-- f() -/
theorem de_call0 (F : FnOk X.prog X.w X.K X.mg X.base (L2N.CX X.prog X.w) k f fd ps (spD X.K X.mg φ)) (hr : Room k X.A) (hg : Gl X x) (hm : X.mg x = some (.ref f)) (hk : PySem.W.keepIn X.K (.ref f) = true) (hb : Binds X.K fd ps [])
    (hdb : (x == ("__debug__" : Str)) = false := by decide) : DE X (.Call (.Name x p) [] [] pos) (callF φ []) := fun W tk => by
  refine ⟨fun pins s σ H Q I ⟨w, A, ρ, R, q⟩ => ?_⟩
  refine wpAny_Call_Name_kw (ld_glob I hg hm ?_ hdb)
  refine PySem.W.callWith_K0 I.kIn hk (run_fnSD (us := []) (vs := []) (dvs := []) (E := WE W) F hr hb .nil (L2N.passAt tk.t σ) I .nil ?_)
  exact call_end (xs := []) (vs := []) R rfl q
/-- o.m(..), where what is raised is wished for at the slots -/
theorem meth_S {E : L2.St → XK} {ta : TE} {t : TA} {pl : Sem Bool} {sp : Sp} (he : PE X o ta) (c : Cls X.K C) (hm : Meth X.K C m f) (F : FnOk X.prog X.w X.K X.mg X.base (L2N.CX X.prog X.w) k f fd ps sp) (hr : Room k X.A) (hb : Binds X.K fd ps []) (hx : ∀ σ, PassesAt (L2N.CX X.prog X.w) X σ (E σ)) (ha : PA X (e :: es) t)
    (hst : starEach (e :: es) X.env = (false, eval e X.env) :: starEach es X.env) (hpl : (backTo pos (starEach es X.env)).any (·.1) = false)
    (ht : eval (.Call (.Attribute o m apos) (e :: es) [] pos) X.env = (do
      let ov ← eval o X.env
      standAt apos.atName
      let (g, first) ← holding [ov] (getMethod ov m pl)
      callWith pos g first (backTo pos (starEach (e :: es) X.env)) (backToKw pos (keywordEach [] X.env)))) :
    PE X (.Call (.Attribute o m apos) (e :: es) [] pos) (fun σ H Q => ta σ H fun x H1 => ∃ a dx fs, x = .ref a ∧ H1 a = some (.ins C dx fs) ∧ fs.lookup m = none ∧ t σ H1 fun vs H2 => sp (x :: vs) H2 Q (E σ)) :=
  ⟨fun pins s σ H Q I h => PySem.W.methodCall_KW (pl := pl) (thn (he.run pins s σ H _ I h) fun u s1 ⟨x, H1, I1, rx, a, dx, fs, ex, ea, l, q⟩ => by
    subst ex
    cases rx
    refine getmeth_ok I1 ea c hm l (PySem.W.callWith_K (first := [.ref a]) (h₀ := X.base) I.ok.mod.kin hm.kp (thn (ha.run pos pins s1 σ H1 _ I1 q) fun us s2 ⟨vs, H2, I2, r, q2⟩ => ⟨I2.kIn, ?_⟩) hst hpl)
    exact run_fnSD (us := .ref a :: us) (vs := .ref a :: vs) (dvs := []) F hr hb .nil (hx σ) I2 (.cons rfl r) (by rw [List.append_nil]; exact q2)) ht⟩
theorem meth_S0 {E : L2.St → XK} {ta : TE} {pl : Sem Bool} {sp : Sp} (he : PE X o ta) (c : Cls X.K C) (hm : Meth X.K C m f) (F : FnOk X.prog X.w X.K X.mg X.base (L2N.CX X.prog X.w) k f fd ps sp) (hr : Room k X.A) (hb : Binds X.K fd ps []) (hx : ∀ σ, PassesAt (L2N.CX X.prog X.w) X σ (E σ))
    (ht : eval (.Call (.Attribute o m apos) [] [] pos) X.env = (do
      let ov ← eval o X.env
      standAt apos.atName
      let (g, first) ← holding [ov] (getMethod ov m pl)
      callWith pos g first (backTo pos (starEach [] X.env)) (backToKw pos (keywordEach [] X.env)))) :
    PE X (.Call (.Attribute o m apos) [] [] pos) (fun σ H Q => ta σ H fun x H1 => ∃ a dx fs, x = .ref a ∧ H1 a = some (.ins C dx fs) ∧ fs.lookup m = none ∧ sp [x] H1 Q (E σ)) :=
  ⟨fun pins s σ H Q I h => PySem.W.methodCall_KW (pl := pl) (thn (he.run pins s σ H _ I h) fun u s1 ⟨x, H1, I1, rx, a, dx, fs, ex, ea, l, q⟩ => by
    subst ex
    cases rx
    exact getmeth_ok I1 ea c hm l (PySem.W.callWith_K0 (first := [.ref a]) I1.kIn hm.kp (run_fnSD (us := [.ref a]) (vs := [.ref a]) (dvs := []) F hr hb .nil (hx σ) I1 (.cons rfl .nil) q))) ht⟩
/-- a method of a class c, of a value -/
def methF (c m : Str) (φ : Fn) (mo : M D) (as : List Arg) : M D := M.bnd mo fun d => match d with
  | .obj c' ns l => if c' = c ∧ ns.contains m = false then M.bnd (evs as) fun xs => callV φ (.d (.obj c' ns l) :: xs) else fun _ => .bad
  | _ => fun _ => .bad
theorem zip_none {ns : List Str} {vs : List V} {m : Str} (h : ns.contains m = false) : (ns.zip vs).lookup m = none := by
  induction ns generalizing vs with
  | nil => simp
  | cons n ns ih =>
    cases vs with
    | nil => simp
    | cons v vs =>
      rw [List.contains_cons] at h
      obtain ⟨h1, h2⟩ := Bool.or_eq_false_iff.mp h
      rw [List.zip_cons_cons, List.lookup_cons, h1]
      exact ih h2
theorem de_meth {c : Str} {pl : Sem Bool} (hC : X.mg c = some (.ref C)) (hc : Cls X.K C) (hm : Meth X.K C m f) (F : FnOk X.prog X.w X.K X.mg X.base (L2N.CX X.prog X.w) k f fd ps (spD X.K X.mg φ)) (hr : Room k X.A) (hb : Binds X.K fd ps []) (ho : DE X o mo) (ha : DA X (e :: es) as)
    (hst : starEach (e :: es) X.env = (false, eval e X.env) :: starEach es X.env := by rfl) (hpl : (backTo pos (starEach es X.env)).any (·.1) = false := by rfl)
    (ht : eval (.Call (.Attribute o m apos) (e :: es) [] pos) X.env = (do
      let ov ← eval o X.env
      standAt apos.atName
      let (g, first) ← holding [ov] (getMethod ov m pl)
      callWith pos g first (backTo pos (starEach (e :: es) X.env)) (backToKw pos (keywordEach [] X.env))) := by rfl) :
    DE X (.Call (.Attribute o m apos) (e :: es) [] pos) (methF c m φ mo as) := fun W tk =>
  pe_imp (meth_S (E := WE W) (ho W tk) hc hm F hr hb (fun σ => L2N.passAt tk.t σ) (ha W tk) hst hpl ht) fun σ H Q q => de_imp2 q fun w A ρ1 d v H1 R1 r1 z => by
    cases d with
    | obj c' ns l =>
      dsimp only at z
      by_cases hcc : c' = c ∧ ns.contains m = false
      · rw [if_pos hcc] at z
        obtain ⟨rfl, hn⟩ := hcc
        have r1' := r1
        obtain ⟨a, C', dx, fvs, e1, h1, h2, h3, h4⟩ := r1
        rw [hC] at h1
        cases h1
        refine ⟨a, dx, _, e1, off_le _ _ h2, zip_none hn, w, A, ρ1, R1, ?_⟩
        cases hx : evs as ρ1 with
        | exc e ρ2 => rw [bnd_exc hx] at z; exact z
        | bad => rw [bnd_bad hx] at z; exact z
        | ok xs ρ2 =>
          rw [bnd_ok hx] at z
          intro vs H2 ex2 R2 r2
          refine call_end (xs := .d (.obj c' ns l) :: xs) R2 ⟨v, vs, rfl, r1'.mono ex2.off, r2⟩ ?_
          cases hcv : callV φ (.d (.obj c' ns l) :: xs) ρ2 with
          | ok d ρ3 => rw [hcv] at z; exact fun v H3 ex3 R3 r3 => z v H3 (ex2.trans ex3) R3 r3
          | exc e ρ3 => rw [hcv] at z; exact fun c dd H3 ex3 R3 r3 => z c dd H3 (ex2.trans ex3) R3 r3
          | bad => rw [hcv] at z; exact z
      · rw [if_neg hcc] at z; exact z.elim
    | _ => exact z.elim
theorem de_meth0 {c : Str} {pl : Sem Bool} (hC : X.mg c = some (.ref C)) (hc : Cls X.K C) (hm : Meth X.K C m f) (F : FnOk X.prog X.w X.K X.mg X.base (L2N.CX X.prog X.w) k f fd ps (spD X.K X.mg φ)) (hr : Room k X.A) (hb : Binds X.K fd ps []) (ho : DE X o mo)
    (ht : eval (.Call (.Attribute o m apos) [] [] pos) X.env = (do
      let ov ← eval o X.env
      standAt apos.atName
      let (g, first) ← holding [ov] (getMethod ov m pl)
      callWith pos g first (backTo pos (starEach [] X.env)) (backToKw pos (keywordEach [] X.env))) := by rfl) :
    DE X (.Call (.Attribute o m apos) [] [] pos) (methF c m φ mo []) := fun W tk =>
  pe_imp (meth_S0 (E := WE W) (ho W tk) hc hm F hr hb (fun σ => L2N.passAt tk.t σ) ht) fun σ H Q q => de_imp2 q fun w A ρ1 d v H1 R1 r1 z => by
    cases d with
    | obj c' ns l =>
      dsimp only at z
      by_cases hcc : c' = c ∧ ns.contains m = false
      · rw [if_pos hcc] at z
        obtain ⟨rfl, hn⟩ := hcc
        have r1' := r1
        obtain ⟨a, C', dx, fvs, e1, h1, h2, h3, h4⟩ := r1
        rw [hC] at h1
        cases h1
        refine ⟨a, dx, _, e1, off_le _ _ h2, zip_none hn, ?_⟩
        exact call_end (xs := [.d (.obj c' ns l)]) R1 ⟨v, [], rfl, r1', rfl⟩ z
      · rw [if_neg hcc] at z; exact z.elim
    | _ => exact z.elim
/-- C(e, ..): a new instance -/
theorem run_makeS {E : XK} {pins : List (Addr × Obj)} {σ : L2.St} {H : Hp} {s : Shared} {Q : VK} {us : List Value} {vs : List V} {sp : Sp} (Mk' : Mk X.K C f) (F : FnOk X.prog X.w X.K X.mg X.base (L2N.CX X.prog X.w) k f fd ps sp) (hr : Room (k + 1) X.A) (hb : Binds X.K fd ps [])
    (hx : PassesAt (L2N.CX X.prog X.w) X σ E) (I : L2.Inv X pins σ H s) (r : Vals vs us)
    (h : ∀ y dy, H y = none → H dy = none → dy ≠ y → sp (.ref y :: vs) (upd (upd H dy (.own y)) y (.ins C dy [])) (fun v H2 => v = .non ∧ Q (.ref y) H2) E) :
    wpAny (model X.prog X.w) X.A (call (.ref C) us) (EP X pins σ Q) X.xe s := by
  have hz := h (s.heap.objs.size + 1) s.heap.objs.size (I.hok.fresh (Nat.le_succ _)) (I.hok.fresh (Nat.le_refl _)) (Nat.ne_of_lt (Nat.lt_succ_self _))
  have J := Inv.made (C := C) I
  have rr : Vals (V.ref (s.heap.objs.size + 1) :: vs) (Value.ref (s.heap.objs.size + 1) :: us) := .cons rfl r
  have hl := rr.length
  rw [F.len _ _ _ _ hz] at hl
  have bd := hb _ (Value.ref (s.heap.objs.size + 1) :: us) J.kIn (by rw [List.append_nil]; exact hl.symm)
  rw [List.append_nil] at bd
  refine wpAny_call (make_map (f := f) I.kIn Mk'.makes Mk'.init (beq_iff_eq.mp Mk'.fn) (codeAny_mono (F.run _ X.stack _ _ _ _ _ _ E (hr.make C us []) (J.env0.make C us []) bd rr hz) fun res t hres => ?_))
  cases res with
  | error ev => exact hx pins _ _ ev t J hres
  | ok fl =>
    cases fl with
    | ret u =>
      obtain ⟨v, H', J', rv, ev, q3⟩ := J.after hres
      subst ev
      exact ⟨rv, V.ref (s.heap.objs.size + 1), H', J', rfl, q3⟩
    | _ => exact False.elim hres
theorem make_S {E : L2.St → XK} {t : TA} {sp : Sp} (Mk' : Mk X.K C f) (F : FnOk X.prog X.w X.K X.mg X.base (L2N.CX X.prog X.w) k f fd ps sp) (hr : Room (k + 1) X.A) (hg : Gl X x) (hm : X.mg x = some (.ref C)) (hb : Binds X.K fd ps []) (hx : ∀ σ, PassesAt (L2N.CX X.prog X.w) X σ (E σ)) (ha : PA X (e :: es) t)
    (hdb : (x == ("__debug__" : Str)) = false) (he : starEach (e :: es) X.env = (false, eval e X.env) :: starEach es X.env) (hpl : (backTo pos (starEach es X.env)).any (·.1) = false) :
    PE X (.Call (.Name x p) (e :: es) [] pos) (fun σ H Q => t σ H fun vs H1 => ∀ y dy, H1 y = none → H1 dy = none → dy ≠ y → sp (.ref y :: vs) (upd (upd H1 dy (.own y)) y (.ins C dy [])) (fun v H2 => v = .non ∧ Q (.ref y) H2) (E σ)) :=
  ⟨fun pins s σ H Q I h => wpAny_Call_Name_kw (ld_glob I hg hm (PySem.W.callWith_K (h₀ := X.base) I.ok.mod.kin Mk'.kp (thn (ha.run pos pins s σ H _ I h) fun us s1 ⟨vs, H1, I1, r, q⟩ => ⟨I1.kIn, run_makeS Mk' F hr hb (hx σ) I1 r q⟩) he hpl) hdb)⟩
/-- C(e, ..), all values: the new instance is a value -/
def makeV (c : Str) (φ : Fn) (ds : List D) : M D := fun ρ => match φ (.inst c [] [] :: ds.map Slot.val) with
  | .ok .non (.inst c' ns l :: _) => .ok (.obj c' ns l) ρ
  | .exc e _ => .exc e ρ
  | _ => .bad
def makeF (c : Str) (φ : Fn) (as : List Arg) : M D := M.bnd (evs as) fun xs => match dvs xs with
  | some ds => makeV c φ ds
  | none => fun _ => .bad
theorem make_end {W : WZ} {Q : VK} {ds : List D} {vs : List V} {c : Str} {w : Wd} {A : List Addr} {ρ : Ev} {σ : L2.St} {H : Hp} {K : PySem.W.Frag} {mg : Str → Option Value} (hC : mg c = some (.ref C)) (R : SR K mg w A ρ σ H) (r : Reps K mg (off A H) ds vs)
    (q : match makeV c φ ds ρ with
      | .ok d ρ' => ∀ v H', Ext A H H' → SR K mg w A ρ' σ H' → Rep K mg (off A H') d v → Q v H'
      | .exc e ρ' => ∀ c dd H', Ext A H H' → SR K mg w A ρ' σ H' → ExR K mg A H' e c dd → W c dd σ H'
      | .bad => False) : ∀ y dy, H y = none → H dy = none → dy ≠ y → spD K mg φ (.ref y :: vs) (upd (upd H dy (.own y)) y (.ins C dy [])) (fun v H2 => v = .non ∧ Q (.ref y) H2) (WE W σ) := by
  intro y dy ny nd ne
  have s1 : Same H (upd (upd H dy (.own y)) y (.ins C dy [])) := fun b o h => by rw [upd_ne (ne_of_none h ny), upd_ne (ne_of_none h nd)]; exact h
  have nA : y ∉ A := R.notA ny
  have sm : Same (off A H) (off (y :: A) (upd (upd H dy (.own y)) y (.ins C dy []))) := fun b o h => by
    unfold off at h ⊢
    split at h
    · cases h
    · rename_i hb
      rw [if_neg fun z => (List.mem_cons.mp z).elim (fun e => by rw [e, ny] at h; cases h) hb]
      exact s1 b o h
  have a : ArgsR K mg (y :: A) (upd (upd H dy (.own y)) y (.ins C dy [])) (.inst c [] [] :: ds.map Slot.val) (.ref y :: vs) := by
    refine ⟨by simp [r.length], fun i s v h1 h2 => ?_, fun i j s t b h1 h2 o1 o2 e1 e2 => ?_, fun b hb => ?_⟩
    · cases i with
      | zero =>
        simp at h1 h2
        subst h1 h2
        exact ⟨y, C, dy, [], rfl, List.mem_cons_self, hC, by rw [upd_same]; rfl, rfl, rfl⟩
      | succ i =>
        rw [List.getElem?_cons_succ] at h1 h2
        rw [List.getElem?_map] at h1
        obtain ⟨d, h3, e⟩ := Option.map_eq_some_iff.mp h1
        subst e
        obtain ⟨u, h4, h5⟩ := r.get h3
        rw [h2] at h4
        cases h4
        exact ⟨v, rfl, h5.mono sm⟩
    · have z : ∀ {i : Nat} {s : Slot}, (Slot.inst c [] [] :: ds.map Slot.val)[i]? = some s → s.isOwn = true → i = 0 := fun {i s} h o => by
        cases i with
        | zero => rfl
        | succ i =>
          rw [List.getElem?_cons_succ, List.getElem?_map] at h
          obtain ⟨d, _, e⟩ := Option.map_eq_some_iff.mp h
          subst e
          cases o
      rw [z h1 o1, z h2 o2]
    · rcases List.mem_cons.mp hb with e | hb
      · subst e; rw [upd_same]; simp
      · intro z
        cases e : H b with
        | none => exact R.trk b hb e
        | some o => rw [s1 b o e] at z; cases z
  have back : ∀ {os : List Slot} {H' : Hp}, Post K mg (y :: A) (upd (upd H dy (.own y)) y (.ins C dy [])) (.inst c [] [] :: ds.map Slot.val) (.ref y :: vs) os H' → Same H H' := fun {os H'} p b o h => by
    refine p.keep b o (s1 b o h) fun i s h1 h2 h3 => ?_
    cases i with
    | zero =>
      simp at h3
      rw [← h3, ny] at h
      cases h
    | succ i =>
      rw [List.getElem?_cons_succ, List.getElem?_map] at h1
      obtain ⟨d, _, e⟩ := Option.map_eq_some_iff.mp h1
      subst e
      cases h2
  have sub : ∀ {H' : Hp}, Same (off (y :: A) H') (off A H') := fun {H'} => off_sub fun b hb => List.mem_cons_of_mem _ hb
  refine ⟨y :: A, _, a, ?_⟩
  unfold makeV at q
  cases hf : φ (.inst c [] [] :: ds.map Slot.val) with
  | bad => rw [hf] at q; exact q.elim
  | exc e os =>
    rw [hf] at q
    intro cc dd H' p z
    have sH := back p
    obtain ⟨C', e1, e2, z⟩ := z
    exact q cc dd H' (.of sH) (R.same sH) ⟨C', e1, e2, z.imp id fun ⟨d, fs, y1, y2, y3, y4⟩ => ⟨d, fs, y1, y2, fun m => y3 (List.mem_cons_of_mem _ m), fun i n x g1 g2 => let ⟨v, z1, z2⟩ := y4 i n x g1 g2; ⟨v, z1, z2.mono sub⟩⟩⟩
  | ok d os =>
    rw [hf] at q
    cases d with
    | non =>
      cases os with
      | nil => exact q.elim
      | cons t os =>
        cases t with
        | inst c' ns l =>
          intro v H' p rv
          have sH := back p
          obtain ⟨t', h1, h2, h3⟩ := p.own 0 (.inst c [] []) (.ref y) (by simp) rfl (by simp)
          simp at h1
          subst h1
          obtain ⟨b, C', dx, fvs, e1, m, g1, g2, g3, g4⟩ := h3
          cases e1
          exact ⟨rv, q _ H' (.of sH) (R.same sH) ⟨y, C', dx, fvs, rfl, g1, off_at g2 nA, g3, g4.mono sub⟩⟩
        | _ => exact q.elim
    | _ => exact q.elim
theorem de_make (hC : X.mg x = some (.ref C)) (Mk' : Mk X.K C f) (F : FnOk X.prog X.w X.K X.mg X.base (L2N.CX X.prog X.w) k f fd ps (spD X.K X.mg φ)) (hr : Room (k + 1) X.A) (hg : Gl X x) (hb : Binds X.K fd ps []) (ha : DA X (e :: es) as)
    (hdb : (x == ("__debug__" : Str)) = false := by decide) (he : starEach (e :: es) X.env = (false, eval e X.env) :: starEach es X.env := by rfl) (hpl : (backTo pos (starEach es X.env)).any (·.1) = false := by rfl) :
    DE X (.Call (.Name x p) (e :: es) [] pos) (makeF x φ as) := fun W tk =>
  pe_imp (make_S (E := WE W) Mk' F hr hg hC hb (fun σ => L2N.passAt tk.t σ) (ha W tk) hdb he hpl) fun σ H Q ⟨w, A, ρ, R, q⟩ => by
    refine ⟨w, A, ρ, R, ?_⟩
    unfold makeF at q
    cases hx : evs as ρ with
    | exc e ρ1 => rw [bnd_exc hx] at q; exact q
    | bad => rw [bnd_bad hx] at q; exact q
    | ok xs ρ1 =>
      rw [bnd_ok hx] at q
      intro vs H1 ex1 R1 r1
      cases hd : dvs xs with
      | none => rw [hd] at q; exact q.elim
      | some ds =>
        rw [hd] at q
        refine make_end hC R1 (dvs_rep r1 hd) ?_
        dsimp only at q
        cases hc : makeV x φ ds ρ1 with
        | ok d ρ2 => rw [hc] at q; exact fun v H2 ex2 R2 r2 => q v H2 (ex1.trans ex2) R2 r2
        | exc e ρ2 => rw [hc] at q; exact fun c dd H2 ex2 R2 r2 => q c dd H2 (ex1.trans ex2) R2 r2
        | bad => rw [hc] at q; exact q
end
end DL
namespace DL
open PySem L2
open PySem.W (ksFn ksEnv kxs_mw)
/-- a name's value among pairs without doubles -/
theorem look_mem {β : Type} {y : Str} {u : β} : ∀ {l : List (Str × β)}, (l.map (·.1)).Nodup → (y, u) ∈ l → l.lookup y = some u
  | [], _, h => by cases h
  | (z, v) :: l, nd, h => by
    have nd' := List.nodup_cons.mp nd
    by_cases hz : y = z
    · subst hz
      rcases List.mem_cons.mp h with q | q
      · cases q; simp [List.lookup]
      · exact absurd (List.mem_map.mpr ⟨_, q, rfl⟩) nd'.1
    · rcases List.mem_cons.mp h with q | q
      · cases q; exact absurd rfl hz
      · have e : (y == z) = false := by simpa using hz
        simp only [List.lookup, e]
        exact look_mem nd'.2 q
theorem zip_fst : ∀ (ps : List Str) (us : List Value), ((ps.zip us).map (·.1)).Sublist ps
  | [], _ => by simp
  | p :: ps, [] => by simp
  | p :: ps, u :: us => by simpa using zip_fst ps us
theorem zip_back {ps : List Str} {us : List Value} {i : Nat} {y : Str} {u : Value} (nd : ps.Nodup) (h1 : ps[i]? = some y) (h2 : us[i]? = some u) : (ps.zip us).reverse.lookup y = some u := by
  refine look_mem ?_ ?_
  · rw [List.map_reverse]
    refine List.pairwise_reverse.mpr (List.Pairwise.imp (fun h => Ne.symm h) ?_)
    exact nd.sublist (zip_fst ps us)
  · rw [List.mem_reverse]
    refine List.mem_of_getElem? (i := i) ?_
    rw [List.getElem?_zip_eq_some]
    exact ⟨h1, h2⟩
/-- the names of such a def -/
structure SupScope (N ps : List Str) (sc : Scope) : Prop where
  kind : sc.kind = .function
  co : sc.isCoroutine = false
  gen : sc.isGenerator = false
  nd : N.Nodup
  pre : N.take ps.length = ps
  par : ∀ x ∈ ps, sc.names.lookup x = some .local
  nocell : ∀ y ∈ sc.names, y.2 ≠ .cell
  fre : ∀ x, sc.names.lookup x = some .free → x = "__class__"
  sup : sc.names.lookup ("super" : Str) = some .globalImplicit
  cls : sc.names.lookup ("__class__" : Str) = some .free
/-- the context of its body -/
def cxS (CX : CXT) (P : Program) (w : World) (K : PySem.W.Frag) (mg : Str → Option Value) (base : Heap) (N : List Str) (qual : Str) (sc : Scope) (f : Addr) (cd : Value) (cc : Addr) (A : Around) (outer : List Env) (s : Shared) (H : Hp) (E : XK) : Cx where
  prog := P
  w := w
  K := K
  mg := mg
  base := base
  A := A.deeper (ksEnv qual sc s.heap.objs.size f cd cc)
  N := N
  s_0 := s
  H_0 := H
  env := ksEnv qual sc s.heap.objs.size f cd cc
  outer := outer
  stack := ksEnv qual sc s.heap.objs.size f cd cc :: outer
  ex := []
  calm := true
  fn := fun _ => false
  pn := []
  xe := fun e s1 => wpAny (model P w) (A.deeper (ksEnv qual sc s.heap.objs.size f cd cc)) (leaving (ksEnv qual sc s.heap.objs.size f cd cc) e) (fun _ s2 => CX outer H s E e s2) (fun e2 s2 => CX outer H s E e2 s2) s1
section
variable {CX : CXT} {P : Program} {w : World} {K : PySem.W.Frag} {mg : Str → Option Value} {base : Heap} {N ps : List Str} {qual : Str} {sc : Scope} {f cc : Addr} {cd : Value} {A : Around} {outer : List Env} {s : Shared} {H : Hp} {E : XK} {us : List Value} {vs : List V}
theorem one_cell {x : Str} {c : Addr} (h : [(("__class__" : Str), cc)].lookup x = some c) : x = "__class__" ∧ c = cc := by
  by_cases e : x = "__class__"
  · subst e
    simp [List.lookup] at h
    exact ⟨rfl, h.symm⟩
  · have e' : (x == ("__class__" : Str)) = false := by simpa using e
    simp [List.lookup, e'] at h
theorem invS {h1 : Heap} {tk : Nat} (S : SupScope N ps sc) (hd : A.handled = none) (e0 : Env0 P w K mg base A outer s H) (hl : vs.length = ps.length) (r : Vals vs us) (ns : h1.Ns s.heap.objs.size fun y => (ps.zip us).reverse.lookup y)
    (hk : ∀ b o, s.heap.get? b = some o → h1.get? b = some o) {oc : Obj} (hcc : base.get? cc = some oc) {v0 : Option Value} (hcv : oc.data = .cell v0) :
    Inv (cxS CX P w K mg base N qual sc f cd cc A outer s H E) [] (L2.start N vs) H { s with heap := h1, toks := tk } := by
  have hpl : ps.length ≤ N.length := by have := congrArg List.length S.pre; rw [List.length_take] at this; omega
  have e1 := (e0.bs _ _ hcc)
  have hcl : cc < s.heap.objs.size := Heap.lt_size e1.1
  refine { ok := ?_, os := rfl, bare := e0.bare, base := Un.kept hk, loc := ⟨_, ns, fun i y v g1 g2 g3 => ?_⟩, cell := fun x c h => ?_, free := e0.hok.fresh (Nat.le_refl _), freeC := fun x c h => ?_, pin := fun p hp => absurd (show p ∈ ([] : List (Addr × Obj)) from hp) (by simp), hok := e0.hok.kept hk, len := ?_ }
  · exact { mod := e0.mod, kind := S.kind, glob := rfl, blt := rfl, above := Nat.le_refl _, inj := fun x y c q1 q2 => (one_cell q1).1.trans (one_cell q2).1.symm
            has := fun x h => by
              rcases (show sc.names.lookup x = some .cell ∨ sc.names.lookup x = some .free from h) with h | h
              · exact absurd rfl (S.nocell _ (PySem.mem_of_lookup h))
              · rw [S.fre x h]
                exact ⟨cc, by show List.lookup _ [(_, cc)] = _; simp [List.lookup]⟩
            cab := fun x c z => by cases z
            hd := fun _ => hd, frames := Around.frames_deeper e0.frames, stk := .inr ⟨rfl, rfl⟩, exf := fun b z => (by cases z)
            bs := e0.bs, bsz := e0.bsz, noex := fun b o _ z => (by cases z), exfs := fun b z => (by cases z), funs := e0.funs, frf := e0.frf }
  · have hi : i < vs.length := by
      unfold L2.start at g2
      by_cases hi : i < vs.length
      · exact hi
      · rw [List.getElem?_append_right (by simpa using hi), List.getElem?_replicate] at g2
        split at g2 <;> cases g2
    have ha : vs[i]? = some v := by
      unfold L2.start at g2
      rw [List.getElem?_append_left (by simpa using hi), List.getElem?_map] at g2
      obtain ⟨v', z1, z2⟩ := Option.map_eq_some_iff.mp g2
      cases z2
      exact z1
    obtain ⟨u, hu, rv⟩ := r.get ha
    have hp : ps[i]? = some y := by
      rw [← S.pre, List.getElem?_take_of_lt (by omega)]; exact g1
    have ndP : ps.Nodup := by rw [← S.pre]; exact S.nd.sublist (List.take_sublist _ _)
    exact ⟨u, rv, .inl ⟨S.par y (List.mem_of_getElem? hp), zip_back ndP hp hu⟩⟩
  · obtain ⟨_, rfl⟩ := one_cell h
    exact ⟨v0, oc, hk _ _ e1.1, hcv⟩
  · obtain ⟨_, rfl⟩ := one_cell h
    exact e1.2
  · show (L2.start N vs).length = N.length
    unfold L2.start
    rw [List.length_append, List.length_map, List.length_replicate]
    omega
end
section
open PySem.W PySem.Calls
variable {prog : Program} {w : World} {A : Around} {E : Value → Shared → Prop} {h : Heap} {g : Array GenState} {d : Drawn} {t : Nat} {os : OsState}
/-- the bound __init__ of ValueError called -/
theorem run_mw {nm q : Str} {C N mw e t0 : Addr} {bs bm : List Value} {hdct : Bool} {sn : List Str} {sub : List Value} {ab : Bool} {col : Option Bool} {dd : Option Addr} {k0 k1 k2 k3 k5 : Option Value} {ar : List Value} {Q : Value → Shared → Prop}
    (hC : h.get? C = some (excClassObj nm q C N bs bm hdct sn sub ab col dd k0 k1 k2 k3 k5 "ValueError.__new__")) (hx : h.get? e = some (HandSPX.excO C t0)) (hm : h.get? mw = some (kxs_mw "ValueError.__init__" e)) (hz : ar.length ≤ sizeLine)
    (fin : ∀ h' t1, (∀ b o, b ≠ e → h.get? b = some o → h'.get? b = some o) → h'.get? e = some (HandSPX.excO C t1) → Q .none ⟨h', g, d, t, os⟩) :
    wpAny (model prog w) A (call (.ref mw) ar) Q E ⟨h, g, d, t, os⟩ := by
  refine wpAny_call (codeAny_of_tree ?_)
  show wpAny (model prog w) A.in1 (callAny (.ref mw) ⟨ar, []⟩) _ _ _
  simp only [callAny]
  refine wpAny_bind (wpAny_load hm ?_)
  simp only [kxs_mw, show (Value.type "method-wrapper" == Value.type "method" || Value.type "method-wrapper" == Value.type "builtin_function_or_method" || Value.type "method-wrapper" == Value.type "method-wrapper") = true from by decide, if_true]
  refine KFB.if_so (by decide) ?_
  refine wpAny_bind (check_bound_init F.excBase_ValueError.toExcCallFacts hC hx rfl ?_)
  refine wpAny_bind (wpAny_pure (wpAny_pure ?_))
  refine ⟨plainId_quiet F.excBase_ValueError.init.plain _, codeAny_builtin F.excBase_ValueError.initEntry ?_⟩
  exact exc_init_tree (cls := .ref C) (t0 := t0) (dv := none) (c2 := .none) (c3 := .none) (b4 := .bool false) hx hz fun h' k1 k2 _ => fin h' _ k1 k2
end
section
open PySem.W PySem.Calls PyProof.Rows
variable {CX : CXT} {P : Program} {w : World} {K : PySem.W.Frag} {mg : Str → Option Value} {base : Heap} {N ps : List Str} {name qual : Str} {sc : Scope} {f cc cda Dc : Addr} {k : Nat} {sp : Sp}
  {params : Arguments} {rest : List Stmt} {e : Expr} {es : List Expr} {p0 p1 p2 p3 p4 : Pos} {dV kV doc pm ct oc ocl ccl : Value} {an od cdd cld : Option Addr} {osl ccs csl : Array (Option Value)} {vs2 : Array Value} {file : Str} {tf : Tok} {ar : PySem.Arg} {cdD : ClassData}
theorem mw_args {M : Model} {A : Around} {E : Value → Shared → Prop} {s : Shared} {pos : Pos} {env : Env} {Q : Value → Shared → Prop} {mw x : Addr}
    (he : starEach (e :: es) env = (false, eval e env) :: starEach es env) (hpl : (backTo pos (starEach es env)).any (·.1) = false)
    (go : wpAny M A (spliced (backTo pos (starEach (e :: es) env))) (fun ws s₁ => KxsAt "ValueError.__init__" mw x s₁.heap ∧ wpAny M A (call (.ref mw) ws) Q E s₁) E s) : wpAny M A (callWith pos (.ref mw) [] (backTo pos (starEach (e :: es) env)) []) Q E s := by
  rw [he] at go ⊢
  refine kxs_callWith (i := "ValueError.__init__") (x := x) ?_ (evalArgs_plain go)
  show (false || (backTo pos (starEach es env)).any (·.1)) = false
  rw [hpl, Bool.false_or]
/-- such a def keeps its promise -/
theorem sup_fn (lk : K.lookup f = some ⟨oc, od, .func (ksFn name qual params (.Expr (.Call (.Attribute (.Call (.Name "super" p0) [] [] p1) "__init__" p2) (e :: es) [] p3) p4 :: rest) sc dV kV doc pm an (.ref cda) ct cc), osl⟩)
    (hcd : codeIn K (.ref cda) qual = true) (S : SupScope N ps sc) (len : ∀ vs H Q E, sp vs H Q E → vs.length = ps.length)
    (hp : (params.posonlyargs ++ params.args).head? = some ar) (h0 : ps[0]? = some ar.arg) (hcode : K.lookup cda = some ⟨ccl, cdd, .fields vs2, ccs⟩) (hvs : vs2[2]? = some (.str file tf)) (hfile : ((P.main.file : Str) == file) = true)
    (hcell : K.lookup cc = some ⟨ocl, cld, .cell (some (.ref Dc)), csl⟩) (hD : clsIn K Dc = some cdD) (hsup : mg "super" = none) (htop : (P.main.scope.names.lookup ("super" : Str)).isSome = false) (hth : nsIn K cStatics "thirdparty.any" = some none)
    (hse : ∀ L : Addr, starEach (e :: es) (ksEnv qual sc L f (.ref cda) cc) = (false, eval e (ksEnv qual sc L f (.ref cda) cc)) :: starEach es (ksEnv qual sc L f (.ref cda) cc))
    (hpl : ∀ L : Addr, (backTo p3 (starEach es (ksEnv qual sc L f (.ref cda) cc))).any (·.1) = false)
    (hsw : ∀ L : Addr, swapsWith (.Call (.Attribute (.Call (.Name "super" p0) [] [] p1) "__init__" p2) (e :: es) [] p3) none p4.line (ksEnv qual sc L f (.ref cda) cc) = pure false)
    {pl : Addr → Sem Bool} (hev : ∀ L : Addr, eval (.Call (.Attribute (.Call (.Name "super" p0) [] [] p1) "__init__" p2) (e :: es) [] p3) (ksEnv qual sc L f (.ref cda) cc) = (do
      let sv ← attributeBase (.Call (.Name "super" p0) [] [] p1) "__init__" (ksEnv qual sc L f (.ref cda) cc) (eval (.Call (.Name "super" p0) [] [] p1) (ksEnv qual sc L f (.ref cda) cc))
      standAt p2.atName
      let (g, fst) ← holding [sv] (getMethod sv "__init__" (pl L))
      callWith p3 g fst (backTo p3 (starEach (e :: es) (ksEnv qual sc L f (.ref cda) cc))) []))
    (hbody : ∀ (A : Around) (outer : List Env) (s : Shared) (H : Hp) (vs : List V) (Q : VK) (E : XK), Room k (A.deeper (ksEnv qual sc s.heap.objs.size f (.ref cda) cc)) → sp vs H Q E →
      ∃ (ta : TA) (t : TS) (a C : Addr) (vr : List V), PA (cxS CX P w K mg base N qual sc f (.ref cda) cc A outer s H E) (e :: es) ta ∧ PSs (cxS CX P w K mg base N qual sc f (.ref cda) cc A outer s H E) rest t ∧ vs = .ref a :: vr ∧ OexC K C ∧
        ks_superIn K C Dc "__init__" = some (some (.builtin "ValueError.__init__")) ∧ subIn K (.ref C) (.type "ValueError") = some true ∧ mroIn K C (.ref Dc) = some true ∧ H a = some (exo a C none) ∧
        ta (L2.start N vs) H fun ws H1 => ws.length ≤ 1000 ∧ H1 a = some (exo a C none) ∧ t { nx := fun _ H' => Q .non H', rt := Q } (L2.start N vs) H1) :
    FnOk P w K mg base CX (k + 1) f (ksFn name qual params (.Expr (.Call (.Attribute (.Call (.Name "super" p0) [] [] p1) "__init__" p2) (e :: es) [] p3) p4 :: rest) sc dV kV doc pm an (.ref cda) ct cc) ps sp := by
  refine ⟨len, fun A outer s H args us vs Q E hr e0 hb r hsp => ?_⟩
  have hl := len _ _ _ _ hsp
  have KX : K.In s.heap := e0.mod.kin.keeps fun b o e => (e0.bs b o e).1
  have lim : s.heap.NoLimit := e0.mod.nolimit.keeps fun b o e => (e0.bs b o e).1
  refine ks_codeAny_call_defAt hr.depth (KX _ _ lk) rfl lim (codeRec_of KX hcd) rfl hb S.nocell (fun y hy => S.par _ (List.of_mem_zip hy).1) (fun h1 ns hk => ?_) S.co S.gen S.kind
  obtain ⟨ta, t, a, C, vr, ha, ht, ev, T, hsi, hve, hmr, ea, q⟩ := hbody A outer s H vs Q E (hr.deeper _) hsp
  have I := invS (CX := CX) (E := E) (cd := .ref cda) (f := f) (qual := qual) (tk := s.toks + (ps.zip us).length) S hr.hd e0 hl r ns hk (e0.mod.kin _ _ hcell) rfl
  obtain ⟨nm, qn, N', bs, bm, sn, sub, ab, col, dd, k0, k1, k2, k3, k5, hC, hbm⟩ := T.cls
  have hcl : clsIn K C = some { name := nm, bases := bs, mro := .ref C :: bm, ns := N', qualname := qn, hasDict := true, slotNames := sn, subclasses := sub, abstract := ab, collection := col, hasDel := false } := by unfold clsIn; rw [hC]
  obtain ⟨oD, gD, dD⟩ : ∃ oD, h1.get? Dc = some oD ∧ oD.data = .cls cdD := by
    unfold clsIn at hD
    split at hD
    · rename_i c d cd' sl ho
      cases hD
      exact ⟨_, hk _ _ (KX _ _ ho), rfl⟩
    · cases hD
  have X1 : K.In h1 := KX.keeps hk
  obtain ⟨t1, hx⟩ := exo_at I.hok ea
  have hsl : L2.start N vs = some (V.ref a) :: (L2.start N vs).tail := by
    rw [ev]; rfl
  have hN0 : N[0]? = some ar.arg := by
    rw [← S.pre, List.getElem?_take] at h0
    split at h0
    · exact h0
    · cases h0
  have par0 : sc.names.lookup ar.arg = some .local := S.par _ (List.mem_of_getElem? h0)
  have self : ∀ {s' : Shared} {pins : List (Addr × Obj)} {H' : Hp}, L2.Inv (cxS CX P w K mg base N qual sc f (.ref cda) cc A outer s H E) pins (L2.start N vs) H' s' → ∃ m, s'.heap.Ns s.heap.objs.size m ∧ m ar.arg = some (.ref a) := fun {s' pins H'} J => by
    obtain ⟨m, hn, hm⟩ := J.loc
    obtain ⟨u, ru, lo⟩ := hm 0 ar.arg (.ref a) hN0 (by rw [hsl]; rfl) (.inl par0)
    obtain rfl : u = Value.ref a := ru
    rcases lo with ⟨_, z⟩ | ⟨z, _⟩
    · exact ⟨m, hn, z⟩
    · rcases z with z | z
      · exact absurd ((show sc.names.lookup ar.arg = some .cell from z).symm.trans par0) (by decide)
      · exact absurd ((show sc.names.lookup ar.arg = some .free from z).symm.trans par0) (by decide)
  have node : ∀ {Q' : Value → Shared → Prop} {E' : Value → Shared → Prop} {body : List Stmt} {whole : Sem Value}, (∀ so h2, (∀ b o, h1.get? b = some o → h2.get? b = some o) → h2.get? so = some (ks_superObj Dc a C) → Q' (.ref so) ⟨h2, s.gens, s.drawn, s.toks + (ps.zip us).length, s.os⟩) →
      _root_.PySem.wpAt (model P w) (A.deeper (ksEnv qual sc s.heap.objs.size f (.ref cda) cc)) (.func body (ksEnv qual sc s.heap.objs.size f (.ref cda) cc))
        (attributeBase (.Call (.Name "super" p0) [] [] p1) "__init__" (ksEnv qual sc s.heap.objs.size f (.ref cda) cc) whole) Q' E' ⟨h1, s.gens, s.drawn, s.toks + (ps.zip us).length, s.os⟩ := fun {Q' E' body whole} q' => by
    refine ks_wpAt_super_base (env := ksEnv qual sc s.heap.objs.size f (.ref cda) cc) S.sup S.cls (by decide) rfl (hk _ _ (KX _ _ lk)) rfl hp rfl (hk _ _ (KX _ _ hcode)) rfl hvs hfile htop ?_
    obtain ⟨mb, z1, z2⟩ := e0.mod.blt
    refine ks_loadName_global S.kind S.sup (loadGlobal_builtin (env := ksEnv qual sc s.heap.objs.size f (.ref cda) cc) (I.mod.glob.keeps I.bk) hsup (z1.keeps I.bk) ((z2 _ (by decide)).trans (by first | rfl | kernel_rfl)) ⟨rfl, ?_⟩)
    refine wpAny_loadName_free S.kind S.cls rfl ⟨_, X1 _ _ hcell, rfl⟩ ?_
    obtain ⟨m, hn, hm⟩ := self I
    refine wpAny_loadName_local S.kind par0 hn hm ?_
    refine ks_wpAny_isType_cls gD dD ⟨rfl, ?_⟩
    refine ks_wpAny_call_super gD dD hx rfl (fun c z => by cases z) (looks_mroIn X1 hmr) fun h2 q1 q2 => ?_
    exact q' _ h2 q2 q1
  show _root_.PySem.wpAt (model P w) (A.deeper (ksEnv qual sc s.heap.objs.size f (.ref cda) cc)) (.func _ (ksEnv qual sc s.heap.objs.size f (.ref cda) cc)) (execs (_ :: rest) (ksEnv qual sc s.heap.objs.size f (.ref cda) cc)) _ _ _
  refine ks_wpAt_execs_cons (ks_wpAt_Expr_any (ks_wpAt_MethodCall (node fun so h2 q1 q2 => ?_) (hev _)) (by unfold interactive; rw [S.kind]; rfl) (hsw _))
  have I2 := I.kept (t' := s.toks + (ps.zip us).length) q1
  have X2 : K.In h2 := X1.keeps q1
  have hne : a ≠ C := ks_ne X2 (show InstAt h2 a _ C none from ⟨q1 _ _ hx, rfl, rfl, trivial⟩) hcl
  have hI : Looks (model P w) h2 (isInstance (.ref a) (.type "ValueError")) true := (show InstAt h2 a _ C none from ⟨q1 _ _ hx, rfl, rfl, trivial⟩).type.andThen (looks_subIn X2 hve)
  have hal : alongIn K "__init__" (((.ref C :: bm : List Value).dropWhile (· != .ref Dc)).drop 1) = some (some (.builtin "ValueError.__init__")) := by
    unfold ks_superIn at hsi
    rw [hcl] at hsi
    exact hsi
  refine kxs_getMethod kxs_ValueError q2 (looks_opaque X2 hth) (l₀ := .ref C :: bm) (fun A Q E s k q => wpAny_bind ((looks_clsIn X2 hcl) A _ E s k (wpAny_pure q))) rfl X2 hal hI hne (by decide) ?_
  have kp : ∀ b o, h2.get? b = some o → (h2.push (kxs_mw "ValueError.__init__" a)).get? b = some o := fun b o z => Heap.get?_push_of_some _ z
  have I3 := I2.kept (t' := s.toks + (ps.zip us).length + 1) kp
  have hmw : (h2.push (kxs_mw "ValueError.__init__" a)).get? h2.objs.size = some (kxs_mw "ValueError.__init__" a) := Heap.get?_push_at rfl rfl
  have I4 : L2.Inv (cxS CX P w K mg base N qual sc f (.ref cda) cc A outer s H E) [(h2.objs.size, kxs_mw "ValueError.__init__" a)] (L2.start N vs) H ⟨h2.push (kxs_mw "ValueError.__init__" a), s.gens, s.drawn, s.toks + (ps.zip us).length + 1, s.os⟩ :=
    ⟨I3.ok, I3.os, I3.bare, I3.base, I3.loc, I3.cell, I3.free, I3.freeC, fun p hp => by
      have e5 : p = (h2.objs.size, kxs_mw "ValueError.__init__" a) := by
        rcases List.mem_append.mp hp with z | z
        · cases z
        · simpa using z
      subst e5
      exact ⟨hmw, I2.hok.fresh (Nat.le_refl _), Nat.ne_of_gt I2.lt, I2.nofs (Nat.le_refl _), fun v z => by cases z⟩, I3.hok, I3.len⟩
  refine mw_args (x := a) (hse _) (hpl _) ?_
  refine L2.thn (ha.run p3 _ _ _ H _ I4 q) fun ws s5 ⟨xs, H1, I5, r5, hz, ea5, q5⟩ => ?_
  have hm5 := (I5.pin (h2.objs.size, kxs_mw "ValueError.__init__" a) (by simp)).1
  obtain ⟨t5, hx5⟩ := exo_at I5.hok ea5
  have hlen : ws.length ≤ sizeLine := by
    rw [← Paired.length r5, sizeLine_eq]
    omega
  refine ⟨hm5, ?_⟩
  obtain ⟨hp5, g5, d5, tk5, os5⟩ := s5
  refine run_mw (I5.kIn _ _ hC) hx5 hm5 hlen fun h6 t6 k6 e6 => ?_
  have I6 := I5.write (t' := tk5) (x := a) (e := a) (o := exo a C none) (by rw [ea5]; exact True.intro) (.inl rfl) k6 ⟨_, e6⟩ (exo_ok e6)
  have eu : upd H1 a (exo a C none) = H1 := funext fun b => by
    by_cases hb : b = a
    · rw [hb, upd_same, ea5]
    · rw [upd_ne hb]
  rw [eu] at I6
  refine wpAt_of_wpAny (wpAny_mono (ht.run [] _ _ H1 _ ⟨I6.ok, I6.os, I6.bare, I6.base, I6.loc, I6.cell, I6.free, I6.freeC, fun p hp => (by cases hp), I6.hok, I6.len⟩ q5) (fun fl s' hs => ?_) fun e s' hs => hs)
  have fin : ∀ {σ' : L2.St} {H' : Hp} {v : V} {u : Value}, L2.Inv (cxS CX P w K mg base N qual sc f (.ref cda) cc A outer s H E) [] σ' H' s' → RelV v u → Q v H' → CE outer P w H s Q u s' :=
    fun {σ' H' v u} J rv q => ⟨v, H', J.os, J.bare, J.base, J.hok, rv, q⟩
  cases fl with
  | ret u =>
    obtain ⟨v, σ', H', J, rv, q⟩ := hs
    exact fin J rv q
  | next =>
    obtain ⟨σ', H', J, q⟩ := hs
    exact fin (v := V.non) (u := Value.none) J rfl q
  | brk =>
    obtain ⟨_, _, _, q⟩ := hs
    cases q
  | cont =>
    obtain ⟨_, _, _, q⟩ := hs
    cases q
end
end DL
namespace DL
open PySem L2
/-- what the __init__ of an error class promises: the fields -/
def spI (C : Addr) (ns : List Str) : Sp := fun vs H Q _ => ∃ (a : Addr) (ys : List V), vs = .ref a :: ys ∧ ys.length = ns.length ∧ H a = some (exo a C none) ∧
  ∀ (dx : Addr) (H2 : Hp), H dx = none → dx ≠ a → H2 a = some (exo a C (some dx)) → H2 dx = some (exd dx (ns.zip ys).reverse) → (∀ b, b ≠ a → b ≠ dx → H2 b = H b) → Q .non H2
/-- an error class with fields -/
def ErrC (P : Program) (w : World) (K : PySem.W.Frag) (mg : Str → Option Value) (base : Heap) (c : Str) (ns : List Str) : Prop :=
  ns.Nodup ∧ ns.length ≤ 900 ∧ ∃ (C fI : Addr) (fd : FuncData) (ps : List Str), mg c = some (.ref C) ∧ OexC K C ∧ PySem.W.findIn K (.ref C) "__init__" = some (some (.ref fI)) ∧ PySem.W.typeIn K (.ref fI) = some (.type "function") ∧
    FnOk P w K mg base CX0 1 fI fd ps (spI C ns) ∧ Binds K fd ps []
def allD : List AV → Option (List D)
  | [] => some []
  | .d d :: r => (allD r).map fun ds => d :: ds
  | .o _ :: _ => none
theorem allD_rep {K : PySem.W.Frag} {mg : Str → Option Value} {A : List Addr} {σ : L2.St} {H : Hp} : ∀ {xs : List AV} {vs : List V} {ds : List D}, AVRs K mg A σ H xs vs → allD xs = some ds → Reps K mg (off A H) ds vs
  | [], vs, ds, h, e => by cases (Option.some.inj e); rw [show vs = [] from h]; exact rfl
  | .d d :: r, vs, ds, ⟨v, vr, e1, h, t⟩, e => by
    obtain ⟨ds', e2, e3⟩ := Option.map_eq_some_iff.mp e
    cases e3
    exact ⟨v, vr, e1, h, allD_rep t e2⟩
  | .o _ :: _, _, _, _, e => by cases e
/-- raise c(..) -/
def sRaise (c : Str) (ns : List Str) (as : List Arg) : S := fun ρ => match evs as ρ with
  | .ok xs ρ' => (match allD xs with
    | some ds => if ds.length = ns.length then .exc ⟨c, ns, ds⟩ ρ' else .bad
    | none => .bad)
  | .exc e ρ' => .exc e ρ'
  | .bad => .bad
theorem zip_sub {α β : Type} : ∀ (ps : List α) (us : List β), ((ps.zip us).map (·.1)).Sublist ps
  | [], _ => by simp
  | p :: ps, [] => by simp
  | p :: ps, u :: us => by simpa using zip_sub ps us
theorem zip_look {β : Type} {ps : List Str} {us : List β} {i : Nat} {y : Str} {u : β} (nd : ps.Nodup) (h1 : ps[i]? = some y) (h2 : us[i]? = some u) : (ps.zip us).reverse.lookup y = some u := by
  refine look_mem ?_ ?_
  · rw [List.map_reverse]
    refine List.pairwise_reverse.mpr (List.Pairwise.imp (fun h => Ne.symm h) ?_)
    exact nd.sublist (zip_sub ps us)
  · rw [List.mem_reverse]
    refine List.mem_of_getElem? (i := i) ?_
    rw [List.getElem?_zip_eq_some]
    exact ⟨h1, h2⟩
section
variable {X : Cx} {x : Str} {p pos pos' : Pos} {e : Expr} {es : List Expr} {as : List Arg} {ns : List Str} {np : Nat}
theorem passes0 : Passes CX0 X (fun _ _ _ => False) := fun _ _ _ _ _ _ _ h => False.elim h
open PyProof.Rows PySem.Spec in
theorem pmk_oexN {CX : CXT} {C fI : Addr} {k : Nat} {fd : FuncData} {ps : List Str} {sp : Sp} {ta : TA} (T : OexC X.K C) (iC : PySem.W.findIn X.K (.ref C) "__init__" = some (some (.ref fI))) (tI : PySem.W.typeIn X.K (.ref fI) = some (.type "function")) (F : FnOk X.prog X.w X.K X.mg X.base CX k fI fd ps sp) (hr : Room (k + 1) X.A)
    (hb : Binds X.K fd ps []) (hx : Passes CX X (fun _ _ _ => False)) (hg : Gl X x) (hm : X.mg x = some (.ref C)) (ha : PA X (e :: es) ta) (hdb : (x == ("__debug__" : Str)) = false) (he : starEach (e :: es) X.env = (false, eval e X.env) :: starEach es X.env) (hpl : (backTo pos (starEach es X.env)).any (·.1) = false) :
    L2N.PMk X (.Call (.Name x p) (e :: es) [] pos) (tMkO C sp [] ta) := fun pins s σ H Q I h => by
  have cl := T.cls
  obtain ⟨nm, q, N, bs, bm, sn, sub, ab, col, dd, k0, k1, k2, k3, k5, hC, hbm⟩ := cl
  refine wpAny_Call_Name_kw (ld_glob I hg hm (PySem.W.callWith_K (h₀ := X.base) I.ok.mod.kin T.kC (thn (ha.run pos pins s σ H _ I h) fun us s1 ⟨vs, H1, I1, r1, hz, q1⟩ => ⟨I1.kIn, ?_⟩) he hpl) hdb)
  show wpAny _ _ (call (.ref C) us) _ _ _
  obtain ⟨hp, gs, dr, tk, os⟩ := s1
  have up : hp.objs.size ≤ hp.objs.size + 1 := Nat.le_succ _
  have hq := q1 (hp.objs.size + 1) (I1.hok.fresh up)
  rw [List.append_nil] at hq
  have kk : ∀ b o, hp.get? b = some o → ((hp.push (PySem.W.kdv_tup us)).push (PySem.HandSPX.excO C hp.objs.size)).get? b = some o := fun b o z => Heap.get?_push_of_some _ (Heap.get?_push_of_some _ z)
  have me : ((hp.push (PySem.W.kdv_tup us)).push (PySem.HandSPX.excO C hp.objs.size)).get? (hp.objs.size + 1) = some (PySem.HandSPX.excO C hp.objs.size) := by heap_get
  have I2 : Inv X pins σ (upd H1 (hp.objs.size + 1) (exo (hp.objs.size + 1) C none)) ⟨(hp.push (PySem.W.kdv_tup us)).push (PySem.HandSPX.excO C hp.objs.size), gs, dr, tk, os⟩ := I1.laid (t' := tk) (a := hp.objs.size + 1) (o := exo (hp.objs.size + 1) C none) kk up (exo_ok me)
  have r2 : Vals (V.ref (hp.objs.size + 1) :: vs) (Value.ref (hp.objs.size + 1) :: us) := .cons rfl r1
  have hl : (Value.ref (hp.objs.size + 1) :: us ++ []).length = ps.length := by
    have e := r2.length
    rw [F.len _ _ _ _ hq] at e
    rw [List.append_nil]
    exact e.symm
  have hus : us.length ≤ sizeLine := by
    rw [← Paired.length r1, sizeLine_eq]
    omega
  have b2 := hb _ (Value.ref (hp.objs.size + 1) :: us) I2.kIn hl
  rw [List.append_nil] at b2
  refine wpAny_call (PySem.HandSPX.call_own PySem.F.excBase_ValueError (fun Y => PySem.HandSPX.refsVE_contains Y bm hbm) (I1.kIn _ _ hC) (PySem.W.looks_findIn I1.kIn iC) (fun self => PySem.W.bind_fn I1.kIn self tI) hus
    (codeAny_mono (F.run _ X.stack _ _ ⟨Value.ref (hp.objs.size + 1) :: us, []⟩ (Value.ref (hp.objs.size + 1) :: us) _ _ (fun _ _ _ => False) (hr.make C us []) (I2.env0.make C us []) b2 r2 hq) fun r s' hq' => ?_))
  match r, hq' with
  | .error er, hq' => exact hx pins σ _ _ er s' I2 hq'
  | .ok (.ret u), hq' =>
    obtain ⟨v, H2, os2, bare2, un2, hok2, rv, ev, d, fs, ea, ed, hd1, q2⟩ := hq'
    subst ev
    obtain ⟨h2, g2, d2, t2, os'⟩ := s'
    obtain ⟨t0, G, J, kG, ge, hoe, na⟩ := mk_end0 (d2 := d2) (t2 := t2) I1 up kk un2 hok2 os2 bare2 ea ed hd1
    exact ⟨rv, hp.objs.size + 1, _, _, ⟨G, g2, d2, t2, os'⟩, _, .ref C, some d, rfl, J, kG, ge, hoe, ⟨rfl, rfl, fun vs hv => by cases hv; rfl⟩, rfl, rfl, na, rfl, bare2, raises_own T.exC T.tyC, q2⟩
  | .ok .next, hq' => exact hq'.elim
  | .ok .brk, hq' => exact hq'.elim
  | .ok .cont, hq' => exact hq'.elim
theorem ds_raise (hc : X.calm = true) (T : ErrC X.prog X.w X.K X.mg X.base x ns) (hr : Room 2 X.A) (hg : Gl X x) (ha : DA X (e :: es) as)
    (hdb : (x == ("__debug__" : Str)) = false := by decide) (he : starEach (e :: es) X.env = (false, eval e X.env) :: starEach es X.env := by rfl) (hpl : (backTo pos (starEach es X.env)).any (·.1) = false := by rfl) :
    DS X np (.Raise (some (.Call (.Name x p) (e :: es) [] pos)) none pos') (sRaise x ns as) := fun W tk => by
  obtain ⟨nd, hz, C, fI, fd, ps, hm, O, iC, tI, F, hb⟩ := T
  refine ps_imp (L2N.ps_raise hc tk.t (pmk_oexN O iC tI F hr hb passes0 hg hm (ha W tk) hdb he hpl)) fun E σ H ⟨w, A, ρ, hnp, R, q⟩ => ?_
  refine ⟨w, A, ρ, R, ?_⟩
  unfold sRaise at q
  cases hx : evs as ρ with
  | bad => rw [hx] at q; exact q.elim
  | exc er ρ1 => rw [hx] at q; exact fun c dd H' ex R' z => q A σ H' c dd ex.off R' z
  | ok xs ρ1 =>
    rw [hx] at q
    intro vs H1 ex R1 r1
    dsimp only at q
    cases hd : allD xs with
    | none => rw [hd] at q; exact q.elim
    | some ds =>
      rw [hd] at q
      dsimp only at q
      by_cases hl : ds.length = ns.length
      · rw [if_pos hl] at q
        have r2 := allD_rep r1 hd
        have hvl : vs.length = ns.length := by rw [← r2.length, hl]
        refine ⟨by omega, fun a na => ⟨a, vs, by simp, hvl, upd_same, fun dx H2 nx ne e1 e2 e3 => ⟨rfl, dx, _, e1, e2, ?_, ?_⟩⟩⟩
        · rwa [upd_ne ne] at nx
        · rw [upd_ne ne] at nx
          have eH : upd (L2.del H2 a) dx (.xd (ns.zip vs).reverse) = upd H1 dx (.xd (ns.zip vs).reverse) := funext fun b => by
            by_cases h1 : b = dx
            · rw [h1, upd_same, upd_same]
            · rw [upd_ne h1, upd_ne h1]
              by_cases h2 : b = a
              · rw [h2, del_same, na]
              · rw [del_ne h2, e3 b h2 h1, upd_ne h2]
          rw [eH]
          refine q A σ _ _ _ (ex.off.trans (off_Same (same_upd nx))) (R1.new nx) ⟨C, rfl, hm, .inr ⟨dx, _, rfl, upd_same, R1.notA nx, fun i n y h1 h2 => ?_⟩⟩
          obtain ⟨v, g1, g2⟩ := r2.get h2
          exact ⟨v, zip_look nd h1 g1, g2.mono (off_Same (same_upd nx))⟩
      · rw [if_neg hl] at q
        exact q.elim
end
end DL
namespace DL
open PySem L2
open PySem.W (ksFn ksEnv)
section
open PySem.W PySem.Calls PyProof.Rows
variable {P : Program} {w : World} {K : PySem.W.Frag} {mg : Str → Option Value} {base : Heap} {c qual : Str} {sc : Scope} {fI cc cda C : Addr} {params : Arguments} {p0 p1 p2 p3 p4 q1 q2 q3 q4 q5 q6 q7 q8 q9 q10 : Pos} {kV doc pm ct oc ocl ccl : Value} {an od cdd cld : Option Addr}
  {osl ccs csl : Array (Option Value)} {vs2 : Array Value} {file : Str} {tf : Tok} {ar : PySem.Arg} {f g v u : Str}
theorem errF1 (O : OexC K C) 
    (lk : K.lookup fI = some ⟨oc, od, .func (ksFn "__init__" qual params [.Expr (.Call (.Attribute (.Call (.Name "super" p0) [] [] p1) "__init__" p2) [.Name v q1] [] p3) p4, .Assign [.Attribute (.Name "self" q2) f q3] (.Name v q4) q5] sc .none kV doc pm an (.ref cda) ct cc), osl⟩)
    (hcd : codeIn K (.ref cda) qual = true) (S : SupScope ["self", v] ["self", v] sc) (hp : (params.posonlyargs ++ params.args).head? = some ar) (h0 : ar.arg = "self")
    (hcode : K.lookup cda = some ⟨ccl, cdd, .fields vs2, ccs⟩) (hvs : vs2[2]? = some (.str file tf)) (hfile : ((P.main.file : Str) == file) = true) (hcell : K.lookup cc = some ⟨ocl, cld, .cell (some (.ref C)), csl⟩) (hsup : mg "super" = none)
    (htop : (P.main.scope.names.lookup ("super" : Str)).isSome = false) (hth : nsIn K cStatics "thirdparty.any" = some none) (hsi : ks_superIn K C C "__init__" = some (some (.builtin "ValueError.__init__"))) (hve : subIn K (.ref C) (.type "ValueError") = some true)
    (hmr : mroIn K C (.ref C) = some true) (hno : findIn K (.ref C) f = some none) (hd : (v == ("__debug__" : Str)) = false) (hd2 : (v == ("__classdict__" : Str)) = false)
    {pl : Addr → Sem Bool} (hev : ∀ L : Addr, eval (.Call (.Attribute (.Call (.Name "super" p0) [] [] p1) "__init__" p2) (.Name v q1 :: []) [] p3) (ksEnv qual sc L fI (.ref cda) cc) = (do
      let sv ← attributeBase (.Call (.Name "super" p0) [] [] p1) "__init__" (ksEnv qual sc L fI (.ref cda) cc) (eval (.Call (.Name "super" p0) [] [] p1) (ksEnv qual sc L fI (.ref cda) cc))
      standAt p2.atName
      let (g, fst) ← holding [sv] (getMethod sv "__init__" (pl L))
      callWith p3 g fst (backTo p3 (starEach (.Name v q1 :: []) (ksEnv qual sc L fI (.ref cda) cc))) [])) :
    FnOk P w K mg base CX0 1 fI (ksFn "__init__" qual params [.Expr (.Call (.Attribute (.Call (.Name "super" p0) [] [] p1) "__init__" p2) [.Name v q1] [] p3) p4, .Assign [.Attribute (.Name "self" q2) f q3] (.Name v q4) q5] sc .none kV doc pm an (.ref cda) ct cc) ["self", v] (spI C [f]) := by
  have hD : ∃ cdD, clsIn K C = some cdD := by
    unfold mroIn at hmr
    cases h : clsIn K C with
    | none => rw [h] at hmr; cases hmr
    | some cd => exact ⟨cd, rfl⟩
  obtain ⟨cdD, hD⟩ := hD
  refine sup_fn (N := ["self", v]) (k := 0) (Dc := C) lk hcd S (fun vs H Q E h => ?_) hp (by rw [h0]; rfl) hcode hvs hfile hcell hD hsup htop hth (fun L => rfl) (fun L => rfl) (fun L => rfl) hev fun A outer s H vs Q E hr h => ?_
  · obtain ⟨a, ys, rfl, h1, _⟩ := h
    simp [h1]
  · obtain ⟨a, ys, rfl, h1, h2, h3⟩ := h
    obtain ⟨y, rfl⟩ : ∃ y, ys = [y] := List.length_eq_one_iff.mp h1
    refine ⟨_, _, a, C, [y], pa_cons (pe_var (i := 1) rfl (.inl (S.par _ (by simp))) hd hd2) pa_nil, pss_one (ps_ost (pe_var (i := 0) rfl (.inl (S.par _ (by simp)))) (pe_var (i := 1) rfl (.inl (S.par _ (by simp))) hd hd2)), rfl, O, hsi, hve, hmr, h2, ?_⟩
    refine ⟨y, rfl, ?_, h2, ?_⟩
    · simp
    · refine ⟨y, rfl, .ref a, rfl, a, C, rfl, O, hno, .inl ⟨h2, fun dx n ne => ?_⟩⟩
      exact h3 dx _ n ne upd_same (by rw [upd_ne ne, upd_same]; rfl) fun b b1 b2 => by rw [upd_ne b1, upd_ne b2]
theorem errC1 (hm : mg c = some (.ref C)) (O : OexC K C) (iC : findIn K (.ref C) "__init__" = some (some (.ref fI))) (tI : typeIn K (.ref fI) = some (.type "function"))
    (lk : K.lookup fI = some ⟨oc, od, .func (ksFn "__init__" qual params [.Expr (.Call (.Attribute (.Call (.Name "super" p0) [] [] p1) "__init__" p2) [.Name v q1] [] p3) p4, .Assign [.Attribute (.Name "self" q2) f q3] (.Name v q4) q5] sc .none kV doc pm an (.ref cda) ct cc), osl⟩)
    (hcd : codeIn K (.ref cda) qual = true) (S : SupScope ["self", v] ["self", v] sc) (hp : (params.posonlyargs ++ params.args).head? = some ar) (h0 : ar.arg = "self")
    (hcode : K.lookup cda = some ⟨ccl, cdd, .fields vs2, ccs⟩) (hvs : vs2[2]? = some (.str file tf)) (hfile : ((P.main.file : Str) == file) = true) (hcell : K.lookup cc = some ⟨ocl, cld, .cell (some (.ref C)), csl⟩) (hsup : mg "super" = none)
    (htop : (P.main.scope.names.lookup ("super" : Str)).isSome = false) (hth : nsIn K cStatics "thirdparty.any" = some none) (hsi : ks_superIn K C C "__init__" = some (some (.builtin "ValueError.__init__"))) (hve : subIn K (.ref C) (.type "ValueError") = some true)
    (hmr : mroIn K C (.ref C) = some true) (hno : findIn K (.ref C) f = some none) (hd : (v == ("__debug__" : Str)) = false) (hd2 : (v == ("__classdict__" : Str)) = false)
    (hb : ∀ us : List Value, us.length = 2 → bindArgs (ksFn "__init__" qual params [.Expr (.Call (.Attribute (.Call (.Name "super" p0) [] [] p1) "__init__" p2) [.Name v q1] [] p3) p4, .Assign [.Attribute (.Name "self" q2) f q3] (.Name v q4) q5] sc .none kV doc pm an (.ref cda) ct cc) ⟨us, []⟩ = pure ((["self", v] : List Str).zip us))
    {pl : Addr → Sem Bool} (hev : ∀ L : Addr, eval (.Call (.Attribute (.Call (.Name "super" p0) [] [] p1) "__init__" p2) (.Name v q1 :: []) [] p3) (ksEnv qual sc L fI (.ref cda) cc) = (do
      let sv ← attributeBase (.Call (.Name "super" p0) [] [] p1) "__init__" (ksEnv qual sc L fI (.ref cda) cc) (eval (.Call (.Name "super" p0) [] [] p1) (ksEnv qual sc L fI (.ref cda) cc))
      standAt p2.atName
      let (g, fst) ← holding [sv] (getMethod sv "__init__" (pl L))
      callWith p3 g fst (backTo p3 (starEach (.Name v q1 :: []) (ksEnv qual sc L fI (.ref cda) cc))) [])) :
    ErrC P w K mg base c [f] :=
  ⟨by simp, by show 1 ≤ 900; omega, C, fI, _, ["self", v], hm, O, iC, tI, errF1 O lk hcd S hp h0 hcode hvs hfile hcell hsup htop hth hsi hve hmr hno hd hd2 hev, .all fun us h => hb us h⟩
theorem errF2 (O : OexC K C) 
    (lk : K.lookup fI = some ⟨oc, od, .func (ksFn "__init__" qual params [.Expr (.Call (.Attribute (.Call (.Name "super" p0) [] [] p1) "__init__" p2) [.Name v q1, .Name u q6] [] p3) p4, .Assign [.Attribute (.Name "self" q2) f q3] (.Name v q4) q5, .Assign [.Attribute (.Name "self" q7) g q8] (.Name u q9) q10] sc .none kV doc pm an (.ref cda) ct cc), osl⟩)
    (hcd : codeIn K (.ref cda) qual = true) (S : SupScope ["self", v, u] ["self", v, u] sc) (hp : (params.posonlyargs ++ params.args).head? = some ar) (h0 : ar.arg = "self")
    (hcode : K.lookup cda = some ⟨ccl, cdd, .fields vs2, ccs⟩) (hvs : vs2[2]? = some (.str file tf)) (hfile : ((P.main.file : Str) == file) = true) (hcell : K.lookup cc = some ⟨ocl, cld, .cell (some (.ref C)), csl⟩) (hsup : mg "super" = none)
    (htop : (P.main.scope.names.lookup ("super" : Str)).isSome = false) (hth : nsIn K cStatics "thirdparty.any" = some none) (hsi : ks_superIn K C C "__init__" = some (some (.builtin "ValueError.__init__"))) (hve : subIn K (.ref C) (.type "ValueError") = some true)
    (hmr : mroIn K C (.ref C) = some true) (hno : findIn K (.ref C) f = some none) (hno2 : findIn K (.ref C) g = some none) (hfg : f ≠ g) (hd3 : (u == ("__debug__" : Str)) = false) (hd4 : (u == ("__classdict__" : Str)) = false) (hd : (v == ("__debug__" : Str)) = false) (hd2 : (v == ("__classdict__" : Str)) = false)
    {pl : Addr → Sem Bool} (hev : ∀ L : Addr, eval (.Call (.Attribute (.Call (.Name "super" p0) [] [] p1) "__init__" p2) (.Name v q1 :: [.Name u q6]) [] p3) (ksEnv qual sc L fI (.ref cda) cc) = (do
      let sv ← attributeBase (.Call (.Name "super" p0) [] [] p1) "__init__" (ksEnv qual sc L fI (.ref cda) cc) (eval (.Call (.Name "super" p0) [] [] p1) (ksEnv qual sc L fI (.ref cda) cc))
      standAt p2.atName
      let (g, fst) ← holding [sv] (getMethod sv "__init__" (pl L))
      callWith p3 g fst (backTo p3 (starEach (.Name v q1 :: [.Name u q6]) (ksEnv qual sc L fI (.ref cda) cc))) [])) :
    FnOk P w K mg base CX0 1 fI (ksFn "__init__" qual params [.Expr (.Call (.Attribute (.Call (.Name "super" p0) [] [] p1) "__init__" p2) [.Name v q1, .Name u q6] [] p3) p4, .Assign [.Attribute (.Name "self" q2) f q3] (.Name v q4) q5, .Assign [.Attribute (.Name "self" q7) g q8] (.Name u q9) q10] sc .none kV doc pm an (.ref cda) ct cc) ["self", v, u] (spI C [f, g]) := by
  have hD : ∃ cdD, clsIn K C = some cdD := by
    unfold mroIn at hmr
    cases h : clsIn K C with
    | none => rw [h] at hmr; cases hmr
    | some cd => exact ⟨cd, rfl⟩
  obtain ⟨cdD, hD⟩ := hD
  refine sup_fn (N := ["self", v, u]) (k := 0) (Dc := C) lk hcd S (fun vs H Q E h => ?_) hp (by rw [h0]; rfl) hcode hvs hfile hcell hD hsup htop hth (fun L => rfl) (fun L => rfl) (fun L => rfl) hev fun A outer s H vs Q E hr h => ?_
  · obtain ⟨a, ys, rfl, h1, _⟩ := h
    simp [h1]
  · obtain ⟨a, ys, rfl, h1, h2, h3⟩ := h
    obtain ⟨y, z, rfl⟩ : ∃ y z, ys = [y, z] := by
      rcases ys with _ | ⟨y, _ | ⟨z, _ | ⟨_, _⟩⟩⟩ <;> first | exact ⟨_, _, rfl⟩ | simp at h1
    have s0 : PE (cxS CX0 P w K mg base ["self", v, u] qual sc fI (.ref cda) cc A outer s H E) (.Name "self" q2) (tVar 0) := pe_var rfl (.inl (S.par _ (by simp)))
    have s0' : PE (cxS CX0 P w K mg base ["self", v, u] qual sc fI (.ref cda) cc A outer s H E) (.Name "self" q7) (tVar 0) := pe_var rfl (.inl (S.par _ (by simp)))
    have s1 : ∀ q, PE (cxS CX0 P w K mg base ["self", v, u] qual sc fI (.ref cda) cc A outer s H E) (.Name v q) (tVar 1) := fun q => pe_var rfl (.inl (S.par _ (by simp))) hd hd2
    have s2 : ∀ q, PE (cxS CX0 P w K mg base ["self", v, u] qual sc fI (.ref cda) cc A outer s H E) (.Name u q) (tVar 2) := fun q => pe_var rfl (.inl (S.par _ (by simp))) hd3 hd4
    refine ⟨_, _, a, C, [y, z], pa_cons (s1 _) (pa_cons (s2 _) pa_nil), pss_cons (ps_ost s0 (s1 _)) (pss_one (ps_ost s0' (s2 _))), rfl, O, hsi, hve, hmr, h2, ?_⟩
    refine ⟨y, rfl, z, rfl, ?_, h2, ?_⟩
    · simp
    · refine ⟨y, rfl, .ref a, rfl, a, C, rfl, O, hno, .inl ⟨h2, fun dx n ne => ?_⟩⟩
      refine ⟨z, rfl, .ref a, rfl, a, C, rfl, O, hno2, .inr ⟨dx, [(f, y)], upd_same, by rw [upd_ne ne, upd_same], by simp, ?_⟩⟩
      exact h3 dx _ n ne (by rw [upd_ne (Ne.symm ne), upd_same]) (by rw [upd_same]; rfl) fun b b1 b2 => by rw [upd_ne b2, upd_ne b1, upd_ne b2]
theorem errC2 (hm : mg c = some (.ref C)) (O : OexC K C) (iC : findIn K (.ref C) "__init__" = some (some (.ref fI))) (tI : typeIn K (.ref fI) = some (.type "function"))
    (lk : K.lookup fI = some ⟨oc, od, .func (ksFn "__init__" qual params [.Expr (.Call (.Attribute (.Call (.Name "super" p0) [] [] p1) "__init__" p2) [.Name v q1, .Name u q6] [] p3) p4, .Assign [.Attribute (.Name "self" q2) f q3] (.Name v q4) q5, .Assign [.Attribute (.Name "self" q7) g q8] (.Name u q9) q10] sc .none kV doc pm an (.ref cda) ct cc), osl⟩)
    (hcd : codeIn K (.ref cda) qual = true) (S : SupScope ["self", v, u] ["self", v, u] sc) (hp : (params.posonlyargs ++ params.args).head? = some ar) (h0 : ar.arg = "self")
    (hcode : K.lookup cda = some ⟨ccl, cdd, .fields vs2, ccs⟩) (hvs : vs2[2]? = some (.str file tf)) (hfile : ((P.main.file : Str) == file) = true) (hcell : K.lookup cc = some ⟨ocl, cld, .cell (some (.ref C)), csl⟩) (hsup : mg "super" = none)
    (htop : (P.main.scope.names.lookup ("super" : Str)).isSome = false) (hth : nsIn K cStatics "thirdparty.any" = some none) (hsi : ks_superIn K C C "__init__" = some (some (.builtin "ValueError.__init__"))) (hve : subIn K (.ref C) (.type "ValueError") = some true)
    (hmr : mroIn K C (.ref C) = some true) (hno : findIn K (.ref C) f = some none) (hno2 : findIn K (.ref C) g = some none) (hfg : f ≠ g) (hd3 : (u == ("__debug__" : Str)) = false) (hd4 : (u == ("__classdict__" : Str)) = false) (hd : (v == ("__debug__" : Str)) = false) (hd2 : (v == ("__classdict__" : Str)) = false)
    (hb : ∀ us : List Value, us.length = 3 → bindArgs (ksFn "__init__" qual params [.Expr (.Call (.Attribute (.Call (.Name "super" p0) [] [] p1) "__init__" p2) [.Name v q1, .Name u q6] [] p3) p4, .Assign [.Attribute (.Name "self" q2) f q3] (.Name v q4) q5, .Assign [.Attribute (.Name "self" q7) g q8] (.Name u q9) q10] sc .none kV doc pm an (.ref cda) ct cc) ⟨us, []⟩ = pure ((["self", v, u] : List Str).zip us))
    {pl : Addr → Sem Bool} (hev : ∀ L : Addr, eval (.Call (.Attribute (.Call (.Name "super" p0) [] [] p1) "__init__" p2) (.Name v q1 :: [.Name u q6]) [] p3) (ksEnv qual sc L fI (.ref cda) cc) = (do
      let sv ← attributeBase (.Call (.Name "super" p0) [] [] p1) "__init__" (ksEnv qual sc L fI (.ref cda) cc) (eval (.Call (.Name "super" p0) [] [] p1) (ksEnv qual sc L fI (.ref cda) cc))
      standAt p2.atName
      let (g, fst) ← holding [sv] (getMethod sv "__init__" (pl L))
      callWith p3 g fst (backTo p3 (starEach (.Name v q1 :: [.Name u q6]) (ksEnv qual sc L fI (.ref cda) cc))) [])) :
    ErrC P w K mg base c [f, g] :=
  ⟨by simp [hfg], by show 2 ≤ 900; omega, C, fI, _, ["self", v, u], hm, O, iC, tI, errF2 O lk hcd S hp h0 hcode hvs hfile hcell hsup htop hth hsi hve hmr hno hno2 hfg hd3 hd4 hd hd2 hev, .all fun us h => hb us h⟩
end
end DL
namespace DL
open PySem L2
section
variable {X : Cx} {np : Nat} {e o ix : Expr} {m mi : M D} {pos pos' : Pos}
def sPut (i : Nat) (mi m : M D) : S := fun ρ => match m ρ with
  | .ok d ρ1 => (match ρ1[i]? with
    | some (.own _) => (match mi ρ1 with
      | .ok (.int k) ρ2 => (match ρ2[i]? with
        | some (.own l) => (match ixN l.length k with
          | some j => .nx (ρ2.set i (.own (l.set j d)))
          | none => .bad)
        | _ => .bad)
      | .exc er ρ2 => .exc er ρ2
      | _ => .bad)
    | _ => .bad)
  | .exc er ρ1 => .exc er ρ1
  | .bad => .bad
theorem ds_put {i : Nat} (ho : PE X o (tVar i)) (hix : DE X ix mi) (h : DE X e m) (hp : ∀ ti : TE, PE X ix ti → PG X (.Subscript o ix pos') (gSub (tVar i) ti rSetL)) (hs : swapsWithSole [.Subscript o ix pos'] e pos.line X.env = pure false := by rfl)
    (hw : swappedStores [.Subscript o ix pos'] e X.env = pure none := by rfl) (h1 : (assignEach [.Subscript o ix pos'] X.env).map (·.2) = [assign (.Subscript o ix pos') X.env] := by rfl) : DS X np (.Assign [.Subscript o ix pos'] e pos) (sPut i mi m) := fun W tk =>
  ps_imp (ps_asg (h W tk) (hp _ (hix W tk)) hs hw h1) fun E σ H q => by
    obtain ⟨w, A, ρ, hn, R, q⟩ := tS_iff.mp q
    refine ⟨w, A, ρ, R, ?_⟩
    unfold sPut at q
    cases hm : m ρ with
    | bad => rw [hm] at q; exact q.elim
    | exc er ρ1 => rw [hm] at q; exact fun c dd H' ex R' z => q A σ H' c dd ex.off R' z
    | ok d ρ1 =>
      rw [hm] at q
      dsimp only at q
      intro v H1 ex1 R1 r1
      cases hs1 : ρ1[i]? with
      | none => rw [hs1] at q; exact q.elim
      | some s1 =>
        rw [hs1] at q
        cases s1 with
        | own l1 =>
          dsimp only at q
          obtain ⟨u, hu⟩ := R1.has hs1 rfl
          refine ⟨u, hu, w, A, ρ1, R1, ?_⟩
          cases hk : mi ρ1 with
          | bad => rw [hk] at q; exact q.elim
          | exc er ρ2 => rw [hk] at q; exact fun c dd H' ex R' z => q A σ H' c dd (ex1.trans ex).off R' z
          | ok kd ρ2 =>
            rw [hk] at q
            intro iv H2 ex2 R2 r2
            cases kd with
            | int k =>
              dsimp only at q
              cases hs2 : ρ2[i]? with
              | none => rw [hs2] at q; exact q.elim
              | some s2 =>
                rw [hs2] at q
                cases s2 with
                | own l =>
                  dsimp only at q
                  cases hj : ixN l.length k with
                  | none => rw [hj] at q; exact q.elim
                  | some j =>
                    rw [hj] at q
                    obtain ⟨p, vs, e1, hA, hh, rr⟩ := R2.slots i _ _ hs2 hu
                    cases e1
                    have rd : Rep X.K X.mg (off A H2) d v := r1.mono ex2.off
                    have R3 := (R2.put (vs := vs) (vs' := vs.set j v) (l' := l.set j d) hs2 hu (rr.set j rd)).2
                    refine ⟨p, vs, k, j, rfl, r2, hh, by rw [← rr.length]; exact hj, ?_⟩
                    refine q A σ _ ?_ R3
                    rw [off_in hA]
                    exact (ex1.trans ex2).off
                | _ => exact q.elim
            | _ => exact q.elim
        | _ => exact q.elim
end
end DL
namespace DL
open PySem L2
def Slot.isEx : Slot → Bool
  | .ex _ => true
  | _ => false
def noEx (ρ : Ev) : Bool := ρ.all fun s => !s.isEx
/-- all but the i-th -/
def noExBut (i : Nat) (ρ : Ev) : Bool := noEx (ρ.set i .no)
section
variable {K : PySem.W.Frag} {mg : Str → Option Value} {w : Wd} {A : List Addr} {ρ : Ev} {σ : L2.St} {H : Hp}
theorem noEx_at {ρ : Ev} (h : noEx ρ = true) {j : Nat} {s : Slot} (hj : ρ[j]? = some s) : s.isEx = false := by
  have := List.all_eq_true.mp h s (List.mem_of_getElem? hj)
  simpa using this
theorem SlotR.xx {xx xx' : Addr × Option Addr × Value} : ∀ {s : Slot} {o : Option V}, s.isEx = false → SlotR K mg xx A H s o → SlotR K mg xx' A H s o
  | .no, _, _, _ => trivial
  | .val _, _, _, h => h
  | .own _, _, _, h => h
  | .dic _ _, _, _, h => h
  | .inst _ _ _, _, _, h => h
  | .ex _, _, e, _ => by cases e
/-- the i-th name holds another thing, none of one's own; another error may be the caught one -/
theorem SR.reslot {i : Nat} {s0 t : Slot} {o : Option V} {y : Addr × Option Addr × Value} (R : SR K mg w A ρ σ H) (h : ρ[i]? = some s0) (ho : s0.isOwn = false) (ht : t.isOwn = false) (ne : noExBut i ρ = true) (r : SlotR K mg y A H t o) :
    SR K mg { w with xx := y } A (ρ.set i t) (σ.set i o) H := by
  have li : i < ρ.length := (List.getElem?_eq_some_iff.mp h).1
  have oth : ∀ {j : Nat} {s : Slot}, (ρ.set i t)[j]? = some s → s.isOwn = true → j ≠ i ∧ ρ[j]? = some s := fun {j s} h1 o1 => by
    by_cases hj : j = i
    · subst hj
      rw [List.getElem?_set_self li] at h1
      cases h1
      rw [ht] at o1
      cases o1
    · rw [List.getElem?_set_ne (Ne.symm hj)] at h1
      exact ⟨hj, h1⟩
  refine { len := by rw [List.length_set, List.length_set, R.len], slots := fun j s o' h1 h2 => ?_, dist := fun j k s u a h1 h2 o1 o2 e1 e2 => ?_, sub := R.sub, trk := R.trk, frame := R.frame, mine := fun j s a h1 o1 e1 => ?_, opB := R.opB, par := fun p hp => ?_ }
  · by_cases hj : j = i
    · subst hj
      rw [List.getElem?_set_self li] at h1
      rw [List.getElem?_set_self (by rw [← R.len]; exact li)] at h2
      cases h1; cases h2
      exact r
    · have nx : s.isEx = false := noEx_at ne (j := j) (s := s) (by rw [List.getElem?_set_ne (Ne.symm hj)] at h1 ⊢; exact h1)
      rw [List.getElem?_set_ne (Ne.symm hj)] at h1 h2
      exact (R.slots j s o' h1 h2).xx nx
  · obtain ⟨n1, g1⟩ := oth h1 o1
    obtain ⟨n2, g2⟩ := oth h2 o2
    rw [List.getElem?_set_ne (Ne.symm n1)] at e1
    rw [List.getElem?_set_ne (Ne.symm n2)] at e2
    exact R.dist j k s u a g1 g2 o1 o2 e1 e2
  · obtain ⟨n1, g1⟩ := oth h1 o1
    rw [List.getElem?_set_ne (Ne.symm n1)] at e1
    exact R.mine j s a g1 o1 e1
  · obtain ⟨p1, p2, s, p3, p4⟩ := R.par p hp
    have n1 : p.1 ≠ i := fun z => by
      rw [z, h] at p3
      cases p3
      rw [ho] at p4
      cases p4
    exact ⟨p1, by rw [List.getElem?_set_ne (Ne.symm n1)]; exact p2, s, by rw [List.getElem?_set_ne (Ne.symm n1)]; exact p3, p4⟩
end
/-- try: body; except .. as the i-th name: suite. known: the classes that may come; tbl: which are caught -/
def sTry (known : List Str) (tbl : Str → Bool) (i : Nat) (body suite : S) : S := fun ρ => match body ρ with
  | .exc e ρ1 => if known.contains e.c then (if tbl e.c then (match ρ1[i]? with
    | some s0 => if s0.isOwn = false ∧ noExBut i ρ1 = true then (match suite (ρ1.set i (.ex e)) with
      | .nx ρ2 => (match ρ2[i]? with
        | some s2 => if s2.isOwn = false ∧ noExBut i ρ2 = true then .nx (ρ2.set i .no) else .bad
        | none => .bad)
      | .rt d ρ2 => (match ρ2[i]? with
        | some s2 => if s2.isOwn = false ∧ noExBut i ρ2 = true then .rt d (ρ2.set i .no) else .bad
        | none => .bad)
      | .bk ρ2 => (match ρ2[i]? with
        | some s2 => if s2.isOwn = false ∧ noExBut i ρ2 = true then .bk (ρ2.set i .no) else .bad
        | none => .bad)
      | .ct ρ2 => (match ρ2[i]? with
        | some s2 => if s2.isOwn = false ∧ noExBut i ρ2 = true then .ct (ρ2.set i .no) else .bad
        | none => .bad)
      | _ => .bad) else .bad
    | none => .bad) else .exc e ρ1) else .bad
  | o => o
section
variable {X : Cx} {x n : Str} {c : Value} {i np : Nat} {body suite : List Stmt} {b0 : Stmt} {npp pos pos' : Pos} {sb ss : S} {known : List Str} {tbl : Str → Bool}
theorem ds_try_as (hc0 : X.calm = true) (hs : X.stack = X.env :: X.outer) (hf : X.env.frame = some X.env.locals) (hN : X.N.Nodup) (hi : X.N[i]? = some n) (hln : X.env.kindOf n = some .local) (hc : Names X x c)
    (htb : ∀ e ∈ known, ∀ C, X.mg e = some (.ref C) → PySem.W.exmOne X.K (.ref C) c = some (tbl e))
    (hb : ∀ (pn : List (Addr × Obj)) (xe : Value → Shared → Prop), PassesOwn (model X.prog X.w) X.A X.env xe → DSs (X.tr pn xe) np body sb)
    (hsu : ∀ (a : Addr) (oe : Obj) (cls : Value) (d : Option Addr) (pn : List (Addr × Obj)), Zc cls d oe → (∃ vs, oe.data = .fields vs) → DSs (X.suite a ((a, oe) :: pn)) np (b0 :: suite) ss) :
    DS X np (.Try body [.ExceptHandler (some (.Name x npp)) (some n) (b0 :: suite) pos'] [] [] pos) (sTry known tbl i sb ss) := fun W tk => by
  refine ps_imp (L2N.ps_try_as (i := i) (c := c) (Wout := W.x) (tb := fun W1 => tS X.K X.mg np ⟨W1, W.Z, false⟩ sb) (ts := fun a cls d => tS X.K X.mg np ⟨fun _ _ _ _ => False, fun w => w.xx = (a, d, cls), false⟩ ss) hs hf hN hi hln hc tk.t
    (fun W1 pn xe t1 p1 => hb pn xe p1 ⟨W1, W.Z, false⟩ ⟨t1, fun h => (by cases h), fun h => ?_⟩) (fun a oe cls d pn hz hv => hsu a oe cls d pn hz.zc hv ⟨fun _ _ _ _ => False, fun w => w.xx = (a, d, cls), false⟩ ⟨?_, fun h => (by cases h), fun _ w hw => ?_⟩)) fun E σ H q => ?_
  · have z : X.calm = false := h
    rw [hc0] at z
    cases z
  · exact takesN0
  · exact ⟨oe, by rw [hw]; rfl, by rw [hw]; exact hz.1, by rw [hw]; exact hz.2.1⟩
  · obtain ⟨w, A, ρ, hn, R, q⟩ := tS_iff.mp q
    refine tS_iff.mpr ⟨⟨w.1, w.2⟩, A, ρ, hn, R, ?_⟩
    unfold sTry at q
    cases hb0 : sb ρ with
    | nx ρ1 => rw [hb0] at q; exact q
    | rt d ρ1 => rw [hb0] at q; exact q
    | bk ρ1 => rw [hb0] at q; exact q
    | ct ρ1 => rw [hb0] at q; exact q
    | bad => rw [hb0] at q; exact q
    | exc e ρ1 =>
      rw [hb0] at q
      dsimp only at q
      intro A1 σ1 H1 cl dd sm1 R1 x1
      have x1' := x1
      obtain ⟨C, e1, mC, _⟩ := x1'
      by_cases hk : known.contains e.c = true
      · rw [if_pos hk] at q
        refine ⟨tbl e.c, by rw [e1]; exact htb e.c (by simpa using hk) C mC, fun hy a ha => ?_, fun hno => ?_⟩
        · rw [if_pos hy] at q
          cases h0 : ρ1[i]? with
          | none => rw [h0] at q; exact q.elim
          | some s0 =>
            rw [h0] at q
            dsimp only at q
            by_cases hg : s0.isOwn = false ∧ noExBut i ρ1 = true
            · rw [if_pos hg] at q
              have R2 : SR X.K X.mg { w.1 with xx := (a, dd, cl) } A1 (ρ1.set i (.ex e)) (σ1.set i (some (.ref a))) H1 := R1.reslot h0 hg.1 rfl hg.2 ⟨rfl, x1⟩
              refine tS_iff.mpr ⟨⟨{ w.1 with xx := (a, dd, cl) }, rfl⟩, A1, _, hn, R2, ?_⟩
              have back : ∀ {A2 : List Addr} {ρ2 : Ev} {σ2 : L2.St} {H2 : Hp} {s2 : Slot}, SR X.K X.mg { w.1 with xx := (a, dd, cl) } A2 ρ2 σ2 H2 → ρ2[i]? = some s2 → s2.isOwn = false → noExBut i ρ2 = true → SR X.K X.mg w.1 A2 (ρ2.set i .no) (σ2.set i none) H2 :=
                fun r h1 h2 h3 => r.reslot (y := w.1.xx) h1 h2 rfl h3 trivial
              cases hss : ss (ρ1.set i (.ex e)) with
              | nx ρ2 =>
                rw [hss] at q
                dsimp only at q
                cases h2 : ρ2[i]? with
                | none => rw [h2] at q; exact q.elim
                | some s2 =>
                  rw [h2] at q
                  dsimp only at q
                  by_cases hg2 : s2.isOwn = false ∧ noExBut i ρ2 = true
                  · rw [if_pos hg2] at q
                    exact fun A2 σ2 H2 sm2 r2 => q A2 _ H2 (sm1.trans sm2) (back r2 h2 hg2.1 hg2.2)
                  · rw [if_neg hg2] at q; exact q.elim
              | rt d ρ2 =>
                rw [hss] at q
                dsimp only at q
                cases h2 : ρ2[i]? with
                | none => rw [h2] at q; exact q.elim
                | some s2 =>
                  rw [h2] at q
                  dsimp only at q
                  by_cases hg2 : s2.isOwn = false ∧ noExBut i ρ2 = true
                  · rw [if_pos hg2] at q
                    exact fun A2 σ2 H2 v r2 rv => q A2 _ H2 v (back r2 h2 hg2.1 hg2.2) rv
                  · rw [if_neg hg2] at q; exact q.elim
              | bk ρ2 =>
                rw [hss] at q
                dsimp only at q
                cases h2 : ρ2[i]? with
                | none => rw [h2] at q; exact q.elim
                | some s2 =>
                  rw [h2] at q
                  dsimp only at q
                  by_cases hg2 : s2.isOwn = false ∧ noExBut i ρ2 = true
                  · rw [if_pos hg2] at q
                    exact fun A2 σ2 H2 sm2 r2 => q A2 _ H2 (sm1.trans sm2) (back r2 h2 hg2.1 hg2.2)
                  · rw [if_neg hg2] at q; exact q.elim
              | ct ρ2 =>
                rw [hss] at q
                dsimp only at q
                cases h2 : ρ2[i]? with
                | none => rw [h2] at q; exact q.elim
                | some s2 =>
                  rw [h2] at q
                  dsimp only at q
                  by_cases hg2 : s2.isOwn = false ∧ noExBut i ρ2 = true
                  · rw [if_pos hg2] at q
                    exact fun A2 σ2 H2 sm2 r2 => q A2 _ H2 (sm1.trans sm2) (back r2 h2 hg2.1 hg2.2)
                  · rw [if_neg hg2] at q; exact q.elim
              | exc e2 ρ2 => rw [hss] at q; exact q.elim
              | bad => rw [hss] at q; exact q.elim
            · rw [if_neg hg] at q; exact q.elim
        · rw [if_neg (by rw [hno]; decide)] at q
          exact q A1 σ1 H1 cl dd sm1 R1 x1
      · rw [if_neg hk] at q; exact q.elim
def exF (i : Nat) (c f : Str) : M D := fun ρ => match ρ[i]? with
  | some (.ex e) => if e.c = c then (match (e.ns.zip e.l).lookup f with
    | some d => .ok d ρ
    | none => .bad) else .bad
  | _ => .bad
theorem zip_lookI {f : Str} {d : D} : ∀ {ns : List Str} {l : List D}, (ns.zip l).lookup f = some d → ∃ j : Nat, ns[j]? = some f ∧ l[j]? = some d
  | [], _, h => by simp at h
  | _ :: _, [], h => by simp at h
  | n :: ns, x :: l, h => by
    rw [List.zip_cons_cons] at h
    by_cases e : f = n
    · subst e
      simp [List.lookup] at h
      exact ⟨0, rfl, by simp [h]⟩
    · have e' : (f == n) = false := by simpa using e
      simp only [List.lookup, e'] at h
      obtain ⟨j, h1, h2⟩ := zip_lookI h
      exact ⟨j + 1, by simpa using h1, by simpa using h2⟩
theorem de_xf {a C : Addr} {oe : Obj} {cls : Value} {d : Option Addr} {pn : List (Addr × Obj)} {e : Expr} {nm f : Str} (T : XfC X.K C) (hno : PySem.W.findIn X.K (.ref C) f = some none) (hm : X.mg nm = some (.ref C)) (hz : Zc cls d oe) (hv : ∃ vs, oe.data = .fields vs)
    (ho : PE (X.suite a ((a, oe) :: pn)) e (tVar i)) (hb : attributeBase e f X.env (eval e X.env) = eval e X.env := by rfl) : DE (X.suite a ((a, oe) :: pn)) (.Attribute e f pos) (exF i nm f) := fun W tk => pe_imp (pe_xf T hno hz hv ho hb) fun σ H Q ⟨w, A, ρ, R, q⟩ => by
  unfold exF at q
  cases hs : ρ[i]? with
  | none => rw [hs] at q; exact q.elim
  | some s0 =>
    rw [hs] at q
    cases s0 with
    | ex er =>
      dsimp only at q
      by_cases hc : er.c = nm
      · rw [if_pos hc] at q
        cases hl : (er.ns.zip er.l).lookup f with
        | none => rw [hl] at q; exact q.elim
        | some dv =>
          rw [hl] at q
          obtain ⟨o, ho', so, C', e1, e2, z⟩ := R.at' hs
          obtain ⟨oe', g1, g2, g3⟩ := tk.z rfl w.1 w.2
          obtain ⟨ga, go⟩ : a = w.1.xx.1 ∧ oe = oe' := by
            have g1' : some (a, oe) = some (w.1.xx.1, oe') := g1
            cases g1'
            exact ⟨rfl, rfl⟩
          subst go
          obtain ⟨j, j1, j2⟩ := zip_lookI hl
          refine ⟨.ref a, by rw [ho', so, ga], rfl, ?_, ?_⟩
          · rw [← hz.1, g2, e1]
            have m2 : X.mg er.c = some (.ref C') := e2
            rw [hc, hm] at m2
            cases m2
            rfl
          · rcases z with z | ⟨d', fs, y1, y2, y3, y4⟩
            · rw [z.1] at j1; simp at j1
            · obtain ⟨v, v1, v2⟩ := y4 j f dv j1 j2
              exact ⟨d', fs, v, by rw [← hz.2, g3, y1], y2, v1, q v H Ext.refl R v2⟩
      · rw [if_neg hc] at q; exact q.elim
    | _ => exact q.elim
end
end DL
namespace DL
open PySem L2
theorem un64 {k : Nat} {A : Around} (r : Room k A) : A.units + 64 < cLine := by have := r.un; omega
theorem un65 {k : Nat} {A : Around} (r : Room k A) : A.units + 65 < cLine := by have := r.un; omega
section
variable {X : Cx} {np : Nat} {e o a b : Expr} {m : M D} {as : List Arg} {pos pos' : Pos}
/-- a module's constant -/
theorem de_glob {x : Str} {d : D} {v : V} {u : Value} (hg : Gl X x) (hm : X.mg x = some u) (r : RelV v u) (hr : ∀ F, Rep X.K X.mg F d v) (hd : (x == ("__debug__" : Str)) = false := by decide) : DE X (.Name x pos) (M.ret d) := de_ret (pe_glob hg hm r hd) hr
theorem de_gint {x : Str} {i : Int} {tk : Tok} (hm : X.mg x = some (.int i tk)) (hg : Gl X x := by rfl) (hd : (x == ("__debug__" : Str)) = false := by decide) : DE X (.Name x pos) (M.ret (.int i)) := de_glob (v := .int i) hg hm ⟨tk, rfl⟩ (fun _ => rfl) hd
/-- a, b = e, e' -/
def sPar (i j : Nat) (as : List Arg) : S := fun ρ => match evs as ρ with
  | .ok xs ρ' => (match dvs xs with
    | some [d1, d2] => (match (gN i d1 ρ').bind (gN j d2) with
      | some ρ2 => .nx ρ2
      | none => .bad)
    | _ => .bad)
  | .exc er ρ' => .exc er ρ'
  | .bad => .bad
theorem gN_slot {i : Nat} {d : D} {ρ ρ1 : Ev} (h : gN i d ρ = some ρ1) : ∃ s, ρ[i]? = some s ∧ s.isOwn = false ∧ ρ1 = ρ.set i (.val d) := by
  unfold gN at h
  cases hs : ρ[i]? with
  | none => rw [hs] at h; cases h
  | some s =>
    rw [hs] at h
    cases ho : s.isOwn with
    | true => simp [ho] at h
    | false =>
      simp [ho] at h
      exact ⟨s, rfl, ho, h.symm⟩
theorem ds_par {i j : Nat} {x y : Str} {px py pt : Pos} {kt k2 pt2} (hc : X.calm = true) (hN : X.N.Nodup) (hi : X.N[i]? = some x) (hj : X.N[j]? = some y) (hij : i ≠ j) (hx : X.env.scope.names.lookup x = some .local) (hy : X.env.scope.names.lookup y = some .local) (ha : DA X [a, b] as)
    (hw : swappedStores [.Tuple [.Name x px, .Name y py] kt pt] (.Tuple [a, b] k2 pt2) X.env = pure (some [x, y]) := by rfl) (hs : swapsWithSole [.Tuple [.Name x px, .Name y py] kt pt] (.Tuple [a, b] k2 pt2) pos.line X.env = pure false := by rfl) :
    DS X np (.Assign [.Tuple [.Name x px, .Name y py] kt pt] (.Tuple [a, b] k2 pt2) pos) (sPar i j as) := fun W tk => ps_imp (ps_par hc hN hi hj hij hx hy (ha W tk) hw hs) fun E σ H q => by
  obtain ⟨w, A, ρ, hn, R, q⟩ := tS_iff.mp q
  refine ⟨w, A, ρ, R, ?_⟩
  unfold sPar at q
  cases hev : evs as ρ with
  | bad => rw [hev] at q; exact q.elim
  | exc er ρ1 => rw [hev] at q; exact fun c dd H' ex R' z => q A σ H' c dd ex.off R' z
  | ok xs ρ1 =>
    rw [hev] at q
    intro vs H1 ex R1 r1
    dsimp only at q
    cases hd : dvs xs with
    | none => rw [hd] at q; exact q.elim
    | some ds =>
      rw [hd] at q
      match ds, hd, q with
      | [d1, d2], hd, q =>
        dsimp only at q
        obtain ⟨v1, r', e1, rd1, v2, r'', e2, rd2, e3⟩ := dvs_rep r1 hd
        subst e1 e2
        rw [show r'' = [] from e3]
        cases hb : (gN i d1 ρ1).bind (gN j d2) with
        | none => rw [hb] at q; exact q.elim
        | some ρ3 =>
          rw [hb] at q
          obtain ⟨ρ2, g1, g2⟩ := Option.bind_eq_some_iff.mp hb
          obtain ⟨s1, k1, k2, rfl⟩ := gN_slot g1
          obtain ⟨s2, k3, k4, rfl⟩ := gN_slot g2
          exact ⟨v1, v2, rfl, q A _ H1 ex.off ((R1.set k1 k2 rd1).set k3 k4 rd2)⟩
      | [], hd, q => exact q.elim
      | [_], hd, q => exact q.elim
      | _ :: _ :: _ :: _, hd, q => exact q.elim
def putN (f : Str) : List Str → List Str
  | [] => [f]
  | n :: r => if n = f then f :: r else n :: putN f r
def putL {α : Type} (f : Str) (d : α) : List Str → List α → List α
  | [], _ => [d]
  | n :: r, x :: xs => if n = f then d :: xs else x :: putL f d r xs
  | _ :: _, [] => []
theorem put_zip {f : Str} {v : V} : ∀ {ns : List Str} {fvs : List V}, ns.length = fvs.length → putF f v (ns.zip fvs) = (putN f ns).zip (putL f v ns fvs) ∧ (putN f ns).length = (putL f v ns fvs).length
  | [], [], _ => ⟨rfl, rfl⟩
  | n :: r, x :: xs, h => by
    have h' : r.length = xs.length := by simpa using h
    rw [List.zip_cons_cons]
    unfold putF putN putL
    by_cases e : n = f
    · subst e; rw [if_pos rfl, if_pos rfl, if_pos rfl]; exact ⟨rfl, by simp [h']⟩
    · rw [if_neg e, if_neg e, if_neg e]
      obtain ⟨h1, h2⟩ := put_zip (f := f) (v := v) h'
      exact ⟨by rw [h1]; rfl, by simp [h2]⟩
theorem put_reps {K : PySem.W.Frag} {mg : Str → Option Value} {F : Hp} {f : Str} {d : D} {v : V} (hr : Rep K mg F d v) : ∀ {ns : List Str} {l : List D} {fvs : List V}, ns.length = fvs.length → Reps K mg F l fvs → Reps K mg F (putL f d ns l) (putL f v ns fvs)
  | [], _, _, _, _ => .cons hr .nil
  | n :: r, x :: l, fv :: fvs, h, ⟨u, us, e, r1, r2⟩ => by
    cases e
    unfold putL
    by_cases e : n = f
    · rw [if_pos e, if_pos e]; exact .cons hr r2
    · rw [if_neg e, if_neg e]; exact .cons r1 (put_reps hr (by simpa using h) r2)
  | n :: r, [], fvs, h, e => by rw [show fvs = [] from e] at h; simp at h
  | n :: r, x :: l, [], h, ⟨_, _, e, _⟩ => by cases e
def sFldSet (i : Nat) (c f : Str) (m : M D) : S := fun ρ => match m ρ with
  | .ok d ρ' => (match ρ'[i]? with
    | some (.inst c' ns l) => if c' = c ∧ ns.length < 1000 then .nx (ρ'.set i (.inst c (putN f ns) (putL f d ns l))) else .bad
    | _ => .bad)
  | .exc er ρ' => .exc er ρ'
  | .bad => .bad
theorem ds_fldset {i : Nat} {c f : Str} (ok : FldOk X.K X.mg c f) (ho : PE X o (tVar i)) (h : DE X e m) (hs : swapsWith e (some (.Attribute o f pos')) pos.line X.env = pure false := by rfl) : DS X np (.Assign [.Attribute o f pos'] e pos) (sFldSet i c f m) := fun W tk =>
  ps_imp (ps_fld ho (h W tk) hs) fun E σ H q => by
    obtain ⟨w, A, ρ, hn, R, q⟩ := tS_iff.mp q
    refine ⟨w, A, ρ, R, ?_⟩
    unfold sFldSet at q
    cases hm : m ρ with
    | bad => rw [hm] at q; exact q.elim
    | exc er ρ1 => rw [hm] at q; exact fun c dd H' ex R' z => q A σ H' c dd ex.off R' z
    | ok d ρ1 =>
      rw [hm] at q
      dsimp only at q
      intro v H1 ex1 R1 r1
      cases hs1 : ρ1[i]? with
      | none => rw [hs1] at q; exact q.elim
      | some s1 =>
        rw [hs1] at q
        cases s1 with
        | inst c' ns l =>
          dsimp only at q
          by_cases hc : c' = c ∧ ns.length < 1000
          · rw [if_pos hc] at q
            obtain ⟨hc, hlen⟩ := hc
            subst hc
            obtain ⟨ou, hu, p, C, dx, fvs, e1, hA, mC, hh, hl, rr⟩ := R1.at' hs1
            subst e1
            obtain ⟨K1, K2⟩ := ok C mC
            obtain ⟨z1, z2⟩ := put_zip (f := f) (v := v) hl
            have eo : off A (upd H1 p (.ins C dx (putF f v (ns.zip fvs)))) = off A H1 := off_in hA
            refine ⟨.ref p, hu, p, C, dx, _, rfl, hh, K1, K2, by simp; omega, q A σ _ (by rw [eo]; exact ex1.off) ?_⟩
            refine R1.upds (ps := [(i, _)]) (fun b u hb nb => ?_) fun j t hj => ?_
            · rw [upd_ne fun y => nb i _ List.mem_cons_self (by rw [y]; exact hu)]; exact hb
            · obtain ⟨rfl, rfl⟩ : j = i ∧ t = _ := by simpa using hj
              exact ⟨⟨_, hs1, rfl⟩, rfl, .ref p, hu, p, C, dx, _, rfl, hA, mC, by rw [upd_same, z1], z2, by rw [eo]; exact put_reps r1 hl rr⟩
          · rw [if_neg hc] at q; exact q.elim
        | _ => exact q.elim
end
end DL
namespace DL
open PySem L2
section
variable (P : Program) (w : World) (K : PySem.W.Frag) (mg : Str → Option Value) (base : Heap)
def DefOk (x : Str) (k : Nat) (φ : Fn) : Prop :=
  ∃ (f : Addr) (fd : FuncData) (ps : List Str), mg x = some (.ref f) ∧ PySem.W.keepIn K (.ref f) = true ∧ Binds K fd ps [] ∧ FnOk P w K mg base (L2N.CX P w) k f fd ps (spD K mg φ)
def MethOk (c m : Str) (k : Nat) (φ : Fn) : Prop :=
  ∃ (C f : Addr) (fd : FuncData) (ps : List Str), mg c = some (.ref C) ∧ Cls K C ∧ Meth K C m f ∧ Binds K fd ps [] ∧ FnOk P w K mg base (L2N.CX P w) k f fd ps (spD K mg φ)
def MakeOk (c : Str) (k : Nat) (φ : Fn) : Prop :=
  ∃ (C f : Addr) (fd : FuncData) (ps : List Str), mg c = some (.ref C) ∧ Mk K C f ∧ Binds K fd ps [] ∧ FnOk P w K mg base (L2N.CX P w) k f fd ps (spD K mg φ)
end
section
variable {X : Cx} {k : Nat} {φ : Fn} {x m : Str} {p pos apos : Pos} {e o : Expr} {es : List Expr} {as : List Arg} {mo : M D}
theorem de_callD (D : DefOk X.prog X.w X.K X.mg X.base x k φ) (hr : Room k X.A) (ha : DA X (e :: es) as) (hg : Gl X x := by rfl) (hdb : (x == ("__debug__" : Str)) = false := by decide) (he : starEach (e :: es) X.env = (false, eval e X.env) :: starEach es X.env := by rfl)
    (hpl : (backTo pos (starEach es X.env)).any (·.1) = false := by rfl) : DE X (.Call (.Name x p) (e :: es) [] pos) (callF φ as) := by
  obtain ⟨f, fd, ps, hm, hk, hb, F⟩ := D
  exact de_call F hr hg hm hk hb ha hdb he hpl
theorem de_makeD (D : MakeOk X.prog X.w X.K X.mg X.base x k φ) (hr : Room (k + 1) X.A) (ha : DA X (e :: es) as) (hg : Gl X x := by rfl) (hdb : (x == ("__debug__" : Str)) = false := by decide) (he : starEach (e :: es) X.env = (false, eval e X.env) :: starEach es X.env := by rfl)
    (hpl : (backTo pos (starEach es X.env)).any (·.1) = false := by rfl) : DE X (.Call (.Name x p) (e :: es) [] pos) (makeF x φ as) := by
  obtain ⟨C, f, fd, ps, hC, M', hb, F⟩ := D
  exact de_make hC M' F hr hg hb ha hdb he hpl
theorem de_methD {c : Str} {pl : Sem Bool} (D : MethOk X.prog X.w X.K X.mg X.base c m k φ) (hr : Room k X.A) (ho : DE X o mo) (ha : DA X (e :: es) as) (hst : starEach (e :: es) X.env = (false, eval e X.env) :: starEach es X.env := by rfl) (hpl : (backTo pos (starEach es X.env)).any (·.1) = false := by rfl)
    (ht : eval (.Call (.Attribute o m apos) (e :: es) [] pos) X.env = (do
      let q ← eval o X.env
      standAt apos.atName
      let (g, fst) ← holding [q] (getMethod q m pl)
      callWith pos g fst (backTo pos (starEach (e :: es) X.env)) (backToKw pos (keywordEach [] X.env))) := by rfl) :
    DE X (.Call (.Attribute o m apos) (e :: es) [] pos) (methF c m φ mo as) := by
  obtain ⟨C, f, fd, ps, hC, hc, hm, hb, F⟩ := D
  exact de_meth hC hc hm F hr hb ho ha hst hpl ht
theorem de_methD0 {c : Str} {pl : Sem Bool} (D : MethOk X.prog X.w X.K X.mg X.base c m k φ) (hr : Room k X.A) (ho : DE X o mo)
    (ht : eval (.Call (.Attribute o m apos) [] [] pos) X.env = (do
      let q ← eval o X.env
      standAt apos.atName
      let (g, fst) ← holding [q] (getMethod q m pl)
      callWith pos g fst (backTo pos (starEach [] X.env)) (backToKw pos (keywordEach [] X.env))) := by rfl) :
    DE X (.Call (.Attribute o m apos) [] [] pos) (methF c m φ mo []) := by
  obtain ⟨C, f, fd, ps, hC, hc, hm, hb, F⟩ := D
  exact de_meth0 hC hc hm F hr hb ho ht
end
section
variable {P : Program} {w : World} {K : PySem.W.Frag} {mg : Str → Option Value} {base : Heap} {x c qual : Str} {st : Stmt} {f C : Addr} {fd : FuncData} {N ps : List Str} {k loc : Nat} {m : S}
theorem def_ok (F : Fun K x qual st f fd) (hm : mg x = some (.ref f)) (hb : Binds K fd ps []) (Sc : FnScope N ps (defScope st)) (hN : N.length = ps.length + loc)
    (hbody : ∀ (cdv : Value) (A : Around) (outer : List Env) (s : Shared) (H : Hp) (E : XK), Room k (A.deeper (PyProof.Rows.envOfC qual (defScope st) s.heap.objs.size f cdv)) →
      DSs (cxOf (L2N.CX P w) P w K mg base N qual (defScope st) f cdv A outer s H E) ps.length (defBody st) m) : DefOk P w K mg base x (k + 1) (fnF ps.length loc m) :=
  ⟨f, fd, ps, hm, F.kp, hb, fn_ok F Sc hN hbody⟩
theorem meth_ok (F : Fun K x qual st f fd) (hC : mg c = some (.ref C)) (hc : Cls K C) (hm : Meth K C x f) (hb : Binds K fd ps []) (Sc : FnScope N ps (defScope st)) (hN : N.length = ps.length + loc)
    (hbody : ∀ (cdv : Value) (A : Around) (outer : List Env) (s : Shared) (H : Hp) (E : XK), Room k (A.deeper (PyProof.Rows.envOfC qual (defScope st) s.heap.objs.size f cdv)) →
      DSs (cxOf (L2N.CX P w) P w K mg base N qual (defScope st) f cdv A outer s H E) ps.length (defBody st) m) : MethOk P w K mg base c x (k + 1) (fnF ps.length loc m) :=
  ⟨C, f, fd, ps, hC, hc, hm, hb, fn_ok F Sc hN hbody⟩
theorem make_ok (F : Fun K "__init__" qual st f fd) (hC : mg c = some (.ref C)) (hm : Mk K C f) (hb : Binds K fd ps []) (Sc : FnScope N ps (defScope st)) (hN : N.length = ps.length + loc)
    (hbody : ∀ (cdv : Value) (A : Around) (outer : List Env) (s : Shared) (H : Hp) (E : XK), Room k (A.deeper (PyProof.Rows.envOfC qual (defScope st) s.heap.objs.size f cdv)) →
      DSs (cxOf (L2N.CX P w) P w K mg base N qual (defScope st) f cdv A outer s H E) ps.length (defBody st) m) : MakeOk P w K mg base c (k + 1) (fnF ps.length loc m) :=
  ⟨C, f, fd, ps, hC, hm, hb, fn_ok F Sc hN hbody⟩
theorem def_bad (F : Fun K x qual st f fd) (hm : mg x = some (.ref f)) (hb : Binds K fd ps []) : DefOk P w K mg base x k (fun _ => .bad) :=
  ⟨f, fd, ps, hm, F.kp, hb, ⟨fun vs H Q E h => by obtain ⟨B, as, a, q⟩ := h; exact q.elim, fun A outer s H args us vs Q E hr e0 hbi r h => by obtain ⟨B, as, a, q⟩ := h; exact q.elim⟩⟩
end
end DL
namespace DL
open PySem L2
abbrev addI : D → D → Option D := fun x y => match x, y with | .int i, .int j => some (.int (i + j)) | _, _ => none
theorem un64m {k : Nat} {A : Around} {v : Option Value} (r : Room k A) : (A.mark v).units + 64 < cLine := (show A.units + 64 < cLine from un64 r)
theorem un65m {k : Nat} {A : Around} {v : Option Value} (r : Room k A) : (A.mark v).units + 65 < cLine := (show A.units + 65 < cLine from un65 r)
theorem bt_int : bootBuiltins "int" = some (.type Ty.int.nm) := by decide +kernel
theorem bt_bool : bootBuiltins "bool" = some (.type Ty.bool.nm) := by decide +kernel
theorem bt_str : bootBuiltins "str" = some (.type Ty.str.nm) := by decide +kernel
theorem bt_list : bootBuiltins "list" = some (.type Ty.list.nm) := by decide +kernel
theorem bt_tuple : bootBuiltins "tuple" = some (.type Ty.tuple.nm) := by decide +kernel
section
variable {X : Cx}
theorem dgn (i : Nat) {x : Str} {pos : Pos} (hN : X.N.Nodup) (hi : X.N[i]? = some x := by rfl) (hx : Loc X.env.scope x := by first | exact Or.inl rfl | exact Or.inr rfl) (hf : X.fn x = true ∨ X.env.scope.names.lookup x = some .local := by first | exact .inl rfl | exact .inr rfl) : DG X (.Name x pos) [i] (gN i) :=
  dg_name (pg_name hN hi hx hf)
end
def isiC (c : Str) : D → Option D
  | .obj c' _ _ => if c' = c then some (.bl true) else none
  | d => d.tn.map fun _ => .bl false
structure InsF (K : PySem.W.Frag) (C : Addr) : Prop where
  cl : Cls K C
  ha : PySem.W.findIn K (.ref C) "__class__" = some (some (.builtin "object.__class__"))
  hn : PySem.W.specialIn K (.builtin "object.__class__") "__get__" = some (some (.builtin "getset_descriptor.__get__"))
  ht : PySem.W.takesIn K (.builtin "object.__class__") = some true
  hm : PySem.W.mroIn K C (.type "object") = some true
def tyNames : List String := ["NoneType", "bool", "int", "str", "list", "tuple"]
def IsCls (K : PySem.W.Frag) (mg : Str → Option Value) (c : Str) : Prop := ∃ C : Addr, mg c = some (.ref C) ∧ InsF K C ∧ tyNames.all (fun n => decide (PySem.W.kitOne K (.type n) (.ref C) = some false)) = true
section
variable {X : Cx} {a : Expr} {x : Arg} {p p2 pos : Pos}
theorem tn_mem {d : D} {n : String} (h : d.tn = some n) : n ∈ tyNames := by
  cases d <;> first | (cases (Option.some.inj h); decide) | cases h
theorem de_isiC {nm : Str} (hg : Gl X "isinstance") (hm : X.mg "isinstance" = none) (hg2 : Gl X nm) (T : IsCls X.K X.mg nm) (ha : DO X a x) (hdb : (nm == ("__debug__" : Str)) = false := by decide)
    (hs : starEach [a, .Name nm p2] X.env = (false, eval a X.env) :: starEach [.Name nm p2] X.env := by rfl) (hs2 : starEach [.Name nm p2] X.env = (false, eval (.Name nm p2) X.env) :: starEach [] X.env := by rfl)
    (hpl : (backTo pos (starEach [.Name nm p2] X.env)).any (·.1) = false := by rfl) : DE X (.Call (.Name "isinstance" p) [a, .Name nm p2] [] pos) (op1 (isiC nm) x) := by
  obtain ⟨C, mC, I, hk⟩ := T
  refine de_one (r := fun v H Q => rIsi X.K [v, .ref C] H Q) (fun ta h => pe_imp (pe_callB call_isi hg hm PyProof.Rows.boot_isinstance (pa_cons h (pa_cons (pe_glob (v := .ref C) hg2 mC rfl hdb) pa_nil hs2) hs) (he := hs) (hpl := hpl)) fun σ H Q q => q) ?_ ha
  intro A H d0 d v Q tk rx e q
  have no : ∀ n, d0.tn = some n → TyX X.K H v (.type n) → d = .bl false → rIsi X.K [v, .ref C] H Q := fun n hn ty e => by
    have k := of_decide_eq_true (List.all_eq_true.mp hk n (tn_mem hn))
    exact ⟨v, .ref C, .type n, .ref C, false, rfl, .own C, ty, k, q _ _ (Same.refl _) (by rw [e]; rfl)⟩
  cases d0 with
  | obj c' ns l =>
    have e : (if c' = nm then some (D.bl true) else none) = some d := e
    by_cases hc : c' = nm
    · rw [if_pos hc] at e
      cases (Option.some.inj e)
      obtain ⟨b, C', dx, fvs, rfl, m, hh, _⟩ := rx
      have m' : X.mg c' = some (.ref C') := m
      rw [hc, mC] at m'
      cases m'
      exact ⟨.ref b, .ref C, .ref C, .ref C, true, rfl, .own C, .base (.ins hh I.cl I.ha I.hn I.ht I.hm), by unfold PySem.W.kitOne; rw [if_pos (by simp)], q _ _ (Same.refl _) rfl⟩
    · rw [if_neg hc] at e; cases e
  | fn _ => cases e
  | non => cases (Option.some.inj e); exact no _ rfl (tyx_of rx rfl) rfl
  | bl _ => cases (Option.some.inj e); exact no _ rfl (tyx_of rx rfl) rfl
  | int _ => cases (Option.some.inj e); exact no _ rfl (tyx_of rx rfl) rfl
  | str _ => cases (Option.some.inj e); exact no _ rfl (tyx_of rx rfl) rfl
  | tup _ => cases (Option.some.inj e); exact no _ rfl (tyx_of rx rfl) rfl
  | lst _ => cases (Option.some.inj e); exact no _ rfl (tyx_of rx rfl) rfl
  | scr _ => cases (Option.some.inj e); exact no _ rfl (tyx_of rx rfl) rfl
end
/-- c is an error class that is caught with its fields fs; tbl: which of the known classes it catches -/
def ExcT (K : PySem.W.Frag) (mg : Str → Option Value) (known : List Str) (tbl : Str → Bool) (c : Str) (fs : List Str) : Prop :=
  ∃ C : Addr, mg c = some (.ref C) ∧ XfC K C ∧ (∀ f ∈ fs, PySem.W.findIn K (.ref C) f = some none) ∧ ∀ e ∈ known, ∀ C', mg e = some (.ref C') → PySem.W.exmOne K (.ref C') (.ref C) = some (tbl e)
section
variable {X : Cx} {x n : Str} {i np : Nat} {body suite : List Stmt} {b0 : Stmt} {npp pos pos' : Pos} {sb ss : S} {known : List Str} {tbl : Str → Bool} {fs : List Str}
theorem ds_tryT (T : ExcT X.K X.mg known tbl x fs) (hc0 : X.calm = true) (hs : X.stack = X.env :: X.outer) (hf : X.env.frame = some X.env.locals) (hN : X.N.Nodup) (hi : X.N[i]? = some n) (hln : X.env.kindOf n = some .local) (hg : Gl X x)
    (hb : ∀ (pn : List (Addr × Obj)) (xe : Value → Shared → Prop), PassesOwn (model X.prog X.w) X.A X.env xe → DSs (X.tr pn xe) np body sb)
    (hsu : ∀ (a : Addr) (oe : Obj) (cls : Value) (d : Option Addr) (pn : List (Addr × Obj)), Zc cls d oe → (∃ vs, oe.data = .fields vs) → DSs (X.suite a ((a, oe) :: pn)) np (b0 :: suite) ss) (hdb : (x == ("__debug__" : Str)) = false := by decide) :
    DS X np (.Try body [.ExceptHandler (some (.Name x npp)) (some n) (b0 :: suite) pos'] [] [] pos) (sTry known tbl i sb ss) := by
  obtain ⟨C, mC, _, _, h4⟩ := T
  exact ds_try_as (c := .ref C) hc0 hs hf hN hi hln ⟨hg, hdb, .inl mC⟩ h4 hb hsu
theorem de_xfT {a : Addr} {oe : Obj} {cls : Value} {d : Option Addr} {pn : List (Addr × Obj)} {e : Expr} {f : Str} (T : ExcT X.K X.mg known tbl x fs) (hff : f ∈ fs) (hz : Zc cls d oe) (hv : ∃ vs, oe.data = .fields vs)
    (ho : PE (X.suite a ((a, oe) :: pn)) e (tVar i)) (hb : attributeBase e f X.env (eval e X.env) = eval e X.env := by rfl) : DE (X.suite a ((a, oe) :: pn)) (.Attribute e f pos) (exF i x f) := by
  obtain ⟨C, mC, h2, h3, _⟩ := T
  exact de_xf h2 (h3 f hff) mC hz hv ho hb
end
end DL
namespace DL
open PySem L2
/-- what a name shall hold: a value, a new list of its own -/
inductive Y where
  | d (d : D) | o (l : List D)
section
variable {K : PySem.W.Frag} {mg : Str → Option Value} {w : Wd} {A A' : List Addr} {ρ ρ' : Ev} {σ σ' : L2.St} {H H' : Hp}
def YR (K : PySem.W.Frag) (mg : Str → Option Value) (w : Wd) (A : List Addr) (ρ : Ev) (σ : L2.St) (H : Hp) : Y → V → Prop
  | .d d, v => Rep K mg (off A H) d v
  | .o l, v => ∃ p vs, v = .ref p ∧ p ∈ A ∧ H p = some (.lst vs) ∧ Reps K mg (off A H) l vs ∧ (∀ (j : Nat) s, ρ[j]? = some s → s.isOwn = true → σ[j]? ≠ some (some (.ref p))) ∧ w.G p = none ∧ p ∉ w.B
inductive YRs (K : PySem.W.Frag) (mg : Str → Option Value) (w : Wd) (A : List Addr) (ρ : Ev) (σ : L2.St) (H : Hp) : List Y → List V → Prop
  | nil : YRs K mg w A ρ σ H [] []
  | cons {y v ys vs} : YR K mg w A ρ σ H y v → YRs K mg w A ρ σ H ys vs → (∀ l l' (k : Nat), y = .o l → ys[k]? = some (.o l') → vs[k]? ≠ some v) → YRs K mg w A ρ σ H (y :: ys) (v :: vs)
structure Grw (A : List Addr) (H : Hp) (A' : List Addr) (H' : Hp) : Prop where
  s : Same H H'
  f : Same (off A H) (off A' H')
  i : ∀ a ∈ A, a ∈ A'
theorem Grw.refl : Grw A H A H := ⟨Same.refl _, Same.refl _, fun _ h => h⟩
theorem Grw.trans {A2 : List Addr} {H2 : Hp} (a : Grw A H A' H') (b : Grw A' H' A2 H2) : Grw A H A2 H2 := ⟨a.s.trans b.s, a.f.trans b.f, fun x h => b.i x (a.i x h)⟩
theorem YR.grw (g : Grw A H A' H') : ∀ {y : Y} {v : V}, YR K mg w A ρ σ H y v → YR K mg w A' ρ σ H' y v
  | .d d, v, r => Rep.mono g.f d v r
  | .o l, v, ⟨p, vs, e, m, h, r, n1, n2, n3⟩ => ⟨p, vs, e, g.i p m, g.s _ _ h, r.mono g.f, n1, n2, n3⟩
def setAll : L2.St → List Nat → List V → L2.St
  | σ, i :: is, v :: vs => setAll (σ.set i (some v)) is vs
  | σ, _, _ => σ
def storeQ (np : Nat) : List Nat → List Y → Ev → Option Ev
  | [], [], ρ => some ρ
  | i :: is, .d d :: ys, ρ => (gN i d ρ).bind (storeQ np is ys)
  | i :: is, .o l :: ys, ρ => match ρ[i]? with
    | some _ => if np ≤ i then storeQ np is ys (ρ.set i (.own l)) else none
    | none => none
  | _, _, _ => none
theorem yrs_slot {i : Nat} {t : Slot} {u : V} : ∀ {ys : List Y} {vs : List V}, (t.isOwn = true → ∀ (k : Nat) l, ys[k]? = some (.o l) → vs[k]? ≠ some u) → YRs K mg w A ρ σ H ys vs → YRs K mg w A (ρ.set i t) (σ.set i (some u)) H ys vs
  | _, _, _, .nil => .nil
  | y :: ys, v :: vs, ht, .cons r t' d => by
    refine .cons ?_ (yrs_slot (fun o k l hk => by simpa using ht o (k + 1) l (by simpa using hk)) t') d
    cases y with
    | d x => exact r
    | o l =>
      obtain ⟨p, ws, e, m, h, rr, n1, n2, n3⟩ := r
      refine ⟨p, ws, e, m, h, rr, fun j s h1 o1 z => ?_, n2, n3⟩
      by_cases hj : j = i
      · subst hj
        by_cases lj : j < ρ.length
        · rw [List.getElem?_set_self lj] at h1
          cases h1
          by_cases ls : j < σ.length
          · rw [List.getElem?_set_self ls] at z
            cases z
            exact ht o1 0 l (by simp) (by simp [e])
          · rw [List.getElem?_eq_none (by simpa using ls)] at z; cases z
        · rw [List.getElem?_eq_none (by simpa using lj)] at h1; cases h1
      · rw [List.getElem?_set_ne (Ne.symm hj)] at h1 z
        exact n1 j s h1 o1 z
theorem store_all {np : Nat} (hn : w.np = np) : ∀ {is : List Nat} {ys : List Y} {vs : List V} {ρ ρ' : Ev} {σ : L2.St}, SR K mg w A ρ σ H → YRs K mg w A ρ σ H ys vs → storeQ np is ys ρ = some ρ' → SR K mg w A ρ' (setAll σ is vs) H
  | [], [], _, ρ, ρ', σ, R, .nil, e => by cases (Option.some.inj e); exact R
  | [], _ :: _, _, ρ, ρ', σ, R, _, e => by cases e
  | _ :: _, [], _, ρ, ρ', σ, R, _, e => by cases e
  | i :: is, .d d :: ys, v :: vs, ρ, ρ', σ, R, .cons r t di, e => by
    have e : (gN i d ρ).bind (storeQ np is ys) = some ρ' := e
    obtain ⟨ρ1, e1, e2⟩ := Option.bind_eq_some_iff.mp e
    obtain ⟨s, k1, k2, rfl⟩ := gN_slot e1
    show SR K mg w A ρ' (setAll (σ.set i (some v)) is vs) H
    exact store_all hn (R.set k1 k2 r) (yrs_slot (t := .val d) (fun o => Bool.noConfusion o) t) e2
  | i :: is, .o l :: ys, v :: vs, ρ, ρ', σ, R, .cons r t di, e => by
    have e : (match ρ[i]? with
      | some _ => if np ≤ i then storeQ np is ys (ρ.set i (.own l)) else none
      | none => none) = some ρ' := e
    cases hs : ρ[i]? with
    | none => rw [hs] at e; cases e
    | some s0 =>
      rw [hs] at e
      dsimp only at e
      by_cases hi : np ≤ i
      · rw [if_pos hi] at e
        obtain ⟨p, ws, rfl, m, h, rr, n1, n2, n3⟩ := r
        show SR K mg w A ρ' (setAll (σ.set i (some (.ref p))) is vs) H
        exact store_all hn (R.hold hs (by omega) h m rr n1 n2 n3) (yrs_slot (fun _ k l' hk => di l l' k rfl hk) t) e
      · rw [if_neg hi] at e; cases e
end
inductive QA where
  | k (d : D) | x (i : Nat) | n (ds : List D) | l (ds : List D)
def QA.ev (ρ : Ev) : QA → Option Y
  | .k d => some (.d d)
  | .x i => match ρ[i]? with
    | some (.val d) => some (.d d)
    | _ => none
  | .n ds => if ds.length ≤ sizeLine then some (.o ds) else none
  | .l ds => if ds.length ≤ sizeLine then some (.d (.lst ds)) else none
def evQ (ρ : Ev) : List QA → Option (List Y)
  | [] => some []
  | q :: qs => (q.ev ρ).bind fun y => (evQ ρ qs).map fun ys => y :: ys
/-- the reading of a quiet row -/
def tQ (K : PySem.W.Frag) (mg : Str → Option Value) (qs : List QA) : TA := fun σ H Q => ∃ w A ρ, SR K mg w A ρ σ H ∧ match evQ ρ qs with
  | some ys => ∀ vs A' H', Grw A H A' H' → SR K mg w A' ρ σ H' → YRs K mg w A' ρ σ H' ys vs → (∀ (k : Nat) l v, ys[k]? = some (.o l) → vs[k]? = some v → ∃ p, v = .ref p ∧ H p = none) → Q vs H'
  | none => False
def DQ (X : Cx) (es : List Expr) (qs : List QA) : Prop := PA X es (tQ X.K X.mg qs)
section
variable {X : Cx} {e : Expr} {es : List Expr} {qs : List QA} {pos : Pos}
theorem dq_nil : DQ X [] [] := pa_imp pa_nil fun σ H Q ⟨w, A, ρ, R, q⟩ => q [] A H .refl R .nil (fun k l v h => by simp at h)
/-- a value that is there -/
theorem dq_v {q : QA} {te : TE} {y : D} (he : PE X e te) (t : DQ X es qs) (hev : ∀ ρ y, q.ev ρ = some y → ∃ d, y = .d d)
    (hr : ∀ w A ρ σ H (Q : VK) d, SR X.K X.mg w A ρ σ H → q.ev ρ = some (.d d) → (∀ v, Rep X.K X.mg (off A H) d v → Q v H) → te σ H Q) (hs : starEach (e :: es) X.env = (false, eval e X.env) :: starEach es X.env := by rfl) : DQ X (e :: es) (q :: qs) :=
  pa_imp (pa_cons he t hs) fun σ H Q ⟨w, A, ρ, R, z⟩ => by
    have e0 : evQ ρ (q :: qs) = (q.ev ρ).bind fun y => (evQ ρ qs).map fun ys => y :: ys := rfl
    rw [e0] at z
    cases h1 : q.ev ρ with
    | none => rw [h1] at z; exact z.elim
    | some y =>
      rw [h1] at z
      obtain ⟨d, rfl⟩ := hev ρ y h1
      refine hr w A ρ σ H _ d R h1 fun v rv => ⟨w, A, ρ, R, ?_⟩
      cases h2 : evQ ρ qs with
      | none => rw [h2] at z; exact z.elim
      | some ys =>
        rw [h2] at z
        intro vs A' H' g R' rs fr
        refine z (v :: vs) A' H' g R' (.cons (Rep.mono g.f d v rv) rs fun l l' k e => by cases e) fun k l u hk hu => ?_
        cases k with
        | zero => simp at hk
        | succ k => exact fr k l u (by simpa using hk) (by simpa using hu)
theorem dq_k {d : D} {v : V} (he : PE X e (tC v)) (hd : ∀ F, Rep X.K X.mg F d v) (t : DQ X es qs) (hs : starEach (e :: es) X.env = (false, eval e X.env) :: starEach es X.env := by rfl) : DQ X (e :: es) (.k d :: qs) :=
  dq_v (y := d) he t (fun ρ y h => ⟨d, (Option.some.inj h).symm⟩) (fun w A ρ σ H Q d' R h q => by cases (Option.some.inj h); exact q v (hd _)) hs
theorem dq_int {i : Int} {j} (t : DQ X es qs) (hs : starEach (.Constant (.int i) j pos :: es) X.env = (false, eval (.Constant (.int i) j pos) X.env) :: starEach es X.env := by rfl) : DQ X (.Constant (.int i) j pos :: es) (.k (.int i) :: qs) := dq_k pe_int (fun _ => rfl) t hs
theorem dq_bl {i : Bool} {j} (t : DQ X es qs) (hs : starEach (.Constant (.bool i) j pos :: es) X.env = (false, eval (.Constant (.bool i) j pos) X.env) :: starEach es X.env := by rfl) : DQ X (.Constant (.bool i) j pos :: es) (.k (.bl i) :: qs) := dq_k pe_bl (fun _ => rfl) t hs
theorem dq_non {j} (t : DQ X es qs) (hs : starEach (.Constant .none j pos :: es) X.env = (false, eval (.Constant .none j pos) X.env) :: starEach es X.env := by rfl) : DQ X (.Constant .none j pos :: es) (.k .non :: qs) := dq_k pe_non (fun _ => rfl) t hs
theorem dq_var {i : Nat} (he : PE X e (tVar i)) (t : DQ X es qs) (hs : starEach (e :: es) X.env = (false, eval e X.env) :: starEach es X.env := by rfl) : DQ X (e :: es) (.x i :: qs) :=
  dq_v (y := .non) he t (fun ρ y h => by
    have h : (match ρ[i]? with
      | some (.val d) => some (Y.d d)
      | _ => none) = some y := h
    split at h
    · rename_i d hd; exact ⟨d, (Option.some.inj h).symm⟩
    · cases h) (fun w A ρ σ H Q d' R h q => by
    have h : (match ρ[i]? with
      | some (.val d) => some (Y.d d)
      | _ => none) = some (.d d') := h
    split at h
    · rename_i d hd
      cases (Option.some.inj h)
      obtain ⟨v, h1, h2⟩ := R.val hd
      exact ⟨v, h1, q v h2⟩
    · cases h) hs
/-- a new list of constants -/
inductive Cs (X : Cx) : List Expr → List D → Prop
  | nil : Cs X [] []
  | cons {e es d ds v} : PE X e (tC v) → (∀ F, Rep X.K X.mg F d v) → starEach (e :: es) X.env = (false, eval e X.env) :: starEach es X.env → Cs X es ds → Cs X (e :: es) (d :: ds)
theorem Cs.pa {es : List Expr} {ds : List D} (c : Cs X es ds) : ∃ vs, PA X es (fun _ H Q => Q vs H) ∧ ∀ F, Reps X.K X.mg F ds vs := by
  induction c with
  | nil => exact ⟨[], pa_nil, fun _ => rfl⟩
  | @cons e es d ds v he hd hs _ ih =>
    obtain ⟨vs, h1, h2⟩ := ih
    exact ⟨v :: vs, pa_imp (pa_cons he h1 hs) fun σ H Q q => q, fun F => .cons (hd F) (h2 F)⟩
theorem dq_new {es0 : List Expr} {ds : List D} (c : Cs X es0 ds) (t : DQ X es qs) (hs : starEach (.List es0 pos :: es) X.env = (false, eval (.List es0 pos) X.env) :: starEach es X.env := by rfl) : DQ X (.List es0 pos :: es) (.n ds :: qs) := by
  obtain ⟨ws, h1, h2⟩ := c.pa
  refine pa_imp (pa_cons (pe_lst h1) t hs) fun σ H Q ⟨w, A, ρ, R, z⟩ => ?_
  have e0 : evQ ρ (.n ds :: qs) = (if ds.length ≤ sizeLine then some (Y.o ds) else none).bind fun y => (evQ ρ qs).map fun ys => y :: ys := rfl
  rw [e0] at z
  by_cases hl : ds.length ≤ sizeLine
  · rw [if_pos hl] at z
    refine ⟨by rw [← (h2 (fun _ => none)).length]; exact hl, fun p hp => ?_⟩
    have nB : p ∉ w.B := fun y => R.trk p (R.sub p y) hp
    have R1 : SR X.K X.mg w (p :: A) ρ σ (upd H p (.lst ws)) := R.growA hp
    have g1 : Grw A H (p :: A) (upd H p (.lst ws)) := ⟨same_upd hp, by rw [off_cons hp]; exact Same.refl _, fun a ha => List.mem_cons_of_mem _ ha⟩
    refine ⟨w, p :: A, ρ, R1, ?_⟩
    cases h3 : evQ ρ qs with
    | none => rw [h3] at z; exact z.elim
    | some ys =>
      rw [h3] at z
      intro vs A' H' g R' rs fr
      have y1 : YR X.K X.mg w (p :: A) ρ σ (upd H p (.lst ws)) (.o ds) (.ref p) := ⟨p, ws, rfl, List.mem_cons_self, upd_same, h2 _, R.stood hp, R.noG hp, nB⟩
      refine z (.ref p :: vs) A' H' (g1.trans g) R' (.cons (y1.grw g) rs fun l l' k e1 hk hv => ?_) fun k l v hk hv => ?_
      · obtain ⟨p', e2, n2⟩ := fr k l' _ hk hv
        cases e2
        rw [upd_same] at n2
        cases n2
      · cases k with
        | zero => simp at hv; exact ⟨p, hv.symm, hp⟩
        | succ k =>
          obtain ⟨p', e2, n2⟩ := fr k l v (by simpa using hk) (by simpa using hv)
          refine ⟨p', e2, ?_⟩
          by_cases hq : p' = p
          · rw [hq]; exact hp
          · rwa [upd_ne hq] at n2
  · rw [if_neg hl] at z; exact z.elim
/-- a new list, as a value -/
theorem dq_lst {es0 : List Expr} {ds : List D} (c : Cs X es0 ds) (t : DQ X es qs) (hs : starEach (.List es0 pos :: es) X.env = (false, eval (.List es0 pos) X.env) :: starEach es X.env := by rfl) : DQ X (.List es0 pos :: es) (.l ds :: qs) := by
  obtain ⟨ws, h1, h2⟩ := c.pa
  refine pa_imp (pa_cons (pe_lst h1) t hs) fun σ H Q ⟨w, A, ρ, R, z⟩ => ?_
  have e0 : evQ ρ (.l ds :: qs) = (if ds.length ≤ sizeLine then some (Y.d (.lst ds)) else none).bind fun y => (evQ ρ qs).map fun ys => y :: ys := rfl
  rw [e0] at z
  by_cases hl : ds.length ≤ sizeLine
  · rw [if_pos hl] at z
    refine ⟨by rw [← (h2 (fun _ => none)).length]; exact hl, fun p hp => ?_⟩
    have R1 : SR X.K X.mg w A ρ σ (upd H p (.lst ws)) := R.new hp
    have g1 : Grw A H A (upd H p (.lst ws)) := ⟨same_upd hp, off_Same (same_upd hp), fun a ha => ha⟩
    refine ⟨w, A, ρ, R1, ?_⟩
    cases h3 : evQ ρ qs with
    | none => rw [h3] at z; exact z.elim
    | some ys =>
      rw [h3] at z
      intro vs A' H' g R' rs fr
      have y1 : YR X.K X.mg w A ρ σ (upd H p (.lst ws)) (.d (.lst ds)) (.ref p) := ⟨p, ws, rfl, off_at upd_same (R.notA hp), h2 _⟩
      refine z (.ref p :: vs) A' H' (g1.trans g) R' (.cons (y1.grw g) rs fun l l' k e1 => by cases e1) fun k l v hk hv => ?_
      cases k with
      | zero => simp at hk
      | succ k =>
        obtain ⟨p', e2, n2⟩ := fr k l v (by simpa using hk) (by simpa using hv)
        refine ⟨p', e2, ?_⟩
        by_cases hq : p' = p
        · rw [hq]; exact hp
        · rwa [upd_ne hq] at n2
  · rw [if_neg hl] at z; exact z.elim
def oneQ (m : Option (M D)) (qs : List QA) : M (List Y) := fun ρ => match m with
  | none => (match evQ ρ qs with
    | some ys => .ok ys ρ
    | none => .bad)
  | some m => (match m ρ with
    | .ok d ρ' => (match evQ ρ' qs with
      | some ys => .ok (.d d :: ys) ρ'
      | none => .bad)
    | .exc e ρ' => .exc e ρ'
    | .bad => .bad)
def tR (K : PySem.W.Frag) (mg : Str → Option Value) (W : WZ) (m : Option (M D)) (qs : List QA) : TA := fun σ H Q => ∃ (w : WS W) (A : List Addr) (ρ : Ev), SR K mg w A ρ σ H ∧ match oneQ m qs ρ with
  | .ok ys ρ' => ∀ vs A' H', Same (off A H) (off A' H') → SR K mg w A' ρ' σ H' → YRs K mg w A' ρ' σ H' ys vs → Q vs H'
  | .exc e ρ' => ∀ c dd H', Ext A H H' → SR K mg w A ρ' σ H' → ExR K mg A H' e c dd → W c dd σ H'
  | .bad => False
def DR (X : Cx) (es : List Expr) (m : Option (M D)) (qs : List QA) : Prop := ∀ W : WZ, TakesZ X W → PA X es (tR X.K X.mg W m qs)
theorem dr_q (h : DQ X es qs) : DR X es none qs := fun W tk => pa_imp h fun σ H Q ⟨w, A, ρ, R, z⟩ => by
  refine ⟨w, A, ρ, R, ?_⟩
  unfold oneQ at z
  dsimp only at z
  cases h1 : evQ ρ qs with
  | none => rw [h1] at z; exact z.elim
  | some ys => rw [h1] at z; exact fun vs A' H' g R' rs _ => z vs A' H' g.f R' rs
theorem dr_v {m : M D} (he : DE X e m) (h : DQ X es qs) (hs : starEach (e :: es) X.env = (false, eval e X.env) :: starEach es X.env := by rfl) : DR X (e :: es) (some m) qs := fun W tk => pa_imp (pa_cons (he W tk) h hs) fun σ H Q ⟨w, A, ρ, R, z⟩ => by
  refine ⟨w, A, ρ, R, ?_⟩
  unfold oneQ at z
  dsimp only at z
  cases h1 : m ρ with
  | bad => rw [h1] at z; exact z.elim
  | exc er ρ1 => rw [h1] at z; exact z
  | ok d ρ1 =>
    rw [h1] at z
    dsimp only at z
    intro v H1 ex1 R1 r1
    refine ⟨w, A, ρ1, R1, ?_⟩
    cases h2 : evQ ρ1 qs with
    | none => rw [h2] at z; exact z.elim
    | some ys => rw [h2] at z; exact fun vs A' H' g R' rs _ => z (v :: vs) A' H' (ex1.off.trans g.f) R' (.cons (Rep.mono g.f d v r1) rs fun l l' k e => by cases e)
def sRow (np : Nat) (is : List Nat) (m : Option (M D)) (qs : List QA) : S := fun ρ => match oneQ m qs ρ with
  | .ok ys ρ' => (match storeQ np is ys ρ' with
    | some ρ2 => .nx ρ2
    | none => .bad)
  | .exc e ρ' => .exc e ρ'
  | .bad => .bad
theorem yrs_len {K : PySem.W.Frag} {mg : Str → Option Value} {w : Wd} {A : List Addr} {ρ : Ev} {σ : L2.St} {H : Hp} : ∀ {ys : List Y} {vs : List V}, YRs K mg w A ρ σ H ys vs → ys.length = vs.length
  | _, _, .nil => rfl
  | _, _, .cons _ t _ => by simp [yrs_len t]
theorem storeQ_len {np : Nat} : ∀ {is : List Nat} {ys : List Y} {ρ ρ' : Ev}, storeQ np is ys ρ = some ρ' → is.length = ys.length
  | [], [], _, _, _ => rfl
  | [], _ :: _, _, _, h => by cases h
  | _ :: _, [], _, _, h => by cases h
  | i :: is, .d d :: ys, ρ, ρ', h => by
    have h : (gN i d ρ).bind (storeQ np is ys) = some ρ' := h
    obtain ⟨ρ1, _, e2⟩ := Option.bind_eq_some_iff.mp h
    simp [storeQ_len e2]
  | i :: is, .o l :: ys, ρ, ρ', h => by
    have h : (match ρ[i]? with
      | some _ => if np ≤ i then storeQ np is ys (ρ.set i (.own l)) else none
      | none => none) = some ρ' := h
    cases hs : ρ[i]? with
    | none => rw [hs] at h; cases h
    | some s0 =>
      rw [hs] at h
      dsimp only at h
      split at h
      · simp [storeQ_len h]
      · cases h
theorem row_end {W : WZ} {E : Ends} {np : Nat} {is : List Nat} {m : Option (M D)} {σ : L2.St} {H : Hp} {G : List V → Hp → Prop} (q : tS X.K X.mg np W (sRow np is m qs) E σ H) (hG : ∀ vs H1, vs.length = is.length → E.nx (setAll σ is vs) H1 → G vs H1) : tR X.K X.mg W m qs σ H G := by
  obtain ⟨w, A, ρ, hn, R, q⟩ := tS_iff.mp q
  refine ⟨w, A, ρ, R, ?_⟩
  unfold sRow at q
  cases h1 : oneQ m qs ρ with
  | bad => rw [h1] at q; exact q.elim
  | exc e ρ1 => rw [h1] at q; exact fun c dd H' ex R' z => q A σ H' c dd ex.off R' z
  | ok ys ρ1 =>
    rw [h1] at q
    dsimp only at q
    intro vs A1 H1 sm R1 rs
    cases h2 : storeQ np is ys ρ1 with
    | none => rw [h2] at q; exact q.elim
    | some ρ2 =>
      rw [h2] at q
      exact hG vs H1 (by rw [← yrs_len rs, storeQ_len h2]) (q A1 _ H1 sm (store_all hn R1 rs h2))
theorem ds_row2 {np i j : Nat} {x y : Str} {a b : Expr} {px py pt : Pos} {kt k2 pt2} {m : Option (M D)} (hc : X.calm = true) (hN : X.N.Nodup) (hi : X.N[i]? = some x) (hj : X.N[j]? = some y) (hij : i ≠ j) (hx : X.env.scope.names.lookup x = some .local) (hy : X.env.scope.names.lookup y = some .local) (ha : DR X [a, b] m qs)
    (hw : swappedStores [.Tuple [.Name x px, .Name y py] kt pt] (.Tuple [a, b] k2 pt2) X.env = pure (some [x, y]) := by rfl) (hs : swapsWithSole [.Tuple [.Name x px, .Name y py] kt pt] (.Tuple [a, b] k2 pt2) pos.line X.env = pure false := by rfl) :
    DS X np (.Assign [.Tuple [.Name x px, .Name y py] kt pt] (.Tuple [a, b] k2 pt2) pos) (sRow np [i, j] m qs) := fun W tk => ps_imp (ps_par hc hN hi hj hij hx hy (ha W tk) hw hs) fun E σ H q => row_end q fun vs H1 hl q => by
  match vs, hl, q with
  | [v, u], _, q => exact ⟨v, u, rfl, q⟩
theorem ds_row3 {np i j l : Nat} {x y z : Str} {a b c : Expr} {px py pz pt : Pos} {kt k2 pt2} {m : Option (M D)} (hc : X.calm = true) (hN : X.N.Nodup) (hi : X.N[i]? = some x) (hj : X.N[j]? = some y) (hl : X.N[l]? = some z) (hij : i ≠ j) (hil : i ≠ l) (hjl : j ≠ l) (hx : X.env.scope.names.lookup x = some .local)
    (hy : X.env.scope.names.lookup y = some .local) (hz : X.env.scope.names.lookup z = some .local) (ha : DR X [a, b, c] m qs)
    (hw : swappedStores [.Tuple [.Name x px, .Name y py, .Name z pz] kt pt] (.Tuple [a, b, c] k2 pt2) X.env = pure (some [x, y, z]) := by rfl) (hs : swapsWithSole [.Tuple [.Name x px, .Name y py, .Name z pz] kt pt] (.Tuple [a, b, c] k2 pt2) pos.line X.env = pure false := by rfl) :
    DS X np (.Assign [.Tuple [.Name x px, .Name y py, .Name z pz] kt pt] (.Tuple [a, b, c] k2 pt2) pos) (sRow np [i, j, l] m qs) := fun W tk => ps_imp (ps_par3 hc hN hi hj hl hij hil hjl hx hy hz (ha W tk) hw hs) fun E σ H q => row_end q fun vs H1 hl q => by
  match vs, hl, q with
  | [u, v, t], _, q => exact ⟨u, v, t, rfl, q⟩
/-- names in a row as targets -/
def gAll : List Nat → TGs
  | [] => gNil
  | i :: is => gCons (gName i) (gAll is)
theorem gAll_run {Q : L2.St → Hp → Prop} {H : Hp} : ∀ {is : List Nat} {vs : List V} {σ : L2.St}, vs.length = is.length → Q (setAll σ is vs) H → gAll is vs σ H Q
  | [], [], _, _, q => ⟨rfl, q⟩
  | [], _ :: _, _, h, _ => by simp at h
  | _ :: _, [], _, h, _ => by simp at h
  | i :: is, v :: vs, σ, h, q => ⟨v, vs, rfl, gAll_run (by simpa using h) q⟩
theorem ds_rowN {np : Nat} {is : List Nat} {ts es : List Expr} {pt : Pos} {kt k2 pt2} {m : Option (M D)} (hc : X.calm = true) (ht : PGs X ts (gAll is)) (hl : is.length ≤ sizeLine) (ha : DR X es m qs) (hn : (assignEach ts X.env).length = is.length := by rfl) (hst : (assignEach ts X.env).findIdx? (·.1) = none := by rfl)
    (hs : swapsWithSole [.Tuple ts kt pt] (.Tuple es k2 pt2) pos.line X.env = pure false := by rfl) (hw : swappedStores [.Tuple ts kt pt] (.Tuple es k2 pt2) X.env = pure none := by rfl) (h1 : (assignEach [.Tuple ts kt pt] X.env).map (·.2) = [assign (.Tuple ts kt pt) X.env] := by rfl) :
    DS X np (.Assign [.Tuple ts kt pt] (.Tuple es k2 pt2) pos) (sRow np is m qs) := fun W tk => by
  refine ⟨fun pins s σ H E I q => (ps_asg (pe_tup (ha W tk)) (pg_tup hc ht hn hst) hs hw h1).run pins s σ H E I ?_⟩
  obtain ⟨w, A, ρ, hnp, R, q⟩ := tS_iff.mp q
  refine ⟨w, A, ρ, R, ?_⟩
  unfold sRow at q
  cases h1 : oneQ m qs ρ with
  | bad => rw [h1] at q; exact q.elim
  | exc e ρ1 => rw [h1] at q; exact fun c dd H' ex R' z => q A σ H' c dd ex.off R' z
  | ok ys ρ1 =>
    rw [h1] at q
    dsimp only at q
    intro vs A1 H1 sm R1 rs
    cases h2 : storeQ np is ys ρ1 with
    | none => rw [h2] at q; exact q.elim
    | some ρ2 =>
      rw [h2] at q
      have hvl : vs.length = is.length := by rw [← yrs_len rs, storeQ_len h2]
      refine ⟨by omega, fun p hp => ⟨p, vs, rfl, .inl (.inl upd_same), hvl, gAll_run hvl ?_⟩⟩
      refine q A1 _ _ (sm.trans (off_Same (same_upd hp))) ?_
      exact (store_all hnp R1 rs h2).new hp
end
end DL
namespace DL
open PySem L2
section
open PySem.W PySem.Calls PyProof.Rows Builtin
variable {prog : Program} {w : World} {A : Around} {E : Value → Shared → Prop} {s : Shared} {K : Frag} {h₀ : Heap} {L x C f : Addr} {m : Str → Option Value} {ox : Obj} {od : Option Obj} {b tb : Value}
/-- a slot of object, by an instance -/
theorem slot_bound {id name : String} {args : List Value} {Q : Option Value → Shared → Prop} (X : K.In s.heap) (I : InstAt s.heap x ox C od) (hs : findIn K (.ref C) name = some (some (.builtin id))) (S : PySem.Slot "object" name id)
    (go : wpAny (model prog w) A (call (.builtin id) (.ref x :: args)) (fun v => Q (some v)) E s) : wpAny (model prog w) A (callSpecialIfBound? (.ref x) name args) Q E s := by
  simp only [callSpecialIfBound?, bindSpecialIfBound?]
  refine wpAny_holding (wpAny_bind (wpAny_bind (wpAny_bind (I.type.here ((looks_findIn X hs).here ?_)))))
  simp only [S.bind]
  have fin : wpAny (model prog w) A (call (.builtin id) ([.ref x] ++ args) >>= fun v => pure (some v)) Q E s := wpAny_bind (wpAny_mono go (fun v s' q => wpAny_pure q) fun _ _ q => q)
  refine wpAny_bind (wpAny_askSetting (wpAny_ite ?_))
  split
  · exact wpAny_bind (wpAny_pure (wpAny_pure fin))
  · exact wpAny_tryCatch (wpAny_bind (wpAny_pure (wpAny_pure fin)))
/-- object.__ne__ asks __eq__ -/
theorem call_ne {Q : Value → Shared → Prop} (X : K.In s.heap) (I : InstAt s.heap x ox C od) (ho : mroIn K C (.type "object") = some true) (hs : findIn K (.ref C) "__eq__" = some (some (.ref f))) (hf : isFn K (.ref f) = true) (hu : A.units + 1 < cLine)
    (go : wpAny (model prog w) A.in1 (call (.ref f) [.ref x, b]) (fun v s' => ∃ k, v = .bool k ∧ Q (.bool (!k)) s') E s) : wpAny (model prog w) A (call (.builtin "object.__ne__") [.ref x, b]) Q E s := by
  have sub : Looks (model prog w) s.heap (isInstance (.ref x) (.type "object")) true := I.type.andThen (looks_mroIn X ho)
  refine wpAny_call (codeAny_call_builtin F.cmp_object.ne.plain F.cmpEntry_ne (@check_slot (model prog w) _ _ s "object.__ne__" "object" "__ne__" (.ref x) [b] [] _ F.cmpKind_ne F.cmpSplit_ne sub (F.cmpArgs_ne _ _) ?_))
  unfold Builtin.«object.__ne__»
  repeat (first
    | with_reducible refine wpAny_cRoomFor (show A.in1.units < cLine from hu) ?_
    | (refine wpAny_bind (m := callSpecialIfBound? (.ref x) (Str.ofString "__eq__") [b]) (ifBound_K X I hs hf (wpAny_mono go (fun v s' q => by
          obtain ⟨k, rfl, q⟩ := q
          repeat (first | exact q | exact wpAny_pure q | exact wpAny_truthy_bool q | (refine wpAny_bind (m := truthy (.bool _)) (wpAny_truthy_bool ?_)) | wp_step)) fun _ _ e => e)))
    | wp_step)
theorem cmp_ne {Q : Value → Shared → Prop} (hu : A.units + 1 < cLine) (F : Fr h₀ L s.heap m) (X₀ : K.In h₀) (I : InstAt s.heap x ox C od) (hb : Looks (model prog w) s.heap (typeOf b) tb) (hn : notFirst K C tb = true) (ho : mroIn K C (.type "object") = some true)
    (hne : findIn K (.ref C) "__ne__" = some (some (.builtin "object.__ne__"))) (hs : findIn K (.ref C) "__eq__" = some (some (.ref f))) (hf : isFn K (.ref f) = true)
    (go : wpAny (model prog w) A.in1 (call (.ref f) [.ref x, b]) (fun v s' => ∃ k, v = .bool k ∧ Q (.bool (!k)) s') E s) : wpAny (model prog w) A (richCompare .NotEq (.ref x) b) Q E s := by
  have X := X₀.keeps F.keep
  have one : wpAny (model prog w) A (tryCompare (.ref x) "__ne__" b) (fun r s' => ∃ k, r = some (.bool k) ∧ Q (.bool k) s') E s := by
    unfold tryCompare
    refine wpAny_bind (slot_bound X I hne PySem.F.cmp_object.ne (call_ne X I ho hs hf hu (wpAny_mono go (fun v s' q => ?_) fun _ _ e => e)))
    obtain ⟨k, rfl, q⟩ := q
    exact ⟨k, rfl, wpAny_pure ⟨_, rfl, q⟩⟩
  unfold richCompare
  simp only [oneThing_ref]
  refine wpAny_holding (wpAny_bind (wpAny_cRoomFor (by omega) ?_))
  refine wpAny_bind (I.type.here (wpAny_bind (hb.here ?_)))
  have z : subIn K tb (.ref C) = some false ∨ tb = .ref C := by
    rcases Bool.or_eq_true_iff.mp hn with e | e
    · exact .inr (beq_iff_eq.mp e)
    · exact .inl (beq_iff_eq.mp e)
  split
  · rename_i q
    rcases z with z | z
    · refine wpAny_bind ((looks_subIn X z).here ?_)
      simp only [Bool.false_eq_true, if_false]
      refine wpAny_bind (wpAny_mono one (fun r s' y => ?_) fun _ _ e => e)
      obtain ⟨k, rfl, y⟩ := y
      exact wpAny_pure y
    · rw [z] at q; simp at q
  · refine wpAny_bind (wpAny_pure ?_)
    simp only [Bool.false_eq_true, if_false]
    refine wpAny_bind (wpAny_mono one (fun r s' y => ?_) fun _ _ e => e)
    obtain ⟨k, rfl, y⟩ := y
    exact wpAny_pure y
end
end DL
namespace DL
open PySem L2
/-- c's own __eq__ keeps φ -/
def EqOk (P : Program) (w : World) (K : PySem.W.Frag) (mg : Str → Option Value) (base : Heap) (c : Str) (k : Nat) (φ : Fn) : Prop :=
  ∃ (C f : Addr) (fd : FuncData) (ps : List Str), mg c = some (.ref C) ∧ InsF K C ∧ PySem.W.findIn K (.ref C) "__eq__" = some (some (.ref f)) ∧ PySem.W.isFn K (.ref f) = true ∧ PySem.W.findIn K (.ref C) "__ne__" = some (some (.builtin "object.__ne__")) ∧
    tyNames.all (fun n => PySem.W.notFirst K C (.type n)) = true ∧ Binds K fd ps [] ∧ FnOk P w K mg base (L2N.CX P w) k f fd ps (spD K mg φ)
def cmpO (c : Str) (φ : Fn) (neg : Bool) : D → D → Option D
  | .obj c' ns l, y => if c' = c then (match φ [.val (.obj c' ns l), .val y] with
    | .ok (.bl k) _ => (match y with
      | .obj c2 _ _ => if c2 = c then some (.bl (if neg then !k else k)) else none
      | .fn _ => none
      | _ => some (.bl (if neg then !k else k)))
    | _ => none) else none
  | _, _ => none
theorem Rep1.rep {K : PySem.W.Frag} {mg : Str → Option Value} {A : List Addr} {H : Hp} : ∀ {d : D} {v : V}, Rep1 K mg A H d v → Rep K mg (off [] H) d v := by
  have e : off [] H = H := by funext b; unfold off; simp
  intro d v r
  rw [e]
  cases d with
  | lst l => obtain ⟨a, xs, h1, h2, h3⟩ := r; exact ⟨a, xs, h1, h2, h3.mono off_le⟩
  | obj c ns l => obtain ⟨a, C, dx, fvs, h1, h2, h3, h4, h5⟩ := r; exact ⟨a, C, dx, fvs, h1, h2, h3, h4, h5.mono off_le⟩
  | non => exact r
  | bl _ => exact r
  | int _ => exact r
  | str _ => exact r
  | fn _ => exact r
  | tup l => exact Rep.mono off_le _ _ r
  | scr l => exact Rep.mono off_le _ _ r
/-- what is asked of the two -/
def rOwn (K : PySem.W.Frag) (mg : Str → Option Value) (C : Addr) (φ : Fn) (neg : Bool) : R2 := fun x y H Q => ∃ (a dx : Addr) (fs : List (Str × V)) (t : Value), x = .ref a ∧ H a = some (.ins C dx fs) ∧ TyX K H y t ∧ PySem.W.notFirst K C t = true ∧
  spD K mg φ [x, y] H (fun v H' => ∃ k, v = .bl k ∧ Q (.bl (if neg then !k else k)) H') (fun _ _ _ => False)
section
variable {X : Cx} {C f : Addr} {fd : FuncData} {ps : List Str} {k : Nat} {φ : Fn}
theorem op_own (I0 : InsF X.K C) (hs : PySem.W.findIn X.K (.ref C) "__eq__" = some (some (.ref f))) (hf : PySem.W.isFn X.K (.ref f) = true) (hb : Binds X.K fd ps []) (F : FnOk X.prog X.w X.K X.mg X.base (L2N.CX X.prog X.w) k f fd ps (spD X.K X.mg φ)) (hr : Room k X.A) :
    OpR X (compareOp .Eq) (rOwn X.K X.mg C φ false) := by
  intro pins s σ H x y v u Q I rx ry ⟨a, dx, fs, t, e1, ha, ty, nf, sp⟩
  subst e1
  cases rx
  obtain ⟨P0, kx, kp, _⟩ := kit_of I ry ty
  obtain ⟨mA, J, _⟩ := ins_get I.hok ha
  obtain ⟨od, J, _⟩ := J.look
  obtain ⟨m, hF⟩ := I.fr
  show wpAny (model X.prog X.w) X.A (richCompare .Eq (.ref a) u) (EP X pins σ Q) X.xe s
  refine PySem.W.cmp_K (op := .Eq) (tb := t) (by have := hr.un; omega) hF I.ok.mod.kin J (kx.ty _ _ I.kIn kp) nf hs hf ?_
  refine wpAny_mono (run_fnSD (us := [.ref a, u]) (vs := [.ref a, y]) (dvs := []) (E := WE fun _ _ _ _ => False) F hr hb .nil (L2N.passAt takesN0 σ) I (.cons rfl (.cons ry .nil)) sp) (fun r s' ⟨z, H', I', rz, k', ez, q⟩ => ?_) fun _ _ e => e
  subst ez
  obtain rfl : r = .bool k' := rz
  exact ⟨.bl k', H', I', rfl, q⟩
theorem op_ownNe (I0 : InsF X.K C) (hs : PySem.W.findIn X.K (.ref C) "__eq__" = some (some (.ref f))) (hf : PySem.W.isFn X.K (.ref f) = true) (hne : PySem.W.findIn X.K (.ref C) "__ne__" = some (some (.builtin "object.__ne__"))) (hb : Binds X.K fd ps [])
    (F : FnOk X.prog X.w X.K X.mg X.base (L2N.CX X.prog X.w) k f fd ps (spD X.K X.mg φ)) (hr : Room (k + 1) X.A) : OpR X (compareOp .NotEq) (rOwn X.K X.mg C φ true) := by
  intro pins s σ H x y v u Q I rx ry ⟨a, dx, fs, t, e1, ha, ty, nf, sp⟩
  subst e1
  cases rx
  obtain ⟨P0, kx, kp, _⟩ := kit_of I ry ty
  obtain ⟨mA, J, _⟩ := ins_get I.hok ha
  obtain ⟨od, J, _⟩ := J.look
  obtain ⟨m, hF⟩ := I.fr
  show wpAny (model X.prog X.w) X.A (richCompare .NotEq (.ref a) u) (EP X pins σ Q) X.xe s
  refine cmp_ne (tb := t) (by have := hr.un; omega) hF I.ok.mod.kin J (kx.ty _ _ I.kIn kp) nf I0.hm hne hs hf ?_
  have r2 : Vals [V.ref a, y] [Value.ref a, u] := .cons rfl (.cons ry .nil)
  have hl : ([Value.ref a, u] ++ []).length = ps.length := by rw [List.append_nil, ← r2.length]; exact F.len _ _ _ _ sp
  refine wpAny_call (codeAny_mono (F.run X.A.in1 X.stack s H ⟨[.ref a, u], []⟩ [.ref a, u] [.ref a, y] _ (fun _ _ _ => False) hr.in1 I.env0.in1 (by simpa using hb s [.ref a, u] I.kIn hl) r2 sp) fun r s' hq => ?_)
  cases r with
  | error e => exact L2N.passAt (takesN0 (X := X)) σ pins H s e s' I hq
  | ok fl =>
    cases fl with
    | ret z =>
      obtain ⟨w', H', I', rz, k', ez, q⟩ := I.after hq
      subst ez
      obtain rfl : z = .bool k' := rz
      exact ⟨k', rfl, .bl (!k'), H', I', rfl, q⟩
    | next => exact False.elim hq
    | brk => exact False.elim hq
    | cont => exact False.elim hq
theorem snd_own {K : PySem.W.Frag} {mg : Str → Option Value} {c : Str} {neg : Bool} (mC : mg c = some (.ref C)) (I0 : InsF K C) (hn : tyNames.all (fun n => PySem.W.notFirst K C (.type n)) = true) : Snd2 K mg (rOwn K mg C φ neg) (cmpO c φ neg) := by
  intro A H x y d v u Q tk rx ry e q
  cases x with
  | obj c' ns l =>
    have e : (if c' = c then (match φ [.val (.obj c' ns l), .val y] with
      | .ok (.bl k) _ => (match y with
        | .obj c2 _ _ => if c2 = c then some (D.bl (if neg then !k else k)) else none
        | .fn _ => none
        | _ => some (.bl (if neg then !k else k)))
      | _ => none) else none) = some d := e
    by_cases hc : c' = c
    · rw [if_pos hc] at e
      subst hc
      cases hf : φ [.val (.obj c' ns l), .val y] with
      | bad => rw [hf] at e; cases e
      | exc _ _ => rw [hf] at e; cases e
      | ok r os =>
        rw [hf] at e
        cases r with
        | bl k =>
          dsimp only at e
          have rx0 : Rep K mg (off [] H) (.obj c' ns l) v := Rep1.rep rx
          have ry0 : Rep K mg (off [] H) y u := Rep1.rep ry
          obtain ⟨a, C', dx, fvs, rfl, m, hh, _⟩ := rx
          have m' : mg c' = some (.ref C') := m
          rw [mC] at m'
          cases m'
          have sp : spD K mg φ [.ref a, u] H (fun v H' => ∃ k, v = .bl k ∧ Q (.bl (if neg then !k else k)) H') (fun _ _ _ => False) := by
            refine ⟨[], [.val (.obj c' ns l), .val y], ⟨rfl, fun i s w h1 h2 => ?_, fun i j s t b h1 h2 o1 o2 => ?_, fun b hb => by cases hb⟩, ?_⟩
            · match i, h1, h2 with
              | 0, h1, h2 => cases (Option.some.inj h1); cases (Option.some.inj h2); exact ⟨_, rfl, rx0⟩
              | 1, h1, h2 => cases (Option.some.inj h1); cases (Option.some.inj h2); exact ⟨_, rfl, ry0⟩
              | i + 2, h1, h2 => simp at h1
            · match i, h1 with
              | 0, h1 => cases (Option.some.inj h1); cases o1
              | 1, h1 => cases (Option.some.inj h1); cases o1
              | i + 2, h1 => simp at h1
            · rw [hf]
              intro v' H' p rv
              cases rv
              refine ⟨k, rfl, q _ H' (fun b o hb => p.keep b o hb fun i s h1 o1 => ?_) ?_⟩
              · match i, h1 with
                | 0, h1 => cases (Option.some.inj h1); cases o1
                | 1, h1 => cases (Option.some.inj h1); cases o1
                | i + 2, h1 => simp at h1
              · have ed : d = .bl (if neg then !k else k) := by
                  cases y with
                  | obj c2 ns2 l2 =>
                    have e : (if c2 = c' then some (D.bl (if neg then !k else k)) else none) = some d := e
                    by_cases h2 : c2 = c'
                    · rw [if_pos h2] at e; exact (Option.some.inj e).symm
                    · rw [if_neg h2] at e; cases e
                  | fn _ => cases e
                  | _ => exact (Option.some.inj e).symm
                rw [ed]
                exact rfl
          have fin : ∀ n, y.tn = some n → rOwn K mg C φ neg (.ref a) u H Q := fun n hn' => ⟨a, dx, _, .type n, rfl, hh, tyx_of ry hn', List.all_eq_true.mp hn n (tn_mem hn'), sp⟩
          cases y with
          | obj c2 ns2 l2 =>
            dsimp only at e
            by_cases h2 : c2 = c'
            · subst h2
              obtain ⟨b, C2, dx2, fvs2, rfl, m2, hh2, _⟩ := ry
              have m2' : mg c2 = some (.ref C2) := m2
              rw [mC] at m2'
              cases m2'
              exact ⟨a, dx, _, .ref C, rfl, hh, .base (.ins hh2 I0.cl I0.ha I0.hn I0.ht I0.hm), by simp [PySem.W.notFirst], sp⟩
            · rw [if_neg h2] at e; cases e
          | fn _ => cases e
          | non => exact fin _ rfl
          | bl _ => exact fin _ rfl
          | int _ => exact fin _ rfl
          | str _ => exact fin _ rfl
          | tup _ => exact fin _ rfl
          | lst _ => exact fin _ rfl
          | scr _ => exact fin _ rfl
        | _ => cases e
    · rw [if_neg hc] at e; cases e
  | _ => cases e
variable {a b : Expr} {x y : Arg} {pos : Pos} {c : Str}
theorem de_eqO (T : EqOk X.prog X.w X.K X.mg X.base c k φ) (hr : Room (k + 1) X.A) (ha : DO X a x) (hb : DO X b y) : DE X (.Compare a [.Eq] [b] pos) (op2 (cmpO c φ false) x y) := by
  obtain ⟨C, f, fd, ps, mC, I0, hs, hf, _, hn, hbi, F⟩ := T
  exact de_cmp (op_own I0 hs hf hbi F (hr.mono (Nat.le_succ k))) (snd_own mC I0 hn) (nomark _) ha hb
theorem de_neO (T : EqOk X.prog X.w X.K X.mg X.base c k φ) (hr : Room (k + 1) X.A) (ha : DO X a x) (hb : DO X b y) : DE X (.Compare a [.NotEq] [b] pos) (op2 (cmpO c φ true) x y) := by
  obtain ⟨C, f, fd, ps, mC, I0, hs, hf, hne, hn, hbi, F⟩ := T
  exact de_cmp (op_ownNe I0 hs hf hne hbi F hr) (snd_own mC I0 hn) (nomark _) ha hb
theorem dt_eqO (T : EqOk X.prog X.w X.K X.mg X.base c k φ) (hr : Room (k + 1) X.A) (ha : DO X a x) (hb : DO X b y) : DT X (.Compare a [.Eq] [b] pos) (asTest (op2 (cmpO c φ false) x y)) := by
  obtain ⟨C, f, fd, ps, mC, I0, hs, hf, _, hn, hbi, F⟩ := T
  exact dt_cmp (op_own I0 hs hf hbi F (hr.mono (Nat.le_succ k))) (snd_own mC I0 hn) (nomark _) ha hb
theorem dt_neO (T : EqOk X.prog X.w X.K X.mg X.base c k φ) (hr : Room (k + 1) X.A) (ha : DO X a x) (hb : DO X b y) : DT X (.Compare a [.NotEq] [b] pos) (asTest (op2 (cmpO c φ true) x y)) := by
  obtain ⟨C, f, fd, ps, mC, I0, hs, hf, hne, hn, hbi, F⟩ := T
  exact dt_cmp (op_ownNe I0 hs hf hne hbi F hr) (snd_own mC I0 hn) (nomark _) ha hb
end
end DL
namespace DL
open PySem L2
def DK (X : Cx) (kws : List Keyword) (as : List Arg) : Prop := ∀ W : WZ, TakesZ X W → PK X kws (tA X.K X.mg W as)
def MakeKwOk (P : Program) (w : World) (K : PySem.W.Frag) (mg : Str → Option Value) (base : Heap) (c : Str) (ks : List Str) (k : Nat) (φ : Fn) : Prop :=
  ∃ (C f : Addr) (fd : FuncData) (ps : List Str), mg c = some (.ref C) ∧ Mk K C f ∧ KBn K fd ps 1 ks (fun us ws => us ++ ws) (fun us ws => us ++ ws) ∧ FnOk P w K mg base (L2N.CX P w) k f fd ps (spD K mg φ)
/-- C(k = v, ..): no error may come of it -/
def makeKF (c : Str) (φ : Fn) (as : List Arg) : M D := M.bnd (evs as) fun xs => match dvs xs with
  | some ds => fun ρ => match makeV c φ ds ρ with
    | .ok d ρ' => .ok d ρ'
    | _ => .bad
  | none => fun _ => .bad
section
variable {X : Cx} {kws : List Keyword} {as : List Arg} {e : Expr} {kpos p pos : Pos} {nm : Option Str} {x : Arg}
theorem pk_imp {t t' : TA} (h : PK X kws t) (q : ∀ σ H Q, t' σ H Q → t σ H Q) : PK X kws t' := ⟨fun pos pins s σ H Q I hw => h.run pos pins s σ H Q I (q σ H Q hw)⟩
theorem dk_nil : DK X [] [] := fun W _ => pk_imp pk_nil fun σ H Q ⟨w, A, ρ, R, q⟩ => q [] H Ext.refl R rfl
theorem dk_cons (h : DO X e x) (t : DK X kws as) : DK X (⟨nm, e, kpos⟩ :: kws) (x :: as) := fun W tk => pk_imp (pk_cons (h W tk) (t W tk)) fun σ H Q ⟨w, A, ρ, R, q⟩ => by
  refine ⟨w, A, ρ, R, ?_⟩
  have e0 : evs (x :: as) ρ = M.bnd x.ev (fun v => M.bnd (evs as) fun vs => M.ret (v :: vs)) ρ := rfl
  rw [e0] at q
  cases hx : x.ev ρ with
  | exc er ρ1 => rw [bnd_exc hx] at q; exact q
  | bad => rw [bnd_bad hx] at q; exact q
  | ok v0 ρ1 =>
    rw [bnd_ok hx] at q
    intro v H1 ex1 R1 r1
    refine ⟨w, A, ρ1, R1, ?_⟩
    cases hv : evs as ρ1 with
    | exc er ρ2 => rw [bnd_exc hv] at q; exact fun c dd H2 ex2 R2 z => q c dd H2 (ex1.trans ex2) R2 z
    | bad => rw [bnd_bad hv] at q; exact q
    | ok vs0 ρ2 =>
      rw [bnd_ok hv] at q
      exact fun vs H2 ex2 R2 r2 => q (v :: vs) H2 (ex1.trans ex2) R2 ⟨v, vs, rfl, r1.ext ex2, r2⟩
theorem de_makeK {c : Str} {ks : List Str} {k : Nat} {φ : Fn} (T : MakeKwOk X.prog X.w X.K X.mg X.base c ks k φ) (hr : Room (k + 1) X.A) (ha : DK X kws as) (hl : as.length = ks.length) (hg : Gl X c := by rfl)
    (hall : (backToKw pos (keywordEach kws X.env)).all (·.1.isSome) = true := by rfl) (hks : (backToKw pos (keywordEach kws X.env)).filterMap (·.1) = ks := by rfl) (hdb : (c == ("__debug__" : Str)) = false := by decide)
    (hpl : ((backTo pos (starEach [] X.env)).any (·.1) || (backToKw pos (keywordEach kws X.env)).any (·.1.isNone)) = false := by rfl) : DE X (.Call (.Name c p) [] kws pos) (makeKF c φ as) := fun W tk => by
  obtain ⟨C, f, fd, ps, mC, M', hb, F⟩ := T
  refine pe_imp (pe_makeK0 (E := fun _ _ _ => False) M' F hr hg mC hb (fun pins σ H s e s' I c => L2N.passAt (takesN0 (X := X)) σ pins H s e s' I c) (ha W tk) hall hks hdb hpl) fun σ H Q ⟨w, A, ρ, R, q⟩ => ?_
  refine ⟨w, A, ρ, R, ?_⟩
  unfold makeKF at q
  cases hx : evs as ρ with
  | exc e ρ1 => rw [bnd_exc hx] at q; exact q
  | bad => rw [bnd_bad hx] at q; exact q
  | ok xs ρ1 =>
    rw [bnd_ok hx] at q
    intro vs H1 ex1 R1 r1
    cases hd : dvs xs with
    | none => rw [hd] at q; exact q.elim
    | some ds =>
      rw [hd] at q
      dsimp only at q
      have r2 := dvs_rep r1 hd
      have lx : ∀ {as : List Arg} {ρ ρ' : Ev} {xs : List AV}, evs as ρ = .ok xs ρ' → xs.length = as.length := by
        intro as
        induction as with
        | nil => intro ρ ρ' xs h; cases h; rfl
        | cons a as ih =>
          intro ρ ρ' xs h
          have e0 : evs (a :: as) ρ = M.bnd a.ev (fun v => M.bnd (evs as) fun vs => M.ret (v :: vs)) ρ := rfl
          rw [e0] at h
          cases h1 : a.ev ρ with
          | exc _ _ => rw [bnd_exc h1] at h; cases h
          | bad => rw [bnd_bad h1] at h; cases h
          | ok v ρ1 =>
            rw [bnd_ok h1] at h
            cases h2 : evs as ρ1 with
            | exc _ _ => rw [bnd_exc h2] at h; cases h
            | bad => rw [bnd_bad h2] at h; cases h
            | ok vs ρ2 => rw [bnd_ok h2] at h; cases h; simp [ih h2]
      refine ⟨rfl, by rw [← avrs_len r1, lx hx, hl], fun y dy ny nd ne => ?_⟩
      refine make_end (W := WF) mC R1 r2 ?_ y dy ny nd ne
      cases hm : makeV c φ ds ρ1 with
      | bad => rw [hm] at q; exact q.elim
      | exc e ρ2 => rw [hm] at q; exact q.elim
      | ok d ρ2 => rw [hm] at q; exact fun v H' ex R' r => q v H' (ex1.trans ex) R' r
def D.repr : List D → Option D
  | [.int i] => if i.natAbs.log2 < 1920 then some (.str (toString i)) else none
  | [.bl b] => some (.str (if b then "True" else "False"))
  | _ => none
theorem call_repr_bl : CallR X (.builtin "repr") (fun xs H Q => ∃ b : Bool, xs = [.bl b] ∧ Q (.str (if b then "True" else "False")) H) := by
  intro pins s σ H xs us Q I r h
  obtain ⟨b, rfl, q⟩ := h
  obtain ⟨u, rfl, r1⟩ := vals1 r
  obtain rfl : u = .bool b := r1
  exact PySem.P.repr_of_bool ⟨.str _, H, I.tok _, ⟨_, rfl⟩, q⟩
theorem de_repr {es : List Expr} (hg : Gl X "repr") (hm : X.mg "repr" = none) (ha : DA X (e :: es) as) (he : starEach (e :: es) X.env = (false, eval e X.env) :: starEach es X.env := by rfl) (hpl : (backTo pos (starEach es X.env)).any (·.1) = false := by rfl) :
    DE X (.Call (.Name "repr" p) (e :: es) [] pos) (opN D.repr as) :=
  de_callB ((SkE.call_repr_int).or call_repr_bl) (by
    intro A H xs d vs Q tk rx e q
    match xs, rx, e with
    | [.int i], .cons r .nil, e =>
      have e : (if i.natAbs.log2 < 1920 then some (D.str (toString i)) else none) = some d := e
      cases r
      by_cases hz : i.natAbs.log2 < 1920
      · rw [if_pos hz] at e
        cases (Option.some.inj e)
        exact .inl ⟨i, rfl, hz, q _ _ (Same.refl _) rfl⟩
      · rw [if_neg hz] at e; cases e
    | [.bl b], .cons r .nil, e =>
      cases r
      cases (Option.some.inj e)
      exact .inr ⟨b, rfl, q _ _ (Same.refl _) rfl⟩) (by decide +kernel) (by decide) (by decide) hg hm ha he hpl
end
end DL
namespace DL
open PySem L2
def supB (N ps : List Str) (sc : Scope) : Bool :=
  (match sc.kind with | .function => true | _ => false) && !sc.isCoroutine && !sc.isGenerator && decide N.Nodup && decide (N.take ps.length = ps) && ps.all (fun x => decide (sc.names.lookup x = some .local)) &&
  sc.names.all (fun y => !decide (y.2 = .cell)) && sc.names.all (fun y => !decide (y.2 = .free) || decide (y.1 = "__class__")) && decide (sc.names.lookup ("super" : Str) = some .globalImplicit) && decide (sc.names.lookup ("__class__" : Str) = some .free)
theorem sup_by {N ps : List Str} {sc : Scope} (h : supB N ps sc = true) : SupScope N ps sc := by
  unfold supB at h
  simp only [Bool.and_eq_true, Bool.not_eq_true', decide_eq_true_eq, List.all_eq_true, Bool.or_eq_true, decide_eq_false_iff_not] at h
  obtain ⟨⟨⟨⟨⟨⟨⟨⟨⟨h1, h2⟩, h3⟩, h4⟩, h5⟩, h6⟩, h7⟩, h8⟩, h9⟩, h10⟩ := h
  refine ⟨?_, h2, h3, h4, h5, h6, h7, fun x hx => ?_, h9, h10⟩
  · split at h1
    · assumption
    · cases h1
  · rcases h8 _ (PySem.mem_of_lookup hx) with z | z
    · exact absurd rfl z
    · exact z
theorem fun_kbn {K : PySem.W.Frag} {x qual : Str} {st : Stmt} {f : Addr} {fd : FuncData} {ps ks : List Str} (F : Fun K x qual st f fd)
    (h : ∀ (kV doc pm : Value) (an : Option Addr) (cdv ct : Value) (us ws : List Value), us.length = 1 → ws.length = ks.length → bindArgs (PySem.W.fnOf x qual (defArgs st) (defBody st) (defScope st) .none kV doc pm an cdv ct) ⟨us, ks.zip ws⟩ = pure (ps.zip (us ++ ws))) :
    KBn K fd ps 1 ks (fun us ws => us ++ ws) (fun us ws => us ++ ws) := by
  obtain ⟨oc, od, kV, doc, pm, an, cdv, ct, osl, rfl, lk, hcd⟩ := F.ex
  exact ⟨fun s us ws _ h1 h2 => .of_eq (h kV doc pm an cdv ct us ws h1 h2), fun r1 r2 => r1.append r2⟩
theorem fld_ok {K : PySem.W.Frag} {mg : Str → Option Value} {c f : Str} {C : Addr} (hm : mg c = some (.ref C)) (c1 : Cls K C) (n : NoAttr K C f) : FldOk K mg c f := fun C' h => by
  rw [hm] at h
  cases h
  exact ⟨c1, n⟩
/-- what the law is promised -/
def spScript (K : PySem.W.Frag) : Sp := fun vs H Q _ => ∃ (a : Addr) (ns : List Int), vs = [.ref a] ∧ SqL K H a (ns.map V.int) ∧ ns.length ≤ 63 ∧ ∀ H', Q (.bl true) H'
theorem script_sp {K : PySem.W.Frag} {mg : Str → Option Value} {φ : Fn} (h : ∀ ns : List Int, ns.length ≤ 63 → ∃ os, φ [.val (.scr (ns.map D.int))] = .ok (.bl true) os) (vs : List V) (H : Hp) (Q : VK) (E : XK) (q : spScript K vs H Q E) : spD K mg φ vs H Q E := by
  obtain ⟨a, ns, rfl, hs, hl, q⟩ := q
  obtain ⟨os, e⟩ := h ns hl
  have eo : off [] H = H := by funext b; unfold off; simp
  have reps : ∀ (ns : List Int), Reps K mg (off [] H) (ns.map D.int) (ns.map V.int) := fun ns => by
    induction ns with
    | nil => exact rfl
    | cons n ns ih => exact .cons rfl ih
  refine ⟨[], [.val (.scr (ns.map D.int))], ⟨rfl, fun i s v h1 h2 => ?_, fun i j s t b h1 h2 o1 o2 => ?_, fun b hb => by cases hb⟩, ?_⟩
  · match i, h1, h2 with
    | 0, h1, h2 => cases (Option.some.inj h1); cases (Option.some.inj h2); exact ⟨_, rfl, a, _, rfl, by rw [eo]; exact hs, reps ns⟩
    | i + 1, h1, h2 => simp at h1
  · match i, h1 with
    | 0, h1 => cases (Option.some.inj h1); cases o1
    | i + 1, h1 => simp at h1
  · rw [e]
    intro v H' p rv
    cases rv
    exact q H'
theorem walk_script {l : PySem.W.OpenLaw} {k : Nat} {q : Program} {loose : List Str} {XP : (Str → Option Value) → Heap → Prop} {YP : World → Heap → Prop} {d : DefRec} {K : Params → PySem.W.Frag} (hn : l.most = some 63) (hdf : d.params.defaults = []) (hr : Room k callerA)
    (hY : ∀ (w : World) (h : Heap), YP w h → (K w.params).In h)
    (F : ∀ (w : World) (mg : Str → Option Value) (fa : Addr) (h : Heap), (K w.params).In h → h.Ns mainGlobals mg → mg d.name = some (.ref fa) →
      ∃ fd : FuncData, (∀ (s : Shared) (u : Value), BindsTo s fd ⟨[u], []⟩ [("script", u)]) ∧ ∀ base : Heap, (K w.params).In base → base.Ns mainGlobals mg → FnOk l.prog w (K w.params) mg base (L2N.CX l.prog w) k fa fd ["script"] (spScript (K w.params))) :
    PySem.W.WalkO q loose XP YP l.row.toRowW d [] (fun f vs => PySem.call f vs) :=
  L2.walk_of (n := 63) (k := k) (x := "script") (CX := fun w => L2N.CX l.prog w) (sp := fun w => spScript (K w.params)) hn (by decide) hdf hr hY F (fun _ _ a ns hl _ hS => ⟨a, ns, rfl, hS, hl, fun _ => rfl⟩) fun _ _ _ _ _ z => by
    obtain ⟨_, _, _, _, _, _, _, _, _, _, _, _, z⟩ := z
    exact z
/-- an error class is caught with its fields -/
theorem excT_mk {K : PySem.W.Frag} {mg : Str → Option Value} {known : List Str} {tbl : Str → Bool} {c : Str} {fs : List Str} {C : Addr} (hm : mg c = some (.ref C)) (x : XfC K C) (hf : ∀ f ∈ fs, PySem.W.findIn K (.ref C) f = some none)
    (hk : ∀ e ∈ known, ∃ Ce : Addr, mg e = some (.ref Ce) ∧ PySem.W.exmOne K (.ref Ce) (.ref C) = some (tbl e)) : ExcT K mg known tbl c fs :=
  ⟨C, hm, x, hf, fun e he C' h => by
    obtain ⟨Ce, h1, h2⟩ := hk e he
    rw [h1] at h
    cases h
    exact h2⟩
end DL
namespace DL
open PySem L2
/-- an own error class without an __init__ of its own -/
def ErrN (K : PySem.W.Frag) (mg : Str → Option Value) (c : Str) : Prop :=
  ∃ C : Addr, mg c = some (.ref C) ∧ PySem.W.excIn K C [.type "ValueError", .type "Exception", .type "BaseException", .type "object"] "ValueError.__new__" = true ∧ PySem.W.keepIn K (.ref C) = true ∧
    PySem.W.subIn K (.ref C) (.type "BaseException") = some true ∧ PySem.W.typeIn K (.ref C) = some (.type "type")
section
variable {X : Cx} {x : Str} {p pos pos' : Pos} {np : Nat}
open PyProof.Rows PySem.Spec in
theorem pmk_own0 {C : Addr} {zs : List Value} {B n1 n2 : String} (F : ExcBaseFacts B n1 n2 zs) (q : PySem.W.excIn X.K C zs n1 = true) (gC : X.mg x = some (.ref C)) (kC : PySem.W.keepIn X.K (.ref C) = true) (r : Raises X (.ref C)) (hg : Gl X x) (hdb : (x == ("__debug__" : Str)) = false) :
    L2N.PMk X (.Call (.Name x p) [] [] pos) (fun _ H Q => Q (.ref C) none H) := fun pins s σ H Q I h => by
  refine wpAny_Call_Name_kw (ld_glob I hg gC (PySem.W.callWith_K0 (first := []) I.kIn kC ?_) hdb)
  have ex := exc_obj I.kIn q
  obtain ⟨_, _, _, _, _, _, _, _, _, _, _, _, _, _, _, _, _, hC, hN, hni, T⟩ := ex
  exact wpAny_call_exc_subT F T hC hN hni (fun h' e hm => L2N.mk_of I hm r h (I.hok.gone hm.new)) (Nat.zero_le _)
theorem ds_raise0 (hc : X.calm = true) (T : ErrN X.K X.mg x) (hg : Gl X x) (hdb : (x == ("__debug__" : Str)) = false := by decide) :
    DS X np (.Raise (some (.Call (.Name x p) [] [] pos)) none pos') (sRaise x [] []) := fun W tk => by
  obtain ⟨C, hm, hq, hk, hb, ht⟩ := T
  refine ps_imp (L2N.ps_raise hc tk.t (pmk_own0 PySem.F.excBase_ValueError hq hm hk (raises_own hb ht) hg hdb)) fun E σ H ⟨w, A, ρ, hnp, R, q⟩ => ?_
  exact q A σ H _ _ (Same.refl _) R ⟨C, rfl, hm, .inl ⟨rfl, rfl⟩⟩
end
/-- the classes that a caught error may have; which of them the asked one is above of -/
def isX (kn : List Str) (tb : Str → Bool) (i : Nat) : M D := fun ρ => match ρ[i]? with
  | some (.ex e) => if kn.contains e.c = true then .ok (.bl (tb e.c)) ρ else .bad
  | _ => .bad
/-- v: the class that is asked -/
def IsX (K : PySem.W.Frag) (mg : Str → Option Value) (kn : List Str) (tb : Str → Bool) (v : Value) : Prop :=
  ∀ e ∈ kn, ∀ D, mg e = some (.ref D) → L2.ExcC K D ∧ PySem.W.kitOne K (.ref D) v = some (tb e)
def rIsX (K : PySem.W.Frag) (a : Addr) (cls : Value) (d : Option Addr) : List V → Hp → VK → Prop := fun xs H Q => ∃ (D : Addr) (c : V) (cv : Value) (b : Bool), xs = [.ref a, c] ∧ cls = .ref D ∧ L2.ExcC K D ∧ (∀ u, RelV c u → u = cv) ∧ PySem.W.kitOne K (.ref D) cv = some b ∧
  (d = none ∨ ∃ dd fs, d = some dd ∧ H dd = some (.xd fs)) ∧ Q (.bl b) H
section
variable {X : Cx} {a : Addr} {oe : Obj} {cls : Value} {d : Option Addr} {pn : List (Addr × Obj)}
open PyProof.Rows PySem.Spec in
theorem call_isX (hz : Zc cls d oe) (hf : ∃ vs, oe.data = .fields vs) : CallR (X.suite a ((a, oe) :: pn)) (.builtin "isinstance") (rIsX X.K a cls d) := fun pins s σ H xs us Q I r h => by
  obtain ⟨D, c, cv, b, rfl, rfl, C, hcv, e, hd, q⟩ := h
  match us, r with
  | [_, _], .cons rx (.cons rt .nil) =>
    cases rx
    cases hcv _ rt
    obtain ⟨vs, hv⟩ := hf
    have hget := (I.pin (a, oe) (List.mem_append_left _ List.mem_cons_self)).1
    have hno : PySem.W.notCls oe = true := by
      unfold PySem.W.notCls
      rw [hv]
    obtain ⟨od, J⟩ : ∃ od, PySem.W.InstAt s.heap a oe D od := by
      rcases hd with hd | ⟨dd, fs, hd, ea⟩
      · exact ⟨none, hget, hz.1, hno, by rw [hz.2, hd]; trivial⟩
      · have hx : ObjOk X.prog X.w H s.heap dd (.xd fs) := I.hok dd _ ea
        obtain ⟨mA, hns, hr⟩ := hx
        obtain ⟨od, ho, hl⟩ := lookIn_ns hns
        exact ⟨some od, hget, hz.1, hno, by rw [hz.2, hd]; exact ho⟩
    have hcl : (PySem.W.clsIn X.K D).isSome = true := by
      obtain ⟨cd, hc, _⟩ := PySem.W.any_some C.hd
      rw [hc]
      rfl
    exact PySem.W.kia_one (PySem.W.kitx_exc hcl C.hg C.hk C.hs C.ha C.hn C.ht C.hm) I.kIn J e (fun z => nomatch z) fun tk => ⟨.bl b, H, I.kept (t' := tk) fun _ _ z => z, rfl, q⟩
end
section
variable {X : Cx} {a : Addr} {oe : Obj} {cls : Value} {d : Option Addr} {pn : List (Addr × Obj)} {en : Expr} {ce : Expr} {p pos : Pos} {i : Nat} {kn : List Str} {tb : Str → Bool} {cV : V} {cv : Value}
theorem de_isX (T : IsX X.K X.mg kn tb cv) (hcv : ∀ u, RelV cV u → u = cv) (hz : Zc cls d oe) (hv : ∃ vs, oe.data = .fields vs) (hg : Gl (X.suite a ((a, oe) :: pn)) "isinstance") (hm : X.mg "isinstance" = none)
    (ho : PE (X.suite a ((a, oe) :: pn)) en (tVar i)) (hc : PE (X.suite a ((a, oe) :: pn)) ce (fun _ H Q => Q cV H))
    (hs : starEach [en, ce] X.env = (false, eval en X.env) :: starEach [ce] X.env := by rfl) (hs2 : starEach [ce] X.env = (false, eval ce X.env) :: starEach [] X.env := by rfl)
    (hpl : (backTo pos (starEach [ce] X.env)).any (·.1) = false := by rfl) : DE (X.suite a ((a, oe) :: pn)) (.Call (.Name "isinstance" p) [en, ce] [] pos) (isX kn tb i) := fun W tk =>
  pe_imp (pe_callB (call_isX hz hv) hg hm PyProof.Rows.boot_isinstance (pa_cons ho (pa_cons hc pa_nil hs2) hs) (he := hs) (hpl := hpl)) fun σ H Q ⟨w, A, ρ, R, q⟩ => by
    unfold isX at q
    cases hs : ρ[i]? with
    | none => rw [hs] at q; exact q.elim
    | some s0 =>
      rw [hs] at q
      cases s0 with
      | ex er =>
        dsimp only at q
        by_cases hk : kn.contains er.c = true
        · rw [if_pos hk] at q
          obtain ⟨o, ho', so, D, e1, e2, z⟩ := R.at' hs
          obtain ⟨oe', g1, g2, g3⟩ := tk.z rfl w.1 w.2
          obtain ⟨ga, go⟩ : a = w.1.xx.1 ∧ oe = oe' := by
            have g1' : some (a, oe) = some (w.1.xx.1, oe') := g1
            cases g1'
            exact ⟨rfl, rfl⟩
          subst go
          obtain ⟨t1, t2⟩ := T er.c (by simpa using hk) D e2
          refine ⟨.ref a, by rw [ho', so, ga], D, cV, cv, tb er.c, rfl, by rw [← hz.1, g2, e1], t1, hcv, t2, ?_, q _ H Ext.refl R rfl⟩
          rcases z with z | ⟨d', fs, y1, y2, _, _⟩
          · exact .inl (by rw [← hz.2, g3, z.2])
          · exact .inr ⟨d', fs, by rw [← hz.2, g3, y1], y2⟩
        · rw [if_neg hk] at q; exact q.elim
      | _ => exact q.elim
end
end DL
namespace DL
section
open PySem PySem.W PySem.Calls PyProof.Rows PySem.HandSPX PySem.Spec
variable {prog : Program} {w : World} {A : Around} {E : Value → Shared → Prop} {R : Result → Shared → Prop} {h : Heap} {g : Array GenState} {d : Drawn} {t : Nat} {os : OsState} {nm qn : Str} {C N fI : Addr} {bs bm bmB sub : List Value} {b1 ab : Bool} {sn : List Str}
  {col : Option Bool} {dd : Option Addr} {k0 k1 k2 k3 k5 : Option Value} {B n1 n2 : String} {kws : List (Str × Value)}
theorem kw_check (F : ExcBaseFacts B n1 n2 bmB) (hT : ∀ Y : String, bm.contains (.type Y) = bmB.contains (.type Y)) {Q : Unit → Shared → Prop} (hC : h.get? C = some (excClassObj nm qn C N bs bm b1 sn sub ab col dd k0 k1 k2 k3 k5 n1))
    (hq : Q () ⟨h, g, d, t, os⟩) : wpAny (model prog w) A (checkBuiltinCall n1 ⟨[.ref C], kws⟩) Q E ⟨h, g, d, t, os⟩ := by
  have has : (Value.ref C :: bm).contains (.type B) = true := by
    rw [List.contains_cons, hT, F.hasB, Bool.or_true]
  have _hs := F.noStar
  simp only [checkBuiltinCall, F.newKind, F.newSplit, F.newRow]
  repeat (first
    | refine wpAny_loadPart_at hC ?_
    | (refine wpAny_isSubtype_exc hC ?_
       rw [has])
    | refine wpAny_staticBase_exc hC ?_
    | refine wpAny_madeBy_exc hC ?_
    | simp only [bne_self_eq_false, Bool.false_eq_true, if_false]
    | wp_step)
  exact hq
theorem kw_new (F : ExcBaseFacts B n1 n2 bmB) (hT : ∀ Y : String, bm.contains (.type Y) = bmB.contains (.type Y)) (hC : h.get? C = some (excClassObj nm qn C N bs bm b1 sn sub ab col dd k0 k1 k2 k3 k5 n1))
    (hq : R (.ok (.ret (.ref (h.objs.size + 1)))) ⟨(h.push (kdv_tup [])).push (excO C h.objs.size), g, d, t, os⟩) : codeAny (model prog w) A (.builtin n1 ⟨[.ref C], kws⟩) R ⟨h, g, d, t, os⟩ := by
  have _he := F.ends
  have has : (Value.ref C :: bm).contains (.type B) = true := by
    rw [List.contains_cons, hT, F.hasB, Bool.or_true]
  have no1 : (Value.ref C :: bm).contains (.type "AttributeError") = false := by
    rw [List.contains_cons, hT, F.noAttr]
    rfl
  have no2 : (Value.ref C :: bm).contains (.type "NameError") = false := by
    rw [List.contains_cons, hT, F.noName]
    rfl
  have hz : ([] : List Value).length ≤ sizeLine := Nat.zero_le _
  refine codeAny_builtinAt F.entry ?here
  case here =>
  unfold Builtin.«BaseException.__new__»
  refine PySem.wpAt_bind ?here
  case here =>
  show PySem.wpAt _ _ _ (stack >>= _) _ _ _
  refine PySem.wpAt_bind (PySem.wpAt_stack fun q below => PySem.wpAt_of_wpAny ?here)
  case here =>
  wp_walk
  refine (PySem.wpAt_of_wpAny ?here)
  case here =>
  rw [F.owner]
  repeat (first
    | with_reducible refine wpAny_madeHere_exc F.canon hC ?_
    | with_reducible refine wpAny_loadPart_at hC ?_
    | (with_reducible refine wpAny_isSubtype_exc hC ?_
       first
       | rw [has]
       | rw [no1]
       | rw [no2])
    | wp_step)
  show R _ _
  rw [Heap.size_push]
  exact hq
theorem kw_type (F : ExcBaseFacts B n1 n2 bmB) (hT : ∀ Y : String, bm.contains (.type Y) = bmB.contains (.type Y)) {Q : Fin → Shared → Prop} (hC : h.get? C = some (excClassObj nm qn C N bs bm b1 sn sub ab col dd k0 k1 k2 k3 k5 n1))
    (hi : Looks (model prog w) h (typeLookup (.ref C) "__init__") (some (.ref fI))) (hb : ∀ self, Looks (model prog w) h (bindSpecial (.ref fI) self) (.ref fI, [self]))
    (hq : codeAny (model prog w) A (.call (.ref fI) ⟨[.ref (h.objs.size + 1)], kws⟩) (fun r s' => match r with | .ok (.ret v) => v = .none ∧ Q (.done (.ret (.ref (h.objs.size + 1)))) s' | .ok _ => False | .error e => E e s') ⟨(h.push (kdv_tup [])).push (excO C h.objs.size), g, d, t, os⟩) :
    wpAny (model prog w) A (Builtin.«type.__call__» ⟨[.ref C], kws⟩) Q E ⟨h, g, d, t, os⟩ := by
  repeat (first
    | with_reducible refine wpAny_loadPart_at hC ?_
    | with_reducible refine wpAny_madeBy_exc hC ?_
    | wp_step)
  refine codeAny_call_builtin_code (Code.quiet_builtin _ F.quiet) (kw_check F hT hC (kw_new F hT hC (?_ : wpAny _ _ _ _ _ _)))
  have k : ∀ b o, h.get? b = some o → ((h.push (kdv_tup [])).push (excO C h.objs.size)).get? b = some o := fun b o e => Heap.get?_push_of_some _ (Heap.get?_push_of_some _ e)
  have hC1 := k _ _ hC
  have me : ((h.push (kdv_tup [])).push (excO C h.objs.size)).get? (h.objs.size + 1) = some (excO C h.objs.size) := by heap_get
  have mine : (Value.ref C :: bm).contains (.ref C) = true := by simp
  have i1 := hi.keeps k
  have c1 := (hb (.ref (h.objs.size + 1))).keeps k
  unfold isInstance
  repeat (first
    | with_reducible refine wpAny_loadPart_at me ?_
    | (with_reducible refine wpAny_isSubtype_exc hC1 ?_
       rw [mine])
    | wp_step)
  show wpAny _ _ (typeLookup (.ref C) _) _ _ _
  refine i1.at (wpAny_holding (wpAny_bind (c1.at (wpAny_bind (wpAny_call (codeAny_mono hq fun r s' z => ?_))))))
  rcases r with e | (v | _ | _ | _) <;> first
    | exact z
    | exact z.elim
    | skip
  obtain ⟨rfl, z⟩ := z
  first
    | exact wpAny_pure (wpAny_pure z)
    | (wp_walk
       exact z)
theorem kw_call (F : ExcBaseFacts B n1 n2 bmB) (hT : ∀ Y : String, bm.contains (.type Y) = bmB.contains (.type Y)) (hC : h.get? C = some (excClassObj nm qn C N bs bm b1 sn sub ab col dd k0 k1 k2 k3 k5 n1))
    (hi : Looks (model prog w) h (typeLookup (.ref C) "__init__") (some (.ref fI))) (hb : ∀ self, Looks (model prog w) h (bindSpecial (.ref fI) self) (.ref fI, [self]))
    (hq : codeAny (model prog w) (A.under (.builtin "type.__call__" ⟨[.ref C], kws⟩)) (.call (.ref fI) ⟨[.ref (h.objs.size + 1)], kws⟩) (InitBack (h.objs.size + 1) R) ⟨(h.push (kdv_tup [])).push (excO C h.objs.size), g, d, t, os⟩) :
    codeAny (model prog w) A (.call (.ref C) ⟨[], kws⟩) R ⟨h, g, d, t, os⟩ := by
  have _f1 := tc_lookup
  have _f2 := tc_bind (.ref C)
  have _ty : (⟨h, g, d, t, os⟩ : Shared).TypeIs (.ref C) "type" := ⟨_, hC, rfl⟩
  refine codeAny_of_tree (?_ : wpAny _ _ (callAny (.ref C) _) _ _ _)
  repeat (any_goals (first
    | assumption
    | with_reducible refine wpAny_loadPart_at hC ?_
    | wp_step))
  refine ⟨rfl, codeAny_call_builtin_at (Code.quiet_builtin _ (by decide +kernel)) entry_typeCall (wpAny_check_type_call_sub hC (kw_type F hT hC hi hb (codeAny_mono hq fun r s' z => ?_)))⟩
  rcases r with e | (v | _ | _ | _) <;> exact z
end
end DL
namespace DL
open PySem L2
section
variable {X : Cx} {CX : CXT} {x n : Str} {C fI : Addr} {k : Nat} {fd : FuncData} {ps ns ks : List Str} {sp : Sp} {g : List Value → List Value → List Value} {gV : List V → List V → List V} {kws : List Keyword} {tk : TA} {p pos apos : Pos} {e : Expr} {te : TE}
open PyProof.Rows PySem.Spec in
theorem pe_oexK (T : OexC X.K C) (iC : PySem.W.findIn X.K (.ref C) "__init__" = some (some (.ref fI))) (tI : PySem.W.typeIn X.K (.ref fI) = some (.type "function")) (F : FnOk X.prog X.w X.K X.mg X.base CX k fI fd ps sp) (hr : Room (k + 1) X.A) (hb : KBn X.K fd ps 1 ks g gV) (hx : Passes CX X (fun _ _ _ => False)) (hg : Gl X x) (hm : X.mg x = some (.ref C)) (hkw : PK X kws tk)
    (hall : (backToKw pos (keywordEach kws X.env)).all (·.1.isSome) = true) (hks : (backToKw pos (keywordEach kws X.env)).filterMap (·.1) = ks) (hdb : (x == ("__debug__" : Str)) = false) (hpl : ((backTo pos (starEach [] X.env)).any (·.1) || (backToKw pos (keywordEach kws X.env)).any (·.1.isNone)) = false) :
    PE X (.Call (.Name x p) [] kws pos) (fun σ H Q => tk σ H fun zs H1 => zs.length = ks.length ∧ ∀ a, H1 a = none → sp (gV [.ref a] zs) (upd H1 a (exo a C none)) (fun v H2 => v = .non ∧ Q (.ref a) H2) (fun _ _ _ => False)) := ⟨fun pins s σ H Q I h => by
  have cl := T.cls
  obtain ⟨nm, q, N, bs, bm, sn, sub, ab, col, dd, k0, k1, k2, k3, k5, hC, hbm⟩ := cl
  refine wpAny_Call_Name_kw (ld_glob I hg hm (PySem.W.callWith_KW0 (h₀ := X.base) I.ok.mod.kin T.kC hall ?_ hpl) hdb)
  refine thn (hkw.run pos pins s σ H _ I h) fun ws s2 ⟨zs, H1, I1, rz, l2, q2⟩ => ⟨I1.kIn, ?_⟩
  rw [hks]
  show wpAny _ _ (call (.ref C) [] (ks.zip ws)) _ _ _
  obtain ⟨hp, gs, dr, tk, os⟩ := s2
  have up : hp.objs.size ≤ hp.objs.size + 1 := Nat.le_succ _
  have hq := q2 (hp.objs.size + 1) (I1.hok.fresh up)
  have kk : ∀ b o, hp.get? b = some o → ((hp.push (PySem.W.kdv_tup [])).push (PySem.HandSPX.excO C hp.objs.size)).get? b = some o := fun b o z => Heap.get?_push_of_some _ (Heap.get?_push_of_some _ z)
  have me : ((hp.push (PySem.W.kdv_tup [])).push (PySem.HandSPX.excO C hp.objs.size)).get? (hp.objs.size + 1) = some (PySem.HandSPX.excO C hp.objs.size) := by heap_get
  have I2 : Inv X pins σ (upd H1 (hp.objs.size + 1) (exo (hp.objs.size + 1) C none)) ⟨(hp.push (PySem.W.kdv_tup [])).push (PySem.HandSPX.excO C hp.objs.size), gs, dr, tk, os⟩ := I1.laid (t' := tk) (a := hp.objs.size + 1) (o := exo (hp.objs.size + 1) C none) kk up (exo_ok me)
  have one : Vals [V.ref (hp.objs.size + 1)] [Value.ref (hp.objs.size + 1)] := .cons rfl .nil
  refine wpAny_call (kw_call PySem.F.excBase_ValueError (fun Y => PySem.HandSPX.refsVE_contains Y bm hbm) (I1.kIn _ _ hC) (PySem.W.looks_findIn I1.kIn iC) (fun self => PySem.W.bind_fn I1.kIn self tI)
    (codeAny_mono (F.run _ X.stack _ _ ⟨[Value.ref (hp.objs.size + 1)], ks.zip ws⟩ (g [Value.ref (hp.objs.size + 1)] ws) _ _ (fun _ _ _ => False) (hr.make C [] (ks.zip ws)) (I2.env0.make C [] (ks.zip ws)) (hb.to _ _ ws I2.kIn rfl (rz.length.symm.trans l2)) (hb.rel one rz) hq) fun r s' hq' => ?_))
  match r, hq' with
  | .error er, hq' => exact hx pins σ _ _ er s' I2 hq'
  | .ok (.ret u), hq' =>
    obtain ⟨v, H', I3, rv, ev, q3⟩ := I2.after hq'
    subst ev
    exact ⟨rv, V.ref (hp.objs.size + 1), H', I3, rfl, q3⟩
  | .ok .next, hq' => exact hq'.elim
  | .ok .brk, hq' => exact hq'.elim
  | .ok .cont, hq' => exact hq'.elim⟩
open PyProof.Rows PySem.Spec in
theorem pe_oxf (T : XfC X.K C) (hno : PySem.W.findIn X.K (.ref C) n = some none) (he : PE X e te) (hb : attributeBase e n X.env (eval e X.env) = eval e X.env) :
    PE X (.Attribute e n pos) (fun σ H Q => te σ H fun y H1 => ∃ (a d : Addr) (fs : List (Str × V)) (v : V), y = .ref a ∧ H1 a = some (exo a C (some d)) ∧ H1 d = some (exd d fs) ∧ fs.lookup n = some v ∧ Q v H1) := ⟨fun pins s σ H Q I h => by
  refine attr_of hb (thn (he.run pins s σ H _ I h) fun u s1 hh => ?_)
  obtain ⟨y, H1, I1, ry, a, d, fs, v, rfl, ea, ed, l, q⟩ := hh
  obtain rfl : u = Value.ref a := ry
  have oa := exo_at I1.hok ea
  have od := exd_at I1.hok ed
  obtain ⟨t1, ha⟩ := oa
  obtain ⟨mA, hns, hr⟩ := od
  have lk := lookIn_ns hns
  obtain ⟨od, ho, hl⟩ := lk
  have so := RelO.some_of (v := v) (o := mA n) (by rw [← l]; exact hr n)
  obtain ⟨u, hu, ru⟩ := so
  have J : PySem.W.InstAt s1.heap a _ C (some od) := ⟨ha, rfl, rfl, ho⟩
  exact HandSPX.exc_get I1.kIn J T.ga T.gg T.exC (PySem.W.findObj_own T.hdC hno rfl (by rw [hl, hu])) (handed_of ru) ⟨v, H1, I1.tok _, ru, q⟩⟩
end
/-- an error made by keywords ks, of which the j-th becomes the field f -/
def ErrK (P : Program) (w : World) (K : PySem.W.Frag) (mg : Str → Option Value) (base : Heap) (c f : Str) (ks : List Str) (j : Nat) : Prop :=
  ∃ (ns : List Str) (C fI : Addr) (fd : FuncData) (ps : List Str) (g : List Value → List Value → List Value) (gV : List V → List V → List V), mg c = some (.ref C) ∧ OexC K C ∧ PySem.W.findIn K (.ref C) "__init__" = some (some (.ref fI)) ∧ PySem.W.typeIn K (.ref fI) = some (.type "function") ∧
    FnOk P w K mg base CX0 1 fI fd ps (spI C ns) ∧ KBn K fd ps 1 ks g gV ∧ XfC K C ∧ PySem.W.findIn K (.ref C) f = some none ∧
    ∀ (a : Addr) (zs : List V), zs.length = ks.length → ∃ ys : List V, gV [.ref a] zs = .ref a :: ys ∧ ys.length = ns.length ∧ ∀ v, zs[j]? = some v → (ns.zip ys).reverse.lookup f = some v
def errF (as : List Arg) (m j : Nat) : M D := M.bnd (evs as) fun xs ρ => match allD xs with
  | some ds => if ds.length = m then (match ds[j]? with
    | some d => .ok d ρ
    | none => .bad) else .bad
  | none => .bad
section
variable {X : Cx} {x f : Str} {ks : List Str} {j : Nat} {kws : List Keyword} {as : List Arg} {p pos apos : Pos}
theorem de_errF {m : Nat} (T : ErrK X.prog X.w X.K X.mg X.base x f ks j) (hr : Room 2 X.A) (ha : DK X kws as) (hg : Gl X x := by rfl) (hlm : ks.length = m := by rfl)
    (hall : (backToKw pos (keywordEach kws X.env)).all (·.1.isSome) = true := by rfl) (hks : (backToKw pos (keywordEach kws X.env)).filterMap (·.1) = ks := by rfl) (hdb : (x == ("__debug__" : Str)) = false := by decide)
    (hpl : ((backTo pos (starEach [] X.env)).any (·.1) || (backToKw pos (keywordEach kws X.env)).any (·.1.isNone)) = false := by rfl)
    (hbase : attributeBase (.Call (.Name x p) [] kws pos) f X.env (eval (.Call (.Name x p) [] kws pos) X.env) = eval (.Call (.Name x p) [] kws pos) X.env := by rfl) : DE X (.Attribute (.Call (.Name x p) [] kws pos) f apos) (errF as m j) := fun W tk => by
  subst hlm
  obtain ⟨ns, C, fI, fd, ps, g, gV, hm, O, iC, tI, F, hb, Xf, hno, hp⟩ := T
  refine pe_imp (pe_oxf Xf hno (pe_oexK O iC tI F hr hb passes0 hg hm (ha W tk) hall hks hdb hpl) hbase) fun σ H Q ⟨w, A, ρ, R, q⟩ => ?_
  refine ⟨w, A, ρ, R, ?_⟩
  unfold errF at q
  cases hx : evs as ρ with
  | bad => rw [bnd_bad hx] at q; exact q.elim
  | exc er ρ1 => rw [bnd_exc hx] at q; exact q
  | ok xs ρ1 =>
    rw [bnd_ok hx] at q
    intro zs H1 ex1 R1 r1
    cases hd : allD xs with
    | none => rw [hd] at q; exact q.elim
    | some ds =>
      rw [hd] at q
      dsimp only at q
      by_cases hl : ds.length = ks.length
      · rw [if_pos hl] at q
        cases hj : ds[j]? with
        | none => rw [hj] at q; exact q.elim
        | some dv =>
          rw [hj] at q
          have r2 := allD_rep r1 hd
          obtain ⟨v, hv, rv⟩ := r2.get hj
          have hz : zs.length = ks.length := by rw [← r2.length, hl]
          refine ⟨hz, fun a na => ?_⟩
          obtain ⟨ys, y1, y2, y3⟩ := hp a zs hz
          rw [y1]
          refine ⟨a, ys, rfl, y2, upd_same, fun dx H2 nx ne h1 h2 h3 => ⟨rfl, a, dx, _, v, rfl, h1, h2, y3 v hv, ?_⟩⟩
          have nx' : H1 dx = none := by rwa [upd_ne ne] at nx
          have sm : Same H1 H2 := fun b o hb => by
            have b1 : b ≠ a := ne_of_none hb na
            rw [h3 b b1 (ne_of_none hb nx'), upd_ne b1]
            exact hb
          exact q v H2 (ex1.trans (Ext.of sm)) (R1.same sm) (rv.mono (off_Same sm))
      · rw [if_neg hl] at q; exact q.elim
end
def exG (kn : List Str) (i : Nat) (f : Str) : M D := fun ρ => match ρ[i]? with
  | some (.ex e) => if kn.contains e.c = true then (match (e.ns.zip e.l).lookup f with
    | some d => .ok d ρ
    | none => .bad) else .bad
  | _ => .bad
def XfG (K : PySem.W.Frag) (mg : Str → Option Value) (kn : List Str) (f : Str) : Prop := ∀ e ∈ kn, ∀ D, mg e = some (.ref D) → XfC K D ∧ PySem.W.findIn K (.ref D) f = some none
section
variable {X : Cx} {a : Addr} {oe : Obj} {cls : Value} {d : Option Addr} {pn : List (Addr × Obj)} {e : Expr} {te : TE} {pos : Pos} {f : Str} {kn : List Str} {i : Nat}
open PyProof.Rows PySem.Spec in
theorem pe_xfG (hz : Zc cls d oe) (hv : ∃ vs, oe.data = .fields vs) (he : PE (X.suite a ((a, oe) :: pn)) e te) (hb : attributeBase e f X.env (eval e X.env) = eval e X.env) :
    PE (X.suite a ((a, oe) :: pn)) (.Attribute e f pos) (fun σ H Q => te σ H fun y H1 => y = .ref a ∧ ∃ (C dd : Addr) (fs : List (Str × V)) (v : V), cls = .ref C ∧ XfC X.K C ∧ PySem.W.findIn X.K (.ref C) f = some none ∧ d = some dd ∧ H1 dd = some (.xd fs) ∧ fs.lookup f = some v ∧ Q v H1) := ⟨fun pins s σ H Q I h => by
  refine attr_of hb (thn (he.run pins s σ H _ I h) fun u s1 hh => ?_)
  obtain ⟨y, H1, I1, ry, rfl, C, dd, fs, v, rfl, T, hno, rfl, ea, l, q⟩ := hh
  obtain rfl : u = Value.ref a := ry
  have pin := I1.pin (a, oe) (List.mem_append_left _ List.mem_cons_self)
  have hx : ObjOk X.prog X.w H1 s1.heap dd (.xd fs) := I1.hok dd _ ea
  obtain ⟨vs, hd⟩ := hv
  obtain ⟨mA, hns, hr⟩ := hx
  have lk := lookIn_ns hns
  obtain ⟨od, ho, hl⟩ := lk
  have so := RelO.some_of (v := v) (o := mA f) (by rw [← l]; exact hr f)
  obtain ⟨u, hu, ru⟩ := so
  have no : PySem.W.notCls oe = true := by
    unfold PySem.W.notCls
    rw [hd]
  have J : PySem.W.InstAt s1.heap a oe C (some od) := ⟨pin.1, hz.1, no, by rw [hz.2]; exact ho⟩
  exact HandSPX.exc_get I1.kIn J T.ga T.gg T.exC (PySem.W.findObj_own T.hdC hno rfl (by rw [hl, hu])) (handed_of ru) ⟨v, H1, I1.tok _, ru, q⟩⟩
theorem de_xfG (T : XfG X.K X.mg kn f) (hz : Zc cls d oe) (hv : ∃ vs, oe.data = .fields vs) (ho : PE (X.suite a ((a, oe) :: pn)) e (tVar i)) (hb : attributeBase e f X.env (eval e X.env) = eval e X.env := by rfl) : DE (X.suite a ((a, oe) :: pn)) (.Attribute e f pos) (exG kn i f) := fun W tk =>
  pe_imp (pe_xfG hz hv ho hb) fun σ H Q ⟨w, A, ρ, R, q⟩ => by
    unfold exG at q
    cases hs : ρ[i]? with
    | none => rw [hs] at q; exact q.elim
    | some s0 =>
      rw [hs] at q
      cases s0 with
      | ex er =>
        dsimp only at q
        by_cases hk : kn.contains er.c = true
        · rw [if_pos hk] at q
          cases hl : (er.ns.zip er.l).lookup f with
          | none => rw [hl] at q; exact q.elim
          | some dv =>
            rw [hl] at q
            obtain ⟨o, ho', so, D, e1, e2, z⟩ := R.at' hs
            obtain ⟨oe', g1, g2, g3⟩ := tk.z rfl w.1 w.2
            obtain ⟨ga, go⟩ : a = w.1.xx.1 ∧ oe = oe' := by
              have g1' : some (a, oe) = some (w.1.xx.1, oe') := g1
              cases g1'
              exact ⟨rfl, rfl⟩
            subst go
            obtain ⟨j, j1, j2⟩ := zip_lookI hl
            obtain ⟨t1, t2⟩ := T er.c (by simpa using hk) D e2
            rcases z with z | ⟨d', fs, y1, y2, y3, y4⟩
            · rw [z.1] at j1; simp at j1
            · obtain ⟨v, v1, v2⟩ := y4 j f dv j1 j2
              exact ⟨.ref a, by rw [ho', so, ga], rfl, D, d', fs, v, by rw [← hz.1, g2, e1], t1, t2, by rw [← hz.2, g3, y1], y2, v1, q v H Ext.refl R v2⟩
        · rw [if_neg hk] at q; exact q.elim
      | _ => exact q.elim
end
section
variable {K : PySem.W.Frag} {mg : Str → Option Value} {kn : List Str} {tb : Str → Bool} {v : Value} {f : Str}
theorem isX_mk (h : ∀ e ∈ kn, ∃ C : Addr, mg e = some (.ref C) ∧ L2.ExcC K C ∧ PySem.W.kitOne K (.ref C) v = some (tb e)) : IsX K mg kn tb v := fun e he D hD => by
  obtain ⟨C, h1, h2, h3⟩ := h e he
  rw [h1] at hD
  cases hD
  exact ⟨h2, h3⟩
theorem xfG_mk (h : ∀ e ∈ kn, ∃ C : Addr, mg e = some (.ref C) ∧ XfC K C ∧ PySem.W.findIn K (.ref C) f = some none) : XfG K mg kn f := fun e he D hD => by
  obtain ⟨C, h1, h2, h3⟩ := h e he
  rw [h1] at hD
  cases hD
  exact ⟨h2, h3⟩
end
end DL
namespace DL
open PySem L2
section
variable {P : Program} {w : World} {K : PySem.W.Frag} {mg : Str → Option Value} {base : Heap} {c f g v u : Str} {C fI : Addr} {fd : FuncData}
theorem errK1 (hm : mg c = some (.ref C)) (O : OexC K C) (iC : PySem.W.findIn K (.ref C) "__init__" = some (some (.ref fI))) (tI : PySem.W.typeIn K (.ref fI) = some (.type "function")) (F : FnOk P w K mg base CX0 1 fI fd ["self", v] (spI C [f])) (Xf : XfC K C) (hno : PySem.W.findIn K (.ref C) f = some none)
    (hb : ∀ us ws : List Value, us.length = 1 → ws.length = 1 → bindArgs fd ⟨us, [v].zip ws⟩ = pure ((["self", v] : List Str).zip (us ++ ws))) : ErrK P w K mg base c f [v] 0 :=
  ⟨[f], C, fI, fd, ["self", v], fun us ws => us ++ ws, fun us ws => us ++ ws, hm, O, iC, tI, F, ⟨fun s us ws _ h1 h2 => .of_eq (hb us ws h1 h2), fun r1 r2 => r1.append r2⟩, Xf, hno, fun a zs hz => by
    match zs, hz with
    | [z], _ => exact ⟨[z], rfl, rfl, fun v hv => by simp at hv; subst hv; simp⟩⟩
theorem errK2a (hm : mg c = some (.ref C)) (O : OexC K C) (iC : PySem.W.findIn K (.ref C) "__init__" = some (some (.ref fI))) (tI : PySem.W.typeIn K (.ref fI) = some (.type "function")) (F : FnOk P w K mg base CX0 1 fI fd ["self", v, u] (spI C [f, g])) (Xf : XfC K C) (hno : PySem.W.findIn K (.ref C) g = some none)
    (hb : ∀ us ws : List Value, us.length = 1 → ws.length = 2 → bindArgs fd ⟨us, [v, u].zip ws⟩ = pure ((["self", v, u] : List Str).zip (us ++ ws))) : ErrK P w K mg base c g [v, u] 1 :=
  ⟨[f, g], C, fI, fd, ["self", v, u], fun us ws => us ++ ws, fun us ws => us ++ ws, hm, O, iC, tI, F, ⟨fun s us ws _ h1 h2 => .of_eq (hb us ws h1 h2), fun r1 r2 => r1.append r2⟩, Xf, hno, fun a zs hz => by
    match zs, hz with
    | [z, y], _ => exact ⟨[z, y], rfl, rfl, fun v hv => by simp at hv; subst hv; simp⟩⟩
theorem Vals.rev2 {zs : List V} {ws : List Value} (r : Vals zs ws) : Vals zs.reverse ws.reverse := by
  induction r with
  | nil => exact .nil
  | cons h t ih =>
    rw [List.reverse_cons, List.reverse_cons]
    exact L2.Vals.append ih (.cons h .nil)
theorem errK2b (hm : mg c = some (.ref C)) (O : OexC K C) (iC : PySem.W.findIn K (.ref C) "__init__" = some (some (.ref fI))) (tI : PySem.W.typeIn K (.ref fI) = some (.type "function")) (F : FnOk P w K mg base CX0 1 fI fd ["self", v, u] (spI C [f, g])) (Xf : XfC K C) (hno : PySem.W.findIn K (.ref C) f = some none) (hfg : f ≠ g)
    (hb : ∀ us ws : List Value, us.length = 1 → ws.length = 2 → bindArgs fd ⟨us, [u, v].zip ws⟩ = pure ((["self", v, u] : List Str).zip (us ++ ws.reverse))) : ErrK P w K mg base c f [u, v] 1 :=
  ⟨[f, g], C, fI, fd, ["self", v, u], fun us ws => us ++ ws.reverse, fun us ws => us ++ ws.reverse, hm, O, iC, tI, F, ⟨fun s us ws _ h1 h2 => .of_eq (hb us ws h1 h2), fun r1 r2 => r1.append (Vals.rev2 r2)⟩, Xf, hno, fun a zs hz => by
    match zs, hz with
    | [z, y], _ => exact ⟨[y, z], rfl, rfl, fun v hv => by
        have e : (f == g) = false := by simpa using hfg
        simp at hv
        subst hv
        simp [List.lookup, e]⟩⟩
end
section
variable {X : Cx} {a : Addr} {oe : Obj} {cls : Value} {d : Option Addr} {pn : List (Addr × Obj)} {en : Expr} {nm : Str} {p p2 pos : Pos} {i : Nat} {kn : List Str} {tb : Str → Bool}
theorem de_isXC (T : ∃ C : Addr, X.mg nm = some (.ref C) ∧ IsX X.K X.mg kn tb (.ref C)) (hz : Zc cls d oe) (hv : ∃ vs, oe.data = .fields vs) (hg : Gl (X.suite a ((a, oe) :: pn)) "isinstance") (hm : X.mg "isinstance" = none) (ho : PE (X.suite a ((a, oe) :: pn)) en (tVar i)) (hg2 : Gl (X.suite a ((a, oe) :: pn)) nm) (hdb : (nm == ("__debug__" : Str)) = false := by decide)
    (hs : starEach [en, .Name nm p2] X.env = (false, eval en X.env) :: starEach [.Name nm p2] X.env := by rfl) (hs2 : starEach [.Name nm p2] X.env = (false, eval (.Name nm p2) X.env) :: starEach [] X.env := by rfl)
    (hpl : (backTo pos (starEach [.Name nm p2] X.env)).any (·.1) = false := by rfl) : DE (X.suite a ((a, oe) :: pn)) (.Call (.Name "isinstance" p) [en, .Name nm p2] [] pos) (isX kn tb i) := by
  obtain ⟨C, h1, h2⟩ := T
  exact de_isX (cV := .ref C) (cv := .ref C) h2 (fun u r => r) hz hv hg hm ho (pe_glob (v := .ref C) hg2 h1 rfl hdb) hs hs2 hpl
theorem de_isXB {t : String} (T : IsX X.K X.mg kn tb (.type t)) (hn0 : X.mg nm = none) (hb : bootBuiltins nm = some (.type t)) (hz : Zc cls d oe) (hv : ∃ vs, oe.data = .fields vs) (hg : Gl (X.suite a ((a, oe) :: pn)) "isinstance") (hm : X.mg "isinstance" = none) (ho : PE (X.suite a ((a, oe) :: pn)) en (tVar i)) (hg2 : Gl (X.suite a ((a, oe) :: pn)) nm) (hn : nm ≠ "__name__" := by decide) (hdb : (nm == ("__debug__" : Str)) = false := by decide)
    (hs : starEach [en, .Name nm p2] X.env = (false, eval en X.env) :: starEach [.Name nm p2] X.env := by rfl) (hs2 : starEach [.Name nm p2] X.env = (false, eval (.Name nm p2) X.env) :: starEach [] X.env := by rfl)
    (hpl : (backTo pos (starEach [.Name nm p2] X.env)).any (·.1) = false := by rfl) : DE (X.suite a ((a, oe) :: pn)) (.Call (.Name "isinstance" p) [en, .Name nm p2] [] pos) (isX kn tb i) :=
  de_isX (cV := .ty t) (cv := .type t) T (fun u r => r) hz hv hg hm ho (pe_bltn (v := .ty t) hg2 hn0 hb rfl hn hdb) hs hs2 hpl
end
end DL
namespace DL
open PySem L2
section
variable {X : Cx} {x : Str} {p pos : Pos} {e : Expr} {es : List Expr} {as : List Arg} {k i : Nat} {φ : Fn}
/-- a def's name as a value -/
theorem de_fn {k : Nat} (D : DefOk X.prog X.w X.K X.mg X.base x k φ) (hg : Gl X x := by rfl) (hd : (x == ("__debug__" : Str)) = false := by decide) : DE X (.Name x pos) (M.ret (.fn x)) := by
  obtain ⟨f, fd, ps, hm, _⟩ := D
  exact de_glob (v := .ref f) hg hm rfl (fun F => ⟨f, rfl, hm⟩) hd
/-- a call of a local name that holds one of some defs, which raise nothing -/
def callP (tab : List (Str × Fn)) (i : Nat) (as : List Arg) : M D := fun ρ => match ρ[i]? with
  | some (.val (.fn n)) => (match tab.lookup n with
    | some φ => (match callF φ as ρ with
      | .ok d ρ' => .ok d ρ'
      | _ => .bad)
    | none => .bad)
  | _ => .bad
theorem de_callP {tab : List (Str × Fn)} (T : ∀ n φ, tab.lookup n = some φ → ∃ k', k' ≤ k ∧ DefOk X.prog X.w X.K X.mg X.base n k' φ) (hr : Room k X.A) (hN : X.N[i]? = some x) (hv : Vis X.env.scope x) (ha : DA X (e :: es) as)
    (hdb : (x == ("__debug__" : Str)) = false := by decide) (hcd : (x == ("__classdict__" : Str)) = false := by decide) (he : starEach (e :: es) X.env = (false, eval e X.env) :: starEach es X.env := by rfl) (hpl : (backTo pos (starEach es X.env)).any (·.1) = false := by rfl) :
    DE X (.Call (.Name x p) (e :: es) [] pos) (callP tab i as) := fun W tk => ⟨fun pins s σ H Q I ⟨w, A, ρ, R, q⟩ => by
  unfold callP at q
  cases hs : ρ[i]? with
  | none => rw [hs] at q; exact q.elim
  | some s0 =>
    rw [hs] at q
    cases s0 with
    | val dv =>
      cases dv with
      | fn n =>
        dsimp only at q
        cases ht : tab.lookup n with
        | none => rw [ht] at q; exact q.elim
        | some φ =>
          rw [ht] at q
          dsimp only at q
          obtain ⟨k', hk, f, fd, ps, hm, kp, hb, F⟩ := T n φ ht
          obtain ⟨v, hv2, a, rfl, hm2⟩ := R.val hs
          rw [hm] at hm2
          cases hm2
          refine (pe_callL (i := i) (E := fun _ _ _ => False) F (hr.mono hk) hN hv kp hb .nil (fun pins σ H s e s' I c => L2N.passAt (takesN0 (X := X)) σ pins H s e s' I c) (ha W tk) hdb hcd he hpl).run pins s σ H Q I ⟨hv2, w, A, ρ, R, ?_⟩
          unfold callF at q
          cases hx : evs as ρ with
          | exc e ρ1 => rw [bnd_exc hx] at q; exact q.elim
          | bad => rw [bnd_bad hx] at q; exact q.elim
          | ok xs ρ1 =>
            rw [bnd_ok hx] at q
            intro vs H1 ex1 R1 r1
            rw [List.append_nil]
            have ce := call_end (W := WF) (Q := Q) (φ := φ) R1 r1
            refine ce ?_
            cases hc : callV φ xs ρ1 with
            | ok d ρ2 => rw [hc] at q; exact fun v H2 ex2 R2 r2 => q v H2 (ex1.trans ex2) R2 r2
            | exc e ρ2 => rw [hc] at q; exact q.elim
            | bad => rw [hc] at q; exact q.elim
      | _ => exact q.elim
    | _ => exact q.elim⟩
end
def signs (s : Str) : List D := s.cps.toList.map fun c => D.str ⟨#[c]⟩
def seqS (m : M D) : M (List D) := M.bnd m fun d ρ => match d with
  | .str s => if s.length ≤ sizeLine then .ok (signs s) ρ else .bad
  | _ => .bad
section
variable {X : Cx} {tg e : Expr} {m : M D} {K : PySem.W.Frag} {mg : Str → Option Value} {A : List Addr} {H0 : Hp}
theorem wk_str {s : Str} : Wk K mg A (signs s) (Its s) H0 := fun i A' H sm tk => by
  unfold signs
  refine ⟨fun d hd => ?_, fun hl => ?_⟩
  · rw [List.getElem?_map, Array.getElem?_toList] at hd
    obtain ⟨c, hc, rfl⟩ := Option.map_eq_some_iff.mp hd
    refine ⟨(Array.getElem?_eq_some_iff.mp hc).1, fun x H' ⟨e1, c', h1, h2⟩ => ?_⟩
    subst e1
    rw [hc] at h1
    cases h1
    exact ⟨Same.refl _, h2⟩
  · show s.cps.size ≤ i
    simpa using hl
theorem di_str (h : DE X e m) : DI X tg e (seqS m) := fun W tk => pi_imp (pi_str (h W tk)) fun σ H R ⟨w, A, ρ, Rr, q⟩ => by
  refine ⟨w, A, ρ, Rr, ?_⟩
  unfold seqS at q
  cases hm : m ρ with
  | exc e ρ1 => rw [bnd_exc hm] at q; exact q
  | bad => rw [bnd_bad hm] at q; exact q
  | ok d ρ1 =>
    rw [bnd_ok hm] at q
    intro v H1 ex1 R1 r1
    cases d with
    | str s =>
      dsimp only at q
      by_cases hz : s.length ≤ sizeLine
      · rw [if_pos hz] at q
        exact ⟨s, r1, q _ H1 ex1 R1 wk_str (by unfold signs; rw [List.length_map, Array.length_toList]; exact hz)⟩
      · rw [if_neg hz] at q; exact q.elim
    | _ => exact q.elim
end
def strM1 (f : Str → D → Option D) (mo m : M D) : M D := M.bnd mo fun d => match d with
  | .str a => M.bnd m fun y ρ => match f a y with
    | some r => .ok r ρ
    | none => .bad
  | _ => fun _ => .bad
def strM0 (f : Str → Option D) (mo : M D) : M D := M.bnd mo fun d ρ => match d with
  | .str a => (match f a with
    | some r => .ok r ρ
    | none => .bad)
  | _ => .bad
def strsOf : List D → Option (List Str)
  | [] => some []
  | .str s :: r => (strsOf r).map fun l => s :: l
  | _ => none
def D.join (a : Str) : D → Option D
  | .lst l => (strsOf l).bind fun ys => if (ys.map (·.length)).sum + ys.length * a.length ≤ 16777216 then some (.str (Txt.join a ys)) else none
  | .tup l => (strsOf l).bind fun ys => if (ys.map (·.length)).sum + ys.length * a.length ≤ 16777216 then some (.str (Txt.join a ys)) else none
  | _ => none
def D.split (a : Str) : D → Option D
  | .str b => if (b.length == 0) = false ∧ a.length + 2 ≤ sizeLine then some (.lst ((Txt.split a b).map D.str)) else none
  | _ => none
def D.upper (a : Str) : Option D := if a.length ≤ 5592405 then some (.str (Txt.upper a)) else none
section
variable {X : Cx} {o e : Expr} {mo m : M D} {K : PySem.W.Frag} {mg : Str → Option Value}
def SndM (K : PySem.W.Frag) (mg : Str → Option Value) (r : V → List V → Hp → VK → Prop) (f : Str → D → Option D) : Prop :=
  ∀ (A : List Addr) (H : Hp) (a : Str) (y d : D) (u : V) (Q : VK), Trk A H → Rep K mg (off A H) y u → f a y = some d → (∀ v' H', Same H H' → Rep K mg (off A H') d v' → Q v' H') → r (.str a) [u] H Q
theorem de_strM1 {r : V → List V → Hp → VK → Prop} {f : Str → D → Option D} {E : Expr} (hp : ∀ to te : TE, PE X o to → PE X e te → PE X E (tM1 r to te)) (hs : SndM X.K X.mg r f) (ho : DE X o mo) (he : DE X e m) : DE X E (strM1 f mo m) := fun W tk =>
  pe_imp (hp _ _ (ho W tk) (he W tk)) fun σ H Q ⟨w, A, ρ, R, q⟩ => by
    refine ⟨w, A, ρ, R, ?_⟩
    unfold strM1 at q
    cases h1 : mo ρ with
    | exc e ρ1 => rw [bnd_exc h1] at q; exact q
    | bad => rw [bnd_bad h1] at q; exact q
    | ok d ρ1 =>
      rw [bnd_ok h1] at q
      intro v H1 ex1 R1 r1
      cases d with
      | str a =>
        dsimp only at q
        cases r1
        refine ⟨⟨a, rfl⟩, w, A, ρ1, R1, ?_⟩
        cases h2 : m ρ1 with
        | exc e ρ2 => rw [bnd_exc h2] at q; exact fun c dd H2 ex2 R2 z => q c dd H2 (ex1.trans ex2) R2 z
        | bad => rw [bnd_bad h2] at q; exact q
        | ok y ρ2 =>
          rw [bnd_ok h2] at q
          intro u H2 ex2 R2 r2
          cases hf : f a y with
          | none => rw [hf] at q; exact q.elim
          | some d =>
            rw [hf] at q
            exact hs A H2 a y d u Q R2.trk r2 hf fun v' H' sm rv => q v' H' ((ex1.trans ex2).trans (Ext.of sm)) (R2.same sm) rv
      | _ => exact q.elim
theorem de_strM0 {r : V → List V → Hp → VK → Prop} {f : Str → Option D} {E : Expr} (hp : ∀ to : TE, PE X o to → PE X E (tM0 r to)) (hs : ∀ (A : List Addr) (H : Hp) (a : Str) (d : D) (Q : VK), Trk A H → f a = some d → (∀ v' H', Same H H' → Rep X.K X.mg (off A H') d v' → Q v' H') → r (.str a) [] H Q) (ho : DE X o mo) : DE X E (strM0 f mo) := fun W tk =>
  pe_imp (hp _ (ho W tk)) fun σ H Q ⟨w, A, ρ, R, q⟩ => by
    refine ⟨w, A, ρ, R, ?_⟩
    unfold strM0 at q
    cases h1 : mo ρ with
    | exc e ρ1 => rw [bnd_exc h1] at q; exact q
    | bad => rw [bnd_bad h1] at q; exact q
    | ok d ρ1 =>
      rw [bnd_ok h1] at q
      intro v H1 ex1 R1 r1
      cases d with
      | str a =>
        dsimp only at q
        cases r1
        cases hf : f a with
        | none => rw [hf] at q; exact q.elim
        | some d =>
          rw [hf] at q
          exact ⟨⟨a, rfl⟩, hs A H1 a d Q R1.trk hf fun v' H' sm rv => q v' H' (ex1.trans (Ext.of sm)) (R1.same sm) rv⟩
      | _ => exact q.elim
theorem strs_reps {F : Hp} : ∀ {l : List D} {ys : List Str} {vs : List V}, Reps K mg F l vs → strsOf l = some ys → vs = ys.map V.str
  | [], ys, vs, r, e => by cases (Option.some.inj e); exact r
  | .str s :: l, ys, vs, ⟨v, w, e1, h, t⟩, e => by
    obtain ⟨zs, h1, rfl⟩ := Option.map_eq_some_iff.mp e
    subst e1
    rw [strs_reps t h1, show v = V.str s from h]
    rfl
  | .non :: _, _, _, _, e => by cases e
  | .bl _ :: _, _, _, _, e => by cases e
  | .int _ :: _, _, _, _, e => by cases e
  | .fn _ :: _, _, _, _, e => by cases e
  | .tup _ :: _, _, _, _, e => by cases e
  | .lst _ :: _, _, _, _, e => by cases e
  | .scr _ :: _, _, _, _, e => by cases e
  | .obj _ _ _ :: _, _, _, _, e => by cases e
theorem reps_strs {F : Hp} : ∀ ys : List Str, Reps K mg F (ys.map D.str) (ys.map V.str)
  | [] => rfl
  | y :: ys => .cons rfl (reps_strs ys)
end
section
variable {X : Cx} {o e : Expr} {mo m : M D} {apos pos : Pos}
theorem de_join (ho : DE X o mo) (he : DE X e m) (hs : starEach [e] X.env = [(false, eval e X.env)] := by rfl) (hbase : attributeBase o "join" X.env (eval o X.env) = eval o X.env := by rfl) (hline : (apos.endLine == pos.line) = true := by rfl) :
    DE X (.Call (.Attribute o "join" apos) [e] [] pos) (strM1 D.join mo m) := de_strM1 (fun _ _ h1 h2 => pe_join h1 h2 hs hbase hline) (by
  intro A H a y d u Q tk r e q
  cases y with
  | lst l =>
    obtain ⟨ys, h1, h2⟩ := Option.bind_eq_some_iff.mp e
    obtain ⟨hz, rfl⟩ := ite_some h2
    obtain ⟨p, vs, rfl, hh, rr⟩ := r
    exact ⟨a, p, ys, rfl, rfl, .inl (by rw [← strs_reps rr h1]; exact SqL.of (off_le _ _ hh)), hz, q _ _ (Same.refl _) rfl⟩
  | tup l =>
    obtain ⟨ys, h1, h2⟩ := Option.bind_eq_some_iff.mp e
    obtain ⟨hz, rfl⟩ := ite_some h2
    obtain ⟨p, vs, rfl, hh, rr⟩ := r
    exact ⟨a, p, ys, rfl, rfl, .inr (by rw [← strs_reps rr h1]; exact SqT.mono off_le hh), hz, q _ _ (Same.refl _) rfl⟩
  | _ => cases e) ho he
theorem de_split (ho : DE X o mo) (he : DE X e m) (hs : starEach [e] X.env = [(false, eval e X.env)] := by rfl) (hbase : attributeBase o "split" X.env (eval o X.env) = eval o X.env := by rfl) (hline : (apos.endLine == pos.line) = true := by rfl) :
    DE X (.Call (.Attribute o "split" apos) [e] [] pos) (strM1 D.split mo m) := de_strM1 (fun _ _ h1 h2 => pe_split h1 h2 hs hbase hline) (by
  intro A H a y d u Q tk r e q
  cases y with
  | str b =>
    obtain ⟨⟨h1, h2⟩, rfl⟩ := ite_some e
    cases r
    exact ⟨a, b, rfl, rfl, h1, h2, fun p np => q _ _ (same_upd np) (rep_lst tk np (reps_strs _))⟩
  | _ => cases e) ho he
theorem de_upper (ho : DE X o mo) (hbase : attributeBase o "upper" X.env (eval o X.env) = eval o X.env := by rfl) (hline : (apos.endLine == pos.line) = true := by rfl) :
    DE X (.Call (.Attribute o "upper" apos) [] [] pos) (strM0 D.upper mo) := de_strM0 (fun _ h1 => pe_upper h1 hbase hline) (by
  intro A H a d Q tk e q
  obtain ⟨h1, rfl⟩ := ite_some e
  exact ⟨a, rfl, rfl, h1, q _ _ (Same.refl _) rfl⟩) ho
end
def D.fmt : D → Option D
  | .str y => if y.length ≤ sizeLine then some (.str y) else none
  | .int i => if i.natAbs.log2 < 1920 then some (.str (toString i)) else none
  | _ => none
def fmtM (m : M D) : M D := M.bnd m fun d => M.opt d.fmt
def fjoin : List (M D) → Str → M D
  | [], acc => M.ret (.str acc)
  | m :: r, acc => M.bnd m fun d => match d with
    | .str y => if (acc ++ y).length ≤ sizeLine then fjoin r (acc ++ y) else fun _ => .bad
    | _ => fun _ => .bad
def DJ (X : Cx) (es : List Expr) (ms : List (M D)) : Prop := ∀ W : WZ, TakesZ X W → PJ X es (ms.map fun m => tE X.K X.mg W m)
section
variable {X : Cx} {e v1 v2 : Expr} {es rest : List Expr} {m : M D} {ms : List (M D)} {pos : Pos}
theorem dj_nil : DJ X [] [] := fun _ _ => .nil
theorem dj_cons (h : DE X e m) (t : DJ X es ms) : DJ X (e :: es) (m :: ms) := fun W tk => .cons (h W tk) (t W tk)
theorem de_fmt (h : DE X e m) : DE X (.FormattedValue e (-1) none pos) (fmtM m) := fun W tk => pe_imp (pe_fmt (h W tk)) fun σ H Q ⟨w, A, ρ, R, q⟩ => by
  refine ⟨w, A, ρ, R, ?_⟩
  unfold fmtM at q
  cases h1 : m ρ with
  | exc e ρ1 => rw [bnd_exc h1] at q; exact q
  | bad => rw [bnd_bad h1] at q; exact q
  | ok d ρ1 =>
    rw [bnd_ok h1] at q
    intro v H1 ex1 R1 r1
    cases d with
    | str y =>
      by_cases hz : y.length ≤ sizeLine
      · have e : D.fmt (.str y) = some (.str y) := if_pos hz
        rw [e] at q
        cases r1
        exact .inl ⟨y, rfl, hz, q _ H1 ex1 R1 rfl⟩
      · have e : D.fmt (.str y) = none := if_neg hz
        rw [e] at q; exact q.elim
    | int i =>
      by_cases hz : i.natAbs.log2 < 1920
      · have e : D.fmt (.int i) = some (.str (toString i)) := if_pos hz
        rw [e] at q
        cases r1
        exact .inr ⟨i, rfl, hz, q _ H1 ex1 R1 rfl⟩
      · have e : D.fmt (.int i) = none := if_neg hz
        rw [e] at q; exact q.elim
    | _ => exact q.elim
theorem fjoin_run {W : WZ} {σ : L2.St} {Q : VK} : ∀ {ms : List (M D)} {acc : Str} {w : WS W} {A : List Addr} {ρ : Ev} {H : Hp}, SR X.K X.mg w.1 A ρ σ H → (match fjoin ms acc ρ with
      | .ok d ρ' => ∀ v H', Ext A H H' → SR X.K X.mg w.1 A ρ' σ H' → Rep X.K X.mg (off A H') d v → Q v H'
      | .exc e ρ' => ∀ c dd H', Ext A H H' → SR X.K X.mg w.1 A ρ' σ H' → ExR X.K X.mg A H' e c dd → W c dd σ H'
      | .bad => False) → tJs (ms.map fun m => tE X.K X.mg W m) acc σ H fun out H1 => Q (.str out) H1
  | [], acc, w, A, ρ, H, R, q => q _ H Ext.refl R rfl
  | m :: ms, acc, w, A, ρ, H, R, q => by
    refine ⟨w, A, ρ, R, ?_⟩
    unfold fjoin at q
    cases h1 : m ρ with
    | exc e ρ1 => rw [bnd_exc h1] at q; exact q
    | bad => rw [bnd_bad h1] at q; exact q
    | ok d ρ1 =>
      rw [bnd_ok h1] at q
      intro v H1 ex1 R1 r1
      cases d with
      | str y =>
        dsimp only at q
        by_cases hz : (acc ++ y).length ≤ sizeLine
        · rw [if_pos hz] at q
          cases r1
          refine ⟨y, rfl, hz, fjoin_run (w := w) R1 ?_⟩
          cases h2 : fjoin ms (acc ++ y) ρ1 with
          | ok d ρ2 => rw [h2] at q; exact fun v H2 ex2 => q v H2 (ex1.trans ex2)
          | exc e ρ2 => rw [h2] at q; exact fun c dd H2 ex2 => q c dd H2 (ex1.trans ex2)
          | bad => rw [h2] at q; exact q
        · rw [if_neg hz] at q; exact q.elim
      | _ => exact q.elim
theorem de_fstr (h : DJ X (v1 :: v2 :: rest) ms) : DE X (.JoinedStr (v1 :: v2 :: rest) pos) (fjoin ms Str.empty) := fun W tk => pe_imp (pe_joined (h W tk)) fun σ H Q ⟨w, A, ρ, R, q⟩ => fjoin_run (w := w) R q
end
def D.toS : List D → Option D
  | [.str a] => if a.length ≤ 640 then (PySem.intText? a).map D.int else none
  | _ => none
theorem ite_opt {α : Type} {c : Prop} [Decidable c] {a : Option α} {d : α} (h : (if c then a else none) = some d) : c ∧ a = some d := by
  by_cases hc : c
  · rw [if_pos hc] at h; exact ⟨hc, h⟩
  · rw [if_neg hc] at h; cases h
section
variable {X : Cx} {e : Expr} {es : List Expr} {as : List Arg} {p pos : Pos}
theorem de_intS (hg : Gl X "int") (hm : X.mg "int" = none) (ha : DA X (e :: es) as) (he : starEach (e :: es) X.env = (false, eval e X.env) :: starEach es X.env := by rfl) (hpl : (backTo pos (starEach es X.env)).any (·.1) = false := by rfl) :
    DE X (.Call (.Name "int" p) (e :: es) [] pos) (opN D.toS as) :=
  de_many (fun _ h => pe_callTy call_int_str hg hm (by decide +kernel) h (he := he) (hpl := hpl)) (by
    intro A H xs d vs Q tk rx e q
    match xs, rx, e with
    | [.str a], rx, e =>
      obtain ⟨v, rfl, r⟩ := rx.one
      cases r
      obtain ⟨h1, h2⟩ := ite_opt e
      obtain ⟨n, h3, rfl⟩ := Option.map_eq_some_iff.mp h2
      exact ⟨a, n, rfl, h3, h1, q _ _ (Same.refl _) rfl⟩) ha
end
end DL
namespace DL
open PySem L2
open PySem.W (ksFn ksEnv kxs_mw)
/-- as cxS, while an error is handled -/
def cxSH (CX : CXT) (P : Program) (w : World) (K : PySem.W.Frag) (mg : Str → Option Value) (base : Heap) (N : List Str) (qual : Str) (sc : Scope) (f : Addr) (cd : Value) (cc : Addr) (A : Around) (outer : List Env) (s : Shared) (H : Hp) (E : XK) (pp : Addr × Obj) : Cx :=
  { cxS CX P w K mg base N qual sc f cd cc A outer s H E with calm := false, pn := [pp] }
section
variable {CX : CXT} {P : Program} {w : World} {K : PySem.W.Frag} {mg : Str → Option Value} {base : Heap} {N ps : List Str} {qual : Str} {sc : Scope} {f cc : Addr} {cd : Value} {A : Around} {outer : List Env} {s : Shared} {H : Hp} {E : XK} {us : List Value} {vs : List V}
theorem invSH {pp : Addr × Obj} {h1 : Heap} {tk : Nat} (S : SupScope N ps sc) (hpin : L2H.PinOk outer H s pp) (e0 : Env0 P w K mg base A outer s H) (hl : vs.length = ps.length) (r : Vals vs us) (ns : h1.Ns s.heap.objs.size fun y => (ps.zip us).reverse.lookup y)
    (hk : ∀ b o, s.heap.get? b = some o → h1.get? b = some o) {oc : Obj} (hcc : base.get? cc = some oc) {v0 : Option Value} (hcv : oc.data = .cell v0) :
    Inv (cxSH CX P w K mg base N qual sc f cd cc A outer s H E pp) [] (L2.start N vs) H { s with heap := h1, toks := tk } := by
  have hpl : ps.length ≤ N.length := by have := congrArg List.length S.pre; rw [List.length_take] at this; omega
  have e1 := (e0.bs _ _ hcc)
  have hcl : cc < s.heap.objs.size := Heap.lt_size e1.1
  refine { ok := ?_, os := rfl, bare := e0.bare, base := Un.kept hk, loc := ⟨_, ns, fun i y v g1 g2 g3 => ?_⟩, cell := fun x c h => ?_, free := e0.hok.fresh (Nat.le_refl _), freeC := fun x c h => ?_, pin := fun q hq => ?_, hok := e0.hok.kept hk, len := ?_ }
  · exact { mod := e0.mod, kind := S.kind, glob := rfl, blt := rfl, above := Nat.le_refl _, inj := fun x y c q1 q2 => (one_cell q1).1.trans (one_cell q2).1.symm
            has := fun x h => by
              rcases (show sc.names.lookup x = some .cell ∨ sc.names.lookup x = some .free from h) with h | h
              · exact absurd rfl (S.nocell _ (PySem.mem_of_lookup h))
              · rw [S.fre x h]
                exact ⟨cc, by show List.lookup _ [(_, cc)] = _; simp [List.lookup]⟩
            cab := fun x c z => by cases z
            hd := (fun z => Bool.noConfusion (show false = true from z)), frames := Around.frames_deeper e0.frames, stk := .inr ⟨rfl, rfl⟩, exf := fun b z => (by cases z)
            bs := e0.bs, bsz := e0.bsz, noex := fun b o _ z => (by cases z), exfs := fun b z => (by cases z), funs := e0.funs, frf := e0.frf }
  · have hi : i < vs.length := by
      unfold L2.start at g2
      by_cases hi : i < vs.length
      · exact hi
      · rw [List.getElem?_append_right (by simpa using hi), List.getElem?_replicate] at g2
        split at g2 <;> cases g2
    have ha : vs[i]? = some v := by
      unfold L2.start at g2
      rw [List.getElem?_append_left (by simpa using hi), List.getElem?_map] at g2
      obtain ⟨v', z1, z2⟩ := Option.map_eq_some_iff.mp g2
      cases z2
      exact z1
    obtain ⟨u, hu, rv⟩ := r.get ha
    have hp : ps[i]? = some y := by
      rw [← S.pre, List.getElem?_take_of_lt (by omega)]; exact g1
    have ndP : ps.Nodup := by rw [← S.pre]; exact S.nd.sublist (List.take_sublist _ _)
    exact ⟨u, rv, .inl ⟨S.par y (List.mem_of_getElem? hp), zip_back ndP hp hu⟩⟩
  · obtain ⟨_, rfl⟩ := one_cell h
    exact ⟨v0, oc, hk _ _ e1.1, hcv⟩
  · obtain ⟨_, rfl⟩ := one_cell h
    exact e1.2
  · have eq : q = pp := by simpa using (show q ∈ [pp] ++ ([] : List (Addr × Obj)) from hq)
    rw [eq]
    exact ⟨hk pp.1 pp.2 hpin.get, hpin.free, Nat.ne_of_lt (Heap.lt_size hpin.get), hpin.nofs, hpin.nocell⟩
  · show (L2.start N vs).length = N.length
    unfold L2.start
    rw [List.length_append, List.length_map, List.length_replicate]
    omega
end
section
open PySem.W PySem.Calls PyProof.Rows
variable {CX : CXT} {P : Program} {w : World} {K : PySem.W.Frag} {mg : Str → Option Value} {base : Heap} {N ps : List Str} {name qual : Str} {sc : Scope} {f cc cda Dc : Addr} {k : Nat} {sp : Sp}
  {params : Arguments} {rest : List Stmt} {e : Expr} {es : List Expr} {p0 p1 p2 p3 p4 : Pos} {dV kV doc pm ct oc ocl ccl : Value} {an od cdd cld : Option Addr} {osl ccs csl : Array (Option Value)} {vs2 : Array Value} {file : Str} {tf : Tok} {ar : PySem.Arg} {cdD : ClassData}
/-- such a def keeps its promise while an error is handled -/
theorem sup_fnH (lk : K.lookup f = some ⟨oc, od, .func (ksFn name qual params (.Expr (.Call (.Attribute (.Call (.Name "super" p0) [] [] p1) "__init__" p2) (e :: es) [] p3) p4 :: rest) sc dV kV doc pm an (.ref cda) ct cc), osl⟩)
    (hcd : codeIn K (.ref cda) qual = true) (S : SupScope N ps sc) (len : ∀ vs H Q E, sp vs H Q E → vs.length = ps.length)
    (hp : (params.posonlyargs ++ params.args).head? = some ar) (h0 : ps[0]? = some ar.arg) (hcode : K.lookup cda = some ⟨ccl, cdd, .fields vs2, ccs⟩) (hvs : vs2[2]? = some (.str file tf)) (hfile : ((P.main.file : Str) == file) = true)
    (hcell : K.lookup cc = some ⟨ocl, cld, .cell (some (.ref Dc)), csl⟩) (hD : clsIn K Dc = some cdD) (hsup : mg "super" = none) (htop : (P.main.scope.names.lookup ("super" : Str)).isSome = false) (hth : nsIn K cStatics "thirdparty.any" = some none)
    (hse : ∀ L : Addr, starEach (e :: es) (ksEnv qual sc L f (.ref cda) cc) = (false, eval e (ksEnv qual sc L f (.ref cda) cc)) :: starEach es (ksEnv qual sc L f (.ref cda) cc))
    (hpl : ∀ L : Addr, (backTo p3 (starEach es (ksEnv qual sc L f (.ref cda) cc))).any (·.1) = false)
    (hsw : ∀ L : Addr, swapsWith (.Call (.Attribute (.Call (.Name "super" p0) [] [] p1) "__init__" p2) (e :: es) [] p3) none p4.line (ksEnv qual sc L f (.ref cda) cc) = pure false)
    {pl : Addr → Sem Bool} (hev : ∀ L : Addr, eval (.Call (.Attribute (.Call (.Name "super" p0) [] [] p1) "__init__" p2) (e :: es) [] p3) (ksEnv qual sc L f (.ref cda) cc) = (do
      let sv ← attributeBase (.Call (.Name "super" p0) [] [] p1) "__init__" (ksEnv qual sc L f (.ref cda) cc) (eval (.Call (.Name "super" p0) [] [] p1) (ksEnv qual sc L f (.ref cda) cc))
      standAt p2.atName
      let (g, fst) ← holding [sv] (getMethod sv "__init__" (pl L))
      callWith p3 g fst (backTo p3 (starEach (e :: es) (ksEnv qual sc L f (.ref cda) cc))) []))
    (hbody : ∀ (A : Around) (outer : List Env) (s : Shared) (H : Hp) (vs : List V) (Q : VK) (E : XK) (pp : Addr × Obj), L2H.RoomH k (A.deeper (ksEnv qual sc s.heap.objs.size f (.ref cda) cc)) → sp vs H Q E →
      ∃ (ta : TA) (t : TS) (a C : Addr) (vr : List V), PA (cxSH CX P w K mg base N qual sc f (.ref cda) cc A outer s H E pp) (e :: es) ta ∧ PSs (cxSH CX P w K mg base N qual sc f (.ref cda) cc A outer s H E pp) rest t ∧ vs = .ref a :: vr ∧ OexC K C ∧
        ks_superIn K C Dc "__init__" = some (some (.builtin "ValueError.__init__")) ∧ subIn K (.ref C) (.type "ValueError") = some true ∧ mroIn K C (.ref Dc) = some true ∧ H a = some (exo a C none) ∧
        ta (L2.start N vs) H fun ws H1 => ws.length ≤ 1000 ∧ H1 a = some (exo a C none) ∧ t { nx := fun _ H' => Q .non H', rt := Q } (L2.start N vs) H1) :
    L2H.FnH P w K mg base CX (k + 1) f (ksFn name qual params (.Expr (.Call (.Attribute (.Call (.Name "super" p0) [] [] p1) "__init__" p2) (e :: es) [] p3) p4 :: rest) sc dV kV doc pm an (.ref cda) ct cc) ps sp := by
  refine ⟨len, fun A outer s H args us vs Q E pp hr hot hpin e0 hb r hsp => ?_⟩
  have hl := len _ _ _ _ hsp
  have KX : K.In s.heap := e0.mod.kin.keeps fun b o e => (e0.bs b o e).1
  have lim : s.heap.NoLimit := e0.mod.nolimit.keeps fun b o e => (e0.bs b o e).1
  refine ks_codeAny_call_defAt hr.depth (KX _ _ lk) rfl lim (codeRec_of KX hcd) rfl hb S.nocell (fun y hy => S.par _ (List.of_mem_zip hy).1) (fun h1 ns hk => ?_) S.co S.gen S.kind
  obtain ⟨ta, t, a, C, vr, ha, ht, ev, T, hsi, hve, hmr, ea, q⟩ := hbody A outer s H vs Q E pp (hr.deeper _) hsp
  have I := invSH (CX := CX) (E := E) (cd := .ref cda) (f := f) (qual := qual) (tk := s.toks + (ps.zip us).length) S hpin e0 hl r ns hk (e0.mod.kin _ _ hcell) rfl
  obtain ⟨nm, qn, N', bs, bm, sn, sub, ab, col, dd, k0, k1, k2, k3, k5, hC, hbm⟩ := T.cls
  have hcl : clsIn K C = some { name := nm, bases := bs, mro := .ref C :: bm, ns := N', qualname := qn, hasDict := true, slotNames := sn, subclasses := sub, abstract := ab, collection := col, hasDel := false } := by unfold clsIn; rw [hC]
  obtain ⟨oD, gD, dD⟩ : ∃ oD, h1.get? Dc = some oD ∧ oD.data = .cls cdD := by
    unfold clsIn at hD
    split at hD
    · rename_i c d cd' sl ho
      cases hD
      exact ⟨_, hk _ _ (KX _ _ ho), rfl⟩
    · cases hD
  have X1 : K.In h1 := KX.keeps hk
  obtain ⟨t1, hx⟩ := exo_at I.hok ea
  have hsl : L2.start N vs = some (V.ref a) :: (L2.start N vs).tail := by
    rw [ev]; rfl
  have hN0 : N[0]? = some ar.arg := by
    rw [← S.pre, List.getElem?_take] at h0
    split at h0
    · exact h0
    · cases h0
  have par0 : sc.names.lookup ar.arg = some .local := S.par _ (List.mem_of_getElem? h0)
  have self : ∀ {s' : Shared} {pins : List (Addr × Obj)} {H' : Hp}, L2.Inv (cxSH CX P w K mg base N qual sc f (.ref cda) cc A outer s H E pp) pins (L2.start N vs) H' s' → ∃ m, s'.heap.Ns s.heap.objs.size m ∧ m ar.arg = some (.ref a) := fun {s' pins H'} J => by
    obtain ⟨m, hn, hm⟩ := J.loc
    obtain ⟨u, ru, lo⟩ := hm 0 ar.arg (.ref a) hN0 (by rw [hsl]; rfl) (.inl par0)
    obtain rfl : u = Value.ref a := ru
    rcases lo with ⟨_, z⟩ | ⟨z, _⟩
    · exact ⟨m, hn, z⟩
    · rcases z with z | z
      · exact absurd ((show sc.names.lookup ar.arg = some .cell from z).symm.trans par0) (by decide)
      · exact absurd ((show sc.names.lookup ar.arg = some .free from z).symm.trans par0) (by decide)
  have node : ∀ {Q' : Value → Shared → Prop} {E' : Value → Shared → Prop} {body : List Stmt} {whole : Sem Value}, (∀ so h2, (∀ b o, h1.get? b = some o → h2.get? b = some o) → h2.get? so = some (ks_superObj Dc a C) → Q' (.ref so) ⟨h2, s.gens, s.drawn, s.toks + (ps.zip us).length, s.os⟩) →
      _root_.PySem.wpAt (model P w) (A.deeper (ksEnv qual sc s.heap.objs.size f (.ref cda) cc)) (.func body (ksEnv qual sc s.heap.objs.size f (.ref cda) cc))
        (attributeBase (.Call (.Name "super" p0) [] [] p1) "__init__" (ksEnv qual sc s.heap.objs.size f (.ref cda) cc) whole) Q' E' ⟨h1, s.gens, s.drawn, s.toks + (ps.zip us).length, s.os⟩ := fun {Q' E' body whole} q' => by
    refine ks_wpAt_super_base (env := ksEnv qual sc s.heap.objs.size f (.ref cda) cc) S.sup S.cls (by decide) rfl (hk _ _ (KX _ _ lk)) rfl hp rfl (hk _ _ (KX _ _ hcode)) rfl hvs hfile htop ?_
    obtain ⟨mb, z1, z2⟩ := e0.mod.blt
    refine ks_loadName_global S.kind S.sup (loadGlobal_builtin (env := ksEnv qual sc s.heap.objs.size f (.ref cda) cc) (I.mod.glob.keeps I.bk) hsup (z1.keeps I.bk) ((z2 _ (by decide)).trans (by first | rfl | kernel_rfl)) ⟨rfl, ?_⟩)
    refine wpAny_loadName_free S.kind S.cls rfl ⟨_, X1 _ _ hcell, rfl⟩ ?_
    obtain ⟨m, hn, hm⟩ := self I
    refine wpAny_loadName_local S.kind par0 hn hm ?_
    refine ks_wpAny_isType_cls gD dD ⟨rfl, ?_⟩
    refine ks_wpAny_call_super gD dD hx rfl (fun c z => by cases z) (looks_mroIn X1 hmr) fun h2 q1 q2 => ?_
    exact q' _ h2 q2 q1
  show _root_.PySem.wpAt (model P w) (A.deeper (ksEnv qual sc s.heap.objs.size f (.ref cda) cc)) (.func _ (ksEnv qual sc s.heap.objs.size f (.ref cda) cc)) (execs (_ :: rest) (ksEnv qual sc s.heap.objs.size f (.ref cda) cc)) _ _ _
  refine ks_wpAt_execs_cons (ks_wpAt_Expr_any (ks_wpAt_MethodCall (node fun so h2 q1 q2 => ?_) (hev _)) (by unfold interactive; rw [S.kind]; rfl) (hsw _))
  have I2 := I.kept (t' := s.toks + (ps.zip us).length) q1
  have X2 : K.In h2 := X1.keeps q1
  have hne : a ≠ C := ks_ne X2 (show InstAt h2 a _ C none from ⟨q1 _ _ hx, rfl, rfl, trivial⟩) hcl
  have hI : Looks (model P w) h2 (isInstance (.ref a) (.type "ValueError")) true := (show InstAt h2 a _ C none from ⟨q1 _ _ hx, rfl, rfl, trivial⟩).type.andThen (looks_subIn X2 hve)
  have hal : alongIn K "__init__" (((.ref C :: bm : List Value).dropWhile (· != .ref Dc)).drop 1) = some (some (.builtin "ValueError.__init__")) := by
    unfold ks_superIn at hsi
    rw [hcl] at hsi
    exact hsi
  refine kxs_getMethod kxs_ValueError q2 (looks_opaque X2 hth) (l₀ := .ref C :: bm) (fun A Q E s k q => wpAny_bind ((looks_clsIn X2 hcl) A _ E s k (wpAny_pure q))) rfl X2 hal hI hne (by decide) ?_
  have kp : ∀ b o, h2.get? b = some o → (h2.push (kxs_mw "ValueError.__init__" a)).get? b = some o := fun b o z => Heap.get?_push_of_some _ z
  have I3 := I2.kept (t' := s.toks + (ps.zip us).length + 1) kp
  have hmw : (h2.push (kxs_mw "ValueError.__init__" a)).get? h2.objs.size = some (kxs_mw "ValueError.__init__" a) := Heap.get?_push_at rfl rfl
  have I4 : L2.Inv (cxSH CX P w K mg base N qual sc f (.ref cda) cc A outer s H E pp) [(h2.objs.size, kxs_mw "ValueError.__init__" a)] (L2.start N vs) H ⟨h2.push (kxs_mw "ValueError.__init__" a), s.gens, s.drawn, s.toks + (ps.zip us).length + 1, s.os⟩ :=
    ⟨I3.ok, I3.os, I3.bare, I3.base, I3.loc, I3.cell, I3.free, I3.freeC, fun q hq => by
      rcases List.mem_append.mp hq with z | z
      · exact I3.pin q (List.mem_append_left _ z)
      have e5 : q = (h2.objs.size, kxs_mw "ValueError.__init__" a) := by simpa using z
      subst e5
      exact ⟨hmw, I2.hok.fresh (Nat.le_refl _), Nat.ne_of_gt I2.lt, I2.nofs (Nat.le_refl _), fun v z => by cases z⟩, I3.hok, I3.len⟩
  refine mw_args (x := a) (hse _) (hpl _) ?_
  refine L2.thn (ha.run p3 _ _ _ H _ I4 q) fun ws s5 ⟨xs, H1, I5, r5, hz, ea5, q5⟩ => ?_
  have hm5 := (I5.pin (h2.objs.size, kxs_mw "ValueError.__init__" a) (by simp)).1
  obtain ⟨t5, hx5⟩ := exo_at I5.hok ea5
  have hlen : ws.length ≤ sizeLine := by
    rw [← Paired.length r5, sizeLine_eq]
    omega
  refine ⟨hm5, ?_⟩
  obtain ⟨hp5, g5, d5, tk5, os5⟩ := s5
  refine run_mw (I5.kIn _ _ hC) hx5 hm5 hlen fun h6 t6 k6 e6 => ?_
  have I6 := I5.write (t' := tk5) (x := a) (e := a) (o := exo a C none) (by rw [ea5]; exact True.intro) (.inl rfl) k6 ⟨_, e6⟩ (exo_ok e6)
  have eu : upd H1 a (exo a C none) = H1 := funext fun b => by
    by_cases hb : b = a
    · rw [hb, upd_same, ea5]
    · rw [upd_ne hb]
  rw [eu] at I6
  refine wpAt_of_wpAny (wpAny_mono (ht.run [] _ _ H1 _ ⟨I6.ok, I6.os, I6.bare, I6.base, I6.loc, I6.cell, I6.free, I6.freeC, fun q hq => I6.pin q (List.mem_append_left _ (by simpa using hq)), I6.hok, I6.len⟩ q5) (fun fl s' hs => ?_) fun e s' hs => hs)
  have fin : ∀ {σ' : L2.St} {H' : Hp} {v : V} {u : Value}, L2.Inv (cxSH CX P w K mg base N qual sc f (.ref cda) cc A outer s H E pp) [] σ' H' s' → RelV v u → Q v H' → CE outer P w H s Q u s' :=
    fun {σ' H' v u} J rv q => ⟨v, H', J.os, J.bare, J.base, J.hok, rv, q⟩
  cases fl with
  | ret u =>
    obtain ⟨v, σ', H', J, rv, q⟩ := hs
    exact fin J rv q
  | next =>
    obtain ⟨σ', H', J, q⟩ := hs
    exact fin (v := V.non) (u := Value.none) J rfl q
  | brk =>
    obtain ⟨_, _, _, q⟩ := hs
    cases q
  | cont =>
    obtain ⟨_, _, _, q⟩ := hs
    cases q
end
section
open PySem.W PySem.Calls PyProof.Rows
variable {P : Program} {w : World} {K : PySem.W.Frag} {mg : Str → Option Value} {base : Heap} {c qual : Str} {sc : Scope} {fI cc cda C : Addr} {params : Arguments} {p0 p1 p2 p3 p4 q1 q2 q3 q4 q5 q6 q7 q8 q9 q10 : Pos} {kV doc pm ct oc ocl ccl : Value} {an od cdd cld : Option Addr}
  {osl ccs csl : Array (Option Value)} {vs2 : Array Value} {file : Str} {tf : Tok} {ar : PySem.Arg} {f g v u : Str}
theorem errF1H (O : OexC K C) 
    (lk : K.lookup fI = some ⟨oc, od, .func (ksFn "__init__" qual params [.Expr (.Call (.Attribute (.Call (.Name "super" p0) [] [] p1) "__init__" p2) [.Name v q1] [] p3) p4, .Assign [.Attribute (.Name "self" q2) f q3] (.Name v q4) q5] sc .none kV doc pm an (.ref cda) ct cc), osl⟩)
    (hcd : codeIn K (.ref cda) qual = true) (S : SupScope ["self", v] ["self", v] sc) (hp : (params.posonlyargs ++ params.args).head? = some ar) (h0 : ar.arg = "self")
    (hcode : K.lookup cda = some ⟨ccl, cdd, .fields vs2, ccs⟩) (hvs : vs2[2]? = some (.str file tf)) (hfile : ((P.main.file : Str) == file) = true) (hcell : K.lookup cc = some ⟨ocl, cld, .cell (some (.ref C)), csl⟩) (hsup : mg "super" = none)
    (htop : (P.main.scope.names.lookup ("super" : Str)).isSome = false) (hth : nsIn K cStatics "thirdparty.any" = some none) (hsi : ks_superIn K C C "__init__" = some (some (.builtin "ValueError.__init__"))) (hve : subIn K (.ref C) (.type "ValueError") = some true)
    (hmr : mroIn K C (.ref C) = some true) (hno : findIn K (.ref C) f = some none) (hd : (v == ("__debug__" : Str)) = false) (hd2 : (v == ("__classdict__" : Str)) = false)
    {pl : Addr → Sem Bool} (hev : ∀ L : Addr, eval (.Call (.Attribute (.Call (.Name "super" p0) [] [] p1) "__init__" p2) (.Name v q1 :: []) [] p3) (ksEnv qual sc L fI (.ref cda) cc) = (do
      let sv ← attributeBase (.Call (.Name "super" p0) [] [] p1) "__init__" (ksEnv qual sc L fI (.ref cda) cc) (eval (.Call (.Name "super" p0) [] [] p1) (ksEnv qual sc L fI (.ref cda) cc))
      standAt p2.atName
      let (g, fst) ← holding [sv] (getMethod sv "__init__" (pl L))
      callWith p3 g fst (backTo p3 (starEach (.Name v q1 :: []) (ksEnv qual sc L fI (.ref cda) cc))) [])) :
    L2H.FnH P w K mg base CX0 1 fI (ksFn "__init__" qual params [.Expr (.Call (.Attribute (.Call (.Name "super" p0) [] [] p1) "__init__" p2) [.Name v q1] [] p3) p4, .Assign [.Attribute (.Name "self" q2) f q3] (.Name v q4) q5] sc .none kV doc pm an (.ref cda) ct cc) ["self", v] (spI C [f]) := by
  have hD : ∃ cdD, clsIn K C = some cdD := by
    unfold mroIn at hmr
    cases h : clsIn K C with
    | none => rw [h] at hmr; cases hmr
    | some cd => exact ⟨cd, rfl⟩
  obtain ⟨cdD, hD⟩ := hD
  refine sup_fnH (N := ["self", v]) (k := 0) (Dc := C) lk hcd S (fun vs H Q E h => ?_) hp (by rw [h0]; rfl) hcode hvs hfile hcell hD hsup htop hth (fun L => rfl) (fun L => rfl) (fun L => rfl) hev fun A outer s H vs Q E pp hr h => ?_
  · obtain ⟨a, ys, rfl, h1, _⟩ := h
    simp [h1]
  · obtain ⟨a, ys, rfl, h1, h2, h3⟩ := h
    obtain ⟨y, rfl⟩ : ∃ y, ys = [y] := List.length_eq_one_iff.mp h1
    refine ⟨_, _, a, C, [y], pa_cons (pe_var (i := 1) rfl (.inl (S.par _ (by simp))) hd hd2) pa_nil, pss_one (ps_ost (pe_var (i := 0) rfl (.inl (S.par _ (by simp)))) (pe_var (i := 1) rfl (.inl (S.par _ (by simp))) hd hd2)), rfl, O, hsi, hve, hmr, h2, ?_⟩
    refine ⟨y, rfl, ?_, h2, ?_⟩
    · simp
    · refine ⟨y, rfl, .ref a, rfl, a, C, rfl, O, hno, .inl ⟨h2, fun dx n ne => ?_⟩⟩
      exact h3 dx _ n ne upd_same (by rw [upd_ne ne, upd_same]; rfl) fun b b1 b2 => by rw [upd_ne b1, upd_ne b2]
end
end DL
namespace DL
open PySem L2
theorem xe_zn {X : Cx} {W : WX} {u : Value} {s' : Shared} (x : L2N.XE X W u s') : L2.XE X W u s' := by
  obtain ⟨a, B, sI, pins, σ, H, cls, d, e, I, nb, up, sky, na, os, ag, w⟩ := x
  refine ⟨a, B, sI, pins, σ, H, cls, d, e, I, nb, up, ?_, na, os, ag, w⟩
  rcases sky with ⟨hB, hn, hl, oe, vs, he, hz, hd, h1⟩ | fl | hh
  · exact .inl ⟨hB, hn, hl, oe, vs, he, hz.zc, hd, h1⟩
  · exact .inr (.inl (L2H.flyingZ_imp (fun o z => z.zc) fl))
  · exact .inr (.inr ⟨hh.1, hh.2.1, hh.2.2.1, L2H.tracedZ_imp (fun o z => z.zc) hh.2.2.2⟩)
theorem takes_n {X : Cx} {W : WX} (t : L2.Takes X W) : L2N.Takes X W := fun u s' x => t u s' (xe_zn x)
def DEH (X : Cx) (e : Expr) (m : M D) : Prop := ∀ W : WZ, TakesZ X W → W.hot = true → PE X e (tE X.K X.mg W m)
def DSH (X : Cx) (np : Nat) (st : Stmt) (m : S) : Prop := ∀ W : WZ, TakesZ X W → W.hot = true → PS X st (tS X.K X.mg np W m)
def DSsH (X : Cx) (np : Nat) (st : List Stmt) (m : S) : Prop := ∀ W : WZ, TakesZ X W → W.hot = true → PSs X st (tS X.K X.mg np W m)
section
variable {X : Cx} {np : Nat} {st : Stmt} {rest : List Stmt} {e : Expr} {m : M D} {s s' : S} {pos : Pos} {K : PySem.W.Frag} {mg : Str → Option Value} {w : Wd} {A : List Addr} {ρ : Ev} {σ : L2.St} {H : Hp}
theorem dsh_of (h : DS X np st s) : DSH X np st s := fun W tk _ => h W tk
theorem dssh_of (h : DSs X np rest s) : DSsH X np rest s := fun W tk _ => h W tk
theorem dssh_one (h : DSH X np st s) : DSsH X np [st] s := fun W tk hh => pss_one (h W tk hh)
theorem dssh_cons (h : DSH X np st s) (h2 : DSsH X np rest s') : DSsH X np (st :: rest) (sSeq s s') := fun W tk hh => pss_imp (pss_cons (h W tk hh) (h2 W tk hh)) fun E σ H q => by
  obtain ⟨w, A, ρ, hn, R, q⟩ := tS_iff.mp q
  refine tS_iff.mpr ⟨w, A, ρ, hn, R, ?_⟩
  unfold sSeq at q
  cases hs : s ρ with
  | nx ρ1 =>
    rw [hs] at q
    exact fun A' σ' H' sm R' => tS_iff.mpr ⟨w, A', ρ1, hn, R', Aft.from sm q⟩
  | rt d ρ1 => rw [hs] at q; exact q
  | bk ρ1 => rw [hs] at q; exact q
  | ct ρ1 => rw [hs] at q; exact q
  | exc e ρ1 => rw [hs] at q; exact q
  | bad => rw [hs] at q; exact q
theorem dsh_expr (h : DEH X e m) (hs : swapsWith e none pos.line X.env = pure false := by rfl) : DSH X np (.Expr e pos) (sV m fun _ => sNx) := fun W tk hh =>
  ps_imp (ps_expr (h W tk hh) hs) fun E σ H q => te_of q fun w A ρ1 d v H1 hn R1 r1 z => z A σ H1 (Same.refl _) R1
theorem dsh_ret (h : DEH X e m) : DSH X np (.Return (some e) pos) (sV m fun d ρ => .rt d ρ) := fun W tk hh =>
  ps_imp (ps_ret (h W tk hh)) fun E σ H q => te_of q fun w A ρ1 d v H1 hn R1 r1 z => z A σ H1 v R1 r1
theorem dsh_if {c : Expr} {a b : List Stmt} {t : M Bool} (h : DT X c t) (ha : DSsH X np a s) (hb : DSsH X np b s') : DSH X np (.If c a b pos) (sIf t s s') := fun W tk hh =>
  ps_imp (ps_if (h W tk) (ha W tk hh) (hb W tk hh)) fun E σ H q => by
    obtain ⟨w, A, ρ, hn, R, q⟩ := tS_iff.mp q
    refine ⟨w, A, ρ, R, ?_⟩
    unfold sIf at q
    cases ht : t ρ with
    | exc e ρ1 => rw [ht] at q; exact fun c dd H' ex R' z => q A σ H' c dd ex.off R' z
    | bad => rw [ht] at q; exact q
    | ok b ρ1 =>
      rw [ht] at q
      intro H1 ex R1
      cases b with
      | true => exact tS_iff.mpr ⟨w, A, ρ1, hn, R1, Aft.from ex.off q⟩
      | false => exact tS_iff.mpr ⟨w, A, ρ1, hn, R1, Aft.from ex.off q⟩
theorem dsh_for {tg iter : Expr} {body : List Stmt} {is : List Nat} {src : M (List D)} {t : D → Ev → Option Ev} (hp : PassesOwn (model X.prog X.w) X.A X.env X.xe) (hc : X.calm = true) (hi : DI X tg iter src) (hg : DG X tg is t) (hb : DSsH X np body s)
    (hs : ∀ x, foldedSetIterable iter X.env x = pure x := by intro _; rfl) : DSH X np (.For tg iter body [] pos) (sFor src t s) := fun W tk hh =>
  ps_imp (ps_for hp hc (hi W tk) hg (hb W tk hh) hs) fun E σ H q => by
    obtain ⟨w, A, ρ, hn, R, q⟩ := tS_iff.mp q
    refine ⟨w, A, ρ, R, ?_⟩
    unfold sFor at q
    cases hm : src ρ with
    | exc e ρ1 => rw [hm] at q; exact fun c dd H' ex R' z => q A σ H' c dd ex.off R' z
    | bad => rw [hm] at q; exact q
    | ok ds ρ1 =>
      rw [hm] at q
      intro J H1 ex1 R1 wk hz
      have q := Aft.from ex1.off q
      refine ⟨fun i m σ2 H2 => m = ds.length - i ∧ i ≤ ds.length ∧ ∃ A2 ρ2, SR X.K X.mg w A2 ρ2 σ2 H2 ∧ Same (off A H1) (off A2 H2) ∧ Aft X.K X.mg W w A2 H2 E (forL t s (ds.drop i) ρ2), ⟨ds.length, by simp, Nat.zero_le _, A, ρ1, R1, Same.refl _, q⟩, ?_⟩
      rintro i m σ2 H2 ⟨rfl, hle, A2, ρ2, R2, sm, z⟩
      obtain ⟨wk1, wk2⟩ := wk i A2 H2 sm R2.trk
      by_cases hlt : i < ds.length
      · right
        obtain ⟨go, yld⟩ := wk1 ds[i] (by simp [hlt])
        rw [show ds.drop i = ds[i] :: ds.drop (i + 1) from List.drop_eq_getElem_cons hlt] at z
        unfold forL at z
        refine ⟨go, fun σ3 H3 => ∃ A3 ρ3, SR X.K X.mg w A3 ρ3 σ3 H3 ∧ Same (off A H1) (off A3 H3) ∧ Aft X.K X.mg W w A3 H3 E (forL t s (ds.drop (i + 1)) ρ3), fun σ3 H3 h => ⟨_, by omega, rfl, by omega, h⟩, fun x H' y => ?_⟩
        obtain ⟨s1, rx⟩ := yld x H' y
        refine ⟨w, A2, ρ2, ds[i], R2.same s1, rx, ?_⟩
        cases ht : t ds[i] ρ2 with
        | none => rw [ht] at z; exact z.elim
        | some ρ3 =>
          rw [ht] at z
          dsimp only at z
          intro σ3 _ R3
          refine tS_iff.mpr ⟨w, A2, ρ3, hn, R3, ?_⟩
          have z := Aft.from (off_Same s1) z
          have sm3 := sm.trans (off_Same s1)
          cases hb : s ρ3 with
          | nx ρ4 => rw [hb] at z; exact fun A4 σ4 H4 s4 R4 => ⟨A4, ρ4, R4, sm3.trans s4, Aft.from s4 z⟩
          | ct ρ4 => rw [hb] at z; exact fun A4 σ4 H4 s4 R4 => ⟨A4, ρ4, R4, sm3.trans s4, Aft.from s4 z⟩
          | bk ρ4 => rw [hb] at z; exact z
          | rt d ρ4 => rw [hb] at z; exact z
          | exc e ρ4 => rw [hb] at z; exact z
          | bad => rw [hb] at z; exact z
      · left
        have e : i = ds.length := by omega
        subst e
        rw [List.drop_length] at z
        exact ⟨wk2 (Nat.le_refl _), z A2 σ2 H2 (Same.refl _) R2⟩
end
section
variable {X : Cx} {k : Nat} {f C : Addr} {fd : FuncData} {ps : List Str} {φ : Fn} {x m : Str} {p pos apos : Pos} {e o : Expr} {es : List Expr} {as : List Arg} {mo : M D}
theorem deh_call (F : FnOk X.prog X.w X.K X.mg X.base (L2.CX X.prog X.w) k f fd ps (spD X.K X.mg φ)) (hr : Room k X.A) (hg : Gl X x) (hm : X.mg x = some (.ref f)) (hk : PySem.W.keepIn X.K (.ref f) = true) (hb : Binds X.K fd ps [])
    (ha : DA X (e :: es) as) (hdb : (x == ("__debug__" : Str)) = false := by decide) (he : starEach (e :: es) X.env = (false, eval e X.env) :: starEach es X.env := by rfl) (hpl : (backTo pos (starEach es X.env)).any (·.1) = false := by rfl) :
    DEH X (.Call (.Name x p) (e :: es) [] pos) (callF φ as) := fun W tk hh =>
  pe_imp (pe_callSD (E := WE W) F hr hg hm hk hb .nil (fun σ => L2.passAt (tk.c hh) σ) (ha W tk) hdb he hpl) fun σ H Q ⟨w, A, ρ, R, q⟩ => by
    refine ⟨w, A, ρ, R, ?_⟩
    unfold callF at q
    cases hx : evs as ρ with
    | exc e ρ1 => rw [bnd_exc hx] at q; exact q
    | bad => rw [bnd_bad hx] at q; exact q
    | ok xs ρ1 =>
      rw [bnd_ok hx] at q
      intro vs H1 ex1 R1 r1
      rw [List.append_nil]
      refine call_end R1 r1 ?_
      cases hc : callV φ xs ρ1 with
      | ok d ρ2 => rw [hc] at q; exact fun v H2 ex2 R2 r2 => q v H2 (ex1.trans ex2) R2 r2
      | exc e ρ2 => rw [hc] at q; exact fun c dd H2 ex2 R2 r2 => q c dd H2 (ex1.trans ex2) R2 r2
      | bad => rw [hc] at q; exact q
end
section
variable {X : Cx} {x n : Str} {c : Value} {i np : Nat} {body suite : List Stmt} {b0 : Stmt} {npp pos pos' : Pos} {sb ss : S} {known : List Str} {tbl : Str → Bool}
theorem ds_tryC_as (hc0 : X.calm = true) (hs : X.stack = X.env :: X.outer) (hf : X.env.frame = some X.env.locals) (hN : X.N.Nodup) (hi : X.N[i]? = some n) (hln : X.env.kindOf n = some .local) (hc : Names X x c)
    (htb : ∀ e ∈ known, ∀ C, X.mg e = some (.ref C) → PySem.W.exmOne X.K (.ref C) c = some (tbl e)) (hall : ∀ e ∈ known, tbl e = true)
    (hb : ∀ (pn : List (Addr × Obj)) (xe : Value → Shared → Prop), PassesOwn (model X.prog X.w) X.A X.env xe → DSsH (X.tr pn xe) np body sb)
    (hsu : ∀ (a : Addr) (oe : Obj) (cls : Value) (d : Option Addr) (pn : List (Addr × Obj)), Zc cls d oe → (∃ vs, oe.data = .fields vs) → DSs (X.suite a ((a, oe) :: pn)) np (b0 :: suite) ss) :
    DS X np (.Try body [.ExceptHandler (some (.Name x npp)) (some n) (b0 :: suite) pos'] [] [] pos) (sTry known tbl i sb ss) := fun W tk => by
  refine ps_imp (L2.ps_try_as (i := i) (c := c) (Wout := fun _ _ _ _ => False) (tb := fun W1 => tS X.K X.mg np ⟨W1, W.Z, true⟩ sb) (ts := fun a cls d => tS X.K X.mg np ⟨fun _ _ _ _ => False, fun w => w.xx = (a, d, cls), false⟩ ss) hs hf hN hi hln hc L2.takes0
    (fun W1 pn xe t1 p1 => hb pn xe p1 ⟨W1, W.Z, true⟩ ⟨takes_n t1, fun _ => t1, fun h => ?_⟩ rfl) (fun a oe cls d pn hz hv => hsu a oe cls d pn hz hv ⟨fun _ _ _ _ => False, fun w => w.xx = (a, d, cls), false⟩ ⟨?_, fun h => (by cases h), fun _ w hw => ?_⟩)) fun E σ H q => ?_
  · have z : X.calm = false := h
    rw [hc0] at z
    cases z
  · exact takesN0
  · exact ⟨oe, by rw [hw]; rfl, by rw [hw]; exact hz.1, by rw [hw]; exact hz.2⟩
  · obtain ⟨w, A, ρ, hn, R, q⟩ := tS_iff.mp q
    refine tS_iff.mpr ⟨⟨w.1, w.2⟩, A, ρ, hn, R, ?_⟩
    unfold sTry at q
    cases hb0 : sb ρ with
    | nx ρ1 => rw [hb0] at q; exact q
    | rt d ρ1 => rw [hb0] at q; exact q
    | bk ρ1 => rw [hb0] at q; exact q
    | ct ρ1 => rw [hb0] at q; exact q
    | bad => rw [hb0] at q; exact q
    | exc e ρ1 =>
      rw [hb0] at q
      dsimp only at q
      intro A1 σ1 H1 cl dd sm1 R1 x1
      have x1' := x1
      obtain ⟨C, e1, mC, _⟩ := x1'
      by_cases hk : known.contains e.c = true
      · rw [if_pos hk] at q
        refine ⟨tbl e.c, by rw [e1]; exact htb e.c (by simpa using hk) C mC, fun hy a ha => ?_, fun hno => absurd ((hall e.c (by simpa using hk)).symm.trans hno) (by decide)⟩
        · rw [if_pos hy] at q
          cases h0 : ρ1[i]? with
          | none => rw [h0] at q; exact q.elim
          | some s0 =>
            rw [h0] at q
            dsimp only at q
            by_cases hg : s0.isOwn = false ∧ noExBut i ρ1 = true
            · rw [if_pos hg] at q
              have R2 : SR X.K X.mg { w.1 with xx := (a, dd, cl) } A1 (ρ1.set i (.ex e)) (σ1.set i (some (.ref a))) H1 := R1.reslot h0 hg.1 rfl hg.2 ⟨rfl, x1⟩
              refine tS_iff.mpr ⟨⟨{ w.1 with xx := (a, dd, cl) }, rfl⟩, A1, _, hn, R2, ?_⟩
              have back : ∀ {A2 : List Addr} {ρ2 : Ev} {σ2 : L2.St} {H2 : Hp} {s2 : Slot}, SR X.K X.mg { w.1 with xx := (a, dd, cl) } A2 ρ2 σ2 H2 → ρ2[i]? = some s2 → s2.isOwn = false → noExBut i ρ2 = true → SR X.K X.mg w.1 A2 (ρ2.set i .no) (σ2.set i none) H2 :=
                fun r h1 h2 h3 => r.reslot (y := w.1.xx) h1 h2 rfl h3 trivial
              cases hss : ss (ρ1.set i (.ex e)) with
              | nx ρ2 =>
                rw [hss] at q
                dsimp only at q
                cases h2 : ρ2[i]? with
                | none => rw [h2] at q; exact q.elim
                | some s2 =>
                  rw [h2] at q
                  dsimp only at q
                  by_cases hg2 : s2.isOwn = false ∧ noExBut i ρ2 = true
                  · rw [if_pos hg2] at q
                    exact fun A2 σ2 H2 sm2 r2 => q A2 _ H2 (sm1.trans sm2) (back r2 h2 hg2.1 hg2.2)
                  · rw [if_neg hg2] at q; exact q.elim
              | rt d ρ2 =>
                rw [hss] at q
                dsimp only at q
                cases h2 : ρ2[i]? with
                | none => rw [h2] at q; exact q.elim
                | some s2 =>
                  rw [h2] at q
                  dsimp only at q
                  by_cases hg2 : s2.isOwn = false ∧ noExBut i ρ2 = true
                  · rw [if_pos hg2] at q
                    exact fun A2 σ2 H2 v r2 rv => q A2 _ H2 v (back r2 h2 hg2.1 hg2.2) rv
                  · rw [if_neg hg2] at q; exact q.elim
              | bk ρ2 =>
                rw [hss] at q
                dsimp only at q
                cases h2 : ρ2[i]? with
                | none => rw [h2] at q; exact q.elim
                | some s2 =>
                  rw [h2] at q
                  dsimp only at q
                  by_cases hg2 : s2.isOwn = false ∧ noExBut i ρ2 = true
                  · rw [if_pos hg2] at q
                    exact fun A2 σ2 H2 sm2 r2 => q A2 _ H2 (sm1.trans sm2) (back r2 h2 hg2.1 hg2.2)
                  · rw [if_neg hg2] at q; exact q.elim
              | ct ρ2 =>
                rw [hss] at q
                dsimp only at q
                cases h2 : ρ2[i]? with
                | none => rw [h2] at q; exact q.elim
                | some s2 =>
                  rw [h2] at q
                  dsimp only at q
                  by_cases hg2 : s2.isOwn = false ∧ noExBut i ρ2 = true
                  · rw [if_pos hg2] at q
                    exact fun A2 σ2 H2 sm2 r2 => q A2 _ H2 (sm1.trans sm2) (back r2 h2 hg2.1 hg2.2)
                  · rw [if_neg hg2] at q; exact q.elim
              | exc e2 ρ2 => rw [hss] at q; exact q.elim
              | bad => rw [hss] at q; exact q.elim
            · rw [if_neg hg] at q; exact q.elim
      · rw [if_neg hk] at q; exact q.elim
end
section
variable {K : PySem.W.Frag} {mg : Str → Option Value}
/-- a def keeps the promise that its body gives -/
theorem fn_okC {P : Program} {w : World} {base : Heap} {x qual : Str} {st : Stmt} {f : Addr} {fd : FuncData} {N ps : List Str} {k loc : Nat} {m : S} (F : Fun K x qual st f fd) (Sc : FnScope N ps (defScope st)) (hN : N.length = ps.length + loc)
    (hbody : ∀ (cdv : Value) (A : Around) (outer : List Env) (s : Shared) (H : Hp) (E : XK), Room k (A.deeper (PyProof.Rows.envOfC qual (defScope st) s.heap.objs.size f cdv)) →
      DSsH (cxOf (L2.CX P w) P w K mg base N qual (defScope st) f cdv A outer s H E) ps.length (defBody st) m) :
    FnOk P w K mg base (L2.CX P w) (k + 1) f fd ps (spD K mg (fnF ps.length loc m)) := by
  have split : ∀ {as : List Slot}, fnF ps.length loc m as ≠ .bad → as.length = ps.length ∧ as.all Slot.arg = true := fun {as} h => by
    unfold fnF at h
    split at h
    · assumption
    · exact absurd rfl h
  refine okXG F Sc (fun vs H Q E h => ?_) (fun cdv A outer s H vs Q E hr h => ?_)
  · obtain ⟨B, as, a, q⟩ := h
    have := (split (as := as) fun z => by rw [z] at q; exact q).1
    rw [← a.len, this]
  · obtain ⟨B, as, a, q⟩ := h
    obtain ⟨hl, ha⟩ := split (as := as) fun z => by rw [z] at q; exact q
    have tk : L2.Takes (cxOf (L2.CX P w) P w K mg base N qual (defScope st) f cdv A outer s H E) (fun cls d _ H => E cls d H) := L2.takes_of rfl rfl rfl rfl
    refine ⟨_, hbody cdv A outer s H E hr ⟨fun cls d _ H => E cls d H, fun _ => True, true⟩ ⟨takes_n tk, fun _ => tk, fun h => by cases h⟩ rfl, tS_iff.mpr ⟨⟨_, trivial⟩, B, _, rfl, sr_start a hl hN ha, ?_⟩⟩
    unfold fnF at q
    rw [if_pos ⟨hl, ha⟩] at q
    cases hm : m (as ++ List.replicate loc .no) with
    | nx ρ =>
      rw [hm] at q
      intro A' σ' H' _ R
      obtain ⟨p, sm⟩ := post_of hl a R
      exact q .non H' p rfl
    | rt d ρ =>
      rw [hm] at q
      intro A' σ' H' v R r
      obtain ⟨p, sm⟩ := post_of hl a R
      exact q v H' p (r.mono sm)
    | exc e ρ =>
      rw [hm] at q
      intro A' σ' H' c dd _ R r
      obtain ⟨p, sm⟩ := post_of hl a R
      obtain ⟨C, e1, e2, z⟩ := r
      refine q c dd H' p ⟨C, e1, e2, z.imp id fun ⟨d, fs, y1, y2, y3, y4⟩ => ⟨d, fs, y1, y2, fun y => y3 (R.sub d y), fun i n x g1 g2 => ?_⟩⟩
      obtain ⟨v, z1, z2⟩ := y4 i n x g1 g2
      exact ⟨v, z1, z2.mono sm⟩
    | bk _ => rw [hm] at q; exact q.elim
    | ct _ => rw [hm] at q; exact q.elim
    | bad => rw [hm] at q; exact q.elim
end
section
variable (P : Program) (w : World) (K : PySem.W.Frag) (mg : Str → Option Value) (base : Heap)
/-- as DefOk, where an error may have another as its context -/
def DefOkC (x : Str) (k : Nat) (φ : Fn) : Prop :=
  ∃ (f : Addr) (fd : FuncData) (ps : List Str), mg x = some (.ref f) ∧ PySem.W.keepIn K (.ref f) = true ∧ Binds K fd ps [] ∧ FnOk P w K mg base (L2.CX P w) k f fd ps (spD K mg φ)
/-- an error class that may be made while an error is handled -/
def ErrH (c : Str) (ns : List Str) : Prop :=
  ns.Nodup ∧ ns.length ≤ 900 ∧ ∃ (C fI : Addr) (fd : FuncData) (ps : List Str), mg c = some (.ref C) ∧ OexC K C ∧ PySem.W.findIn K (.ref C) "__init__" = some (some (.ref fI)) ∧ PySem.W.typeIn K (.ref fI) = some (.type "function") ∧
    L2H.FnH P w K mg base CX0 1 fI fd ps (spI C ns) ∧ Binds K fd ps []
end
/-- where no error comes -/
def noExc (φ : Fn) : Fn := fun ss => match φ ss with
  | .exc _ _ => .bad
  | .ok d os => .ok d os
  | .bad => .bad
section
variable {P : Program} {w : World} {K : PySem.W.Frag} {mg : Str → Option Value} {base : Heap} {x qual : Str} {st : Stmt} {f : Addr} {fd : FuncData} {N ps : List Str} {k loc : Nat} {m : S} {φ : Fn}
theorem spD_no {vs : List V} {H : Hp} {Q : VK} {E E' : XK} (h : spD K mg (noExc φ) vs H Q E) : spD K mg φ vs H Q E' := by
  obtain ⟨B, as, a, q⟩ := h
  refine ⟨B, as, a, ?_⟩
  unfold noExc at q
  cases h : φ as with
  | ok d os => rw [h] at q; exact q
  | exc e os => rw [h] at q; exact q.elim
  | bad => rw [h] at q; exact q.elim
theorem DefOkC.no (D : DefOkC P w K mg base x k φ) : DefOk P w K mg base x k (noExc φ) := by
  obtain ⟨f, fd, ps, hm, hk, hb, F⟩ := D
  refine ⟨f, fd, ps, hm, hk, hb, ⟨fun vs H Q E h => F.len vs H Q (fun _ _ _ => False) (spD_no h), fun A outer s H args us vs Q E hr e0 hbi r h => codeAny_mono (F.run A outer s H args us vs Q (fun _ _ _ => False) hr e0 hbi r (spD_no h)) fun res t hres => ?_⟩⟩
  cases res with
  | ok fl =>
    cases fl with
    | ret u => exact hres
    | _ => exact hres
  | error e =>
    obtain ⟨_, _, _, _, _, _, _, _, _, _, _, _, z⟩ := hres
    exact z.elim
theorem def_okC (F : Fun K x qual st f fd) (hm : mg x = some (.ref f)) (hb : Binds K fd ps []) (Sc : FnScope N ps (defScope st)) (hN : N.length = ps.length + loc)
    (hbody : ∀ (cdv : Value) (A : Around) (outer : List Env) (s : Shared) (H : Hp) (E : XK), Room k (A.deeper (PyProof.Rows.envOfC qual (defScope st) s.heap.objs.size f cdv)) →
      DSsH (cxOf (L2.CX P w) P w K mg base N qual (defScope st) f cdv A outer s H E) ps.length (defBody st) m) : DefOkC P w K mg base x (k + 1) (fnF ps.length loc m) :=
  ⟨f, fd, ps, hm, F.kp, hb, fn_okC F Sc hN hbody⟩
end
section
variable {X : Cx} {k : Nat} {φ : Fn} {x : Str} {p pos : Pos} {e : Expr} {es : List Expr} {as : List Arg}
theorem deh_callD (D : DefOkC X.prog X.w X.K X.mg X.base x k φ) (hr : Room k X.A) (ha : DA X (e :: es) as) (hg : Gl X x := by rfl) (hdb : (x == ("__debug__" : Str)) = false := by decide) (he : starEach (e :: es) X.env = (false, eval e X.env) :: starEach es X.env := by rfl)
    (hpl : (backTo pos (starEach es X.env)).any (·.1) = false := by rfl) : DEH X (.Call (.Name x p) (e :: es) [] pos) (callF φ as) := by
  obtain ⟨f, fd, ps, hm, hk, hb, F⟩ := D
  exact deh_call F hr hg hm hk hb ha hdb he hpl
end
section
variable {X : Cx} {x n : Str} {i np : Nat} {body suite : List Stmt} {b0 : Stmt} {npp pos pos' : Pos} {sb ss : S} {known : List Str} {tbl : Str → Bool} {fs : List Str}
/-- try: .. except c as n: .., where the body may let out an error with a context; all that comes is caught -/
theorem ds_tryC (T : ExcT X.K X.mg known tbl x fs) (hc0 : X.calm = true) (hs : X.stack = X.env :: X.outer) (hf : X.env.frame = some X.env.locals) (hN : X.N.Nodup) (hi : X.N[i]? = some n) (hln : X.env.kindOf n = some .local) (hg : Gl X x)
    (hb : ∀ (pn : List (Addr × Obj)) (xe : Value → Shared → Prop), PassesOwn (model X.prog X.w) X.A X.env xe → DSsH (X.tr pn xe) np body sb)
    (hsu : ∀ (a : Addr) (oe : Obj) (cls : Value) (d : Option Addr) (pn : List (Addr × Obj)), Zc cls d oe → (∃ vs, oe.data = .fields vs) → DSs (X.suite a ((a, oe) :: pn)) np (b0 :: suite) ss) (hdb : (x == ("__debug__" : Str)) = false := by decide) :
    DS X np (.Try body [.ExceptHandler (some (.Name x npp)) (some n) (b0 :: suite) pos'] [] [] pos) (sTry (known.filter tbl) tbl i sb ss) := by
  obtain ⟨C, mC, _, _, h4⟩ := T
  exact ds_tryC_as (c := .ref C) hc0 hs hf hN hi hln ⟨hg, hdb, .inl mC⟩ (fun e he C' h => h4 e (List.mem_filter.mp he).1 C' h) (fun e he => (List.mem_filter.mp he).2) hb hsu
end
section
variable {K : PySem.W.Frag} {mg : Str → Option Value} {w : Wd} {A : List Addr} {ρ : Ev} {σ : L2.St} {H : Hp}
theorem SR.rexx {y : Addr × Option Addr × Value} (R : SR K mg w A ρ σ H) (ne : noEx ρ = true) : SR K mg { w with xx := y } A ρ σ H :=
  ⟨R.len, fun i s o h1 h2 => (R.slots i s o h1 h2).xx (noEx_at ne h1), R.dist, R.sub, R.trk, R.frame, R.mine, R.opB, R.par⟩
theorem raise_mk {W : WZ} {E : Ends} {x : Str} {ns : List Str} {as : List Arg} {C : Addr} (nd : ns.Nodup) (hz : ns.length ≤ 900) (hm : mg x = some (.ref C)) {w : WS W} (R : SR K mg w.1 A ρ σ H) (q : Aft K mg W w A H E (sRaise x ns as ρ)) :
    tMkO C (spI C ns) [] (tA K mg W as) σ H fun cls d H' => W.x cls d σ H' := by
  refine ⟨w, A, ρ, R, ?_⟩
  unfold sRaise at q
  cases hx : evs as ρ with
  | bad => rw [hx] at q; exact q.elim
  | exc er ρ1 => rw [hx] at q; exact fun c dd H' ex R' z => q A σ H' c dd ex.off R' z
  | ok xs ρ1 =>
    rw [hx] at q
    intro vs H1 ex R1 r1
    dsimp only at q
    cases hd : allD xs with
    | none => rw [hd] at q; exact q.elim
    | some ds =>
      rw [hd] at q
      dsimp only at q
      by_cases hl : ds.length = ns.length
      · rw [if_pos hl] at q
        have r2 := allD_rep r1 hd
        have hvl : vs.length = ns.length := by rw [← r2.length, hl]
        refine ⟨by omega, fun a na => ⟨a, vs, by simp, hvl, upd_same, fun dx H2 nx ne e1 e2 e3 => ⟨rfl, dx, _, e1, e2, ?_, ?_⟩⟩⟩
        · rwa [upd_ne ne] at nx
        · rw [upd_ne ne] at nx
          have eH : upd (L2.del H2 a) dx (.xd (ns.zip vs).reverse) = upd H1 dx (.xd (ns.zip vs).reverse) := funext fun b => by
            by_cases h1 : b = dx
            · rw [h1, upd_same, upd_same]
            · rw [upd_ne h1, upd_ne h1]
              by_cases h2 : b = a
              · rw [h2, del_same, na]
              · rw [del_ne h2, e3 b h2 h1, upd_ne h2]
          rw [eH]
          refine q A σ _ _ _ (ex.off.trans (off_Same (same_upd nx))) (R1.new nx) ⟨C, rfl, hm, .inr ⟨dx, _, rfl, upd_same, R1.notA nx, fun i n y h1 h2 => ?_⟩⟩
          obtain ⟨v, g1, g2⟩ := r2.get h2
          exact ⟨v, zip_look nd h1 g1, g2.mono (off_Same (same_upd nx))⟩
      · rw [if_neg hl] at q
        exact q.elim
end
/-- try: .. except x: raise c(..) -/
def sTryR (known : List Str) (tbl : Str → Bool) (c : Str) (ns : List Str) (as : List Arg) (body : S) : S := fun ρ => match body ρ with
  | .exc e ρ1 => if known.contains e.c = true ∧ noEx ρ1 = true then (if tbl e.c = true then (match sRaise c ns as ρ1 with
    | .exc e2 ρ2 => if noEx ρ2 = true then .exc e2 ρ2 else .bad
    | _ => .bad) else .exc e ρ1) else .bad
  | o => o
section
open PySem.Spec PyProof.Rows
variable {X : Cx} {x y : Str} {np : Nat} {body : List Stmt} {e : Expr} {es : List Expr} {as : List Arg} {npp py pos pos' pos1 pos2 : Pos} {sb : S} {known : List Str} {tbl : Str → Bool} {fs ns : List Str}
theorem dsh_tryR (T : ExcT X.K X.mg known tbl x fs) (Hh : ErrH X.prog X.w X.K X.mg X.base y ns) (hc0 : X.calm = true) (hs : X.stack = X.env :: X.outer) (hf : X.env.frame = some X.env.locals) (hpa : ∀ hd : Option Value, PassesOwnAt (model X.prog X.w) (X.A.mark hd) X.A X.env X.xe) (hr : Room 2 X.A) (hg : Gl X x) (hg2 : Gl X y)
    (hb : ∀ (pn : List (Addr × Obj)) (xe : Value → Shared → Prop), PassesOwn (model X.prog X.w) X.A X.env xe → DSs (X.tr pn xe) np body sb)
    (ha : ∀ (a : Addr) (pn : List (Addr × Obj)), DA (L2H.suiteX X a pn) (e :: es) as)
    (hdb : (x == ("__debug__" : Str)) = false := by decide) (hdb2 : (y == ("__debug__" : Str)) = false := by decide) (he : starEach (e :: es) X.env = (false, eval e X.env) :: starEach es X.env := by rfl) (hpl : (backTo pos1 (starEach es X.env)).any (·.1) = false := by rfl) :
    DSH X np (.Try body [.ExceptHandler (some (.Name x npp)) none [.Raise (some (.Call (.Name y py) (e :: es) [] pos1)) none pos2] pos'] [] [] pos) (sTryR known tbl y ns as sb) := fun W tk hh => by
  obtain ⟨C, mC, _, _, h4⟩ := T
  obtain ⟨nd, hz, D, fI, fd, ps, hm, O, iC, tI, F, hbn⟩ := Hh
  refine ps_imp (L2H.ps_try_onlyX (c := .ref C) (Wout := W.x) (tb := fun W1 => tS X.K X.mg np ⟨W1, W.Z, false⟩ sb) (ts := fun a cls d _ σ H => tMkO D (spI D ns) [] (tA X.K X.mg ⟨W.x, fun w => w.xx = (a, d, cls), false⟩ as) σ H fun cls d H' => W.x cls d σ H') hs hf ⟨hg, hdb, .inl mC⟩ hpa (tk.c hh)
    (fun W1 pn xe t1 _ p1 => hb pn xe p1 ⟨W1, W.Z, false⟩ ⟨t1, fun h => (by cases h), fun h => ?_⟩)
    (fun a oe cls d pn hz1 hv tkS hot => pss_one (L2H.ps_raiseH hot tkS (L2H.pmk5_oexH (X := L2H.suiteX X a ((a, oe) :: pn)) O iC tI F (L2H.roomH_mark hr _) hot hbn passes0 hg2 hm (ha a _ ⟨W.x, fun w => w.xx = (a, d, cls), false⟩ ⟨takes_n tkS, fun h => (by cases h), fun _ w hw => ?_⟩) hdb2 he hpl).pmk))) fun E σ H q => ?_
  · have z : X.calm = false := h
    rw [hc0] at z
    cases z
  · exact ⟨oe, by rw [hw]; rfl, by rw [hw]; exact hz1.1, by rw [hw]; exact hz1.2.1⟩
  · obtain ⟨w, A, ρ, hn, R, q⟩ := tS_iff.mp q
    refine tS_iff.mpr ⟨⟨w.1, w.2⟩, A, ρ, hn, R, ?_⟩
    unfold sTryR at q
    cases hb0 : sb ρ with
    | nx ρ1 => rw [hb0] at q; exact q
    | rt d ρ1 => rw [hb0] at q; exact q
    | bk ρ1 => rw [hb0] at q; exact q
    | ct ρ1 => rw [hb0] at q; exact q
    | bad => rw [hb0] at q; exact q
    | exc e ρ1 =>
      rw [hb0] at q
      dsimp only at q
      intro A1 σ1 H1 cl dd sm1 R1 x1
      have x1' := x1
      obtain ⟨C1, e1, mC1, _⟩ := x1'
      by_cases hk : known.contains e.c = true ∧ noEx ρ1 = true
      · rw [if_pos hk] at q
        refine ⟨tbl e.c, by rw [e1]; exact h4 e.c (by simpa using hk.1) C1 mC1, fun hy a ha => ?_, fun hno => ?_⟩
        · rw [if_pos hy] at q
          have R2 : SR X.K X.mg { w.1 with xx := (a, dd, cl) } A1 ρ1 σ1 H1 := R1.rexx hk.2
          refine raise_mk (W := ⟨W.x, fun w => w.xx = (a, dd, cl), false⟩) (w := ⟨{ w.1 with xx := (a, dd, cl) }, rfl⟩) (E := E) nd hz hm R2 ?_
          cases hs : sRaise y ns as ρ1 with
          | exc e2 ρ2 =>
            rw [hs] at q
            dsimp only at q
            by_cases hx : noEx ρ2 = true
            · rw [if_pos hx] at q
              exact fun A2 σ2 H2 c2 dd2 sm2 R3 x2 => q A2 σ2 H2 c2 dd2 (sm1.trans sm2) (R3.rexx (y := w.1.xx) hx) x2
            · rw [if_neg hx] at q; exact q.elim
          | _ => rw [hs] at q; exact q.elim
        · rw [if_neg (by rw [hno]; decide)] at q
          exact q A1 σ1 H1 cl dd sm1 R1 x1
      · rw [if_neg hk] at q; exact q.elim
end
end DL
namespace DL
open PySem L2
def DET (X : Cx) (e : Expr) (m : M D) : Prop := ∀ W : WZ, TakesZ X W → PET X e (tE X.K X.mg W m)
def DOT (X : Cx) (e : Expr) (a : Arg) : Prop := ∀ W : WZ, TakesZ X W → PET X e (tO X.K X.mg W a)
def DAT (X : Cx) (es : List Expr) (as : List Arg) : Prop := ∀ W : WZ, TakesZ X W → PAT X es (tA X.K X.mg W as)
section
variable {X : Cx} {e : Expr} {es : List Expr} {x : Arg} {as : List Arg} {m : M D} {pos p : Pos}
theorem pet_imp {t t' : TE} (h : PET X e t) (q : ∀ σ H Q, t' σ H Q → t σ H Q) : PET X e t' := fun pins s σ H Q h0 I hw => h pins s σ H Q h0 I (q σ H Q hw)
theorem pat_imp {t t' : TA} (h : PAT X es t) (q : ∀ σ H Q, t' σ H Q → t σ H Q) : PAT X es t' := fun pos pins s σ H Q h0 I hw => h pos pins s σ H Q h0 I (q σ H Q hw)
theorem dot_of (h : DO X e x) : DOT X e x := fun W tk => CwR.PET.of (h W tk)
theorem dot_v {m : M D} (h : DET X e m) : DOT X e (.v m) := fun W tk => pet_imp (h W tk) fun σ H Q ⟨w, A, ρ, R, q⟩ => by
  refine ⟨w, A, ρ, R, ?_⟩
  have e0 : (Arg.v m).ev ρ = M.bnd m (fun d => M.ret (AV.d d)) ρ := rfl
  rw [e0] at q
  cases hm : m ρ with
  | ok d ρ' => rw [bnd_ok hm] at q; exact fun v H' ex R' r => q v H' ex R' r
  | exc e ρ' => rw [bnd_exc hm] at q; exact q
  | bad => rw [bnd_bad hm] at q; exact q
/-- the name of a thing (own or a value), only looked at -/
theorem dat_of (h : DA X es as) : DAT X es as := fun W tk pos pins s σ H Q _ I q => (h W tk).run pos pins s σ H Q I q
theorem dat_cons (h : DOT X e x) (t : DAT X es as) (hs : starEach (e :: es) X.env = (false, eval e X.env) :: starEach es X.env := by rfl) : DAT X (e :: es) (x :: as) := fun W tk => pat_imp (pat_cons (h W tk) (t W tk) hs) fun σ H Q ⟨w, A, ρ, R, q⟩ => by
  refine ⟨w, A, ρ, R, ?_⟩
  have e0 : evs (x :: as) ρ = M.bnd x.ev (fun v => M.bnd (evs as) fun vs => M.ret (v :: vs)) ρ := rfl
  rw [e0] at q
  cases hx : x.ev ρ with
  | exc e ρ1 => rw [bnd_exc hx] at q; exact q
  | bad => rw [bnd_bad hx] at q; exact q
  | ok v ρ1 =>
    rw [bnd_ok hx] at q
    intro vv H1 ex1 R1 r1
    refine ⟨w, A, ρ1, R1, ?_⟩
    cases hr : evs as ρ1 with
    | exc e ρ2 => rw [bnd_exc hr] at q; exact fun c dd H2 ex2 R2 z => q c dd H2 (ex1.trans ex2) R2 z
    | bad => rw [bnd_bad hr] at q; exact q
    | ok vs ρ2 => rw [bnd_ok hr] at q; exact fun us H2 ex2 R2 r2 => q _ H2 (ex1.trans ex2) R2 ⟨_, _, rfl, r1.ext ex2, r2⟩
/-- behind a written text a token is out -/
theorem da_consS {c : Str} {j} (t : DAT X es as) (hs : starEach (.Constant (.str c) j p :: es) X.env = (false, eval (.Constant (.str c) j p) X.env) :: starEach es X.env := by rfl) : DA X (.Constant (.str c) j p :: es) (.v (M.ret (.str c)) :: as) := fun W tk =>
  ⟨fun pos pins s σ H Q I ⟨w, A, ρ, R, q⟩ => by
    rw [hs]
    show wpAny _ _ (spliced ((false, eval (.Constant (.str c) j p) X.env) :: backTo pos (starEach es X.env))) _ _ s
    refine Calls.spliced_cons (Calls.Constant_str ?_)
    have I1 : L2.Inv X pins σ H { s with toks := s.toks + 1 } := I.tok _
    refine thn (t W tk pos pins { s with toks := s.toks + 1 } σ H (fun us H2 => Q (.str c :: us) H2) (by show 1 ≤ s.toks + 1; omega) I1 ⟨w, A, ρ, R, ?_⟩) fun us s2 ⟨xs, H2, I2, r2, q2⟩ => ⟨.str c :: xs, H2, I2, .cons ⟨_, rfl⟩ r2, q2⟩
    have e0 : evs (.v (M.ret (.str c)) :: as) ρ = M.bnd (evs as) (fun vs => M.ret (.d (.str c) :: vs)) ρ := rfl
    rw [e0] at q
    cases hr : evs as ρ with
    | exc e ρ2 => rw [bnd_exc hr] at q; exact q
    | bad => rw [bnd_bad hr] at q; exact q
    | ok vs ρ2 => rw [bnd_ok hr] at q; exact fun us H2 ex2 R2 r2 => q _ H2 ex2 R2 ⟨_, _, rfl, rfl, r2⟩⟩
end
section
open Builtin Builtin.Str
theorem gives_replace1 (x y z : Str) (t u v k : Tok)
    (hf : ((occurrences x y 0 x.length 1).isEmpty || (y.length == 0 && z.length == 0)) = false →
      (u == 0 || v == 0) = false ∧ (u == v) = false ∧ (y == z) = false ∧ tooLong (x.length + (occurrences x y 0 x.length 1).length * z.length) = false) :
    Gives (Builtin.«str.replace» ⟨[.str x t, .str y u, .str z v, .int 1 k], []⟩) (if ((occurrences x y 0 x.length 1).isEmpty || (y.length == 0 && z.length == 0)) = true then .val (.str x t) else .str (glued z (partsBetween x (occurrences x y 0 x.length 1) y.length))) := by
  show Gives (if ((occurrences x y 0 x.length 1).isEmpty || (y.length == 0 && z.length == 0)) = true then (do rule "str.replace.nothing"; ret (.str x t)) else
          (do let same ← isSame (.str y u) (.str z v)
              if same = true then (do rule "str.replace.old-is-new"; ret (.str x t)) else
              if tooLong (x.length + (occurrences x y 0 x.length 1).length * z.length) = true then unsupported "str.replace:memory" else
              retStr (glued z (partsBetween x (occurrences x y 0 x.length 1) y.length)))) _
  cases hc : ((occurrences x y 0 x.length 1).isEmpty || (y.length == 0 && z.length == 0))
  · obtain ⟨h0, huv, hyz, hl⟩ := hf hc
    rw [isSame_str_other y z u v h0 huv hyz, hl]
    exact .of_eq rfl
  · exact .rule (.of_eq rfl)
/-- the text with the first match replaced -/
def replace1 (x y z : Str) : Str :=
  if ((occurrences x y 0 x.length 1).isEmpty || (y.length == 0 && z.length == 0)) = true then x
  else glued z (partsBetween x (occurrences x y 0 x.length 1) y.length)
theorem fits_replace1 {x z : Str} (y : Str) (hb : x.length + z.length ≤ 16777216) : (glued z (partsBetween x (occurrences x y 0 x.length 1) y.length)).length ≤ sizeLine := by
  have h1 := StrLaws.occ_length_le x y 0 x.length 1
  have hy : (glued y (partsBetween x (occurrences x y 0 x.length 1) y.length)).length = x.length := by rw [StrLaws.glued_between_self]
  rw [size_glued, length_partsBetween, Nat.add_sub_cancel] at hy
  rw [size_glued, length_partsBetween, Nat.add_sub_cancel, sizeLine_eq]
  have h2 : (occurrences x y 0 x.length 1).length * z.length ≤ 1 * z.length := Nat.mul_le_mul_right _ h1
  omega
variable {prog : Program} {w : World} {A : Around} {E : Value → Shared → Prop} {s : Shared} {x y z : Str} {t u v k : Tok} {Q : Value → Shared → Prop}
theorem call_replace1 (hu : u ≠ 0) (hv : v ≠ 0) (huv : u ≠ v) (hyz : (y == z) = false) (hb : x.length + z.length ≤ 16777216)
    (hq : ∀ t' k, Q (.str (replace1 x y z) t') { s with toks := k }) : wpAny (model prog w) A (call (.builtin "str.replace") [.str x t, .str y u, .str z v, .int 1 k]) Q E s := by
  have hl : tooLong (x.length + (occurrences x y 0 x.length 1).length * z.length) = false := by
    have h1 := StrLaws.occ_length_le x y 0 x.length 1
    have h2 : (occurrences x y 0 x.length 1).length * z.length ≤ 1 * z.length := Nat.mul_le_mul_right _ h1
    unfold tooLong sizeLine
    have e : (2 : Nat) ^ 24 = 16777216 := by decide
    exact decide_eq_false (by omega)
  refine call_gives F.slot_str_replace (typeIs_str _ _ _) F.entry_str_replace (F.args_str_replace_4 _ _ _ _)
    (gives_replace1 x y z t u v k fun _ => ⟨by simp [hu, hv], by simp [huv], hyz, hl⟩) ?_
  have hq' := hq
  unfold replace1 at hq'
  cases hc : ((occurrences x y 0 x.length 1).isEmpty || (y.length == 0 && z.length == 0))
  · rw [hc] at hq'
    simp only [Bool.false_eq_true, if_false] at hq' ⊢
    exact ⟨fits_replace1 y hb, hq' _ _⟩
  · rw [hc] at hq'
    simp only [if_true] at hq' ⊢
    exact hq' t s.toks
end
def tRepl1 (to : TE) (y z : Str) : TE := fun σ H Q => to σ H fun v H1 => ∃ x, v = .str x ∧ x.length + z.length ≤ 16777216 ∧ Q (.str (replace1 x y z)) H1
def D.repl1 (y z : Str) : Str → Option D := fun x => if x.length + z.length ≤ 16777216 then some (.str (replace1 x y z)) else none
section
open PyProof.Rows
variable {X : Cx} {o : Expr} {to : TE} {mo : M D} {y z : Str} {j1 j2 j3 : Nat} {c0 c1 c2 apos pos : Pos}
theorem pet_repl1 (ho : PE X o to) (hyz : (y == z) = false)
    (hst : starEach [.Constant (.str y) j1 c0, .Constant (.str z) j2 c1, .Constant (.int 1) j3 c2] X.env = [(false, eval (.Constant (.str y) j1 c0) X.env), (false, eval (.Constant (.str z) j2 c1) X.env), (false, eval (.Constant (.int 1) j3 c2) X.env)])
    (hbase : attributeBase o "replace" X.env (eval o X.env) = eval o X.env) (hline : (apos.endLine == pos.line) = true) :
    PET X (.Call (.Attribute o "replace" apos) [.Constant (.str y) j1 c0, .Constant (.str z) j2 c1, .Constant (.int 1) j3 c2] [] pos) (tRepl1 to y z) := by
  intro pins s σ H Q h0 I h
  refine wpAny_Call_method_lateS hbase (by rw [hst]; rfl) hline ?_
  rw [hst]
  refine wpAny_mono (PySem.wpAny_toks (ho.run pins s σ H _ I h)) (fun v s1 q => ?_) fun _ _ z => z.2
  obtain ⟨hk, v', H1, I1, r1, x, e1, hb, q⟩ := q
  subst e1
  obtain ⟨tx, e2⟩ := r1
  subst e2
  refine ⟨"str", _, PySem.F.plainAttrs_str, PySem.F.slot_str_replace, PySem.F.type_str_replace, typeIs_str _ _ _, (fun _ e => nomatch e), Calls.callWith_builtin rfl (Calls.evalArgs_plain ?_)⟩
  show wpAny _ _ (spliced [(false, eval (.Constant (.str y) j1 c0) X.env), (false, eval (.Constant (.str z) j2 c1) X.env), (false, eval (.Constant (.int 1) j3 c2) X.env)]) _ _ _
  refine Calls.spliced_cons (Calls.Constant_str (Calls.spliced_cons (Calls.Constant_str (Calls.spliced_cons (wpAny_Constant_int (Calls.spliced_nil ?_))))))
  exact call_replace1 (by show s1.toks ≠ 0; omega) (by show s1.toks + 1 ≠ 0; omega) (by show s1.toks ≠ s1.toks + 1; omega) hyz hb fun t' k => ⟨.str (replace1 x y z), H1, I1.tok k, ⟨t', rfl⟩, q⟩
theorem det_repl1 (ho : DE X o mo) (hyz : (y == z) = false := by decide)
    (hst : starEach [.Constant (.str y) j1 c0, .Constant (.str z) j2 c1, .Constant (.int 1) j3 c2] X.env = [(false, eval (.Constant (.str y) j1 c0) X.env), (false, eval (.Constant (.str z) j2 c1) X.env), (false, eval (.Constant (.int 1) j3 c2) X.env)] := by rfl)
    (hbase : attributeBase o "replace" X.env (eval o X.env) = eval o X.env := by rfl) (hline : (apos.endLine == pos.line) = true := by rfl) :
    DET X (.Call (.Attribute o "replace" apos) [.Constant (.str y) j1 c0, .Constant (.str z) j2 c1, .Constant (.int 1) j3 c2] [] pos) (strM0 (D.repl1 y z) mo) := fun W tk =>
  pet_imp (pet_repl1 (ho W tk) hyz hst hbase hline) fun σ H Q ⟨w, A, ρ, R, q⟩ => by
    refine ⟨w, A, ρ, R, ?_⟩
    unfold strM0 at q
    cases h1 : mo ρ with
    | exc e ρ1 => rw [bnd_exc h1] at q; exact q
    | bad => rw [bnd_bad h1] at q; exact q
    | ok d ρ1 =>
      rw [bnd_ok h1] at q
      intro v H1 ex1 R1 r1
      cases d with
      | str a =>
        dsimp only at q
        cases r1
        cases hf : D.repl1 y z a with
        | none => rw [hf] at q; exact q.elim
        | some d =>
          rw [hf] at q
          obtain ⟨hz, rfl⟩ := ite_some hf
          exact ⟨a, rfl, hz, q _ H1 ex1 R1 rfl⟩
      | _ => exact q.elim
end
section
open PyProof.Rows
variable {M : Model} {A : Around} {E : Value → Shared → Prop} {s : Shared} {env : Env}
theorem callWith_typeK {pos : Pos} {T : String} {e : Expr} {rest : List Expr} {kws : List Keyword} {Q : Value → Shared → Prop}
    (h : wpAny M A (spliced (backTo pos (starEach (e :: rest) env))) (fun vs s₁ => wpAny M A (evalAll ((backToKw pos (keywordEach kws env)).map (·.2)))
      (fun kvs s₂ => wpAny M A (call (.type T) vs (((backToKw pos (keywordEach kws env)).filterMap (·.1)).zip kvs)) Q E s₂) E s₁) E s)
    (he : backTo pos (starEach (e :: rest) env) = (false, eval e env) :: backTo pos (starEach rest env))
    (hplain : (backTo pos (starEach (e :: rest) env)).any (·.1) = false)
    (hall : (backToKw pos (keywordEach kws env)).all (·.1.isSome) = true)
    (hkw : (backToKw pos (keywordEach kws env)).any (·.1.isNone) = false) :
    wpAny M A (callWith pos (.type T) [] (backTo pos (starEach (e :: rest) env)) (backToKw pos (keywordEach kws env))) Q E s := by
  unfold callWith
  have h2 : wpAny M A (evalArgs (.type T) true (backTo pos (starEach (e :: rest) env)) (backToKw pos (keywordEach kws env))) (fun a s₁ => wpAny M A (call (.type T) ([] ++ a.pos) a.kw) Q E s₁) E s := by
    rw [he] at h ⊢
    exact evalArgs_kwB hall h
  refine wpAny_bind (wpAny_holding (wpAny_mono h2 (fun a s₁ h₁ => wpAny_bind (wpAny_standAt ?_)) fun _ _ x => x))
  simp only [hplain, hkw, Bool.or_false]
  refine wpAny_bind (wpAny_pure ?_)
  exact wpAny_bind (wpAny_mono h₁ (fun r s₂ hr => wpAny_bind (wpAny_holding (wpAny_point (wpAny_pure hr)))) fun _ _ x => x)
end
/-- the list at a, its items numbered from k, each pair new -/
def IteK (K : PySem.W.Frag) (k : Int) (a : Addr) : It where
  go := fun i H => ∃ (xs : List V) (x : V), SqL K H a xs ∧ xs[i]? = some x
  yld := fun i H v H' => ∃ T x, v = .ref T ∧ H T = none ∧ H' = upd H T (.tup [.int (k + (i : Nat)), x]) ∧ ∀ xs, SqL K H a xs → xs[i]? = some x
  stop := fun i H => ∃ xs : List V, SqL K H a xs ∧ xs.length ≤ i
theorem turn_enumK {P : Program} {w : World} {K : PySem.W.Frag} {elts : List Expr} {kk : Nat} {tpos : Pos} (k : Int) (a e it : Addr) :
    Turn P w K (.Tuple elts kk tpos) (IteK K k a) [e, it] e (fun i h => (∃ x, IsEnum h e it (k + ((i : Nat) : Int)) x) ∧ h.IsListIter it a i ∧ e ≠ it ∧ a ≠ e ∧ a ≠ it) where
  mem := by simp
  obj := fun i h ⟨⟨x, z⟩, ⟨o, h1, _, h2⟩, _⟩ b hb => by
    rcases (show b = e ∨ b = it by simpa using hb) with q | q <;> subst q
    · exact ⟨_, z, fun v q => nomatch q⟩
    · exact ⟨o, h1, fun v q => by rw [h2] at q; cases q⟩
  keep := fun i h h' ⟨⟨x, z⟩, y, n⟩ kk => ⟨⟨x, kk e (by simp) _ z⟩, y.at fun o q => kk it (by simp) o q, n⟩
  self := fun A i s Q E ⟨⟨_, z⟩, _⟩ h => wpAny_pyIter_enum z h
  item := by
    intro X hP hw hK hc i pins s σ H E I hf st hg
    subst hP hw hK
    obtain ⟨⟨old, z⟩, y, n1, n2, n3⟩ := st
    obtain ⟨xs, x, hq, hx⟩ := hg
    obtain ⟨its, rv, p, hz⟩ := I.list hq
    obtain ⟨u, hu, ru⟩ := rv.get hx
    have le : e < s.heap.objs.size := Heap.lt_size z
    have li : it < s.heap.objs.size := let ⟨_, q, _⟩ := y; Heap.lt_size q
    have hi : i < its.toArray.size := by simpa using (List.getElem?_eq_some_iff.mp hu).1
    have dr := Draws.list (prog := X.prog) (w := X.w) (A := X.A.in1) (show X.A.in1.handled = none from I.ok.hd hc) it a n3 its.toArray
    refine wpAny_pyNext_enum_itemC dr z ⟨y, p.isList⟩ hi n1 (by simp [n1, Ne.symm n2]) fun x' h' tk hx' ho st' hT hsz hk => ?_
    have ex : x' = u := by
      have e1 : its.toArray[i]? = some u := by simpa using hu
      rw [e1] at hx'
      exact (Option.some.inj hx').symm
    subst ex
    refine ⟨_, rfl, wpAny_letOwnedTupleGo_enum (s := { s with heap := h', toks := tk + 1 }) ho fun h2 z2 sb => ?_⟩
    have neT : s.heap.objs.size ≠ e := Nat.ne_of_gt le
    have hT2 := (sb.2 _ neT).trans hT
    have I1 : L2.Inv X pins σ (upd H s.heap.objs.size (.tup [.int (k + (i : Nat)), x])) { s with heap := h2, toks := tk + 1 } :=
      I.turnedNew (ch := [e, it]) (fun b ob nb q => by
        have ⟨nb1, nb2⟩ : b ≠ e ∧ b ≠ it := by simpa using nb
        exact (sb.2 b nb1).trans (hk b ob nb1 nb2 q)) hf (Nat.le_refl _) ⟨by show 2 ≤ sizeLine; decide, [.int (k + (i : Nat)) tk, x'], .cons ⟨_, rfl⟩ (.cons ru .nil), ⟨_, hT2, rfl, _, rfl⟩⟩
    refine ⟨.ref s.heap.objs.size, _, I1, rfl, ⟨_, x, rfl, I.hok.fresh (Nat.le_refl _), rfl, fun ys hy => by rw [I.list_inj hy hq]; exact hx⟩, ⟨⟨x', ?_⟩, st'.1.at fun o q => (sb.2 it (Ne.symm n1)).trans q, n1, n2, n3⟩, fun b hb => ?_⟩
    · rw [show k + ((i + 1 : Nat) : Int) = k + (i : Int) + 1 by omega]
      exact z2
    · have lb : b < s.heap.objs.size := by rcases (show b = e ∨ b = it by simpa using hb) with q | q <;> (subst q; assumption)
      rw [upd_ne (Nat.ne_of_lt lb)]
      exact (hf b hb).1
  done := by
    intro X hP hw hK hc i pins s σ H E I hf st hg
    subst hP hw hK
    obtain ⟨⟨old, z⟩, y, n1, n2, n3⟩ := st
    obtain ⟨xs, hq, hx⟩ := hg
    obtain ⟨its, rv, p, hz⟩ := I.list hq
    have hl := rv.length
    have hh : X.A.in1.handled = none := I.ok.hd hc
    have out : its.toArray[i]? = none := by simp; omega
    have dr : Draws X.prog X.w X.A.in1 it [it, a] i (fun _ _ => True) (fun j h => j = i ∧ h.IsListIter it a i ∧ h.IsList a its.toArray) :=
      { live := fun _ _ st => let ⟨o, q, _⟩ := st.2.1; ⟨o, q⟩
        frame := fun _ _ _ st k => ⟨st.1, st.2.1.at fun o q => k it (by simp) o q, st.2.2.at fun o q => k a (by simp) o q⟩
        item := fun j s' Q' E' hj st _ => by rw [st.1] at hj; exact absurd hj (Nat.lt_irrefl _)
        done := fun s' Q' E' st hE => wpAny_nextOf_list_end hh st.2.1 st.2.2 out hE }
    obtain ⟨f0, f1, f2, f3, f4, f5⟩ := hf it (by simp)
    exact wpAny_pyNext_enum_endD dr z ⟨rfl, y, p.isList⟩ fun h' eb => ⟨rfl, I.turned (t' := s.toks) (fun b o hb q => eb b o hb q) f0 f1 f3 f4 f5⟩
def iEnumK (K : PySem.W.Frag) (k : Int) (ta : TA) : TI := fun σ H R => ta σ H fun vs H1 => ∃ a xs, vs = [.ref a] ∧ SqL K H1 a xs ∧ (xs.length ≤ sizeLine → R (IteK K k a) H1)
theorem pi_enumK {X : Cx} {e : Expr} {ta : TA} {p pos tpos cpos kpos : Pos} {elts : List Expr} {kk j : Nat} {k : Int} (hk0 : -(2 ^ 63) ≤ k) (hk1 : k < 2 ^ 63) (hg : Gl X "enumerate") (hm : X.mg "enumerate" = none) (ha : PA X [e] ta) (hs : starEach [e] X.env = [(false, eval e X.env)]) :
    PI X (.Tuple elts kk tpos) (.Call (.Name "enumerate" p) [e] [⟨some "start", .Constant (.int k) j cpos, kpos⟩] pos) (iEnumK X.K k ta) := by
  refine ⟨fun pins s σ H R I h => ?_⟩
  refine wpAny_Call_Name_kw (ld_blt I hg hm PyProof.Rows.boot_enumerate ?_)
  refine callWith_typeK (thn (ha.run pos pins s σ H _ I h) fun us s1 ⟨vs, H1, I1, r1, a, xs, e1, hq, q⟩ => ?_) (by rw [hs]; rfl) (by rw [hs]; rfl) rfl rfl
  refine PyProof.Rows.kws_cons (wpAny_Constant_int (PyProof.Rows.kws_nil ?_))
  subst e1
  cases r1 with
  | cons r rr =>
    cases rr
    cases r
    have I2 : L2.Inv X pins σ H1 { s1 with toks := s1.toks + 1 } := I1.tok _
    have fr : ∀ b ∈ [s1.heap.objs.size + 1, s1.heap.objs.size], FpOk X pins H1 b := fun b hb => by
      have hle : s1.heap.objs.size ≤ b := by
        rcases (show b = s1.heap.objs.size + 1 ∨ b = s1.heap.objs.size by simpa using hb) with q | q <;> subst q <;> omega
      exact I2.fpOk hle (I2.hok.fresh hle)
    obtain ⟨its, rv, pl, hz⟩ := I2.list hq
    have la : a < s1.heap.objs.size := let ⟨_, g, _⟩ := pl.isList; Heap.lt_size g
    refine enum_begins_start (s := { s1 with toks := s1.toks + 1 }) (begins_list a its.toArray) pl.isList hk0 hk1 fun h' z ho hsz hk => wpAny_pyIter_enum z ?_
    exact ⟨_, _, _, _, H1, rfl, I2.kept (t' := s1.toks + 1) hk, turn_enumK k a (s1.heap.objs.size + 1) s1.heap.objs.size, ⟨⟨.none, by rw [show k + ((0 : Nat) : Int) = k by omega]; exact z⟩, ⟨_, ho, rfl, rfl⟩, Nat.succ_ne_self _, Nat.ne_of_lt (Nat.lt_succ_of_lt la), Nat.ne_of_lt la⟩, fr, q hz⟩
section
variable {X : Cx} {e : Expr} {as : List Arg} {pos p tpos cpos kpos : Pos} {K : PySem.W.Frag} {mg : Str → Option Value} {A : List Addr} {H0 : Hp}
theorem wk_enumK {n : Nat} {a : Addr} {vs : List V} {ds : List D} (h : SqL K (off A H0) a vs) (r : Reps K mg (off A H0) ds vs) : Wk K mg A (numd n ds) (IteK K n a) H0 := fun i A' H sm tk => by
  have q : SqL K H a vs := SqL.mono off_le (SqL.mono sm h)
  refine ⟨fun d hd => ?_, fun hl => ⟨vs, q, by rw [numd_len] at hl; rw [← r.length]; exact hl⟩⟩
  rw [numd_get] at hd
  obtain ⟨d0, hd, e⟩ := Option.map_eq_some_iff.mp hd
  obtain ⟨v, h1, h2⟩ := r.get hd
  refine ⟨⟨vs, v, q, h1⟩, fun x H' ⟨T, x', e1, nT, e2, y⟩ => ?_⟩
  have := y vs q
  rw [h1] at this
  cases this
  subst e e1 e2
  rw [Int.natCast_add]
  exact ⟨same_upd nT, rep_pair tk nT rfl (h2.mono sm)⟩
def D.enumS (n : Nat) : List D → Option (List D)
  | [.lst l] => some (numd n l)
  | _ => none
theorem di_enumS {elts : List Expr} {kk j n : Nat} (hn : (n : Int) < 2 ^ 63) (hg : Gl X "enumerate") (hm : X.mg "enumerate" = none) (ha : DA X [e] as) (hs : starEach [e] X.env = [(false, eval e X.env)] := by rfl) :
    DI X (.Tuple elts kk tpos) (.Call (.Name "enumerate" p) [e] [⟨some "start", .Constant (.int n) j cpos, kpos⟩] pos) (srcN (D.enumS n) as) :=
  fun W tk => pi_imp (pi_enumK (by omega) hn hg hm (ha W tk) hs) fun σ H R ⟨w, A, ρ, Rr, q⟩ => by
    refine ⟨w, A, ρ, Rr, ?_⟩
    unfold srcN at q
    cases hx : evs as ρ with
    | exc e ρ1 => rw [bnd_exc hx] at q; exact q
    | bad => rw [bnd_bad hx] at q; exact q
    | ok v ρ1 =>
      rw [bnd_ok hx] at q
      intro vv H1 ex1 R1 r1
      cases hd : (dvs v).bind (D.enumS n) with
      | none => rw [hd] at q; exact q.elim
      | some d =>
        rw [hd] at q
        obtain ⟨ds, h1, h2⟩ := Option.bind_eq_some_iff.mp hd
        have r := dvs_rep r1 h1
        match ds, h2, r with
        | [.lst l], h2, ⟨v, _, e1, ⟨a, xs, e2, hh, rr⟩, e3⟩ =>
          cases (Option.some.inj h2)
          cases e3; subst e2; subst e1
          exact ⟨a, xs, rfl, SqL.of (off_le _ _ hh), fun z => q _ H1 ex1 R1 (wk_enumK (SqL.of hh) rr) (by rw [numd_len, rr.length]; exact z)⟩
end
theorem de_gstr {X : Cx} {x c : Str} {t : Tok} {pos : Pos} (h : X.mg x = some (.str c t)) (hg : Gl X x := by rfl) (hd : (x == ("__debug__" : Str)) = false := by decide) : DE X (.Name x pos) (M.ret (.str c)) :=
  de_glob (v := .str c) hg h ⟨t, rfl⟩ (fun F => rfl) hd
end DL
namespace DL
open PySem L2
open PySem.W (ksFn ksEnv)
section
open PySem.W PySem.Calls PyProof.Rows
variable {P : Program} {w : World} {K : PySem.W.Frag} {mg : Str → Option Value} {base : Heap} {c qual : Str} {sc : Scope} {fI cc cda C : Addr} {params : Arguments} {p0 p1 p2 p3 p4 q1 q2 q3 q4 q5 q6 q7 q8 q9 q10 : Pos} {kV doc pm ct oc ocl ccl : Value} {an od cdd cld : Option Addr}
  {osl ccs csl : Array (Option Value)} {vs2 : Array Value} {file : Str} {tf : Tok} {ar : PySem.Arg} {f g v u : Str}
theorem errC1H (hm : mg c = some (.ref C)) (O : OexC K C) (iC : findIn K (.ref C) "__init__" = some (some (.ref fI))) (tI : typeIn K (.ref fI) = some (.type "function"))
    (lk : K.lookup fI = some ⟨oc, od, .func (ksFn "__init__" qual params [.Expr (.Call (.Attribute (.Call (.Name "super" p0) [] [] p1) "__init__" p2) [.Name v q1] [] p3) p4, .Assign [.Attribute (.Name "self" q2) f q3] (.Name v q4) q5] sc .none kV doc pm an (.ref cda) ct cc), osl⟩)
    (hcd : codeIn K (.ref cda) qual = true) (S : SupScope ["self", v] ["self", v] sc) (hp : (params.posonlyargs ++ params.args).head? = some ar) (h0 : ar.arg = "self")
    (hcode : K.lookup cda = some ⟨ccl, cdd, .fields vs2, ccs⟩) (hvs : vs2[2]? = some (.str file tf)) (hfile : ((P.main.file : Str) == file) = true) (hcell : K.lookup cc = some ⟨ocl, cld, .cell (some (.ref C)), csl⟩) (hsup : mg "super" = none)
    (htop : (P.main.scope.names.lookup ("super" : Str)).isSome = false) (hth : nsIn K cStatics "thirdparty.any" = some none) (hsi : ks_superIn K C C "__init__" = some (some (.builtin "ValueError.__init__"))) (hve : subIn K (.ref C) (.type "ValueError") = some true)
    (hmr : mroIn K C (.ref C) = some true) (hno : findIn K (.ref C) f = some none) (hd : (v == ("__debug__" : Str)) = false) (hd2 : (v == ("__classdict__" : Str)) = false)
    (hb : ∀ us : List Value, us.length = 2 → bindArgs (ksFn "__init__" qual params [.Expr (.Call (.Attribute (.Call (.Name "super" p0) [] [] p1) "__init__" p2) [.Name v q1] [] p3) p4, .Assign [.Attribute (.Name "self" q2) f q3] (.Name v q4) q5] sc .none kV doc pm an (.ref cda) ct cc) ⟨us, []⟩ = pure ((["self", v] : List Str).zip us))
    {pl : Addr → Sem Bool} (hev : ∀ L : Addr, eval (.Call (.Attribute (.Call (.Name "super" p0) [] [] p1) "__init__" p2) (.Name v q1 :: []) [] p3) (ksEnv qual sc L fI (.ref cda) cc) = (do
      let sv ← attributeBase (.Call (.Name "super" p0) [] [] p1) "__init__" (ksEnv qual sc L fI (.ref cda) cc) (eval (.Call (.Name "super" p0) [] [] p1) (ksEnv qual sc L fI (.ref cda) cc))
      standAt p2.atName
      let (g, fst) ← holding [sv] (getMethod sv "__init__" (pl L))
      callWith p3 g fst (backTo p3 (starEach (.Name v q1 :: []) (ksEnv qual sc L fI (.ref cda) cc))) [])) :
    ErrH P w K mg base c [f] :=
  ⟨by simp, by show 1 ≤ 900; omega, C, fI, _, ["self", v], hm, O, iC, tI, errF1H O lk hcd S hp h0 hcode hvs hfile hcell hsup htop hth hsi hve hmr hno hd hd2 hev, .all fun us h => hb us h⟩
end
section
variable {P : Program} {w : World} {K : PySem.W.Frag} {mg : Str → Option Value} {base : Heap} {k k' : Nat} {x : Str} {φ : Fn} {tab : List (Str × Fn)}
theorem tab_nil : ∀ n φ, ([] : List (Str × Fn)).lookup n = some φ → ∃ k', k' ≤ k ∧ DefOk P w K mg base n k' φ := fun _ _ h => by cases h
theorem tab_cons (hk : k' ≤ k) (D : DefOk P w K mg base x k' φ) (T : ∀ n φ, tab.lookup n = some φ → ∃ k', k' ≤ k ∧ DefOk P w K mg base n k' φ) : ∀ n φ', ((x, φ) :: tab).lookup n = some φ' → ∃ k', k' ≤ k ∧ DefOk P w K mg base n k' φ' := fun n φ' h => by
  rw [List.lookup_cons] at h
  cases hx : (n == x) with
  | true =>
    rw [hx] at h
    cases (Option.some.inj h)
    rw [eq_of_beq hx]
    exact ⟨k', hk, D⟩
  | false => rw [hx] at h; exact T n φ' h
end
section
variable {X : Cx} {k : Nat} {φ : Fn} {x : Str} {p pos : Pos}
theorem de_callD0 (D : DefOk X.prog X.w X.K X.mg X.base x k φ) (hr : Room k X.A) (hg : Gl X x := by rfl) (hdb : (x == ("__debug__" : Str)) = false := by decide) : DE X (.Call (.Name x p) [] [] pos) (callF φ []) := by
  obtain ⟨f, fd, ps, hm, hk, hb, F⟩ := D
  exact de_call0 F hr hg hm hk hb hdb
end
end DL
namespace DL
open PySem L2
theorem merge_self : ∀ {a b : Ev}, a.length = b.length → (∀ (j : Nat) s, a[j]? = some s → s.isOwn = true → b[j]? = some s) → mergeE a b = some a
  | [], [], _, _ => rfl
  | [], _ :: _, h, _ => by simp at h
  | _ :: _, [], h, _ => by simp at h
  | x :: a, y :: b, h, q => by
    have h' : a.length = b.length := by simpa using h
    have r := merge_self h' fun j s h1 h2 => by simpa using q (j + 1) s (by simpa using h1) h2
    unfold mergeE
    rw [r]
    cases ho : x.isOwn with
    | false => rfl
    | true =>
      have e := q 0 x rfl ho
      simp at e
      subst e
      simp [ho]
theorem merge_wipe {vs : List Nat} {ρ : Ev} (h : ownAt vs ρ = false) : mergeE ρ (wipeE ρ vs) = some ρ := by
  refine merge_self (wipeE_len vs ρ).symm fun j s h1 h2 => ?_
  rw [wipeE_get]
  by_cases hj : j ∈ vs
  · have := ownAt_no h j hj s h1
    rw [this] at h2
    cases h2
  · rw [if_neg hj]; exact h1
theorem lcL_pure {vs : List Nat} {t : D → Ev → Option Ev} {tt : M Bool} {te : M D} {ρ : Ev} (p : D → Bool) (f : D → D) : ∀ {ds : List D} {acc : List D},
    (∀ d ∈ ds, ∃ ρ1, t d ρ = some ρ1 ∧ tt ρ1 = .ok (p d) ρ1 ∧ (p d = true → te ρ1 = .ok (f d) ρ1) ∧ ownAt vs ρ1 = false ∧ wipeE ρ1 vs = ρ) → lcL vs t tt te ds ρ acc = .ok (acc ++ (ds.filter p).map f) ρ
  | [], acc, _ => by simp [lcL]
  | d :: ds, acc, h => by
    obtain ⟨ρ1, h1, h2, h3, h4, h5⟩ := h d List.mem_cons_self
    have ih := fun acc' => lcL_pure (acc := acc') p f fun x hx => h x (List.mem_cons_of_mem _ hx)
    unfold lcL
    rw [h1]
    dsimp only
    rw [h2]
    cases hp : p d with
    | false =>
      dsimp only
      rw [h4, h5]
      simp [ih, hp]
    | true =>
      dsimp only
      rw [h3 hp]
      dsimp only
      rw [h4, h5]
      simp [ih, hp]
theorem comp_pure {vs : List Nat} {src : M (List D)} {t : D → Ev → Option Ev} {tt : M Bool} {te : M D} {ρ ρ0 : Ev} {ds : List D} (p : D → Bool) (f : D → D) (hs : src ρ0 = .ok ds ρ) (ho : ownAt vs ρ = false)
    (h : ∀ d ∈ ds, ∃ ρ1, t d (wipeE ρ vs) = some ρ1 ∧ tt ρ1 = .ok (p d) ρ1 ∧ (p d = true → te ρ1 = .ok (f d) ρ1) ∧ ownAt vs ρ1 = false ∧ wipeE ρ1 vs = wipeE ρ vs) : compM vs src t tt te ρ0 = .ok (.lst ((ds.filter p).map f)) ρ := by
  unfold compM
  rw [bnd_ok hs, ho]
  simp only [Bool.false_eq_true, if_false]
  rw [lcL_pure p f h]
  dsimp only
  rw [merge_wipe ho]
  simp
theorem set_self {ρ : Ev} {i : Nat} {s : Slot} (h : ρ[i]? = some s) : ρ.set i s = ρ := by
  have hi := (List.getElem?_eq_some_iff.mp h).1
  have e := (List.getElem?_eq_some_iff.mp h).2
  rw [← e]
  exact List.set_getElem_self hi
/-- a loop that looks for the first item with c -/
theorem find_loop {i : Nat} {B : S} (c : D → Bool) (r : D → D) : ∀ {ds : List D} {ρ : Ev} {s0 : Slot}, ρ[i]? = some s0 → s0.isOwn = false → (∀ d ∈ ds, B (ρ.set i (.val d)) = if c d = true then .rt (r d) (ρ.set i (.val d)) else .nx (ρ.set i (.val d))) →
    (∃ d, ds.find? c = some d ∧ forL (gN i) B ds ρ = .rt (r d) (ρ.set i (.val d))) ∨ (ds.find? c = none ∧ ∃ s, s.isOwn = false ∧ forL (gN i) B ds ρ = .nx (ρ.set i s))
  | [], ρ, s0, h0, ho, _ => .inr ⟨rfl, s0, ho, by rw [set_self h0]; rfl⟩
  | d :: ds, ρ, s0, h0, ho, hB => by
    have li : i < ρ.length := (List.getElem?_eq_some_iff.mp h0).1
    have hg : gN i d ρ = some (ρ.set i (.val d)) := by unfold gN; rw [h0]; simp [ho]
    have e1 : forL (gN i) B (d :: ds) ρ = match B (ρ.set i (.val d)) with
      | .nx ρ' => forL (gN i) B ds ρ'
      | .ct ρ' => forL (gN i) B ds ρ'
      | .bk ρ' => .nx ρ'
      | .rt x ρ' => .rt x ρ' | .exc e ρ' => .exc e ρ' | .bad => .bad := by
      show (match gN i d ρ with
        | none => SOut.bad
        | some ρ1 => _) = _
      rw [hg]
      try dsimp only
      all_goals (cases B (ρ.set i (.val d)) <;> rfl)
    have hb := hB d List.mem_cons_self
    by_cases hc : c d = true
    · rw [if_pos hc] at hb
      exact .inl ⟨d, by simp [hc], by rw [e1, hb]⟩
    · rw [if_neg hc] at hb
      rcases find_loop c r (ds := ds) (ρ := ρ.set i (.val d)) (s0 := .val d) (by rw [List.getElem?_set_self li]) rfl (fun x hx => by rw [List.set_set]; exact hB x (List.mem_cons_of_mem _ hx)) with ⟨y, h1, h2⟩ | ⟨h1, s, h2, h3⟩
      · exact .inl ⟨y, by rw [List.find?_cons_of_neg hc]; exact h1, by rw [e1, hb]; dsimp only; rw [h2, List.set_set]⟩
      · exact .inr ⟨by rw [List.find?_cons_of_neg hc]; exact h1, s, h2, by rw [e1, hb]; dsimp only; rw [h3, List.set_set]⟩
theorem rng_nat (lo hi : Int) : rng lo hi = ((List.range (hi - lo).toNat).map fun k : Nat => lo + (k : Int)).map D.int := by
  unfold rng
  rw [List.map_map]
  rfl
theorem callV_1 {φ : Fn} {a : D} {ρ : Ev} : callV φ [.d a] ρ = match φ [.val a] with
    | .ok d (_ :: _) => .ok d ρ
    | .exc e (_ :: _) => .exc e ρ
    | _ => .bad := by
  unfold callV
  simp only [slotsOf, ownIx, Option.map_some, List.nodup_nil, if_true]
  cases φ [.val a] with
  | ok d os => cases os <;> simp [upsOf, updE]
  | exc e os => cases os <;> simp [upsOf, updE]
  | bad => rfl
theorem callV_2 {φ : Fn} {a b : D} {ρ : Ev} : callV φ [.d a, .d b] ρ = match φ [.val a, .val b] with
    | .ok d (_ :: _ :: _) => .ok d ρ
    | .exc e (_ :: _ :: _) => .exc e ρ
    | _ => .bad := by
  unfold callV
  simp only [slotsOf, ownIx, Option.map_some, List.nodup_nil, if_true]
  cases φ [.val a, .val b] with
  | ok d os => rcases os with _ | ⟨_, _ | ⟨_, _⟩⟩ <;> simp [upsOf, updE]
  | exc e os => rcases os with _ | ⟨_, _ | ⟨_, _⟩⟩ <;> simp [upsOf, updE]
  | bad => rfl
theorem callV_3 {φ : Fn} {a b c : D} {ρ : Ev} : callV φ [.d a, .d b, .d c] ρ = match φ [.val a, .val b, .val c] with
    | .ok d (_ :: _ :: _ :: _) => .ok d ρ
    | .exc e (_ :: _ :: _ :: _) => .exc e ρ
    | _ => .bad := by
  unfold callV
  simp only [slotsOf, ownIx, Option.map_some, List.nodup_nil, if_true]
  cases φ [.val a, .val b, .val c] with
  | ok d os => rcases os with _ | ⟨_, _ | ⟨_, _ | ⟨_, _⟩⟩⟩ <;> simp [upsOf, updE]
  | exc e os => rcases os with _ | ⟨_, _ | ⟨_, _ | ⟨_, _⟩⟩⟩ <;> simp [upsOf, updE]
  | bad => rfl
theorem callV_4 {φ : Fn} {a b c g : D} {ρ : Ev} : callV φ [.d a, .d b, .d c, .d g] ρ = match φ [.val a, .val b, .val c, .val g] with
    | .ok d (_ :: _ :: _ :: _ :: _) => .ok d ρ
    | .exc e (_ :: _ :: _ :: _ :: _) => .exc e ρ
    | _ => .bad := by
  unfold callV
  simp only [slotsOf, ownIx, Option.map_some, List.nodup_nil, if_true]
  cases φ [.val a, .val b, .val c, .val g] with
  | ok d os => rcases os with _ | ⟨_, _ | ⟨_, _ | ⟨_, _ | ⟨_, _⟩⟩⟩⟩ <;> simp [upsOf, updE]
  | exc e os => rcases os with _ | ⟨_, _ | ⟨_, _ | ⟨_, _ | ⟨_, _⟩⟩⟩⟩ <;> simp [upsOf, updE]
  | bad => rfl
theorem sz1 : (1 ≤ sizeLine) = True := by rw [sizeLine_eq]; decide
theorem sz2 : (2 ≤ sizeLine) = True := by rw [sizeLine_eq]; decide
theorem sz3 : (3 ≤ sizeLine) = True := by rw [sizeLine_eq]; decide
theorem sz4 : (4 ≤ sizeLine) = True := by rw [sizeLine_eq]; decide
theorem sz5 : (5 ≤ sizeLine) = True := by rw [sizeLine_eq]; decide
theorem sz6 : (6 ≤ sizeLine) = True := by rw [sizeLine_eq]; decide
theorem sz7 : (7 ≤ sizeLine) = True := by rw [sizeLine_eq]; decide
theorem sz8 : (8 ≤ sizeLine) = True := by rw [sizeLine_eq]; decide
theorem sz9 : (9 ≤ sizeLine) = True := by rw [sizeLine_eq]; decide
theorem sz10 : (10 ≤ sizeLine) = True := by rw [sizeLine_eq]; decide
theorem sz11 : (11 ≤ sizeLine) = True := by rw [sizeLine_eq]; decide
theorem sz12 : (12 ≤ sizeLine) = True := by rw [sizeLine_eq]; decide
end DL
namespace DL
open PySem L2
/-- plain data of at most so many layers -/
def shd : Nat → D → Bool
  | _, .non => true
  | _, .bl _ => true
  | _, .int _ => true
  | _, .str s => PyData.canLay0 (.str s)
  | n + 1, .tup l => l.all (shd n)
  | n + 1, .lst l => l.all (shd n)
  | _, _ => false
theorem shd_list {n : Nat} (ih : ∀ d : D, shd n d = true → ∃ p, d.toP = some p ∧ p.canLay0 = true ∧ p.depth ≤ n) : ∀ l : List D, l.all (shd n) = true → ∃ ps, D.toPs l = some ps ∧ PyData.canLayAll0 ps = true ∧ PyData.depthAll ps ≤ n
  | [], _ => ⟨[], rfl, rfl, Nat.zero_le _⟩
  | d :: l, h => by
    rw [List.all_cons, Bool.and_eq_true] at h
    obtain ⟨p, h1, h2, h3⟩ := ih d h.1
    obtain ⟨ps, g1, g2, g3⟩ := shd_list ih l h.2
    refine ⟨p :: ps, ?_, ?_, ?_⟩
    · show (D.toP d).bind (fun p => (D.toPs l).map fun ps => p :: ps) = _
      rw [h1, g1]; rfl
    · show (PyData.canLay0 p && PyData.canLayAll0 ps) = true
      rw [h2, g2]; rfl
    · show max (PyData.depth p) (PyData.depthAll ps) ≤ n
      omega
theorem shd_toP : ∀ (n : Nat) (d : D), shd n d = true → ∃ p, d.toP = some p ∧ p.canLay0 = true ∧ p.depth ≤ n
  | n, .non, _ => ⟨.none, rfl, rfl, Nat.zero_le _⟩
  | n, .bl b, _ => ⟨.bool b, rfl, rfl, Nat.zero_le _⟩
  | n, .int i, _ => ⟨.int i, rfl, rfl, Nat.zero_le _⟩
  | n, .str s, h => ⟨.str s, rfl, by cases n <;> exact h, Nat.zero_le _⟩
  | n + 1, .tup l, h => by
    obtain ⟨ps, g1, g2, g3⟩ := shd_list (shd_toP n) l h
    refine ⟨.tuple ps, ?_, g2, ?_⟩
    · show (D.toPs l).map PyData.tuple = _
      rw [g1]; rfl
    · show PyData.depthAll ps + 1 ≤ n + 1
      omega
  | n + 1, .lst l, h => by
    obtain ⟨ps, g1, g2, g3⟩ := shd_list (shd_toP n) l h
    refine ⟨.list ps, ?_, g2, ?_⟩
    · show (D.toPs l).map PyData.list = _
      rw [g1]; rfl
    · show PyData.depthAll ps + 1 ≤ n + 1
      omega
  | 0, .tup _, h => by simp [shd] at h
  | 0, .lst _, h => by simp [shd] at h
  | 0, .scr _, h => by simp [shd] at h
  | _ + 1, .scr _, h => by simp [shd] at h
  | 0, .obj _ _ _, h => by simp [shd] at h
  | _ + 1, .obj _ _ _, h => by simp [shd] at h
  | 0, .fn _, h => by simp [shd] at h
  | _ + 1, .fn _, h => by simp [shd] at h
theorem sh_of {d : D} (h : shd 64 d = true) : d.sh = true := by
  obtain ⟨p, h1, h2, h3⟩ := shd_toP 64 d h
  unfold D.sh
  rw [h1]
  show (p.canLay0 && decide (p.depth ≤ 64)) = true
  rw [h2, decide_eq_true h3]
  rfl
theorem shd_map {α : Type} {n : Nat} {f : α → D} {l : List α} (h : ∀ x ∈ l, shd n (f x) = true) : (l.map f).all (shd n) = true := by
  rw [List.all_eq_true]
  intro d hd
  obtain ⟨x, hx, rfl⟩ := List.mem_map.mp hd
  exact h x hx
theorem eq_sh {x y : D} (hx : shd 64 x = true) (hy : shd 64 y = true) : D.eq x y = some (.bl (D.eqb x y)) := by
  unfold D.eq
  rw [sh_of hx, sh_of hy]
  simp
theorem ne_sh {x y : D} (hx : shd 64 x = true) (hy : shd 64 y = true) : D.ne x y = some (.bl (!D.eqb x y)) := by
  unfold D.ne
  rw [sh_of hx, sh_of hy]
  simp
theorem eqbs_refl {l : List D} (h : ∀ d ∈ l, D.eqb d d = true) : D.eqbs l l = true := by
  induction l with
  | nil => rfl
  | cons d l ih =>
    show (D.eqb d d && D.eqbs l l) = true
    rw [h d (by simp), ih fun x hx => h x (List.mem_cons_of_mem _ hx)]
    rfl
end DL
namespace DL
open PySem L2
def top (i : Nat) : Stmt := PySem.Challenge.pw_gateskept_k12_whole_notes.main.body.getD i (.Pass ⟨0, 0, 0, 0⟩)
abbrev s_uwall : Stmt := top 0
abbrev s_is_whole : Stmt := top 12
abbrev s_is_number : Stmt := top 13
abbrev s_is_row : Stmt := top 14
abbrev s_is_name : Stmt := top 15
abbrev s_frozen : Stmt := top 16
abbrev s_is_visit : Stmt := top 23
abbrev s_Lane_uulen__ : Stmt := inClass (top 24) 1
abbrev s_Lane_uueq__ : Stmt := inClass (top 24) 2
abbrev s_Lane_visit : Stmt := inClass (top 24) 3
abbrev s_Lane_work_in : Stmt := inClass (top 24) 4
abbrev s_Lane_worst_span : Stmt := inClass (top 24) 5
abbrev s_Lane_starts : Stmt := inClass (top 24) 6
abbrev s_Lane_worst_wait : Stmt := inClass (top 24) 7
abbrev s_Lane_longest_wait : Stmt := inClass (top 24) 8
abbrev s_Lane_is_kept : Stmt := inClass (top 24) 9
abbrev s_Lane_breaking : Stmt := inClass (top 24) 10
abbrev s_Lane_is_course : Stmt := inClass (top 24) 11
abbrev s_Lane_waits : Stmt := inClass (top 24) 12
abbrev s_Lane_last_end : Stmt := inClass (top 24) 13
abbrev s_Lane_could_add : Stmt := inClass (top 24) 14
abbrev s_Lane_next_free : Stmt := inClass (top 24) 15
abbrev s_Lane_most_late : Stmt := inClass (top 24) 16
abbrev s_Lane_with_late : Stmt := inClass (top 24) 17
abbrev s_number_in : Stmt := top 27
abbrev s_visit_in : Stmt := top 28
abbrev s_format_lane : Stmt := top 29
abbrev s_ulaw_taken : Stmt := top 32
abbrev s_ulaw_pick : Stmt := top 33
abbrev s_ulaw_name : Stmt := top 34
abbrev s_ulaw_names : Stmt := top 35
abbrev s_ulaw_feed : Stmt := top 37
abbrev s_ulaw_visits : Stmt := top 38
abbrev s_want_row : Stmt := top 17
abbrev s_Lane_uuinit__ : Stmt := inClass (top 24) 0
abbrev s_parse_lane : Stmt := top 30
abbrev s_ulaw_ended : Stmt := top 36
abbrev s_ulaw_refused : Stmt := top 39
abbrev s_law : Stmt := top 40
def known : List Str := ["BadItem", "BadNote", "Taken", "TooMany", "Unknown"]
def caught (c e : Str) : Bool := e == c || c == "GateError"
def l0_uwall : S := whL (asTest (M.ret (.bl true))) (sNx) 20000
def m_uwall : S := l0_uwall
def f_uwall : Fn := fnF 1 0 m_uwall
def m_is_whole : S := sV (vAnd (op1 (isiB .int) (.o 0)) (vNot (op1 (isiB .bool) (.o 0)))) fun d ρ => .rt d ρ
def f_is_whole : Fn := fnF 1 0 m_is_whole
def m_is_number : S := sV (vAnd (callF f_is_whole [.v (var 0)]) (chain (var 1) (chC D.le (var 0) (chL D.le (var 2))))) fun d ρ => .rt d ρ
def f_is_number : Fn := fnF 3 0 m_is_number
def m_is_row : S := sV (op1 (isi2 .list .tuple) (.o 0)) fun d ρ => .rt d ρ
def f_is_row : Fn := fnF 1 0 m_is_row
def c0_is_name : M D := vOr (op2 D.mem (.o 1) (.v (M.ret (.str "abcdefghijklmnopqrstuvwxyz")))) (op2 D.mem (.o 1) (.v (M.ret (.str "0123456789"))))
def k1_is_name : M D := compM [1] (seqS (var 0)) (gN 1) (noTest) (c0_is_name)
def m_is_name : S := sSeq (sIf (bOr (bNot (asTest (op1 (isiB .str) (.o 0)))) (bOr (bNot (asTest (chain (M.ret (.int 1)) (chC D.le (opN D.len [(.o 0)]) (chL D.le (M.ret (.int 12))))))) (asTest (op2 D.nmem (.v (op2 D.ix (.o 0) (.v (M.ret (.int 0))))) (.v (M.ret (.str "abcdefghijklmnopqrstuvwxyz"))))))) (sV (M.ret (.bl false)) fun d ρ => .rt d ρ) (sNx)) (sV (opN D.all [(.v (k1_is_name))]) fun d ρ => .rt d ρ)
def f_is_name : Fn := fnF 1 1 m_is_name
def c0_frozen (rec : Fn) : M D := callF rec [.v (var 1)]
def k1_frozen (rec : Fn) : M D := compM [1] (seqM (var 0)) (gN 1) (noTest) (c0_frozen rec)
def m_frozen (rec : Fn) : S := sSeq (sIf (asTest (op1 (isi2 .list .tuple) (.o 0))) (sV (opN D.toT [(.v (k1_frozen rec))]) fun d ρ => .rt d ρ) (sNx)) (sV (var 0) fun d ρ => .rt d ρ)
def f_frozen : Nat → Fn
  | 0 => fun _ => .bad
  | n + 1 => fnF 1 1 (m_frozen (f_frozen n))
def m_is_visit : S := sSeq (sIf (bOr (bNot (asTest (callF f_is_row [.v (var 0)]))) (bOr (asTest (op2 D.ne (.v (opN D.len [(.o 0)])) (.v (M.ret (.int 4))))) (bOr (bNot (asTest (callF f_is_name [.v (op2 D.ix (.o 0) (.v (M.ret (.int 0))))]))) (bNot (asTest (callF f_is_number [.v (op2 D.ix (.o 0) (.v (M.ret (.int 1)))), .v (M.ret (.int 0)), .v (M.ret (.int 2000))])))))) (sV (M.ret (.bl false)) fun d ρ => .rt d ρ) (sNx)) (sV (vAnd (callF f_is_number [.v (op2 D.ix (.o 0) (.v (M.ret (.int 2)))), .v (M.ret (.int 0)), .v (M.ret (.int 400))]) (callF f_is_number [.v (op2 D.ix (.o 0) (.v (M.ret (.int 3)))), .v (M.ret (.int 1)), .v (M.ret (.int 400))])) fun d ρ => .rt d ρ)
def f_is_visit : Fn := fnF 1 0 m_is_visit
def m_Lane_uulen__ : S := sV (opN D.len [(.v (op1 (D.fld "Lane" "visits") (.o 0)))]) fun d ρ => .rt d ρ
def f_Lane_uulen__ : Fn := fnF 1 0 m_Lane_uulen__
def m_Lane_uueq__ : S := sV (vAnd (op1 (isiC "Lane") (.o 1)) (op2 D.eq (.v (op1 (D.fld "Lane" "visits") (.o 0))) (.v (op1 (D.fld "Lane" "visits") (.o 1))))) fun d ρ => .rt d ρ
def f_Lane_uueq__ : Fn := fnF 2 0 m_Lane_uueq__
def b0_Lane_visit : S := sIf (asTest (op2 D.eq (.v (op2 D.ix (.o 2) (.v (M.ret (.int 0))))) (.o 1))) (sV (var 2) fun d ρ => .rt d ρ) (sNx)
def l1_Lane_visit : S := sFor (seqM (op1 (D.fld "Lane" "visits") (.o 0))) (gN 2) (b0_Lane_visit)
def m_Lane_visit : S := sSeq (l1_Lane_visit) (sRaise "Unknown" ["value"] [.v (var 1)])
def f_Lane_visit : Fn := fnF 2 1 m_Lane_visit
def m_Lane_work_in : S := sV (callF f_uwall [.v (M.ret (.int 0))]) fun _ => sNx
def f_Lane_work_in : Fn := fnF 4 0 m_Lane_work_in
def m_Lane_worst_span : S := sV (callF f_uwall [.v (M.ret (.int 1))]) fun _ => sNx
def f_Lane_worst_span : Fn := fnF 2 0 m_Lane_worst_span
def m_Lane_starts : S := sV (callF f_uwall [.v (M.ret (.int 2))]) fun _ => sNx
def f_Lane_starts : Fn := fnF 1 0 m_Lane_starts
def m_Lane_worst_wait : S := sV (callF f_uwall [.v (M.ret (.int 3))]) fun _ => sNx
def f_Lane_worst_wait : Fn := fnF 2 0 m_Lane_worst_wait
def m_Lane_longest_wait : S := sV (callF f_uwall [.v (M.ret (.int 4))]) fun _ => sNx
def f_Lane_longest_wait : Fn := fnF 1 0 m_Lane_longest_wait
def m_Lane_is_kept : S := sV (callF f_uwall [.v (M.ret (.int 5))]) fun _ => sNx
def f_Lane_is_kept : Fn := fnF 2 0 m_Lane_is_kept
def m_Lane_breaking : S := sV (callF f_uwall [.v (M.ret (.int 6))]) fun _ => sNx
def f_Lane_breaking : Fn := fnF 2 0 m_Lane_breaking
def m_Lane_is_course : S := sV (callF f_uwall [.v (M.ret (.int 7))]) fun _ => sNx
def f_Lane_is_course : Fn := fnF 2 0 m_Lane_is_course
def m_Lane_waits : S := sV (callF f_uwall [.v (M.ret (.int 8))]) fun _ => sNx
def f_Lane_waits : Fn := fnF 2 0 m_Lane_waits
def m_Lane_last_end : S := sV (callF f_uwall [.v (M.ret (.int 9))]) fun _ => sNx
def f_Lane_last_end : Fn := fnF 1 0 m_Lane_last_end
def m_Lane_could_add : S := sV (callF f_uwall [.v (M.ret (.int 10))]) fun _ => sNx
def f_Lane_could_add : Fn := fnF 3 0 m_Lane_could_add
def m_Lane_next_free : S := sV (callF f_uwall [.v (M.ret (.int 11))]) fun _ => sNx
def f_Lane_next_free : Fn := fnF 5 0 m_Lane_next_free
def m_Lane_most_late : S := sV (callF f_uwall [.v (M.ret (.int 12))]) fun _ => sNx
def f_Lane_most_late : Fn := fnF 2 0 m_Lane_most_late
def m_Lane_with_late : S := sV (callF f_uwall [.v (M.ret (.int 13))]) fun _ => sNx
def f_Lane_with_late : Fn := fnF 2 0 m_Lane_with_late
def c0_number_in : M D := op2 D.mem (.o 1) (.v (M.ret (.str "0123456789")))
def k1_number_in : M D := compM [1] (seqS (var 0)) (gN 1) (noTest) (c0_number_in)
def m_number_in : S := sSeq (sIf (bOr (bNot (asTest (chain (M.ret (.int 1)) (chC D.le (opN D.len [(.o 0)]) (chL D.le (M.ret (.int 8))))))) (bNot (asTest (opN D.all [(.v (k1_number_in))])))) (sV (M.ret .non) fun d ρ => .rt d ρ) (sNx)) (sV (vIf (bAnd (asTest (op2 D.eq (.v (op2 D.ix (.o 0) (.v (M.ret (.int 0))))) (.v (M.ret (.str "0"))))) (asTest (op2 D.gt (.v (opN D.len [(.o 0)])) (.v (M.ret (.int 1)))))) (M.ret .non) (opN D.toS [(.o 0)])) fun d ρ => .rt d ρ)
def f_number_in : Fn := fnF 1 1 m_number_in
def m_visit_in : S := sSeq (sIf (asTest (op2 D.ne (.v (opN D.len [(.o 0)])) (.v (M.ret (.int 4))))) (sV (M.ret .non) fun d ρ => .rt d ρ) (sNx)) (sV (opV D.mkT [.v (op2 D.ix (.o 0) (.v (M.ret (.int 0)))), .v (callF f_number_in [.v (op2 D.ix (.o 0) (.v (M.ret (.int 1))))]), .v (callF f_number_in [.v (op2 D.ix (.o 0) (.v (M.ret (.int 2))))]), .v (callF f_number_in [.v (op2 D.ix (.o 0) (.v (M.ret (.int 3))))])]) fun d ρ => .rt d ρ)
def f_visit_in : Fn := fnF 1 0 m_visit_in
def c0_format_lane : M D := fjoin [fmtM (M.ret (.str "visit")), M.ret (.str " "), fmtM (var 2), M.ret (.str " "), fmtM (var 3), M.ret (.str " "), fmtM (var 4), M.ret (.str " "), fmtM (var 5)] Str.empty
def k1_format_lane : M D := compM [2, 3, 4, 5] (seqM (op1 (D.fld "Lane" "visits") (.o 0))) (gTu (gCo (gN 2) (gCo (gN 3) (gCo (gN 4) (gCo (gN 5) (gNi))))) 4) (noTest) (c0_format_lane)
def c2_format_lane : M D := op2 D.add (.o 6) (.v (M.ret (.str "\n")))
def k3_format_lane : M D := compM [6] (seqM (var 1)) (gN 6) (noTest) (c2_format_lane)
def m_format_lane : S := sSeq (sAsg (k1_format_lane) (gN 1)) (sV (strM1 D.join (M.ret (.str "")) (k3_format_lane)) fun d ρ => .rt d ρ)
def f_format_lane : Fn := fnF 1 6 m_format_lane
def m_ulaw_taken : S := sSeq (sIf (asTest (op2 D.gt (.v (op2 D.ix (.o 0) (.v (M.ret (.int 3))))) (.v (M.ret (.int 0))))) (sSeq (sAsg (op2 D.mod (.v (opN D.toI [(.v (op2 D.ix (.o 0) (.v (M.ret (.int 3)))))])) (.o 1)) (gN 3)) (sSeq (sPut 0 (M.ret (.int 3)) (op2 D.fdiv (.v (op2 D.ix (.o 0) (.v (M.ret (.int 3))))) (.o 1))) (sV (var 3) fun d ρ => .rt d ρ))) (sNx)) (sSeq (sPut 0 (M.ret (.int 1)) (op2 D.add (.v (op2 D.ix (.o 0) (.v (M.ret (.int 1))))) (.v (M.ret (.int 1))))) (sSeq (sIf (asTest (op2 D.gt (.v (op2 D.ix (.o 0) (.v (M.ret (.int 1))))) (.v (opN D.len [(.v (op2 D.ix (.o 0) (.v (M.ret (.int 0)))))])))) (sSeq (sPut 0 (M.ret (.int 2)) (op2 D.mod (.v (opN D.toI [(.v (op2 D.add (.v (op2 D.mul (.v (op2 D.ix (.o 0) (.v (M.ret (.int 2))))) (.v (M.ret (.int 48271))))) (.v (M.ret (.int 11)))))])) (.v (M.ret (.int 2147483647))))) (sV (op2 D.mod (.v (opN D.toI [(.v (op2 D.fdiv (.v (op2 D.ix (.o 0) (.v (M.ret (.int 2))))) (.v (M.ret (.int 7)))))])) (.o 1)) fun d ρ => .rt d ρ)) (sNx)) (sSeq (sAsg (op2 D.ix (.v (op2 D.ix (.o 0) (.v (M.ret (.int 0))))) (.v (op2 D.sub (.v (op2 D.ix (.o 0) (.v (M.ret (.int 1))))) (.v (M.ret (.int 1)))))) (gN 2)) (sSeq (sPut 0 (M.ret (.int 2)) (op2 D.mod (.v (opN D.toI [(.v (op2 D.add (.v (op2 D.add (.v (op2 D.mul (.v (op2 D.ix (.o 0) (.v (M.ret (.int 2))))) (.v (M.ret (.int 48271))))) (.o 2))) (.v (M.ret (.int 11)))))])) (.v (M.ret (.int 2147483647))))) (sSeq (sIf (asTest (op2 D.ge (.o 2) (.v (op2 D.pow (.v (M.ret (.int 10))) (.v (M.ret (.int 18))))))) (sPut 0 (M.ret (.int 3)) (op2 D.fdiv (.o 2) (.o 1))) (sNx)) (sV (op2 D.mod (.v (opN D.toI [(.o 2)])) (.o 1)) fun d ρ => .rt d ρ))))))
def f_ulaw_taken : Fn := fnF 2 2 m_ulaw_taken
def m_ulaw_pick : S := sV (op2 D.ix (.o 1) (.v (callF f_ulaw_taken [(.o 0), .v (opN D.len [(.o 1)])]))) fun d ρ => .rt d ρ
def f_ulaw_pick : Fn := fnF 2 0 m_ulaw_pick
def b0_ulaw_name : S := sAsg (op2 D.add (.o 3) (.v (op2 D.ix (.o 1) (.v (callF f_ulaw_taken [(.o 0), .v (M.ret (.int 36))]))))) (gN 3)
def l1_ulaw_name : S := sFor (srcN D.rng1 [.v (op2 D.sub (.o 2) (.v (M.ret (.int 1))))]) (gN 4) (b0_ulaw_name)
def m_ulaw_name : S := sSeq (sAsg (M.ret (.str "abcdefghijklmnopqrstuvwxyz0123456789")) (gN 1)) (sSeq (sAsg (callF f_ulaw_pick [(.o 0), .v (opV D.mkL [.v (M.ret (.int 1)), .v (M.ret (.int 1)), .v (M.ret (.int 2)), .v (M.ret (.int 3)), .v (M.ret (.int 5)), .v (M.ret (.int 12))])]) (gN 2)) (sSeq (sAsg (op2 D.ix (.o 1) (.v (callF f_ulaw_taken [(.o 0), .v (M.ret (.int 26))]))) (gN 3)) (sSeq (l1_ulaw_name) (sV (var 3) fun d ρ => .rt d ρ))))
def f_ulaw_name : Fn := fnF 1 4 m_ulaw_name
def c0_ulaw_names : M D := op2 D.add (.v (slc (.o 4) none (some (M.ret (.int 9))))) (.v (opN D.strI [(.o 6)]))
def k1_ulaw_names : M D := compM [6] (srcN D.rng1 [.v (M.ret (.int 100))]) (gN 6) (noTest) (c0_ulaw_names)
def k2_ulaw_names : M D := compM [7] (seqM (var 5)) (gN 7) (asTest (op2 D.nmem (.o 7) (.o 2))) (var 7)
def b3_ulaw_names : S := sSeq (sAsg (callF f_ulaw_name [(.o 0)]) (gN 4)) (sSeq (sAsg (op2 D.add (.v (opV D.mkL [.v (var 4)])) (.v (k1_ulaw_names))) (gN 5)) (sApp 2 (op2 D.ix (.v (k2_ulaw_names)) (.v (M.ret (.int 0))))))
def l4_ulaw_names : S := sFor (srcN D.rng1 [.v (var 1)]) (gN 3) (b3_ulaw_names)
def m_ulaw_names : S := sSeq (sOwn 2 2 []) (sSeq (l4_ulaw_names) (sSeq (sFrz 2 2) (sV (var 2) fun d ρ => .rt d ρ)))
def f_ulaw_names : Fn := fnF 2 6 m_ulaw_names
def m_ulaw_feed : S := sV (M.ret (.str "\n")) fun d ρ => .rt d ρ
def f_ulaw_feed : Fn := fnF 0 0 m_ulaw_feed
def c0_ulaw_visits : M D := opV D.mkT [.v (op2 D.ix (.o 5) (.o 6)), .v (callF f_ulaw_taken [(.o 0), .v (var 2)]), .v (callF f_ulaw_taken [(.o 0), .v (op2 D.add (.o 3) (.v (M.ret (.int 1))))]), .v (op2 D.add (.v (M.ret (.int 1))) (.v (callF f_ulaw_taken [(.o 0), .v (var 4)])))]
def k1_ulaw_visits : M D := compM [6] (srcN D.rng1 [.v (callF f_ulaw_taken [(.o 0), .v (op2 D.add (.o 1) (.v (M.ret (.int 1))))])]) (gN 6) (noTest) (c0_ulaw_visits)
def m_ulaw_visits : S := sSeq (sAsg (callF f_ulaw_names [(.o 0), .v (var 1)]) (gN 5)) (sV (k1_ulaw_visits) fun d ρ => .rt d ρ)
def f_ulaw_visits : Fn := fnF 5 2 m_ulaw_visits
def b0_want_row : S := sIf (bNot (asTest (callP [("is_visit", f_is_visit)] 1 [(.o 4)]))) (sRaise "BadItem" ["index"] [.v (var 3)]) (sNx)
def l1_want_row : S := sFor (srcN D.enum [.v (var 0)]) (gTu (gCo (gN 3) (gCo (gN 4) (gNi))) 2) (b0_want_row)
def m_want_row : S := sSeq (sIf (bNot (asTest (callF f_is_row [.v (var 0)]))) (sRaise "BadItem" ["index"] [.v (M.ret .non)]) (sNx)) (sSeq (l1_want_row) (sSeq (sIf (asTest (op2 D.gt (.v (opN D.len [(.o 0)])) (.o 2))) (sRaise "TooMany" ["limit"] [.v (var 2)]) (sNx)) (sV (callF (f_frozen 8) [.v (var 0)]) fun d ρ => .rt d ρ)))
def f_want_row : Fn := fnF 3 2 m_want_row
def c0_Lane_uuinit__ : M D := op2 D.ix (.o 5) (.v (M.ret (.int 0)))
def k1_Lane_uuinit__ : M D := compM [5] (seqM (op1 (D.fld "Lane" "visits") (.o 0))) (gN 5) (noTest) (c0_Lane_uuinit__)
def b2_Lane_uuinit__ : S := sIf (asTest (op2 D.mem (.o 4) (.v (slc (.o 2) none (some (var 3)))))) (sRaise "Taken" ["value"] [.v (var 4)]) (sNx)
def l3_Lane_uuinit__ : S := sFor (srcN D.enum [.v (var 2)]) (gTu (gCo (gN 3) (gCo (gN 4) (gNi))) 2) (b2_Lane_uuinit__)
def m_Lane_uuinit__ : S := sSeq (sFldSet 0 "Lane" "visits" (callF f_want_row [.v (var 1), .v (M.ret (.fn "is_visit")), .v (M.ret (.int 40))])) (sSeq (sAsg (k1_Lane_uuinit__) (gN 2)) (l3_Lane_uuinit__))
def f_Lane_uuinit__ : Fn := fnF 2 4 m_Lane_uuinit__
def b0_parse_lane : S := sIf (asTest (op2 D.eq (.o 3) (.v (opN D.len [(.o 1)])))) (sIf (asTest (op2 D.ne (.o 4) (.v (M.ret (.str ""))))) (sRaise "BadNote" ["line"] [.v (var 3)]) (sNx)) (sSeq (sAsg (strM1 D.split (var 4) (M.ret (.str " "))) (gN 5)) (sSeq (sAsg (vIf (asTest (op2 D.eq (.v (op2 D.ix (.o 5) (.v (M.ret (.int 0))))) (.v (M.ret (.str "visit"))))) (callF f_visit_in [.v (slc (.o 5) (some (M.ret (.int 1))) none)]) (M.ret .non)) (gN 6)) (sSeq (sTryR known (caught "GateError") "BadNote" ["line"] [.v (var 3)] (sV (makeF "Lane" f_Lane_uuinit__ [.v (op2 D.add (.o 2) (.v (opV D.mkL [.v (var 6)])))]) fun _ => sNx)) (sApp 2 (var 6)))))
def l1_parse_lane : S := sFor (srcN (D.enumS 1) [.v (var 1)]) (gTu (gCo (gN 3) (gCo (gN 4) (gNi))) 2) (b0_parse_lane)
def m_parse_lane : S := sSeq (sAsg (strM1 D.split (var 0) (M.ret (.str "\n"))) (gN 1)) (sSeq (sOwn 2 1 []) (sSeq (l1_parse_lane) (sSeq (sFrz 2 1) (sV (makeF "Lane" f_Lane_uuinit__ [.v (var 2)]) fun d ρ => .rt d ρ))))
def f_parse_lane : Fn := fnF 1 6 m_parse_lane
def c0_ulaw_ended : M D := op2 D.add (.o 1) (.v (callF f_ulaw_feed []))
def k1_ulaw_ended : M D := compM [1] (seqM (var 0)) (gN 1) (noTest) (c0_ulaw_ended)
def m_ulaw_ended : S := sV (strM1 D.join (M.ret (.str "")) (k1_ulaw_ended)) fun d ρ => .rt d ρ
def f_ulaw_ended : Fn := fnF 1 1 m_ulaw_ended
def m_ulaw_refused : S := sSeq (sTry (known.filter (caught "BadNote")) (caught "BadNote") 1 (sV (callF f_parse_lane [.v (var 0)]) fun _ => sNx) (sV (exF 1 "BadNote" "line") fun d ρ => .rt d ρ)) (sV (M.ret .non) fun d ρ => .rt d ρ)
def f_ulaw_refused : Fn := fnF 1 1 m_ulaw_refused
def x0_law : S := sOwn 1 1 [.v (var 0), .v (M.ret (.int 0)), .v (M.ret (.int 67)), .v (M.ret (.int 0))]
def x1_law : S := sAsg (callF f_ulaw_visits [(.o 1), .v (M.ret (.int 6)), .v (M.ret (.int 2001)), .v (M.ret (.int 400)), .v (M.ret (.int 400))]) (gN 2)
def c2_law : M D := strM1 D.join (M.ret (.str " ")) (opV D.mkL [.v (M.ret (.str "visit")), .v (op2 D.ix (.o 10) (.v (M.ret (.int 0)))), .v (opN D.strI [(.v (op2 D.ix (.o 10) (.v (M.ret (.int 1)))))]), .v (opN D.strI [(.v (op2 D.ix (.o 10) (.v (M.ret (.int 2)))))]), .v (opN D.strI [(.v (op2 D.ix (.o 10) (.v (M.ret (.int 3)))))])])
def k3_law : M D := compM [10] (seqM (var 2)) (gN 10) (noTest) (c2_law)
def x4_law : S := sAsg (k3_law) (gN 3)
def x5_law : S := sAsg (callF f_ulaw_ended [.v (var 3)]) (gN 4)
def x6_law : S := sIf (bOr (asTest (op2 D.ne (.v (callF f_format_lane [.v (makeF "Lane" f_Lane_uuinit__ [.v (var 2)])])) (.o 4))) (bOr (asTest (op2 (cmpO "Lane" f_Lane_uueq__ true) (.v (callF (noExc f_parse_lane) [.v (var 4)])) (.v (makeF "Lane" f_Lane_uuinit__ [.v (var 2)])))) (asTest (op2 (cmpO "Lane" f_Lane_uueq__ true) (.v (callF (noExc f_parse_lane) [.v (M.ret (.str ""))])) (.v (makeF "Lane" f_Lane_uuinit__ [.v (opV D.mkL [])])))))) (sV (M.ret (.bl false)) fun d ρ => .rt d ρ) (sNx)
def x7_law : S := sIf (bOr (asTest (op2 D.ne (.v (callF f_ulaw_refused [.v (op2 D.add (.o 4) (.v (M.ret (.str "x"))))])) (.v (op2 D.add (.v (opN D.len [(.o 3)])) (.v (M.ret (.int 1))))))) (bOr (asTest (op2 D.ne (.v (callF f_ulaw_refused [.v (op2 D.add (.o 4) (.v (callF f_ulaw_feed [])))])) (.v (op2 D.add (.v (opN D.len [(.o 3)])) (.v (M.ret (.int 1))))))) (asTest (op2 D.ne (.v (callF f_ulaw_refused [.v (callF f_ulaw_feed [])])) (.v (M.ret (.int 1))))))) (sV (M.ret (.bl false)) fun d ρ => .rt d ρ) (sNx)
def x8_law : S := sIf (asTest (op2 D.eq (.o 3) (.v (opV D.mkL [])))) (sV (M.ret (.bl true)) fun d ρ => .rt d ρ) (sNx)
def x9_law : S := sAsg (callF f_ulaw_taken [(.o 1), .v (opN D.len [(.o 3)])]) (gN 5)
def x10_law : S := sPar 8 9 [.v (op2 D.ix (.o 3) (.o 5)), .v (strM1 D.split (op2 D.ix (.o 3) (.o 5)) (M.ret (.str " ")))]
def x11_law : S := sOwn 6 1 [.v (M.ret (.str "")), .v (op2 D.add (.o 8) (.v (M.ret (.str " ")))), .v (op2 D.add (.v (M.ret (.str " "))) (.o 8)), .v (strM0 (D.repl1 " " "  ") (var 8)), .v (op2 D.ix (.o 9) (.v (M.ret (.int 0)))), .v (strM0 D.upper (var 8)), .v (op2 D.add (.v (M.ret (.str "note "))) (.v (op2 D.ix (.o 9) (.v (M.ret (.int 1)))))), .v (op2 D.add (.o 8) (.v (M.ret (.str " 5")))), .v (op2 D.add (.v (M.ret (.str "visits "))) (.v (strM1 D.join (M.ret (.str " ")) (slc (.o 9) (some (M.ret (.int 1))) none)))), .v (strM1 D.join (M.ret (.str " ")) (slc (.o 9) none (some (op1 D.neg (.v (M.ret (.int 1)))))))]
def b12_law : S := sApp 6 (strM1 D.join (M.ret (.str " ")) (op2 D.add (.v (slc (.o 9) none (some (op1 D.neg (.v (M.ret (.int 1))))))) (.v (opV D.mkL [.v (var 7)]))))
def l13_law : S := sFor (seqM (opV D.mkL [.v (M.ret (.str "-5")), .v (M.ret (.str "05")), .v (M.ret (.str "0")), .v (M.ret (.str "401")), .v (M.ret (.str "x")), .v (M.ret (.str "999999999")), .v (M.ret (.str "1.0")), .v (M.ret (.str "+1"))])) (gN 7) (b12_law)
def x14_law : S := sSeq (sFrz 6 1) (sAsg (op2 D.add (.o 6) (.v (opV D.mkL [.v (strM1 D.join (M.ret (.str " ")) (op2 D.add (.v (op2 D.add (.v (slc (.o 9) none (some (M.ret (.int 2))))) (.v (opV D.mkL [.v (M.ret (.str "2001"))])))) (.v (slc (.o 9) (some (M.ret (.int 3))) none)))), .v (strM1 D.join (M.ret (.str " ")) (op2 D.add (.v (op2 D.add (.v (slc (.o 9) none (some (M.ret (.int 3))))) (.v (opV D.mkL [.v (M.ret (.str "401"))])))) (.v (slc (.o 9) (some (M.ret (.int 4))) none)))), .v (strM1 D.join (M.ret (.str " ")) (op2 D.add (.v (op2 D.add (.v (slc (.o 9) none (some (M.ret (.int 1))))) (.v (opV D.mkL [.v (M.ret (.str "A"))])))) (.v (slc (.o 9) (some (M.ret (.int 2))) none))))]))) (gN 6))
def b15_law : S := sIf (asTest (op2 D.ne (.v (callF f_ulaw_refused [.v (callF f_ulaw_ended [.v (op2 D.add (.v (op2 D.add (.v (slc (.o 3) none (some (var 5)))) (.v (opV D.mkL [.v (var 7)])))) (.v (slc (.o 3) (some (op2 D.add (.o 5) (.v (M.ret (.int 1))))) none)))])])) (.v (op2 D.add (.o 5) (.v (M.ret (.int 1))))))) (sV (M.ret (.bl false)) fun d ρ => .rt d ρ) (sNx)
def l16_law : S := sFor (seqM (var 6)) (gN 7) (b15_law)
def x17_law : S := sSeq (sFrz 6 1) (l16_law)
def x18_law : S := sV (vAnd (op2 D.eq (.v (callF f_ulaw_refused [.v (slc (.o 4) none (some (op1 D.neg (.v (M.ret (.int 1))))))])) (.v (opN D.len [(.o 3)]))) (op2 D.eq (.v (callF f_ulaw_refused [.v (callF f_ulaw_ended [.v (op2 D.add (.v (slc (.o 3) none (some (op2 D.add (.o 5) (.v (M.ret (.int 1))))))) (.v (slc (.o 3) (some (var 5)) none)))])])) (.v (op2 D.add (.o 5) (.v (M.ret (.int 2))))))) fun d ρ => .rt d ρ
def m_law : S := sSeq (x0_law) (sSeq (x1_law) (sSeq (x4_law) (sSeq (x5_law) (sSeq (x6_law) (sSeq (x7_law) (sSeq (x8_law) (sSeq (x9_law) (sSeq (x10_law) (sSeq (x11_law) (sSeq (l13_law) (sSeq (x14_law) (sSeq (x17_law) (x18_law)))))))))))))
def f_law : Fn := fnF 1 10 m_law
structure Txt (P : Program) (w : World) (K : PySem.W.Frag) (mg : Str → Option Value) (base : Heap) : Prop where
  c_LAST_MINUTE : ∃ t, mg "LAST_MINUTE" = some (.int 2000 t)
  c_LONGEST_NAME : ∃ t, mg "LONGEST_NAME" = some (.int 12 t)
  c_MOST_LATE : ∃ t, mg "MOST_LATE" = some (.int 400 t)
  c_MOST_VISITS : ∃ t, mg "MOST_VISITS" = some (.int 40 t)
  c_MOST_WORK : ∃ t, mg "MOST_WORK" = some (.int 400 t)
  c_FIGURES : ∃ t, mg "FIGURES" = some (.str "0123456789" t)
  c_LETTERS : ∃ t, mg "LETTERS" = some (.str "abcdefghijklmnopqrstuvwxyz" t)
  c_VISIT : ∃ t, mg "VISIT" = some (.str "visit" t)
  e_BadItem : ErrC P w K mg base "BadItem" ["index"]
  e_BadNote : ErrC P w K mg base "BadNote" ["line"]
  e_Taken : ErrC P w K mg base "Taken" ["value"]
  e_TooMany : ErrC P w K mg base "TooMany" ["limit"]
  e_Unknown : ErrC P w K mg base "Unknown" ["value"]
  h_BadNote : ErrH P w K mg base "BadNote" ["line"]
  f_Lane_visits : FldOk K mg "Lane" "visits"
  i_Lane : IsCls K mg "Lane"
  n_all : mg "all" = none
  n_bool : mg "bool" = none
  n_enumerate : mg "enumerate" = none
  n_int : mg "int" = none
  n_isinstance : mg "isinstance" = none
  n_len : mg "len" = none
  n_list : mg "list" = none
  n_range : mg "range" = none
  n_str : mg "str" = none
  n_tuple : mg "tuple" = none
  x_BadNote : ExcT K mg known (caught "BadNote") "BadNote" ["line"]
  x_GateError : ExcT K mg known (caught "GateError") "GateError" []
  ok : True
section
variable {P : Program} {w : World} {K : PySem.W.Frag} {mg : Str → Option Value} {base : Heap}
theorem sc_uwall : FnScope ["k"] ["k"] (defScope s_uwall) := ⟨rfl, rfl, rfl, by decide +kernel, rfl, by decide +kernel, by decide +kernel⟩
theorem nd_uwall : (["k"] : List Str).Nodup := by decide +kernel
theorem ok_uwall {f : Addr} {fd : FuncData} (T : Txt P w K mg base) (F : Fun K "_wall" "_wall" s_uwall f fd) (hm : mg "_wall" = some (.ref f)) : DefOk P w K mg base "_wall" 1 f_uwall :=
  def_ok (N := ["k"]) (ps := ["k"]) (loc := 0) F hm (F.binds (ps := ["k"]) fun _ _ _ _ _ _ us hl => match us, hl with | [_], _ => rfl) sc_uwall rfl <| fun cdv A outer s H E hr => by
    have hN := nd_uwall
    have hp : PassesOwn (model P w) (A.deeper (PyProof.Rows.envOfC "_wall" (defScope s_uwall) s.heap.objs.size f cdv)) (PyProof.Rows.envOfC "_wall" (defScope s_uwall) s.heap.objs.size f cdv) (cxOf (L2N.CX P w) P w K mg base ["k"] "_wall" (defScope s_uwall) f cdv A outer s H E).xe := passes_of rfl
    exact dss_one (ds_while 20000 hp (dt_val (de_bl)) (dss_one (ds_pass)))
theorem sc_is_whole : FnScope ["value"] ["value"] (defScope s_is_whole) := ⟨rfl, rfl, rfl, by decide +kernel, rfl, by decide +kernel, by decide +kernel⟩
theorem nd_is_whole : (["value"] : List Str).Nodup := by decide +kernel
theorem ok_is_whole {f : Addr} {fd : FuncData} (T : Txt P w K mg base) (F : Fun K "is_whole" "is_whole" s_is_whole f fd) (hm : mg "is_whole" = some (.ref f)) : DefOk P w K mg base "is_whole" 1 f_is_whole :=
  def_ok (N := ["value"]) (ps := ["value"]) (loc := 0) F hm (F.binds (ps := ["value"]) fun _ _ _ _ _ _ us hl => match us, hl with | [_], _ => rfl) sc_is_whole rfl <| fun cdv A outer s H E hr => by
    have hN := nd_is_whole
    have hp : PassesOwn (model P w) (A.deeper (PyProof.Rows.envOfC "is_whole" (defScope s_is_whole) s.heap.objs.size f cdv)) (PyProof.Rows.envOfC "is_whole" (defScope s_is_whole) s.heap.objs.size f cdv) (cxOf (L2N.CX P w) P w K mg base ["value"] "is_whole" (defScope s_is_whole) f cdv A outer s H E).xe := passes_of rfl
    exact dss_one (ds_ret (de_and (de_isi .int (by rfl) T.n_isinstance (by rfl) T.n_int bt_int (do_o (pv 0))) (de_one1 (de_not (de_isi .bool (by rfl) T.n_isinstance (by rfl) T.n_bool bt_bool (do_o (pv 0)))))))
theorem sc_is_number : FnScope ["value", "least", "most"] ["value", "least", "most"] (defScope s_is_number) := ⟨rfl, rfl, rfl, by decide +kernel, rfl, by decide +kernel, by decide +kernel⟩
theorem nd_is_number : (["value", "least", "most"] : List Str).Nodup := by decide +kernel
theorem ok_is_number {f : Addr} {fd : FuncData} (T : Txt P w K mg base) (F : Fun K "is_number" "is_number" s_is_number f fd) (hm : mg "is_number" = some (.ref f)) (D_is_whole : DefOk P w K mg base "is_whole" 1 f_is_whole) : DefOk P w K mg base "is_number" 2 f_is_number :=
  def_ok (N := ["value", "least", "most"]) (ps := ["value", "least", "most"]) (loc := 0) F hm (F.binds (ps := ["value", "least", "most"]) fun _ _ _ _ _ _ us hl => match us, hl with | [_, _, _], _ => rfl) sc_is_number rfl <| fun cdv A outer s H E hr => by
    have hN := nd_is_number
    have hp : PassesOwn (model P w) (A.deeper (PyProof.Rows.envOfC "is_number" (defScope s_is_number) s.heap.objs.size f cdv)) (PyProof.Rows.envOfC "is_number" (defScope s_is_number) s.heap.objs.size f cdv) (cxOf (L2N.CX P w) P w K mg base ["value", "least", "most"] "is_number" (defScope s_is_number) f cdv A outer s H E).xe := passes_of rfl
    exact dss_one (ds_ret (de_and (de_callD D_is_whole (hr.mono (by decide)) (da_cons (do_v (de_var (pv 0))) (da_nil))) (de_one1 (de_chain (de_var (pv 1)) (ch_cons op_le snd_cmpI (de_var (pv 0)) (ch_last op_le snd_cmpI (de_var (pv 2))))))))
theorem sc_is_row : FnScope ["value"] ["value"] (defScope s_is_row) := ⟨rfl, rfl, rfl, by decide +kernel, rfl, by decide +kernel, by decide +kernel⟩
theorem nd_is_row : (["value"] : List Str).Nodup := by decide +kernel
theorem ok_is_row {f : Addr} {fd : FuncData} (T : Txt P w K mg base) (F : Fun K "is_row" "is_row" s_is_row f fd) (hm : mg "is_row" = some (.ref f)) : DefOk P w K mg base "is_row" 1 f_is_row :=
  def_ok (N := ["value"]) (ps := ["value"]) (loc := 0) F hm (F.binds (ps := ["value"]) fun _ _ _ _ _ _ us hl => match us, hl with | [_], _ => rfl) sc_is_row rfl <| fun cdv A outer s H E hr => by
    have hN := nd_is_row
    have hp : PassesOwn (model P w) (A.deeper (PyProof.Rows.envOfC "is_row" (defScope s_is_row) s.heap.objs.size f cdv)) (PyProof.Rows.envOfC "is_row" (defScope s_is_row) s.heap.objs.size f cdv) (cxOf (L2N.CX P w) P w K mg base ["value"] "is_row" (defScope s_is_row) f cdv A outer s H E).xe := passes_of rfl
    exact dss_one (ds_ret (de_isi2 .list .tuple (by rfl) T.n_isinstance (by rfl) T.n_list bt_list (by rfl) T.n_tuple bt_tuple (do_o (pv 0))))
theorem sc_is_name : FnScope ["value", "sign"] ["value"] (defScope s_is_name) := ⟨rfl, rfl, rfl, by decide +kernel, rfl, by decide +kernel, by decide +kernel⟩
theorem nd_is_name : (["value", "sign"] : List Str).Nodup := by decide +kernel
theorem ok_is_name {f : Addr} {fd : FuncData} (T : Txt P w K mg base) (F : Fun K "is_name" "is_name" s_is_name f fd) (hm : mg "is_name" = some (.ref f)) : DefOk P w K mg base "is_name" 1 f_is_name :=
  def_ok (N := ["value", "sign"]) (ps := ["value"]) (loc := 1) F hm (F.binds (ps := ["value"]) fun _ _ _ _ _ _ us hl => match us, hl with | [_], _ => rfl) sc_is_name rfl <| fun cdv A outer s H E hr => by
    have hN := nd_is_name
    have hp : PassesOwn (model P w) (A.deeper (PyProof.Rows.envOfC "is_name" (defScope s_is_name) s.heap.objs.size f cdv)) (PyProof.Rows.envOfC "is_name" (defScope s_is_name) s.heap.objs.size f cdv) (cxOf (L2N.CX P w) P w K mg base ["value", "sign"] "is_name" (defScope s_is_name) f cdv A outer s H E).xe := passes_of rfl
    exact dss_cons (ds_if (dt_w (dw_or (dt_not (dt_val (de_isi .str (by rfl) T.n_isinstance (by rfl) T.n_str bt_str (do_o (pv 0))))) (dw_or (dt_not (dt_chain (de_int) (ch_cons op_le snd_cmpI (de_len (by rfl) T.n_len (da_cons ((do_o (pv 0))) (da_nil))) (ch_last op_le snd_cmpI (de_gint T.c_LONGEST_NAME.choose_spec))))) (dw_or1 (dt_nin (un65 hr) (do_v (de_ix (do_o (pv 0)) (do_v (de_int)))) (do_v (de_gstr T.c_LETTERS.choose_spec))))))) (dss_one (ds_ret (de_bl))) (dss_nil)) (dss_one (ds_ret (de_all (by rfl) (by rfl) T.n_all (da_cons ((do_v (de_lc (own := [("sign", 1)]) (by rfl) hN (di_str (de_var (pv 0))) (by rfl) (fun _ _ _ _ _ => dgn 1 hN) (fun _ _ _ _ _ => dts_nil) (fun _ _ _ _ _ => de_or (de_in (un65 hr) (do_o (pv 1)) (do_v (de_gstr T.c_LETTERS.choose_spec))) (de_one1 (de_in (un65 hr) (do_o (pv 1)) (do_v (de_gstr T.c_FIGURES.choose_spec)))))))) (da_nil)))))
theorem sc_frozen : FnScope ["value", "part"] ["value"] (defScope s_frozen) := ⟨rfl, rfl, rfl, by decide +kernel, rfl, by decide +kernel, by decide +kernel⟩
theorem nd_frozen : (["value", "part"] : List Str).Nodup := by decide +kernel
theorem ok_frozen {f : Addr} {fd : FuncData} (T : Txt P w K mg base) (F : Fun K "frozen" "frozen" s_frozen f fd) (hm : mg "frozen" = some (.ref f)) : ∀ n, DefOk P w K mg base "frozen" (1 + n) (f_frozen n)
  | 0 => def_bad (ps := ["value"]) F hm (F.binds (ps := ["value"]) fun _ _ _ _ _ _ us hl => match us, hl with | [_], _ => rfl)
  | n + 1 => by
    have D_rec := ok_frozen T F hm n
    exact def_ok (N := ["value", "part"]) (ps := ["value"]) (loc := 1) (k := 1 + n) F hm (F.binds (ps := ["value"]) fun _ _ _ _ _ _ us hl => match us, hl with | [_], _ => rfl) sc_frozen rfl <| fun cdv A outer s H E hr => by
        have hN := nd_frozen
        have hp : PassesOwn (model P w) (A.deeper (PyProof.Rows.envOfC "frozen" (defScope s_frozen) s.heap.objs.size f cdv)) (PyProof.Rows.envOfC "frozen" (defScope s_frozen) s.heap.objs.size f cdv) (cxOf (L2N.CX P w) P w K mg base ["value", "part"] "frozen" (defScope s_frozen) f cdv A outer s H E).xe := passes_of rfl
        exact dss_cons (ds_if (dt_val (de_isi2 .list .tuple (by rfl) T.n_isinstance (by rfl) T.n_list bt_list (by rfl) T.n_tuple bt_tuple (do_o (pv 0)))) (dss_one (ds_ret (de_tuple (by rfl) T.n_tuple (da_cons ((do_v (de_lc (own := [("part", 1)]) (by rfl) hN (di_seq (de_var (pv 0))) (by rfl) (fun _ _ _ _ _ => dgn 1 hN) (fun _ _ _ _ _ => dts_nil) (fun _ _ _ _ _ => de_callD D_rec (hr.mono (Nat.le_refl _)) (da_cons (do_v (de_var (pv 1))) (da_nil)))))) (da_nil))))) (dss_nil)) (dss_one (ds_ret (de_var (pv 0))))
theorem sc_is_visit : FnScope ["value"] ["value"] (defScope s_is_visit) := ⟨rfl, rfl, rfl, by decide +kernel, rfl, by decide +kernel, by decide +kernel⟩
theorem nd_is_visit : (["value"] : List Str).Nodup := by decide +kernel
theorem ok_is_visit {f : Addr} {fd : FuncData} (T : Txt P w K mg base) (F : Fun K "is_visit" "is_visit" s_is_visit f fd) (hm : mg "is_visit" = some (.ref f)) (D_is_row : DefOk P w K mg base "is_row" 1 f_is_row) (D_is_name : DefOk P w K mg base "is_name" 1 f_is_name) (D_is_number : DefOk P w K mg base "is_number" 2 f_is_number) : DefOk P w K mg base "is_visit" 3 f_is_visit :=
  def_ok (N := ["value"]) (ps := ["value"]) (loc := 0) F hm (F.binds (ps := ["value"]) fun _ _ _ _ _ _ us hl => match us, hl with | [_], _ => rfl) sc_is_visit rfl <| fun cdv A outer s H E hr => by
    have hN := nd_is_visit
    have hp : PassesOwn (model P w) (A.deeper (PyProof.Rows.envOfC "is_visit" (defScope s_is_visit) s.heap.objs.size f cdv)) (PyProof.Rows.envOfC "is_visit" (defScope s_is_visit) s.heap.objs.size f cdv) (cxOf (L2N.CX P w) P w K mg base ["value"] "is_visit" (defScope s_is_visit) f cdv A outer s H E).xe := passes_of rfl
    exact dss_cons (ds_if (dt_w (dw_or (dt_not (dt_val (de_callD D_is_row (hr.mono (by decide)) (da_cons (do_v (de_var (pv 0))) (da_nil))))) (dw_or (dt_ne (un64 hr) (do_v (de_len (by rfl) T.n_len (da_cons ((do_o (pv 0))) (da_nil)))) (do_v (de_int))) (dw_or (dt_not (dt_val (de_callD D_is_name (hr.mono (by decide)) (da_cons (do_v (de_ix (do_o (pv 0)) (do_v (de_int)))) (da_nil))))) (dw_or1 (dt_not (dt_val (de_callD D_is_number (hr.mono (by decide)) (da_cons (do_v (de_ix (do_o (pv 0)) (do_v (de_int)))) (da_cons (do_v (de_int)) (da_cons (do_v (de_gint T.c_LAST_MINUTE.choose_spec)) (da_nil)))))))))))) (dss_one (ds_ret (de_bl))) (dss_nil)) (dss_one (ds_ret (de_and (de_callD D_is_number (hr.mono (by decide)) (da_cons (do_v (de_ix (do_o (pv 0)) (do_v (de_int)))) (da_cons (do_v (de_int)) (da_cons (do_v (de_gint T.c_MOST_LATE.choose_spec)) (da_nil))))) (de_one1 (de_callD D_is_number (hr.mono (by decide)) (da_cons (do_v (de_ix (do_o (pv 0)) (do_v (de_int)))) (da_cons (do_v (de_int)) (da_cons (do_v (de_gint T.c_MOST_WORK.choose_spec)) (da_nil)))))))))
theorem sc_Lane_uulen__ : FnScope ["self"] ["self"] (defScope s_Lane_uulen__) := ⟨rfl, rfl, rfl, by decide +kernel, rfl, by decide +kernel, by decide +kernel⟩
theorem nd_Lane_uulen__ : (["self"] : List Str).Nodup := by decide +kernel
theorem ok_Lane_uulen__ {f C : Addr} {fd : FuncData} (T : Txt P w K mg base) (F : Fun K "__len__" "Lane.__len__" s_Lane_uulen__ f fd) (hC : mg "Lane" = some (.ref C)) (hc : Cls K C) (hm : Meth K C "__len__" f) : MethOk P w K mg base "Lane" "__len__" 1 f_Lane_uulen__ :=
  meth_ok (N := ["self"]) (ps := ["self"]) (loc := 0) F hC hc hm (F.binds (ps := ["self"]) fun _ _ _ _ _ _ us hl => match us, hl with | [_], _ => rfl) sc_Lane_uulen__ rfl <| fun cdv A outer s H E hr => by
    have hN := nd_Lane_uulen__
    have hp : PassesOwn (model P w) (A.deeper (PyProof.Rows.envOfC "Lane.__len__" (defScope s_Lane_uulen__) s.heap.objs.size f cdv)) (PyProof.Rows.envOfC "Lane.__len__" (defScope s_Lane_uulen__) s.heap.objs.size f cdv) (cxOf (L2N.CX P w) P w K mg base ["self"] "Lane.__len__" (defScope s_Lane_uulen__) f cdv A outer s H E).xe := passes_of rfl
    exact dss_one (ds_ret (de_len (by rfl) T.n_len (da_cons ((do_v (de_fld T.f_Lane_visits (do_o (pv 0))))) (da_nil))))
theorem sc_Lane_uueq__ : FnScope ["self", "other"] ["self", "other"] (defScope s_Lane_uueq__) := ⟨rfl, rfl, rfl, by decide +kernel, rfl, by decide +kernel, by decide +kernel⟩
theorem nd_Lane_uueq__ : (["self", "other"] : List Str).Nodup := by decide +kernel
theorem fnk_Lane_uueq__ {f : Addr} {fd : FuncData} (T : Txt P w K mg base) (F : Fun K "__eq__" "Lane.__eq__" s_Lane_uueq__ f fd) : FnOk P w K mg base (L2N.CX P w) 1 f fd ["self", "other"] (spD K mg f_Lane_uueq__) :=
  fn_ok (N := ["self", "other"]) (ps := ["self", "other"]) (loc := 0) F sc_Lane_uueq__ rfl <| fun cdv A outer s H E hr => by
    have hN := nd_Lane_uueq__
    have hp : PassesOwn (model P w) (A.deeper (PyProof.Rows.envOfC "Lane.__eq__" (defScope s_Lane_uueq__) s.heap.objs.size f cdv)) (PyProof.Rows.envOfC "Lane.__eq__" (defScope s_Lane_uueq__) s.heap.objs.size f cdv) (cxOf (L2N.CX P w) P w K mg base ["self", "other"] "Lane.__eq__" (defScope s_Lane_uueq__) f cdv A outer s H E).xe := passes_of rfl
    exact dss_one (ds_ret (de_and (de_isiC (by rfl) T.n_isinstance (by rfl) T.i_Lane (do_o (pv 1))) (de_one1 (de_eq (un64 hr) (do_v (de_fld T.f_Lane_visits (do_o (pv 0)))) (do_v (de_fld T.f_Lane_visits (do_o (pv 1))))))))
theorem ok_Lane_uueq__ {f C : Addr} {fd : FuncData} (T : Txt P w K mg base) (F : Fun K "__eq__" "Lane.__eq__" s_Lane_uueq__ f fd) (hC : mg "Lane" = some (.ref C)) (hc : Cls K C) (hm : Meth K C "__eq__" f) : MethOk P w K mg base "Lane" "__eq__" 1 f_Lane_uueq__ :=
  meth_ok (N := ["self", "other"]) (ps := ["self", "other"]) (loc := 0) F hC hc hm (F.binds (ps := ["self", "other"]) fun _ _ _ _ _ _ us hl => match us, hl with | [_, _], _ => rfl) sc_Lane_uueq__ rfl <| fun cdv A outer s H E hr => by
    have hN := nd_Lane_uueq__
    have hp : PassesOwn (model P w) (A.deeper (PyProof.Rows.envOfC "Lane.__eq__" (defScope s_Lane_uueq__) s.heap.objs.size f cdv)) (PyProof.Rows.envOfC "Lane.__eq__" (defScope s_Lane_uueq__) s.heap.objs.size f cdv) (cxOf (L2N.CX P w) P w K mg base ["self", "other"] "Lane.__eq__" (defScope s_Lane_uueq__) f cdv A outer s H E).xe := passes_of rfl
    exact dss_one (ds_ret (de_and (de_isiC (by rfl) T.n_isinstance (by rfl) T.i_Lane (do_o (pv 1))) (de_one1 (de_eq (un64 hr) (do_v (de_fld T.f_Lane_visits (do_o (pv 0)))) (do_v (de_fld T.f_Lane_visits (do_o (pv 1))))))))
theorem sc_Lane_visit : FnScope ["self", "name", "visit"] ["self", "name"] (defScope s_Lane_visit) := ⟨rfl, rfl, rfl, by decide +kernel, rfl, by decide +kernel, by decide +kernel⟩
theorem nd_Lane_visit : (["self", "name", "visit"] : List Str).Nodup := by decide +kernel
theorem ok_Lane_visit {f C : Addr} {fd : FuncData} (T : Txt P w K mg base) (F : Fun K "visit" "Lane.visit" s_Lane_visit f fd) (hC : mg "Lane" = some (.ref C)) (hc : Cls K C) (hm : Meth K C "visit" f) : MethOk P w K mg base "Lane" "visit" 3 f_Lane_visit :=
  meth_ok (N := ["self", "name", "visit"]) (ps := ["self", "name"]) (loc := 1) F hC hc hm (F.binds (ps := ["self", "name"]) fun _ _ _ _ _ _ us hl => match us, hl with | [_, _], _ => rfl) sc_Lane_visit rfl <| fun cdv A outer s H E hr => by
    have hN := nd_Lane_visit
    have hp : PassesOwn (model P w) (A.deeper (PyProof.Rows.envOfC "Lane.visit" (defScope s_Lane_visit) s.heap.objs.size f cdv)) (PyProof.Rows.envOfC "Lane.visit" (defScope s_Lane_visit) s.heap.objs.size f cdv) (cxOf (L2N.CX P w) P w K mg base ["self", "name", "visit"] "Lane.visit" (defScope s_Lane_visit) f cdv A outer s H E).xe := passes_of rfl
    exact dss_cons (ds_for hp (by rfl) (di_seq (de_fld T.f_Lane_visits (do_o (pv 0)))) (dgn 2 hN) (dss_one (ds_if (dt_eq (un64 hr) (do_v (de_ix (do_o (pv 2)) (do_v (de_int)))) (do_o (pv 1))) (dss_one (ds_ret (de_var (pv 2)))) (dss_nil)))) (dss_one (ds_raise (by rfl) T.e_Unknown (hr.mono (by decide)) (by rfl) (da_cons (do_v (de_var (pv 1))) (da_nil))))
theorem sc_Lane_work_in : FnScope ["self", "first", "last", "out"] ["self", "first", "last", "out"] (defScope s_Lane_work_in) := ⟨rfl, rfl, rfl, by decide +kernel, rfl, by decide +kernel, by decide +kernel⟩
theorem nd_Lane_work_in : (["self", "first", "last", "out"] : List Str).Nodup := by decide +kernel
theorem ok_Lane_work_in {f C : Addr} {fd : FuncData} (T : Txt P w K mg base) (F : Fun K "work_in" "Lane.work_in" s_Lane_work_in f fd) (hC : mg "Lane" = some (.ref C)) (hc : Cls K C) (hm : Meth K C "work_in" f) (D_uwall : DefOk P w K mg base "_wall" 1 f_uwall) : MethOk P w K mg base "Lane" "work_in" 2 f_Lane_work_in :=
  meth_ok (N := ["self", "first", "last", "out"]) (ps := ["self", "first", "last", "out"]) (loc := 0) F hC hc hm (F.binds (ps := ["self", "first", "last", "out"]) fun _ _ _ _ _ _ us hl => match us, hl with | [_, _, _, _], _ => rfl) sc_Lane_work_in rfl <| fun cdv A outer s H E hr => by
    have hN := nd_Lane_work_in
    have hp : PassesOwn (model P w) (A.deeper (PyProof.Rows.envOfC "Lane.work_in" (defScope s_Lane_work_in) s.heap.objs.size f cdv)) (PyProof.Rows.envOfC "Lane.work_in" (defScope s_Lane_work_in) s.heap.objs.size f cdv) (cxOf (L2N.CX P w) P w K mg base ["self", "first", "last", "out"] "Lane.work_in" (defScope s_Lane_work_in) f cdv A outer s H E).xe := passes_of rfl
    exact dss_one (ds_expr (de_callD D_uwall (hr.mono (by decide)) (da_cons (do_v (de_int)) (da_nil))))
theorem sc_Lane_worst_span : FnScope ["self", "name"] ["self", "name"] (defScope s_Lane_worst_span) := ⟨rfl, rfl, rfl, by decide +kernel, rfl, by decide +kernel, by decide +kernel⟩
theorem nd_Lane_worst_span : (["self", "name"] : List Str).Nodup := by decide +kernel
theorem ok_Lane_worst_span {f C : Addr} {fd : FuncData} (T : Txt P w K mg base) (F : Fun K "worst_span" "Lane.worst_span" s_Lane_worst_span f fd) (hC : mg "Lane" = some (.ref C)) (hc : Cls K C) (hm : Meth K C "worst_span" f) (D_uwall : DefOk P w K mg base "_wall" 1 f_uwall) : MethOk P w K mg base "Lane" "worst_span" 2 f_Lane_worst_span :=
  meth_ok (N := ["self", "name"]) (ps := ["self", "name"]) (loc := 0) F hC hc hm (F.binds (ps := ["self", "name"]) fun _ _ _ _ _ _ us hl => match us, hl with | [_, _], _ => rfl) sc_Lane_worst_span rfl <| fun cdv A outer s H E hr => by
    have hN := nd_Lane_worst_span
    have hp : PassesOwn (model P w) (A.deeper (PyProof.Rows.envOfC "Lane.worst_span" (defScope s_Lane_worst_span) s.heap.objs.size f cdv)) (PyProof.Rows.envOfC "Lane.worst_span" (defScope s_Lane_worst_span) s.heap.objs.size f cdv) (cxOf (L2N.CX P w) P w K mg base ["self", "name"] "Lane.worst_span" (defScope s_Lane_worst_span) f cdv A outer s H E).xe := passes_of rfl
    exact dss_one (ds_expr (de_callD D_uwall (hr.mono (by decide)) (da_cons (do_v (de_int)) (da_nil))))
theorem sc_Lane_starts : FnScope ["self"] ["self"] (defScope s_Lane_starts) := ⟨rfl, rfl, rfl, by decide +kernel, rfl, by decide +kernel, by decide +kernel⟩
theorem nd_Lane_starts : (["self"] : List Str).Nodup := by decide +kernel
theorem ok_Lane_starts {f C : Addr} {fd : FuncData} (T : Txt P w K mg base) (F : Fun K "starts" "Lane.starts" s_Lane_starts f fd) (hC : mg "Lane" = some (.ref C)) (hc : Cls K C) (hm : Meth K C "starts" f) (D_uwall : DefOk P w K mg base "_wall" 1 f_uwall) : MethOk P w K mg base "Lane" "starts" 2 f_Lane_starts :=
  meth_ok (N := ["self"]) (ps := ["self"]) (loc := 0) F hC hc hm (F.binds (ps := ["self"]) fun _ _ _ _ _ _ us hl => match us, hl with | [_], _ => rfl) sc_Lane_starts rfl <| fun cdv A outer s H E hr => by
    have hN := nd_Lane_starts
    have hp : PassesOwn (model P w) (A.deeper (PyProof.Rows.envOfC "Lane.starts" (defScope s_Lane_starts) s.heap.objs.size f cdv)) (PyProof.Rows.envOfC "Lane.starts" (defScope s_Lane_starts) s.heap.objs.size f cdv) (cxOf (L2N.CX P w) P w K mg base ["self"] "Lane.starts" (defScope s_Lane_starts) f cdv A outer s H E).xe := passes_of rfl
    exact dss_one (ds_expr (de_callD D_uwall (hr.mono (by decide)) (da_cons (do_v (de_int)) (da_nil))))
theorem sc_Lane_worst_wait : FnScope ["self", "name"] ["self", "name"] (defScope s_Lane_worst_wait) := ⟨rfl, rfl, rfl, by decide +kernel, rfl, by decide +kernel, by decide +kernel⟩
theorem nd_Lane_worst_wait : (["self", "name"] : List Str).Nodup := by decide +kernel
theorem ok_Lane_worst_wait {f C : Addr} {fd : FuncData} (T : Txt P w K mg base) (F : Fun K "worst_wait" "Lane.worst_wait" s_Lane_worst_wait f fd) (hC : mg "Lane" = some (.ref C)) (hc : Cls K C) (hm : Meth K C "worst_wait" f) (D_uwall : DefOk P w K mg base "_wall" 1 f_uwall) : MethOk P w K mg base "Lane" "worst_wait" 2 f_Lane_worst_wait :=
  meth_ok (N := ["self", "name"]) (ps := ["self", "name"]) (loc := 0) F hC hc hm (F.binds (ps := ["self", "name"]) fun _ _ _ _ _ _ us hl => match us, hl with | [_, _], _ => rfl) sc_Lane_worst_wait rfl <| fun cdv A outer s H E hr => by
    have hN := nd_Lane_worst_wait
    have hp : PassesOwn (model P w) (A.deeper (PyProof.Rows.envOfC "Lane.worst_wait" (defScope s_Lane_worst_wait) s.heap.objs.size f cdv)) (PyProof.Rows.envOfC "Lane.worst_wait" (defScope s_Lane_worst_wait) s.heap.objs.size f cdv) (cxOf (L2N.CX P w) P w K mg base ["self", "name"] "Lane.worst_wait" (defScope s_Lane_worst_wait) f cdv A outer s H E).xe := passes_of rfl
    exact dss_one (ds_expr (de_callD D_uwall (hr.mono (by decide)) (da_cons (do_v (de_int)) (da_nil))))
theorem sc_Lane_longest_wait : FnScope ["self"] ["self"] (defScope s_Lane_longest_wait) := ⟨rfl, rfl, rfl, by decide +kernel, rfl, by decide +kernel, by decide +kernel⟩
theorem nd_Lane_longest_wait : (["self"] : List Str).Nodup := by decide +kernel
theorem ok_Lane_longest_wait {f C : Addr} {fd : FuncData} (T : Txt P w K mg base) (F : Fun K "longest_wait" "Lane.longest_wait" s_Lane_longest_wait f fd) (hC : mg "Lane" = some (.ref C)) (hc : Cls K C) (hm : Meth K C "longest_wait" f) (D_uwall : DefOk P w K mg base "_wall" 1 f_uwall) : MethOk P w K mg base "Lane" "longest_wait" 2 f_Lane_longest_wait :=
  meth_ok (N := ["self"]) (ps := ["self"]) (loc := 0) F hC hc hm (F.binds (ps := ["self"]) fun _ _ _ _ _ _ us hl => match us, hl with | [_], _ => rfl) sc_Lane_longest_wait rfl <| fun cdv A outer s H E hr => by
    have hN := nd_Lane_longest_wait
    have hp : PassesOwn (model P w) (A.deeper (PyProof.Rows.envOfC "Lane.longest_wait" (defScope s_Lane_longest_wait) s.heap.objs.size f cdv)) (PyProof.Rows.envOfC "Lane.longest_wait" (defScope s_Lane_longest_wait) s.heap.objs.size f cdv) (cxOf (L2N.CX P w) P w K mg base ["self"] "Lane.longest_wait" (defScope s_Lane_longest_wait) f cdv A outer s H E).xe := passes_of rfl
    exact dss_one (ds_expr (de_callD D_uwall (hr.mono (by decide)) (da_cons (do_v (de_int)) (da_nil))))
theorem sc_Lane_is_kept : FnScope ["self", "most"] ["self", "most"] (defScope s_Lane_is_kept) := ⟨rfl, rfl, rfl, by decide +kernel, rfl, by decide +kernel, by decide +kernel⟩
theorem nd_Lane_is_kept : (["self", "most"] : List Str).Nodup := by decide +kernel
theorem ok_Lane_is_kept {f C : Addr} {fd : FuncData} (T : Txt P w K mg base) (F : Fun K "is_kept" "Lane.is_kept" s_Lane_is_kept f fd) (hC : mg "Lane" = some (.ref C)) (hc : Cls K C) (hm : Meth K C "is_kept" f) (D_uwall : DefOk P w K mg base "_wall" 1 f_uwall) : MethOk P w K mg base "Lane" "is_kept" 2 f_Lane_is_kept :=
  meth_ok (N := ["self", "most"]) (ps := ["self", "most"]) (loc := 0) F hC hc hm (F.binds (ps := ["self", "most"]) fun _ _ _ _ _ _ us hl => match us, hl with | [_, _], _ => rfl) sc_Lane_is_kept rfl <| fun cdv A outer s H E hr => by
    have hN := nd_Lane_is_kept
    have hp : PassesOwn (model P w) (A.deeper (PyProof.Rows.envOfC "Lane.is_kept" (defScope s_Lane_is_kept) s.heap.objs.size f cdv)) (PyProof.Rows.envOfC "Lane.is_kept" (defScope s_Lane_is_kept) s.heap.objs.size f cdv) (cxOf (L2N.CX P w) P w K mg base ["self", "most"] "Lane.is_kept" (defScope s_Lane_is_kept) f cdv A outer s H E).xe := passes_of rfl
    exact dss_one (ds_expr (de_callD D_uwall (hr.mono (by decide)) (da_cons (do_v (de_int)) (da_nil))))
theorem sc_Lane_breaking : FnScope ["self", "name"] ["self", "name"] (defScope s_Lane_breaking) := ⟨rfl, rfl, rfl, by decide +kernel, rfl, by decide +kernel, by decide +kernel⟩
theorem nd_Lane_breaking : (["self", "name"] : List Str).Nodup := by decide +kernel
theorem ok_Lane_breaking {f C : Addr} {fd : FuncData} (T : Txt P w K mg base) (F : Fun K "breaking" "Lane.breaking" s_Lane_breaking f fd) (hC : mg "Lane" = some (.ref C)) (hc : Cls K C) (hm : Meth K C "breaking" f) (D_uwall : DefOk P w K mg base "_wall" 1 f_uwall) : MethOk P w K mg base "Lane" "breaking" 2 f_Lane_breaking :=
  meth_ok (N := ["self", "name"]) (ps := ["self", "name"]) (loc := 0) F hC hc hm (F.binds (ps := ["self", "name"]) fun _ _ _ _ _ _ us hl => match us, hl with | [_, _], _ => rfl) sc_Lane_breaking rfl <| fun cdv A outer s H E hr => by
    have hN := nd_Lane_breaking
    have hp : PassesOwn (model P w) (A.deeper (PyProof.Rows.envOfC "Lane.breaking" (defScope s_Lane_breaking) s.heap.objs.size f cdv)) (PyProof.Rows.envOfC "Lane.breaking" (defScope s_Lane_breaking) s.heap.objs.size f cdv) (cxOf (L2N.CX P w) P w K mg base ["self", "name"] "Lane.breaking" (defScope s_Lane_breaking) f cdv A outer s H E).xe := passes_of rfl
    exact dss_one (ds_expr (de_callD D_uwall (hr.mono (by decide)) (da_cons (do_v (de_int)) (da_nil))))
theorem sc_Lane_is_course : FnScope ["self", "value"] ["self", "value"] (defScope s_Lane_is_course) := ⟨rfl, rfl, rfl, by decide +kernel, rfl, by decide +kernel, by decide +kernel⟩
theorem nd_Lane_is_course : (["self", "value"] : List Str).Nodup := by decide +kernel
theorem ok_Lane_is_course {f C : Addr} {fd : FuncData} (T : Txt P w K mg base) (F : Fun K "is_course" "Lane.is_course" s_Lane_is_course f fd) (hC : mg "Lane" = some (.ref C)) (hc : Cls K C) (hm : Meth K C "is_course" f) (D_uwall : DefOk P w K mg base "_wall" 1 f_uwall) : MethOk P w K mg base "Lane" "is_course" 2 f_Lane_is_course :=
  meth_ok (N := ["self", "value"]) (ps := ["self", "value"]) (loc := 0) F hC hc hm (F.binds (ps := ["self", "value"]) fun _ _ _ _ _ _ us hl => match us, hl with | [_, _], _ => rfl) sc_Lane_is_course rfl <| fun cdv A outer s H E hr => by
    have hN := nd_Lane_is_course
    have hp : PassesOwn (model P w) (A.deeper (PyProof.Rows.envOfC "Lane.is_course" (defScope s_Lane_is_course) s.heap.objs.size f cdv)) (PyProof.Rows.envOfC "Lane.is_course" (defScope s_Lane_is_course) s.heap.objs.size f cdv) (cxOf (L2N.CX P w) P w K mg base ["self", "value"] "Lane.is_course" (defScope s_Lane_is_course) f cdv A outer s H E).xe := passes_of rfl
    exact dss_one (ds_expr (de_callD D_uwall (hr.mono (by decide)) (da_cons (do_v (de_int)) (da_nil))))
theorem sc_Lane_waits : FnScope ["self", "course"] ["self", "course"] (defScope s_Lane_waits) := ⟨rfl, rfl, rfl, by decide +kernel, rfl, by decide +kernel, by decide +kernel⟩
theorem nd_Lane_waits : (["self", "course"] : List Str).Nodup := by decide +kernel
theorem ok_Lane_waits {f C : Addr} {fd : FuncData} (T : Txt P w K mg base) (F : Fun K "waits" "Lane.waits" s_Lane_waits f fd) (hC : mg "Lane" = some (.ref C)) (hc : Cls K C) (hm : Meth K C "waits" f) (D_uwall : DefOk P w K mg base "_wall" 1 f_uwall) : MethOk P w K mg base "Lane" "waits" 2 f_Lane_waits :=
  meth_ok (N := ["self", "course"]) (ps := ["self", "course"]) (loc := 0) F hC hc hm (F.binds (ps := ["self", "course"]) fun _ _ _ _ _ _ us hl => match us, hl with | [_, _], _ => rfl) sc_Lane_waits rfl <| fun cdv A outer s H E hr => by
    have hN := nd_Lane_waits
    have hp : PassesOwn (model P w) (A.deeper (PyProof.Rows.envOfC "Lane.waits" (defScope s_Lane_waits) s.heap.objs.size f cdv)) (PyProof.Rows.envOfC "Lane.waits" (defScope s_Lane_waits) s.heap.objs.size f cdv) (cxOf (L2N.CX P w) P w K mg base ["self", "course"] "Lane.waits" (defScope s_Lane_waits) f cdv A outer s H E).xe := passes_of rfl
    exact dss_one (ds_expr (de_callD D_uwall (hr.mono (by decide)) (da_cons (do_v (de_int)) (da_nil))))
theorem sc_Lane_last_end : FnScope ["self"] ["self"] (defScope s_Lane_last_end) := ⟨rfl, rfl, rfl, by decide +kernel, rfl, by decide +kernel, by decide +kernel⟩
theorem nd_Lane_last_end : (["self"] : List Str).Nodup := by decide +kernel
theorem ok_Lane_last_end {f C : Addr} {fd : FuncData} (T : Txt P w K mg base) (F : Fun K "last_end" "Lane.last_end" s_Lane_last_end f fd) (hC : mg "Lane" = some (.ref C)) (hc : Cls K C) (hm : Meth K C "last_end" f) (D_uwall : DefOk P w K mg base "_wall" 1 f_uwall) : MethOk P w K mg base "Lane" "last_end" 2 f_Lane_last_end :=
  meth_ok (N := ["self"]) (ps := ["self"]) (loc := 0) F hC hc hm (F.binds (ps := ["self"]) fun _ _ _ _ _ _ us hl => match us, hl with | [_], _ => rfl) sc_Lane_last_end rfl <| fun cdv A outer s H E hr => by
    have hN := nd_Lane_last_end
    have hp : PassesOwn (model P w) (A.deeper (PyProof.Rows.envOfC "Lane.last_end" (defScope s_Lane_last_end) s.heap.objs.size f cdv)) (PyProof.Rows.envOfC "Lane.last_end" (defScope s_Lane_last_end) s.heap.objs.size f cdv) (cxOf (L2N.CX P w) P w K mg base ["self"] "Lane.last_end" (defScope s_Lane_last_end) f cdv A outer s H E).xe := passes_of rfl
    exact dss_one (ds_expr (de_callD D_uwall (hr.mono (by decide)) (da_cons (do_v (de_int)) (da_nil))))
theorem sc_Lane_could_add : FnScope ["self", "visit", "most"] ["self", "visit", "most"] (defScope s_Lane_could_add) := ⟨rfl, rfl, rfl, by decide +kernel, rfl, by decide +kernel, by decide +kernel⟩
theorem nd_Lane_could_add : (["self", "visit", "most"] : List Str).Nodup := by decide +kernel
theorem ok_Lane_could_add {f C : Addr} {fd : FuncData} (T : Txt P w K mg base) (F : Fun K "could_add" "Lane.could_add" s_Lane_could_add f fd) (hC : mg "Lane" = some (.ref C)) (hc : Cls K C) (hm : Meth K C "could_add" f) (D_uwall : DefOk P w K mg base "_wall" 1 f_uwall) : MethOk P w K mg base "Lane" "could_add" 2 f_Lane_could_add :=
  meth_ok (N := ["self", "visit", "most"]) (ps := ["self", "visit", "most"]) (loc := 0) F hC hc hm (F.binds (ps := ["self", "visit", "most"]) fun _ _ _ _ _ _ us hl => match us, hl with | [_, _, _], _ => rfl) sc_Lane_could_add rfl <| fun cdv A outer s H E hr => by
    have hN := nd_Lane_could_add
    have hp : PassesOwn (model P w) (A.deeper (PyProof.Rows.envOfC "Lane.could_add" (defScope s_Lane_could_add) s.heap.objs.size f cdv)) (PyProof.Rows.envOfC "Lane.could_add" (defScope s_Lane_could_add) s.heap.objs.size f cdv) (cxOf (L2N.CX P w) P w K mg base ["self", "visit", "most"] "Lane.could_add" (defScope s_Lane_could_add) f cdv A outer s H E).xe := passes_of rfl
    exact dss_one (ds_expr (de_callD D_uwall (hr.mono (by decide)) (da_cons (do_v (de_int)) (da_nil))))
theorem sc_Lane_next_free : FnScope ["self", "minute", "late", "work", "most"] ["self", "minute", "late", "work", "most"] (defScope s_Lane_next_free) := ⟨rfl, rfl, rfl, by decide +kernel, rfl, by decide +kernel, by decide +kernel⟩
theorem nd_Lane_next_free : (["self", "minute", "late", "work", "most"] : List Str).Nodup := by decide +kernel
theorem ok_Lane_next_free {f C : Addr} {fd : FuncData} (T : Txt P w K mg base) (F : Fun K "next_free" "Lane.next_free" s_Lane_next_free f fd) (hC : mg "Lane" = some (.ref C)) (hc : Cls K C) (hm : Meth K C "next_free" f) (D_uwall : DefOk P w K mg base "_wall" 1 f_uwall) : MethOk P w K mg base "Lane" "next_free" 2 f_Lane_next_free :=
  meth_ok (N := ["self", "minute", "late", "work", "most"]) (ps := ["self", "minute", "late", "work", "most"]) (loc := 0) F hC hc hm (F.binds (ps := ["self", "minute", "late", "work", "most"]) fun _ _ _ _ _ _ us hl => match us, hl with | [_, _, _, _, _], _ => rfl) sc_Lane_next_free rfl <| fun cdv A outer s H E hr => by
    have hN := nd_Lane_next_free
    have hp : PassesOwn (model P w) (A.deeper (PyProof.Rows.envOfC "Lane.next_free" (defScope s_Lane_next_free) s.heap.objs.size f cdv)) (PyProof.Rows.envOfC "Lane.next_free" (defScope s_Lane_next_free) s.heap.objs.size f cdv) (cxOf (L2N.CX P w) P w K mg base ["self", "minute", "late", "work", "most"] "Lane.next_free" (defScope s_Lane_next_free) f cdv A outer s H E).xe := passes_of rfl
    exact dss_one (ds_expr (de_callD D_uwall (hr.mono (by decide)) (da_cons (do_v (de_int)) (da_nil))))
theorem sc_Lane_most_late : FnScope ["self", "most"] ["self", "most"] (defScope s_Lane_most_late) := ⟨rfl, rfl, rfl, by decide +kernel, rfl, by decide +kernel, by decide +kernel⟩
theorem nd_Lane_most_late : (["self", "most"] : List Str).Nodup := by decide +kernel
theorem ok_Lane_most_late {f C : Addr} {fd : FuncData} (T : Txt P w K mg base) (F : Fun K "most_late" "Lane.most_late" s_Lane_most_late f fd) (hC : mg "Lane" = some (.ref C)) (hc : Cls K C) (hm : Meth K C "most_late" f) (D_uwall : DefOk P w K mg base "_wall" 1 f_uwall) : MethOk P w K mg base "Lane" "most_late" 2 f_Lane_most_late :=
  meth_ok (N := ["self", "most"]) (ps := ["self", "most"]) (loc := 0) F hC hc hm (F.binds (ps := ["self", "most"]) fun _ _ _ _ _ _ us hl => match us, hl with | [_, _], _ => rfl) sc_Lane_most_late rfl <| fun cdv A outer s H E hr => by
    have hN := nd_Lane_most_late
    have hp : PassesOwn (model P w) (A.deeper (PyProof.Rows.envOfC "Lane.most_late" (defScope s_Lane_most_late) s.heap.objs.size f cdv)) (PyProof.Rows.envOfC "Lane.most_late" (defScope s_Lane_most_late) s.heap.objs.size f cdv) (cxOf (L2N.CX P w) P w K mg base ["self", "most"] "Lane.most_late" (defScope s_Lane_most_late) f cdv A outer s H E).xe := passes_of rfl
    exact dss_one (ds_expr (de_callD D_uwall (hr.mono (by decide)) (da_cons (do_v (de_int)) (da_nil))))
theorem sc_Lane_with_late : FnScope ["self", "late"] ["self", "late"] (defScope s_Lane_with_late) := ⟨rfl, rfl, rfl, by decide +kernel, rfl, by decide +kernel, by decide +kernel⟩
theorem nd_Lane_with_late : (["self", "late"] : List Str).Nodup := by decide +kernel
theorem ok_Lane_with_late {f C : Addr} {fd : FuncData} (T : Txt P w K mg base) (F : Fun K "with_late" "Lane.with_late" s_Lane_with_late f fd) (hC : mg "Lane" = some (.ref C)) (hc : Cls K C) (hm : Meth K C "with_late" f) (D_uwall : DefOk P w K mg base "_wall" 1 f_uwall) : MethOk P w K mg base "Lane" "with_late" 2 f_Lane_with_late :=
  meth_ok (N := ["self", "late"]) (ps := ["self", "late"]) (loc := 0) F hC hc hm (F.binds (ps := ["self", "late"]) fun _ _ _ _ _ _ us hl => match us, hl with | [_, _], _ => rfl) sc_Lane_with_late rfl <| fun cdv A outer s H E hr => by
    have hN := nd_Lane_with_late
    have hp : PassesOwn (model P w) (A.deeper (PyProof.Rows.envOfC "Lane.with_late" (defScope s_Lane_with_late) s.heap.objs.size f cdv)) (PyProof.Rows.envOfC "Lane.with_late" (defScope s_Lane_with_late) s.heap.objs.size f cdv) (cxOf (L2N.CX P w) P w K mg base ["self", "late"] "Lane.with_late" (defScope s_Lane_with_late) f cdv A outer s H E).xe := passes_of rfl
    exact dss_one (ds_expr (de_callD D_uwall (hr.mono (by decide)) (da_cons (do_v (de_int)) (da_nil))))
theorem sc_number_in : FnScope ["word", "sign"] ["word"] (defScope s_number_in) := ⟨rfl, rfl, rfl, by decide +kernel, rfl, by decide +kernel, by decide +kernel⟩
theorem nd_number_in : (["word", "sign"] : List Str).Nodup := by decide +kernel
theorem ok_number_in {f : Addr} {fd : FuncData} (T : Txt P w K mg base) (F : Fun K "number_in" "number_in" s_number_in f fd) (hm : mg "number_in" = some (.ref f)) : DefOk P w K mg base "number_in" 1 f_number_in :=
  def_ok (N := ["word", "sign"]) (ps := ["word"]) (loc := 1) F hm (F.binds (ps := ["word"]) fun _ _ _ _ _ _ us hl => match us, hl with | [_], _ => rfl) sc_number_in rfl <| fun cdv A outer s H E hr => by
    have hN := nd_number_in
    have hp : PassesOwn (model P w) (A.deeper (PyProof.Rows.envOfC "number_in" (defScope s_number_in) s.heap.objs.size f cdv)) (PyProof.Rows.envOfC "number_in" (defScope s_number_in) s.heap.objs.size f cdv) (cxOf (L2N.CX P w) P w K mg base ["word", "sign"] "number_in" (defScope s_number_in) f cdv A outer s H E).xe := passes_of rfl
    exact dss_cons (ds_if (dt_w (dw_or (dt_not (dt_chain (de_int) (ch_cons op_le snd_cmpI (de_len (by rfl) T.n_len (da_cons ((do_o (pv 0))) (da_nil))) (ch_last op_le snd_cmpI (de_int))))) (dw_or1 (dt_not (dt_val (de_all (by rfl) (by rfl) T.n_all (da_cons ((do_v (de_lc (own := [("sign", 1)]) (by rfl) hN (di_str (de_var (pv 0))) (by rfl) (fun _ _ _ _ _ => dgn 1 hN) (fun _ _ _ _ _ => dts_nil) (fun _ _ _ _ _ => de_in (un65 hr) (do_o (pv 1)) (do_v (de_gstr T.c_FIGURES.choose_spec)))))) (da_nil)))))))) (dss_one (ds_ret (de_non))) (dss_nil)) (dss_one (ds_ret (de_ifExp (dt_w (dw_and (dt_eq (un64 hr) (do_v (de_ix (do_o (pv 0)) (do_v (de_int)))) (do_v (de_str))) (dw_and1 (dt_gt (do_v (de_len (by rfl) T.n_len (da_cons ((do_o (pv 0))) (da_nil)))) (do_v (de_int)))))) (de_non) (de_intS (by rfl) T.n_int (da_cons ((do_o (pv 0))) (da_nil))))))
theorem sc_visit_in : FnScope ["words"] ["words"] (defScope s_visit_in) := ⟨rfl, rfl, rfl, by decide +kernel, rfl, by decide +kernel, by decide +kernel⟩
theorem nd_visit_in : (["words"] : List Str).Nodup := by decide +kernel
theorem ok_visit_in {f : Addr} {fd : FuncData} (T : Txt P w K mg base) (F : Fun K "visit_in" "visit_in" s_visit_in f fd) (hm : mg "visit_in" = some (.ref f)) (D_number_in : DefOk P w K mg base "number_in" 1 f_number_in) : DefOk P w K mg base "visit_in" 2 f_visit_in :=
  def_ok (N := ["words"]) (ps := ["words"]) (loc := 0) F hm (F.binds (ps := ["words"]) fun _ _ _ _ _ _ us hl => match us, hl with | [_], _ => rfl) sc_visit_in rfl <| fun cdv A outer s H E hr => by
    have hN := nd_visit_in
    have hp : PassesOwn (model P w) (A.deeper (PyProof.Rows.envOfC "visit_in" (defScope s_visit_in) s.heap.objs.size f cdv)) (PyProof.Rows.envOfC "visit_in" (defScope s_visit_in) s.heap.objs.size f cdv) (cxOf (L2N.CX P w) P w K mg base ["words"] "visit_in" (defScope s_visit_in) f cdv A outer s H E).xe := passes_of rfl
    exact dss_cons (ds_if (dt_ne (un64 hr) (do_v (de_len (by rfl) T.n_len (da_cons ((do_o (pv 0))) (da_nil)))) (do_v (de_int))) (dss_one (ds_ret (de_non))) (dss_nil)) (dss_one (ds_ret (de_tup (da_cons (do_v (de_ix (do_o (pv 0)) (do_v (de_int)))) (da_cons (do_v (de_callD D_number_in (hr.mono (by decide)) (da_cons (do_v (de_ix (do_o (pv 0)) (do_v (de_int)))) (da_nil)))) (da_cons (do_v (de_callD D_number_in (hr.mono (by decide)) (da_cons (do_v (de_ix (do_o (pv 0)) (do_v (de_int)))) (da_nil)))) (da_cons (do_v (de_callD D_number_in (hr.mono (by decide)) (da_cons (do_v (de_ix (do_o (pv 0)) (do_v (de_int)))) (da_nil)))) (da_nil))))))))
theorem sc_format_lane : FnScope ["lane", "rows", "name", "minute", "late", "work", "row"] ["lane"] (defScope s_format_lane) := ⟨rfl, rfl, rfl, by decide +kernel, rfl, by decide +kernel, by decide +kernel⟩
theorem nd_format_lane : (["lane", "rows", "name", "minute", "late", "work", "row"] : List Str).Nodup := by decide +kernel
theorem ok_format_lane {f : Addr} {fd : FuncData} (T : Txt P w K mg base) (F : Fun K "format_lane" "format_lane" s_format_lane f fd) (hm : mg "format_lane" = some (.ref f)) : DefOk P w K mg base "format_lane" 1 f_format_lane :=
  def_ok (N := ["lane", "rows", "name", "minute", "late", "work", "row"]) (ps := ["lane"]) (loc := 6) F hm (F.binds (ps := ["lane"]) fun _ _ _ _ _ _ us hl => match us, hl with | [_], _ => rfl) sc_format_lane rfl <| fun cdv A outer s H E hr => by
    have hN := nd_format_lane
    have hp : PassesOwn (model P w) (A.deeper (PyProof.Rows.envOfC "format_lane" (defScope s_format_lane) s.heap.objs.size f cdv)) (PyProof.Rows.envOfC "format_lane" (defScope s_format_lane) s.heap.objs.size f cdv) (cxOf (L2N.CX P w) P w K mg base ["lane", "rows", "name", "minute", "late", "work", "row"] "format_lane" (defScope s_format_lane) f cdv A outer s H E).xe := passes_of rfl
    exact dss_cons (ds_setLc (own := [("name", 2), ("minute", 3), ("late", 4), ("work", 5)]) (by rfl) hN (by rfl) (by rfl) (by rfl) (di_seq (de_fld T.f_Lane_visits (do_o (pv 0)))) (by rfl) (fun _ _ _ _ _ => dg_tup (by rfl) (dgs_cons (dgn 2 hN) (dgs_cons (dgn 3 hN) (dgs_cons (dgn 4 hN) (dgs_cons (dgn 5 hN) (dgs_nil)))))) (fun _ _ _ _ _ => dts_nil) (fun _ _ _ _ _ => de_fstr (dj_cons (de_fmt (de_gstr T.c_VISIT.choose_spec)) (dj_cons (de_str) (dj_cons (de_fmt (de_var (pv 2))) (dj_cons (de_str) (dj_cons (de_fmt (de_var (pv 3))) (dj_cons (de_str) (dj_cons (de_fmt (de_var (pv 4))) (dj_cons (de_str) (dj_cons (de_fmt (de_var (pv 5))) (dj_nil)))))))))))) (dss_one (ds_ret (de_join (de_str) (de_lc (own := [("row", 6)]) (by rfl) hN (di_seq (de_var (pv 1))) (by rfl) (fun _ _ _ _ _ => dgn 6 hN) (fun _ _ _ _ _ => dts_nil) (fun _ _ _ _ _ => de_add (do_o (pv 6)) (do_v (de_str)))))))
theorem sc_ulaw_taken : FnScope ["row", "many", "cell", "found"] ["row", "many"] (defScope s_ulaw_taken) := ⟨rfl, rfl, rfl, by decide +kernel, rfl, by decide +kernel, by decide +kernel⟩
theorem nd_ulaw_taken : (["row", "many", "cell", "found"] : List Str).Nodup := by decide +kernel
theorem ok_ulaw_taken {f : Addr} {fd : FuncData} (T : Txt P w K mg base) (F : Fun K "_law_taken" "_law_taken" s_ulaw_taken f fd) (hm : mg "_law_taken" = some (.ref f)) : DefOk P w K mg base "_law_taken" 1 f_ulaw_taken :=
  def_ok (N := ["row", "many", "cell", "found"]) (ps := ["row", "many"]) (loc := 2) F hm (F.binds (ps := ["row", "many"]) fun _ _ _ _ _ _ us hl => match us, hl with | [_, _], _ => rfl) sc_ulaw_taken rfl <| fun cdv A outer s H E hr => by
    have hN := nd_ulaw_taken
    have hp : PassesOwn (model P w) (A.deeper (PyProof.Rows.envOfC "_law_taken" (defScope s_ulaw_taken) s.heap.objs.size f cdv)) (PyProof.Rows.envOfC "_law_taken" (defScope s_ulaw_taken) s.heap.objs.size f cdv) (cxOf (L2N.CX P w) P w K mg base ["row", "many", "cell", "found"] "_law_taken" (defScope s_ulaw_taken) f cdv A outer s H E).xe := passes_of rfl
    exact dss_cons (ds_if (dt_gt (do_v (de_ix (do_o (pv 0)) (do_v (de_int)))) (do_v (de_int))) (dss_cons (ds_set hN (by rfl) (by first | exact .inl rfl | exact .inr rfl) (de_mod (do_v (de_intc (by rfl) T.n_int (da_cons ((do_v (de_ix (do_o (pv 0)) (do_v (de_int))))) (da_nil)))) (do_o (pv 1)))) (dss_cons (ds_put (pv 0) (de_int) (de_fdiv (do_v (de_ix (do_o (pv 0)) (do_v (de_int)))) (do_o (pv 1))) (fun _ h => pg_sub (pv 0) h set_list)) (dss_one (ds_ret (de_var (pv 3)))))) (dss_nil)) (dss_cons (ds_put (pv 0) (de_int) (de_add (do_v (de_ix (do_o (pv 0)) (do_v (de_int)))) (do_v (de_int))) (fun _ h => pg_sub (pv 0) h set_list)) (dss_cons (ds_if (dt_gt (do_v (de_ix (do_o (pv 0)) (do_v (de_int)))) (do_v (de_len (by rfl) T.n_len (da_cons ((do_v (de_ix (do_o (pv 0)) (do_v (de_int))))) (da_nil))))) (dss_cons (ds_put (pv 0) (de_int) (de_mod (do_v (de_intc (by rfl) T.n_int (da_cons ((do_v (de_add (do_v (de_mul (do_v (de_ix (do_o (pv 0)) (do_v (de_int)))) (do_v (de_int)))) (do_v (de_int))))) (da_nil)))) (do_v (de_int))) (fun _ h => pg_sub (pv 0) h set_list)) (dss_one (ds_ret (de_mod (do_v (de_intc (by rfl) T.n_int (da_cons ((do_v (de_fdiv (do_v (de_ix (do_o (pv 0)) (do_v (de_int)))) (do_v (de_int))))) (da_nil)))) (do_o (pv 1)))))) (dss_nil)) (dss_cons (ds_set hN (by rfl) (by first | exact .inl rfl | exact .inr rfl) (de_ix (do_v (de_ix (do_o (pv 0)) (do_v (de_int)))) (do_v (de_sub (do_v (de_ix (do_o (pv 0)) (do_v (de_int)))) (do_v (de_int)))))) (dss_cons (ds_put (pv 0) (de_int) (de_mod (do_v (de_intc (by rfl) T.n_int (da_cons ((do_v (de_add (do_v (de_add (do_v (de_mul (do_v (de_ix (do_o (pv 0)) (do_v (de_int)))) (do_v (de_int)))) (do_o (pv 2)))) (do_v (de_int))))) (da_nil)))) (do_v (de_int))) (fun _ h => pg_sub (pv 0) h set_list)) (dss_cons (ds_if (dt_ge (do_o (pv 2)) (do_v (de_pow (do_v (de_int)) (do_v (de_int))))) (dss_one (ds_put (pv 0) (de_int) (de_fdiv (do_o (pv 2)) (do_o (pv 1))) (fun _ h => pg_sub (pv 0) h set_list))) (dss_nil)) (dss_one (ds_ret (de_mod (do_v (de_intc (by rfl) T.n_int (da_cons ((do_o (pv 2))) (da_nil)))) (do_o (pv 1))))))))))
theorem sc_ulaw_pick : FnScope ["row", "kinds"] ["row", "kinds"] (defScope s_ulaw_pick) := ⟨rfl, rfl, rfl, by decide +kernel, rfl, by decide +kernel, by decide +kernel⟩
theorem nd_ulaw_pick : (["row", "kinds"] : List Str).Nodup := by decide +kernel
theorem ok_ulaw_pick {f : Addr} {fd : FuncData} (T : Txt P w K mg base) (F : Fun K "_law_pick" "_law_pick" s_ulaw_pick f fd) (hm : mg "_law_pick" = some (.ref f)) (D_ulaw_taken : DefOk P w K mg base "_law_taken" 1 f_ulaw_taken) : DefOk P w K mg base "_law_pick" 2 f_ulaw_pick :=
  def_ok (N := ["row", "kinds"]) (ps := ["row", "kinds"]) (loc := 0) F hm (F.binds (ps := ["row", "kinds"]) fun _ _ _ _ _ _ us hl => match us, hl with | [_, _], _ => rfl) sc_ulaw_pick rfl <| fun cdv A outer s H E hr => by
    have hN := nd_ulaw_pick
    have hp : PassesOwn (model P w) (A.deeper (PyProof.Rows.envOfC "_law_pick" (defScope s_ulaw_pick) s.heap.objs.size f cdv)) (PyProof.Rows.envOfC "_law_pick" (defScope s_ulaw_pick) s.heap.objs.size f cdv) (cxOf (L2N.CX P w) P w K mg base ["row", "kinds"] "_law_pick" (defScope s_ulaw_pick) f cdv A outer s H E).xe := passes_of rfl
    exact dss_one (ds_ret (de_ix (do_o (pv 1)) (do_v (de_callD D_ulaw_taken (hr.mono (by decide)) (da_cons ((do_o (pv 0))) (da_cons (do_v (de_len (by rfl) T.n_len (da_cons ((do_o (pv 1))) (da_nil)))) (da_nil)))))))
theorem sc_ulaw_name : FnScope ["row", "signs", "size", "found", "k"] ["row"] (defScope s_ulaw_name) := ⟨rfl, rfl, rfl, by decide +kernel, rfl, by decide +kernel, by decide +kernel⟩
theorem nd_ulaw_name : (["row", "signs", "size", "found", "k"] : List Str).Nodup := by decide +kernel
theorem ok_ulaw_name {f : Addr} {fd : FuncData} (T : Txt P w K mg base) (F : Fun K "_law_name" "_law_name" s_ulaw_name f fd) (hm : mg "_law_name" = some (.ref f)) (D_ulaw_pick : DefOk P w K mg base "_law_pick" 2 f_ulaw_pick) (D_ulaw_taken : DefOk P w K mg base "_law_taken" 1 f_ulaw_taken) : DefOk P w K mg base "_law_name" 3 f_ulaw_name :=
  def_ok (N := ["row", "signs", "size", "found", "k"]) (ps := ["row"]) (loc := 4) F hm (F.binds (ps := ["row"]) fun _ _ _ _ _ _ us hl => match us, hl with | [_], _ => rfl) sc_ulaw_name rfl <| fun cdv A outer s H E hr => by
    have hN := nd_ulaw_name
    have hp : PassesOwn (model P w) (A.deeper (PyProof.Rows.envOfC "_law_name" (defScope s_ulaw_name) s.heap.objs.size f cdv)) (PyProof.Rows.envOfC "_law_name" (defScope s_ulaw_name) s.heap.objs.size f cdv) (cxOf (L2N.CX P w) P w K mg base ["row", "signs", "size", "found", "k"] "_law_name" (defScope s_ulaw_name) f cdv A outer s H E).xe := passes_of rfl
    exact dss_cons (ds_set hN (by rfl) (by first | exact .inl rfl | exact .inr rfl) (de_str)) (dss_cons (ds_set hN (by rfl) (by first | exact .inl rfl | exact .inr rfl) (de_callD D_ulaw_pick (hr.mono (by decide)) (da_cons ((do_o (pv 0))) (da_cons (do_v (de_lst (da_cons (do_v (de_int)) (da_cons (do_v (de_int)) (da_cons (do_v (de_int)) (da_cons (do_v (de_int)) (da_cons (do_v (de_int)) (da_cons (do_v (de_int)) (da_nil))))))))) (da_nil))))) (dss_cons (ds_set hN (by rfl) (by first | exact .inl rfl | exact .inr rfl) (de_ix (do_o (pv 1)) (do_v (de_callD D_ulaw_taken (hr.mono (by decide)) (da_cons ((do_o (pv 0))) (da_cons (do_v (de_int)) (da_nil))))))) (dss_cons (ds_for hp (by rfl) (di_range1 (by rfl) T.n_range (da_cons (do_v (de_sub (do_o (pv 2)) (do_v (de_int)))) (da_nil))) (dgn 4 hN) (dss_one (ds_set hN (by rfl) (by first | exact .inl rfl | exact .inr rfl) (de_add (do_o (pv 3)) (do_v (de_ix (do_o (pv 1)) (do_v (de_callD D_ulaw_taken (hr.mono (by decide)) (da_cons ((do_o (pv 0))) (da_cons (do_v (de_int)) (da_nil))))))))))) (dss_one (ds_ret (de_var (pv 3)))))))
theorem sc_ulaw_names : FnScope ["row", "many", "found", "k", "name", "spare", "turn", "one"] ["row", "many"] (defScope s_ulaw_names) := ⟨rfl, rfl, rfl, by decide +kernel, rfl, by decide +kernel, by decide +kernel⟩
theorem nd_ulaw_names : (["row", "many", "found", "k", "name", "spare", "turn", "one"] : List Str).Nodup := by decide +kernel
theorem ok_ulaw_names {f : Addr} {fd : FuncData} (T : Txt P w K mg base) (F : Fun K "_law_names" "_law_names" s_ulaw_names f fd) (hm : mg "_law_names" = some (.ref f)) (D_ulaw_name : DefOk P w K mg base "_law_name" 3 f_ulaw_name) : DefOk P w K mg base "_law_names" 4 f_ulaw_names :=
  def_ok (N := ["row", "many", "found", "k", "name", "spare", "turn", "one"]) (ps := ["row", "many"]) (loc := 6) F hm (F.binds (ps := ["row", "many"]) fun _ _ _ _ _ _ us hl => match us, hl with | [_, _], _ => rfl) sc_ulaw_names rfl <| fun cdv A outer s H E hr => by
    have hN := nd_ulaw_names
    have hp : PassesOwn (model P w) (A.deeper (PyProof.Rows.envOfC "_law_names" (defScope s_ulaw_names) s.heap.objs.size f cdv)) (PyProof.Rows.envOfC "_law_names" (defScope s_ulaw_names) s.heap.objs.size f cdv) (cxOf (L2N.CX P w) P w K mg base ["row", "many", "found", "k", "name", "spare", "turn", "one"] "_law_names" (defScope s_ulaw_names) f cdv A outer s H E).xe := passes_of rfl
    exact dss_cons (ds_own hN (by rfl) (by first | exact .inl rfl | exact .inr rfl) (da_nil)) (dss_cons (ds_for hp (by rfl) (di_range1 (by rfl) T.n_range (da_cons (do_v (de_var (pv 1))) (da_nil))) (dgn 3 hN) (dss_cons (ds_set hN (by rfl) (by first | exact .inl rfl | exact .inr rfl) (de_callD D_ulaw_name (hr.mono (by decide)) (da_cons ((do_o (pv 0))) (da_nil)))) (dss_cons (ds_set hN (by rfl) (by first | exact .inl rfl | exact .inr rfl) (de_add (do_v (de_lst (da_cons (do_v (de_var (pv 4))) (da_nil)))) (do_v (de_lc (own := [("turn", 6)]) (by rfl) hN (di_range1 (by rfl) T.n_range (da_cons (do_v (de_int)) (da_nil))) (by rfl) (fun _ _ _ _ _ => dgn 6 hN) (fun _ _ _ _ _ => dts_nil) (fun _ _ _ _ _ => de_add (do_v (de_slice (do_o (pv 4)) dp_none (dp_some (de_int)))) (do_v (de_strc (by rfl) T.n_str (da_cons ((do_o (pv 6))) (da_nil))))))))) (dss_one (ds_append (pv 2) (de_ix (do_v (de_lc (own := [("one", 7)]) (by rfl) hN (di_seq (de_var (pv 5))) (by rfl) (fun _ _ _ _ _ => dgn 7 hN) (fun _ _ _ _ _ => dts_one (dt_nin (un65 hr) (do_o (pv 7)) (do_o (pv 2)))) (fun _ _ _ _ _ => de_var (pv 7)))) (do_v (de_int))) (fun _ h => pe_bm PySem.F.plainAttrs_list PySem.F.slot_list_append PySem.F.type_list_append mt_append (pv 2) (pa_cons h pa_nil))))))) (dss_one (ds_frz 2 (ds_ret (de_var (pv 2))))))
theorem sc_ulaw_feed : FnScope [] [] (defScope s_ulaw_feed) := ⟨rfl, rfl, rfl, by decide +kernel, rfl, by decide +kernel, by decide +kernel⟩
theorem nd_ulaw_feed : ([] : List Str).Nodup := by decide +kernel
theorem ok_ulaw_feed {f : Addr} {fd : FuncData} (T : Txt P w K mg base) (F : Fun K "_law_feed" "_law_feed" s_ulaw_feed f fd) (hm : mg "_law_feed" = some (.ref f)) : DefOk P w K mg base "_law_feed" 1 f_ulaw_feed :=
  def_ok (N := []) (ps := []) (loc := 0) F hm (F.binds (ps := []) fun _ _ _ _ _ _ us hl => match us, hl with | [], _ => rfl) sc_ulaw_feed rfl <| fun cdv A outer s H E hr => by
    have hN := nd_ulaw_feed
    have hp : PassesOwn (model P w) (A.deeper (PyProof.Rows.envOfC "_law_feed" (defScope s_ulaw_feed) s.heap.objs.size f cdv)) (PyProof.Rows.envOfC "_law_feed" (defScope s_ulaw_feed) s.heap.objs.size f cdv) (cxOf (L2N.CX P w) P w K mg base [] "_law_feed" (defScope s_ulaw_feed) f cdv A outer s H E).xe := passes_of rfl
    exact dss_one (ds_ret (de_str))
theorem sc_ulaw_visits : FnScope ["row", "size", "minutes", "late", "work", "names", "k"] ["row", "size", "minutes", "late", "work"] (defScope s_ulaw_visits) := ⟨rfl, rfl, rfl, by decide +kernel, rfl, by decide +kernel, by decide +kernel⟩
theorem nd_ulaw_visits : (["row", "size", "minutes", "late", "work", "names", "k"] : List Str).Nodup := by decide +kernel
theorem ok_ulaw_visits {f : Addr} {fd : FuncData} (T : Txt P w K mg base) (F : Fun K "_law_visits" "_law_visits" s_ulaw_visits f fd) (hm : mg "_law_visits" = some (.ref f)) (D_ulaw_names : DefOk P w K mg base "_law_names" 4 f_ulaw_names) (D_ulaw_taken : DefOk P w K mg base "_law_taken" 1 f_ulaw_taken) : DefOk P w K mg base "_law_visits" 5 f_ulaw_visits :=
  def_ok (N := ["row", "size", "minutes", "late", "work", "names", "k"]) (ps := ["row", "size", "minutes", "late", "work"]) (loc := 2) F hm (F.binds (ps := ["row", "size", "minutes", "late", "work"]) fun _ _ _ _ _ _ us hl => match us, hl with | [_, _, _, _, _], _ => rfl) sc_ulaw_visits rfl <| fun cdv A outer s H E hr => by
    have hN := nd_ulaw_visits
    have hp : PassesOwn (model P w) (A.deeper (PyProof.Rows.envOfC "_law_visits" (defScope s_ulaw_visits) s.heap.objs.size f cdv)) (PyProof.Rows.envOfC "_law_visits" (defScope s_ulaw_visits) s.heap.objs.size f cdv) (cxOf (L2N.CX P w) P w K mg base ["row", "size", "minutes", "late", "work", "names", "k"] "_law_visits" (defScope s_ulaw_visits) f cdv A outer s H E).xe := passes_of rfl
    exact dss_cons (ds_set hN (by rfl) (by first | exact .inl rfl | exact .inr rfl) (de_callD D_ulaw_names (hr.mono (by decide)) (da_cons ((do_o (pv 0))) (da_cons (do_v (de_var (pv 1))) (da_nil))))) (dss_one (ds_ret (de_lc (own := [("k", 6)]) (by rfl) hN (di_range1 (by rfl) T.n_range (da_cons (do_v (de_callD D_ulaw_taken (hr.mono (by decide)) (da_cons ((do_o (pv 0))) (da_cons (do_v (de_add (do_o (pv 1)) (do_v (de_int)))) (da_nil))))) (da_nil))) (by rfl) (fun _ _ _ _ _ => dgn 6 hN) (fun _ _ _ _ _ => dts_nil) (fun _ _ _ _ _ => de_tup (da_cons (do_v (de_ix (do_o (pv 5)) (do_o (pv 6)))) (da_cons (do_v (de_callD D_ulaw_taken (hr.mono (by decide)) (da_cons ((do_o (pv 0))) (da_cons (do_v (de_var (pv 2))) (da_nil))))) (da_cons (do_v (de_callD D_ulaw_taken (hr.mono (by decide)) (da_cons ((do_o (pv 0))) (da_cons (do_v (de_add (do_o (pv 3)) (do_v (de_int)))) (da_nil))))) (da_cons (do_v (de_add (do_v (de_int)) (do_v (de_callD D_ulaw_taken (hr.mono (by decide)) (da_cons ((do_o (pv 0))) (da_cons (do_v (de_var (pv 4))) (da_nil))))))) (da_nil)))))))))
theorem sc_want_row : FnScope ["value", "is_item", "most", "index", "item"] ["value", "is_item", "most"] (defScope s_want_row) := ⟨rfl, rfl, rfl, by decide +kernel, rfl, by decide +kernel, by decide +kernel⟩
theorem nd_want_row : (["value", "is_item", "most", "index", "item"] : List Str).Nodup := by decide +kernel
theorem ok_want_row {f : Addr} {fd : FuncData} (T : Txt P w K mg base) (F : Fun K "want_row" "want_row" s_want_row f fd) (hm : mg "want_row" = some (.ref f)) (D_is_row : DefOk P w K mg base "is_row" 1 f_is_row) (D_is_visit : DefOk P w K mg base "is_visit" 3 f_is_visit) (D_frozen : DefOk P w K mg base "frozen" 9 (f_frozen 8)) : DefOk P w K mg base "want_row" 10 f_want_row :=
  def_ok (N := ["value", "is_item", "most", "index", "item"]) (ps := ["value", "is_item", "most"]) (loc := 2) F hm (F.binds (ps := ["value", "is_item", "most"]) fun _ _ _ _ _ _ us hl => match us, hl with | [_, _, _], _ => rfl) sc_want_row rfl <| fun cdv A outer s H E hr => by
    have hN := nd_want_row
    have hp : PassesOwn (model P w) (A.deeper (PyProof.Rows.envOfC "want_row" (defScope s_want_row) s.heap.objs.size f cdv)) (PyProof.Rows.envOfC "want_row" (defScope s_want_row) s.heap.objs.size f cdv) (cxOf (L2N.CX P w) P w K mg base ["value", "is_item", "most", "index", "item"] "want_row" (defScope s_want_row) f cdv A outer s H E).xe := passes_of rfl
    exact dss_cons (ds_if (dt_not (dt_val (de_callD D_is_row (hr.mono (by decide)) (da_cons (do_v (de_var (pv 0))) (da_nil))))) (dss_one (ds_raise (by rfl) T.e_BadItem (hr.mono (by decide)) (by rfl) (da_cons (do_v (de_non)) (da_nil)))) (dss_nil)) (dss_cons (ds_for hp (by rfl) (di_enum (by rfl) T.n_enumerate (da_cons (do_v (de_var (pv 0))) (da_nil))) (dg_tup (by rfl) (dgs_cons (dgn 3 hN) (dgs_cons (dgn 4 hN) (dgs_nil)))) (dss_one (ds_if (dt_not (dt_val (de_callP (k := 3) (tab := [("is_visit", f_is_visit)]) (tab_cons (by decide) D_is_visit (tab_nil)) (hr.mono (by decide)) (by rfl) (by first | exact .inl rfl | exact .inr (.inl rfl) | exact .inr (.inr rfl)) (da_cons ((do_o (pv 4))) (da_nil))))) (dss_one (ds_raise (by rfl) T.e_BadItem (hr.mono (by decide)) (by rfl) (da_cons (do_v (de_var (pv 3))) (da_nil)))) (dss_nil)))) (dss_cons (ds_if (dt_gt (do_v (de_len (by rfl) T.n_len (da_cons ((do_o (pv 0))) (da_nil)))) (do_o (pv 2))) (dss_one (ds_raise (by rfl) T.e_TooMany (hr.mono (by decide)) (by rfl) (da_cons (do_v (de_var (pv 2))) (da_nil)))) (dss_nil)) (dss_one (ds_ret (de_callD D_frozen (hr.mono (by decide)) (da_cons (do_v (de_var (pv 0))) (da_nil)))))))
theorem sc_Lane_uuinit__ : FnScope ["self", "visits", "names", "at", "name", "visit"] ["self", "visits"] (defScope s_Lane_uuinit__) := ⟨rfl, rfl, rfl, by decide +kernel, rfl, by decide +kernel, by decide +kernel⟩
theorem nd_Lane_uuinit__ : (["self", "visits", "names", "at", "name", "visit"] : List Str).Nodup := by decide +kernel
theorem fnk_Lane_uuinit__ {f : Addr} {fd : FuncData} (T : Txt P w K mg base) (F : Fun K "__init__" "Lane.__init__" s_Lane_uuinit__ f fd) (D_is_visit : DefOk P w K mg base "is_visit" 3 f_is_visit) (D_want_row : DefOk P w K mg base "want_row" 10 f_want_row) : FnOk P w K mg base (L2N.CX P w) 11 f fd ["self", "visits"] (spD K mg f_Lane_uuinit__) :=
  fn_ok (N := ["self", "visits", "names", "at", "name", "visit"]) (ps := ["self", "visits"]) (loc := 4) F sc_Lane_uuinit__ rfl <| fun cdv A outer s H E hr => by
    have hN := nd_Lane_uuinit__
    have hp : PassesOwn (model P w) (A.deeper (PyProof.Rows.envOfC "Lane.__init__" (defScope s_Lane_uuinit__) s.heap.objs.size f cdv)) (PyProof.Rows.envOfC "Lane.__init__" (defScope s_Lane_uuinit__) s.heap.objs.size f cdv) (cxOf (L2N.CX P w) P w K mg base ["self", "visits", "names", "at", "name", "visit"] "Lane.__init__" (defScope s_Lane_uuinit__) f cdv A outer s H E).xe := passes_of rfl
    exact dss_cons (ds_fldset T.f_Lane_visits (pv 0) (de_callD D_want_row (hr.mono (by decide)) (da_cons (do_v (de_var (pv 1))) (da_cons (do_v (de_fn D_is_visit)) (da_cons (do_v (de_gint T.c_MOST_VISITS.choose_spec)) (da_nil)))))) (dss_cons (ds_setLc (own := [("visit", 5)]) (by rfl) hN (by rfl) (by rfl) (by rfl) (di_seq (de_fld T.f_Lane_visits (do_o (pv 0)))) (by rfl) (fun _ _ _ _ _ => dgn 5 hN) (fun _ _ _ _ _ => dts_nil) (fun _ _ _ _ _ => de_ix (do_o (pv 5)) (do_v (de_int)))) (dss_one (ds_for hp (by rfl) (di_enum (by rfl) T.n_enumerate (da_cons (do_v (de_var (pv 2))) (da_nil))) (dg_tup (by rfl) (dgs_cons (dgn 3 hN) (dgs_cons (dgn 4 hN) (dgs_nil)))) (dss_one (ds_if (dt_in (un65 hr) (do_o (pv 4)) (do_v (de_slice (do_o (pv 2)) dp_none (dp_some (de_var (pv 3)))))) (dss_one (ds_raise (by rfl) T.e_Taken (hr.mono (by decide)) (by rfl) (da_cons (do_v (de_var (pv 4))) (da_nil)))) (dss_nil))))))
theorem ok_Lane_uuinit__ {f C : Addr} {fd : FuncData} (T : Txt P w K mg base) (F : Fun K "__init__" "Lane.__init__" s_Lane_uuinit__ f fd) (hC : mg "Lane" = some (.ref C)) (hm : Mk K C f) (D_is_visit : DefOk P w K mg base "is_visit" 3 f_is_visit) (D_want_row : DefOk P w K mg base "want_row" 10 f_want_row) : MakeOk P w K mg base "Lane" 11 f_Lane_uuinit__ :=
  make_ok (N := ["self", "visits", "names", "at", "name", "visit"]) (ps := ["self", "visits"]) (loc := 4) F hC hm (F.binds (ps := ["self", "visits"]) fun _ _ _ _ _ _ us hl => match us, hl with | [_, _], _ => rfl) sc_Lane_uuinit__ rfl <| fun cdv A outer s H E hr => by
    have hN := nd_Lane_uuinit__
    have hp : PassesOwn (model P w) (A.deeper (PyProof.Rows.envOfC "Lane.__init__" (defScope s_Lane_uuinit__) s.heap.objs.size f cdv)) (PyProof.Rows.envOfC "Lane.__init__" (defScope s_Lane_uuinit__) s.heap.objs.size f cdv) (cxOf (L2N.CX P w) P w K mg base ["self", "visits", "names", "at", "name", "visit"] "Lane.__init__" (defScope s_Lane_uuinit__) f cdv A outer s H E).xe := passes_of rfl
    exact dss_cons (ds_fldset T.f_Lane_visits (pv 0) (de_callD D_want_row (hr.mono (by decide)) (da_cons (do_v (de_var (pv 1))) (da_cons (do_v (de_fn D_is_visit)) (da_cons (do_v (de_gint T.c_MOST_VISITS.choose_spec)) (da_nil)))))) (dss_cons (ds_setLc (own := [("visit", 5)]) (by rfl) hN (by rfl) (by rfl) (by rfl) (di_seq (de_fld T.f_Lane_visits (do_o (pv 0)))) (by rfl) (fun _ _ _ _ _ => dgn 5 hN) (fun _ _ _ _ _ => dts_nil) (fun _ _ _ _ _ => de_ix (do_o (pv 5)) (do_v (de_int)))) (dss_one (ds_for hp (by rfl) (di_enum (by rfl) T.n_enumerate (da_cons (do_v (de_var (pv 2))) (da_nil))) (dg_tup (by rfl) (dgs_cons (dgn 3 hN) (dgs_cons (dgn 4 hN) (dgs_nil)))) (dss_one (ds_if (dt_in (un65 hr) (do_o (pv 4)) (do_v (de_slice (do_o (pv 2)) dp_none (dp_some (de_var (pv 3)))))) (dss_one (ds_raise (by rfl) T.e_Taken (hr.mono (by decide)) (by rfl) (da_cons (do_v (de_var (pv 4))) (da_nil)))) (dss_nil))))))
theorem sc_parse_lane : FnScope ["text", "rows", "visits", "at", "row", "words", "found"] ["text"] (defScope s_parse_lane) := ⟨rfl, rfl, rfl, by decide +kernel, rfl, by decide +kernel, by decide +kernel⟩
theorem nd_parse_lane : (["text", "rows", "visits", "at", "row", "words", "found"] : List Str).Nodup := by decide +kernel
theorem ok_parse_lane {f : Addr} {fd : FuncData} (T : Txt P w K mg base) (F : Fun K "parse_lane" "parse_lane" s_parse_lane f fd) (hm : mg "parse_lane" = some (.ref f)) (D_visit_in : DefOk P w K mg base "visit_in" 2 f_visit_in) (D_Lane : MakeOk P w K mg base "Lane" 11 f_Lane_uuinit__) : DefOkC P w K mg base "parse_lane" 13 f_parse_lane :=
  def_okC (N := ["text", "rows", "visits", "at", "row", "words", "found"]) (ps := ["text"]) (loc := 6) F hm (F.binds (ps := ["text"]) fun _ _ _ _ _ _ us hl => match us, hl with | [_], _ => rfl) sc_parse_lane rfl <| fun cdv A outer s H E hr => by
    have hN := nd_parse_lane
    have hp : PassesOwn (model P w) (A.deeper (PyProof.Rows.envOfC "parse_lane" (defScope s_parse_lane) s.heap.objs.size f cdv)) (PyProof.Rows.envOfC "parse_lane" (defScope s_parse_lane) s.heap.objs.size f cdv) (cxOf (L2.CX P w) P w K mg base ["text", "rows", "visits", "at", "row", "words", "found"] "parse_lane" (defScope s_parse_lane) f cdv A outer s H E).xe := passes_of rfl
    exact dssh_cons (dsh_of (ds_set hN (by rfl) (by first | exact .inl rfl | exact .inr rfl) (de_split (de_var (pv 0)) (de_str)))) (dssh_cons (dsh_of (ds_own hN (by rfl) (by first | exact .inl rfl | exact .inr rfl) (da_nil))) (dssh_cons (dsh_for hp (by rfl) (di_enumS (n := 1) (by decide) (by rfl) T.n_enumerate (da_cons (do_v (de_var (pv 1))) (da_nil))) (dg_tup (by rfl) (dgs_cons (dgn 3 hN) (dgs_cons (dgn 4 hN) (dgs_nil)))) (dssh_one (dsh_if (dt_eq (un64 hr) (do_o (pv 3)) (do_v (de_len (by rfl) T.n_len (da_cons ((do_o (pv 1))) (da_nil))))) (dssh_of (dss_one (ds_if (dt_ne (un64 hr) (do_o (pv 4)) (do_v (de_str))) (dss_one (ds_raise (by rfl) T.e_BadNote (hr.mono (by decide)) (by rfl) (da_cons (do_v (de_var (pv 3))) (da_nil)))) (dss_nil)))) (dssh_cons (dsh_of (ds_set hN (by rfl) (by first | exact .inl rfl | exact .inr rfl) (de_split (de_var (pv 4)) (de_str)))) (dssh_cons (dsh_of (ds_set hN (by rfl) (by first | exact .inl rfl | exact .inr rfl) (de_ifExp (dt_eq (un64 hr) (do_v (de_ix (do_o (pv 5)) (do_v (de_int)))) (do_v (de_gstr T.c_VISIT.choose_spec))) (de_callD D_visit_in (hr.mono (by decide)) (da_cons (do_v (de_slice (do_o (pv 5)) (dp_some (de_int)) dp_none)) (da_nil))) (de_non)))) (dssh_cons (dsh_tryR T.x_GateError T.h_BadNote (by rfl) (by rfl) (by rfl) (L2H.passesAt_of rfl) (hr.mono (by decide)) (by rfl) (by rfl) (fun pn xe hp => dss_one (ds_expr (de_makeD D_Lane (hr.mono (by decide)) (da_cons (do_v (de_add (do_o (pv 2)) (do_v (de_lst (da_cons (do_v (de_var (pv 6))) (da_nil)))))) (da_nil))))) (fun a pn => da_cons (do_v (de_var (pv 3))) (da_nil))) (dssh_one (dsh_of (ds_append (pv 2) (de_var (pv 6)) (fun _ h => pe_bm PySem.F.plainAttrs_list PySem.F.slot_list_append PySem.F.type_list_append mt_append (pv 2) (pa_cons h pa_nil))))))))))) (dssh_one (dsh_of (ds_frz 2 (ds_ret (de_makeD D_Lane (hr.mono (by decide)) (da_cons (do_v (de_var (pv 2))) (da_nil)))))))))
theorem sc_ulaw_ended : FnScope ["lines", "line"] ["lines"] (defScope s_ulaw_ended) := ⟨rfl, rfl, rfl, by decide +kernel, rfl, by decide +kernel, by decide +kernel⟩
theorem nd_ulaw_ended : (["lines", "line"] : List Str).Nodup := by decide +kernel
theorem ok_ulaw_ended {f : Addr} {fd : FuncData} (T : Txt P w K mg base) (F : Fun K "_law_ended" "_law_ended" s_ulaw_ended f fd) (hm : mg "_law_ended" = some (.ref f)) (D_ulaw_feed : DefOk P w K mg base "_law_feed" 1 f_ulaw_feed) : DefOk P w K mg base "_law_ended" 2 f_ulaw_ended :=
  def_ok (N := ["lines", "line"]) (ps := ["lines"]) (loc := 1) F hm (F.binds (ps := ["lines"]) fun _ _ _ _ _ _ us hl => match us, hl with | [_], _ => rfl) sc_ulaw_ended rfl <| fun cdv A outer s H E hr => by
    have hN := nd_ulaw_ended
    have hp : PassesOwn (model P w) (A.deeper (PyProof.Rows.envOfC "_law_ended" (defScope s_ulaw_ended) s.heap.objs.size f cdv)) (PyProof.Rows.envOfC "_law_ended" (defScope s_ulaw_ended) s.heap.objs.size f cdv) (cxOf (L2N.CX P w) P w K mg base ["lines", "line"] "_law_ended" (defScope s_ulaw_ended) f cdv A outer s H E).xe := passes_of rfl
    exact dss_one (ds_ret (de_join (de_str) (de_lc (own := [("line", 1)]) (by rfl) hN (di_seq (de_var (pv 0))) (by rfl) (fun _ _ _ _ _ => dgn 1 hN) (fun _ _ _ _ _ => dts_nil) (fun _ _ _ _ _ => de_add (do_o (pv 1)) (do_v (de_callD0 D_ulaw_feed (hr.mono (by decide))))))))
theorem sc_ulaw_refused : FnScope ["text", "e"] ["text"] (defScope s_ulaw_refused) := ⟨rfl, rfl, rfl, by decide +kernel, rfl, by decide +kernel, by decide +kernel⟩
theorem nd_ulaw_refused : (["text", "e"] : List Str).Nodup := by decide +kernel
theorem ok_ulaw_refused {f : Addr} {fd : FuncData} (T : Txt P w K mg base) (F : Fun K "_law_refused" "_law_refused" s_ulaw_refused f fd) (hm : mg "_law_refused" = some (.ref f)) (D_parse_lane : DefOkC P w K mg base "parse_lane" 13 f_parse_lane) : DefOk P w K mg base "_law_refused" 14 f_ulaw_refused :=
  def_ok (N := ["text", "e"]) (ps := ["text"]) (loc := 1) F hm (F.binds (ps := ["text"]) fun _ _ _ _ _ _ us hl => match us, hl with | [_], _ => rfl) sc_ulaw_refused rfl <| fun cdv A outer s H E hr => by
    have hN := nd_ulaw_refused
    have hp : PassesOwn (model P w) (A.deeper (PyProof.Rows.envOfC "_law_refused" (defScope s_ulaw_refused) s.heap.objs.size f cdv)) (PyProof.Rows.envOfC "_law_refused" (defScope s_ulaw_refused) s.heap.objs.size f cdv) (cxOf (L2N.CX P w) P w K mg base ["text", "e"] "_law_refused" (defScope s_ulaw_refused) f cdv A outer s H E).xe := passes_of rfl
    exact dss_cons (ds_tryC T.x_BadNote (by rfl) (by rfl) (by rfl) hN (by rfl) (by rfl) (by rfl) (fun pn xe hp => dssh_one (dsh_expr (deh_callD D_parse_lane (hr.mono (by decide)) (da_cons (do_v (de_var (pv 0))) (da_nil))))) (fun a oe cls d pn hz hv => dss_one (ds_ret (de_xfT T.x_BadNote (by decide) hz hv (pv 1))))) (dss_one (ds_ret (de_non)))
theorem sc_law : FnScope ["script", "row", "visits", "rows", "text", "at", "bad", "value", "line", "words", "one"] ["script"] (defScope s_law) := ⟨rfl, rfl, rfl, by decide +kernel, rfl, by decide +kernel, by decide +kernel⟩
theorem nd_law : (["script", "row", "visits", "rows", "text", "at", "bad", "value", "line", "words", "one"] : List Str).Nodup := by decide +kernel
theorem ok_law {f : Addr} {fd : FuncData} (T : Txt P w K mg base) (F : Fun K "law" "law" s_law f fd) (D_ulaw_visits : DefOk P w K mg base "_law_visits" 5 f_ulaw_visits) (D_ulaw_ended : DefOk P w K mg base "_law_ended" 2 f_ulaw_ended) (D_Lane : MakeOk P w K mg base "Lane" 11 f_Lane_uuinit__) (D_format_lane : DefOk P w K mg base "format_lane" 1 f_format_lane) (D_parse_lane : DefOkC P w K mg base "parse_lane" 13 f_parse_lane) (Q_Lane : EqOk P w K mg base "Lane" 1 f_Lane_uueq__) (D_ulaw_refused : DefOk P w K mg base "_law_refused" 14 f_ulaw_refused) (D_ulaw_feed : DefOk P w K mg base "_law_feed" 1 f_ulaw_feed) (D_ulaw_taken : DefOk P w K mg base "_law_taken" 1 f_ulaw_taken) : FnOk P w K mg base (L2N.CX P w) 15 f fd ["script"] (spD K mg f_law) :=
  fn_ok (N := ["script", "row", "visits", "rows", "text", "at", "bad", "value", "line", "words", "one"]) (ps := ["script"]) (loc := 10) F sc_law rfl <| fun cdv A outer s H E hr => by
    have hN := nd_law
    have hp : PassesOwn (model P w) (A.deeper (PyProof.Rows.envOfC "law" (defScope s_law) s.heap.objs.size f cdv)) (PyProof.Rows.envOfC "law" (defScope s_law) s.heap.objs.size f cdv) (cxOf (L2N.CX P w) P w K mg base ["script", "row", "visits", "rows", "text", "at", "bad", "value", "line", "words", "one"] "law" (defScope s_law) f cdv A outer s H E).xe := passes_of rfl
    exact dss_cons (ds_own hN (by rfl) (by first | exact .inl rfl | exact .inr rfl) (da_cons (do_v (de_var (pv 0))) (da_cons (do_v (de_int)) (da_cons (do_v (de_int)) (da_cons (do_v (de_int)) (da_nil)))))) (dss_cons (ds_set hN (by rfl) (by first | exact .inl rfl | exact .inr rfl) (de_callD D_ulaw_visits (hr.mono (by decide)) (da_cons ((do_o (pv 1))) (da_cons (do_v (de_int)) (da_cons (do_v (de_int)) (da_cons (do_v (de_int)) (da_cons (do_v (de_int)) (da_nil)))))))) (dss_cons (ds_setLc (own := [("one", 10)]) (by rfl) hN (by rfl) (by rfl) (by rfl) (di_seq (de_var (pv 2))) (by rfl) (fun _ _ _ _ _ => dgn 10 hN) (fun _ _ _ _ _ => dts_nil) (fun _ _ _ _ _ => de_join (de_str) (de_lst (da_cons (do_v (de_str)) (da_cons (do_v (de_ix (do_o (pv 10)) (do_v (de_int)))) (da_cons (do_v (de_strc (by rfl) T.n_str (da_cons ((do_v (de_ix (do_o (pv 10)) (do_v (de_int))))) (da_nil)))) (da_cons (do_v (de_strc (by rfl) T.n_str (da_cons ((do_v (de_ix (do_o (pv 10)) (do_v (de_int))))) (da_nil)))) (da_cons (do_v (de_strc (by rfl) T.n_str (da_cons ((do_v (de_ix (do_o (pv 10)) (do_v (de_int))))) (da_nil)))) (da_nil))))))))) (dss_cons (ds_set hN (by rfl) (by first | exact .inl rfl | exact .inr rfl) (de_callD D_ulaw_ended (hr.mono (by decide)) (da_cons (do_v (de_var (pv 3))) (da_nil)))) (dss_cons (ds_if (dt_w (dw_or (dt_ne (un64 hr) (do_v (de_callD D_format_lane (hr.mono (by decide)) (da_cons (do_v (de_makeD D_Lane (hr.mono (by decide)) (da_cons (do_v (de_var (pv 2))) (da_nil)))) (da_nil)))) (do_o (pv 4))) (dw_or (dt_neO Q_Lane (hr.mono (by decide)) (do_v (de_callD D_parse_lane.no (hr.mono (by decide)) (da_cons (do_v (de_var (pv 4))) (da_nil)))) (do_v (de_makeD D_Lane (hr.mono (by decide)) (da_cons (do_v (de_var (pv 2))) (da_nil))))) (dw_or1 (dt_neO Q_Lane (hr.mono (by decide)) (do_v (de_callD D_parse_lane.no (hr.mono (by decide)) (da_cons (do_v (de_str)) (da_nil)))) (do_v (de_makeD D_Lane (hr.mono (by decide)) (da_cons (do_v (de_lst (da_nil))) (da_nil))))))))) (dss_one (ds_ret (de_bl))) (dss_nil)) (dss_cons (ds_if (dt_w (dw_or (dt_ne (un64 hr) (do_v (de_callD D_ulaw_refused (hr.mono (by decide)) (da_cons (do_v (de_add (do_o (pv 4)) (do_v (de_str)))) (da_nil)))) (do_v (de_add (do_v (de_len (by rfl) T.n_len (da_cons ((do_o (pv 3))) (da_nil)))) (do_v (de_int))))) (dw_or (dt_ne (un64 hr) (do_v (de_callD D_ulaw_refused (hr.mono (by decide)) (da_cons (do_v (de_add (do_o (pv 4)) (do_v (de_callD0 D_ulaw_feed (hr.mono (by decide)))))) (da_nil)))) (do_v (de_add (do_v (de_len (by rfl) T.n_len (da_cons ((do_o (pv 3))) (da_nil)))) (do_v (de_int))))) (dw_or1 (dt_ne (un64 hr) (do_v (de_callD D_ulaw_refused (hr.mono (by decide)) (da_cons (do_v (de_callD0 D_ulaw_feed (hr.mono (by decide)))) (da_nil)))) (do_v (de_int))))))) (dss_one (ds_ret (de_bl))) (dss_nil)) (dss_cons (ds_if (dt_eq (un64 hr) (do_o (pv 3)) (do_v (de_lst (da_nil)))) (dss_one (ds_ret (de_bl))) (dss_nil)) (dss_cons (ds_set hN (by rfl) (by first | exact .inl rfl | exact .inr rfl) (de_callD D_ulaw_taken (hr.mono (by decide)) (da_cons ((do_o (pv 1))) (da_cons (do_v (de_len (by rfl) T.n_len (da_cons ((do_o (pv 3))) (da_nil)))) (da_nil))))) (dss_cons (ds_par (by rfl) hN (by rfl) (by rfl) (by decide) (by rfl) (by rfl) (da_cons (do_v (de_ix (do_o (pv 3)) (do_o (pv 5)))) (da_cons (do_v (de_split (de_ix (do_o (pv 3)) (do_o (pv 5))) (de_str))) (da_nil)))) (dss_cons (ds_own hN (by rfl) (by first | exact .inl rfl | exact .inr rfl) (da_consS (dat_cons (dot_of (do_v (de_add (do_o (pv 8)) (do_v (de_str))))) (dat_cons (dot_of (do_v (de_add (do_v (de_str)) (do_o (pv 8))))) (dat_cons (dot_v (det_repl1 (de_var (pv 8)))) (dat_cons (dot_of (do_v (de_ix (do_o (pv 9)) (do_v (de_int))))) (dat_cons (dot_of (do_v (de_upper (de_var (pv 8))))) (dat_cons (dot_of (do_v (de_add (do_v (de_str)) (do_v (de_ix (do_o (pv 9)) (do_v (de_int))))))) (dat_cons (dot_of (do_v (de_add (do_o (pv 8)) (do_v (de_str))))) (dat_cons (dot_of (do_v (de_add (do_v (de_str)) (do_v (de_join (de_str) (de_slice (do_o (pv 9)) (dp_some (de_int)) dp_none)))))) (dat_cons (dot_of (do_v (de_join (de_str) (de_slice (do_o (pv 9)) dp_none (dp_some (de_neg (do_v (de_int)))))))) (dat_of da_nil)))))))))))) (dss_cons (ds_for hp (by rfl) (di_seq (de_lst (da_cons (do_v (de_str)) (da_cons (do_v (de_str)) (da_cons (do_v (de_str)) (da_cons (do_v (de_str)) (da_cons (do_v (de_str)) (da_cons (do_v (de_str)) (da_cons (do_v (de_str)) (da_cons (do_v (de_str)) (da_nil))))))))))) (dgn 7 hN) (dss_one (ds_append (pv 6) (de_join (de_str) (de_add (do_v (de_slice (do_o (pv 9)) dp_none (dp_some (de_neg (do_v (de_int)))))) (do_v (de_lst (da_cons (do_v (de_var (pv 7))) (da_nil)))))) (fun _ h => pe_bm PySem.F.plainAttrs_list PySem.F.slot_list_append PySem.F.type_list_append mt_append (pv 6) (pa_cons h pa_nil))))) (dss_cons (ds_frz 6 (ds_set hN (by rfl) (by first | exact .inl rfl | exact .inr rfl) (de_add (do_o (pv 6)) (do_v (de_lst (da_cons (do_v (de_join (de_str) (de_add (do_v (de_add (do_v (de_slice (do_o (pv 9)) dp_none (dp_some (de_int)))) (do_v (de_lst (da_cons (do_v (de_str)) (da_nil)))))) (do_v (de_slice (do_o (pv 9)) (dp_some (de_int)) dp_none))))) (da_cons (do_v (de_join (de_str) (de_add (do_v (de_add (do_v (de_slice (do_o (pv 9)) dp_none (dp_some (de_int)))) (do_v (de_lst (da_cons (do_v (de_str)) (da_nil)))))) (do_v (de_slice (do_o (pv 9)) (dp_some (de_int)) dp_none))))) (da_cons (do_v (de_join (de_str) (de_add (do_v (de_add (do_v (de_slice (do_o (pv 9)) dp_none (dp_some (de_int)))) (do_v (de_lst (da_cons (do_v (de_str)) (da_nil)))))) (do_v (de_slice (do_o (pv 9)) (dp_some (de_int)) dp_none))))) (da_nil))))))))) (dss_cons (ds_frz 6 (ds_for hp (by rfl) (di_seq (de_var (pv 6))) (dgn 7 hN) (dss_one (ds_if (dt_ne (un64 hr) (do_v (de_callD D_ulaw_refused (hr.mono (by decide)) (da_cons (do_v (de_callD D_ulaw_ended (hr.mono (by decide)) (da_cons (do_v (de_add (do_v (de_add (do_v (de_slice (do_o (pv 3)) dp_none (dp_some (de_var (pv 5))))) (do_v (de_lst (da_cons (do_v (de_var (pv 7))) (da_nil)))))) (do_v (de_slice (do_o (pv 3)) (dp_some (de_add (do_o (pv 5)) (do_v (de_int)))) dp_none)))) (da_nil)))) (da_nil)))) (do_v (de_add (do_o (pv 5)) (do_v (de_int))))) (dss_one (ds_ret (de_bl))) (dss_nil))))) (dss_one (ds_ret (de_and (de_eq (un64 hr) (do_v (de_callD D_ulaw_refused (hr.mono (by decide)) (da_cons (do_v (de_slice (do_o (pv 4)) dp_none (dp_some (de_neg (do_v (de_int)))))) (da_nil)))) (do_v (de_len (by rfl) T.n_len (da_cons ((do_o (pv 3))) (da_nil))))) (de_one1 (de_eq (un64 hr) (do_v (de_callD D_ulaw_refused (hr.mono (by decide)) (da_cons (do_v (de_callD D_ulaw_ended (hr.mono (by decide)) (da_cons (do_v (de_add (do_v (de_slice (do_o (pv 3)) dp_none (dp_some (de_add (do_o (pv 5)) (do_v (de_int)))))) (do_v (de_slice (do_o (pv 3)) (dp_some (de_var (pv 5))) dp_none)))) (da_nil)))) (da_nil)))) (do_v (de_add (do_o (pv 5)) (do_v (de_int)))))))))))))))))))))
end
end DL
namespace DL
open PySem L2
def cl (s : Str) : List Nat := s.cps.toList
theorem cl_ext {a b : Str} (h : cl a = cl b) : a = b := Str.ext' (Array.toList_inj.mp h)
theorem cl_app (a b : Str) : cl (a ++ b) = cl a ++ cl b := by
  show (a.cps ++ b.cps).toList = _
  rw [Array.toList_append]; rfl
theorem cl_len (a : Str) : a.length = (cl a).length := by
  show a.cps.size = a.cps.toList.length
  rw [Array.length_toList]
theorem cl_mk (l : List Nat) : cl ⟨l.toArray⟩ = l := by
  show l.toArray.toList = l
  simp
theorem join_one (s p : Str) : Str.join s [p] = p := by
  try rfl
theorem join_two (s p q : Str) (r : List Str) : Str.join s (p :: q :: r) = p ++ s ++ Str.join s (q :: r) := by
  try rfl
theorem cl_join_two (c : Nat) (p q : Str) (r : List Str) : cl (Str.join ⟨#[c]⟩ (p :: q :: r)) = cl p ++ c :: cl (Str.join ⟨#[c]⟩ (q :: r)) := by
  rw [join_two, cl_app, cl_app]
  simp [cl]
/-- what stands ahead of the first c -/
theorem cut_eq {c : Nat} : ∀ {a b r s : List Nat}, c ∉ a → c ∉ b → a ++ c :: r = b ++ c :: s → a = b ∧ r = s
  | [], [], r, s, _, _, h => by simpa using h
  | [], y :: b, r, s, _, hb, h => by
    have : c = y := by simpa using (List.cons.inj h).1
    subst this
    simp at hb
  | x :: a, [], r, s, ha, _, h => by
    have : x = c := by simpa using (List.cons.inj h).1
    subst this
    simp at ha
  | x :: a, y :: b, r, s, ha, hb, h => by
    obtain ⟨rfl, h'⟩ := List.cons.inj h
    obtain ⟨rfl, h2⟩ := cut_eq (fun z => ha (List.mem_cons_of_mem _ z)) (fun z => hb (List.mem_cons_of_mem _ z)) h'
    exact ⟨rfl, h2⟩
theorem join_inj {c : Nat} : ∀ {ps qs : List Str}, ps ≠ [] → qs ≠ [] → (∀ p ∈ ps, c ∉ cl p) → (∀ p ∈ qs, c ∉ cl p) → cl (Str.join ⟨#[c]⟩ ps) = cl (Str.join ⟨#[c]⟩ qs) → ps = qs
  | [], _, h, _, _, _, _ => absurd rfl h
  | _ :: _, [], _, h, _, _, _ => absurd rfl h
  | [p], [q], _, _, _, _, h => by
    rw [join_one, join_one] at h
    rw [cl_ext h]
  | [p], q :: q' :: qs, _, _, h1, _, h => by
    rw [join_one, cl_join_two] at h
    exact absurd (show c ∈ cl p by rw [h]; simp) (h1 p (by simp))
  | p :: p' :: ps, [q], _, _, _, h2, h => by
    rw [join_one, cl_join_two] at h
    exact absurd (show c ∈ cl q by rw [← h]; simp) (h2 q (by simp))
  | p :: p' :: ps, q :: q' :: qs, _, _, h1, h2, h => by
    rw [cl_join_two, cl_join_two] at h
    obtain ⟨e1, e2⟩ := cut_eq (h1 p (by simp)) (h2 q (by simp)) h
    have e3 := join_inj (by simp) (by simp) (fun x hx => h1 x (List.mem_cons_of_mem _ hx)) (fun x hx => h2 x (List.mem_cons_of_mem _ hx)) e2
    rw [cl_ext e1, e3]
theorem split_ne (x y : Str) : Txt.split x y ≠ [] := by
  unfold Txt.split
  split
  · simp
  · split
    · simp
    · intro h
      have := PySem.length_partsBetween x (Builtin.Str.occurrences x y 0 x.length (x.length + 1)) y.length
      rw [h] at this
      simp at this
theorem split_join {c : Nat} {ps : List Str} (hn : ps ≠ []) (h : ∀ p ∈ ps, c ∉ cl p) : Txt.split (Str.join ⟨#[c]⟩ ps) ⟨#[c]⟩ = ps :=
  join_inj (split_ne _ _) hn (StrLaws.split_free _ c) h (by rw [StrLaws.join_split])
theorem txt_join (s : Str) (ps : List Str) : Txt.join s ps = Str.join s ps := StrLaws.glued_eq_join s ps
theorem nl_eq : ("\n" : Str) = ⟨#[10]⟩ := by first | rfl | decide
theorem sp_eq : (" " : Str) = ⟨#[32]⟩ := by first | rfl | decide
theorem empty_eq : ("" : Str) = Str.empty := by first | rfl | decide
theorem cl_empty : cl Str.empty = [] := by first | rfl | decide
/-- rows, each with its end -/
def ended (rows : List Str) : Str := Txt.join "" (rows.map fun r => r ++ "\n")
theorem join_empty_cons (p : Str) (r : List Str) : Str.join "" (p :: r) = p ++ Str.join "" r := by
  cases r with
  | nil =>
    rw [join_one]
    show p = p ++ Str.empty
    rw [Str.append_empty]
  | cons q r =>
    rw [join_two, empty_eq, Str.append_empty]
theorem ended_join : ∀ (rows : List Str) (last : Str), ended rows ++ last = Str.join ⟨#[10]⟩ (rows ++ [last])
  | [], last => by
    show Txt.join "" [] ++ last = _
    rw [txt_join]
    show Str.empty ++ last = Str.join _ [last]
    rw [Str.empty_append, join_one]
  | r :: rows, last => by
    have ih := ended_join rows last
    unfold ended at ih ⊢
    rw [txt_join] at ih ⊢
    rw [List.map_cons, join_empty_cons, Str.append_assoc, ih]
    cases h : rows ++ [last] with
    | nil => simp at h
    | cons q qs =>
      rw [List.cons_append, h, join_two, nl_eq]
theorem split_ended {rows : List Str} {last : Str} (h : ∀ r ∈ rows, 10 ∉ cl r) (hl : 10 ∉ cl last) : Txt.split (ended rows ++ last) "\n" = rows ++ [last] := by
  rw [ended_join, nl_eq]
  refine split_join (by simp) fun p hp => ?_
  rcases List.mem_append.mp hp with q | q
  · exact h p q
  · simp at q; subst q; exact hl
theorem ended_app (a b : List Str) : ended (a ++ b) = ended a ++ ended b := by
  induction a with
  | nil =>
    show _ = Txt.join "" [] ++ _
    rw [txt_join]
    exact (Str.empty_append _).symm
  | cons x a ih =>
    unfold ended at ih ⊢
    rw [txt_join, txt_join, txt_join] at ih
    rw [txt_join, txt_join, txt_join, List.cons_append, List.map_cons, List.map_cons, join_empty_cons, join_empty_cons, ih]
    simp only [Str.append_assoc]
theorem ended_one (r : Str) : ended [r] = r ++ "\n" := by
  unfold ended
  rw [txt_join]
  exact join_one _ _
theorem ended_nil : ended [] = "" := by
  unfold ended
  rw [txt_join]
  rfl
/-- its length -/
theorem ended_len : ∀ rows : List Str, (ended rows).length = (rows.map fun r => r.length + 1).sum
  | [] => by rw [ended_nil]; rfl
  | r :: rows => by
    rw [show r :: rows = [r] ++ rows from rfl, ended_app, ended_one, Str.length_append, Str.length_append, ended_len rows]
    simp
    try rfl
end DL
namespace DL
open PySem L2
def numS (n : Nat) : Str := Str.ofString (toString ((n : Nat) : Int))
theorem cl_num (n : Nat) : cl (numS n) = TL.numL n := TL.tl_num n
theorem numL_head : ∀ (n : Nat), 1 ≤ n → ∃ c r, TL.numL n = c :: r ∧ c ≠ 48
  | n, h => by
    by_cases h2 : n < 10
    · exact ⟨48 + n, [], TL.numL_lt h2, by omega⟩
    · obtain ⟨c, r, e, hc⟩ := numL_head (n / 10) (by omega)
      exact ⟨c, r ++ [48 + n % 10], by rw [TL.numL_step (by omega), e]; rfl, hc⟩
structure Vis where
  name : Str
  m : Nat
  l : Nat
  w : Nat
/-- a name -/
def NameOk (s : Str) : Prop := ∃ c r, cl s = c :: r ∧ (97 ≤ c ∧ c ≤ 122) ∧ (∀ x ∈ r, (97 ≤ x ∧ x ≤ 122) ∨ (48 ≤ x ∧ x ≤ 57)) ∧ r.length ≤ 11
structure VisOk (v : Vis) : Prop where
  name : NameOk v.name
  m : v.m ≤ 2000
  l : v.l ≤ 400
  w1 : 1 ≤ v.w
  w2 : v.w ≤ 400
def wordsOf (v : Vis) : List Str := ["visit", v.name, numS v.m, numS v.l, numS v.w]
def line (v : Vis) : Str := Txt.join " " (wordsOf v)
theorem name_free {s : Str} (h : NameOk s) {c : Nat} (hc : c < 48) : c ∉ cl s := fun hm => by
  obtain ⟨a, r, e, h1, h2, _⟩ := h
  rw [e] at hm
  rcases List.mem_cons.mp hm with rfl | hm
  · omega
  · rcases h2 c hm with h | h <;> omega
theorem num_free {n c : Nat} (h : c < 48) : c ∉ cl (numS n) := by
  rw [cl_num]
  exact TL.numL_free (.inl h)
theorem visit_cl : cl "visit" = [118, 105, 115, 105, 116] := by first | rfl | decide
theorem words_free {v : Vis} (h : VisOk v) {c : Nat} (hc : c < 48) : ∀ p ∈ wordsOf v, c ∉ cl p := by
  intro p hp
  unfold wordsOf at hp
  simp only [List.mem_cons, List.not_mem_nil, or_false] at hp
  rcases hp with rfl | rfl | rfl | rfl | rfl
  · rw [visit_cl]; simp; omega
  · exact name_free h.name hc
  · exact num_free hc
  · exact num_free hc
  · exact num_free hc
theorem split_words {ws : List Str} (hn : ws ≠ []) (h : ∀ p ∈ ws, 32 ∉ cl p) : Txt.split (Txt.join " " ws) " " = ws := by
  rw [txt_join, sp_eq]
  exact split_join hn h
theorem join_snoc (s q : Str) : ∀ {ps : List Str}, ps ≠ [] → Str.join s (ps ++ [q]) = Str.join s ps ++ s ++ q
  | [], h => absurd rfl h
  | [p], _ => by
    show Str.join s (p :: q :: []) = _
    rw [join_two, join_one, join_one]
  | p :: p' :: ps, _ => by
    have ih := join_snoc s q (ps := p' :: ps) (by simp)
    show Str.join s (p :: p' :: (ps ++ [q])) = _
    rw [join_two, join_two, show p' :: (ps ++ [q]) = (p' :: ps) ++ [q] from rfl, ih]
    simp only [Str.append_assoc]
theorem join_free {s : Str} {c : Nat} (hs : c ∉ cl s) : ∀ {ps : List Str}, (∀ p ∈ ps, c ∉ cl p) → c ∉ cl (Str.join s ps)
  | [], _ => by rw [show Str.join s [] = Str.empty from rfl, cl_empty]; simp
  | [p], h => by rw [join_one]; exact h p (by simp)
  | p :: q :: r, h => by
    rw [join_two, cl_app, cl_app]
    simp only [List.mem_append, not_or]
    exact ⟨⟨h p (by simp), hs⟩, join_free hs fun x hx => h x (List.mem_cons_of_mem _ hx)⟩
theorem sp_cl : cl " " = [32] := by first | rfl | decide
theorem line_free {v : Vis} (h : VisOk v) : 10 ∉ cl (line v) := by
  unfold line
  rw [txt_join]
  exact join_free (by rw [sp_cl]; decide) (words_free h (by decide))
theorem line_split {v : Vis} (h : VisOk v) : Txt.split (line v) " " = wordsOf v := split_words (by unfold wordsOf; simp) (words_free h (by decide))
theorem num_len {n k : Nat} (hk : 0 < k) (h : n < 10 ^ k) : (numS n).length ≤ k := by
  rw [cl_len, cl_num]
  exact TL.numL_len hk h
theorem name_len {s : Str} (h : NameOk s) : 1 ≤ s.length ∧ s.length ≤ 12 := by
  obtain ⟨a, r, e, _, _, h3⟩ := h
  rw [cl_len, e]
  simp
  omega
theorem line_len {v : Vis} (h : VisOk v) : (line v).length ≤ 40 := by
  unfold line wordsOf
  rw [txt_join]
  simp only [join_two, join_one, Str.length_append]
  have h1 := (name_len h.name).2
  have h2 := num_len (n := v.m) (k := 4) (by decide) (by have := h.m; omega)
  have h3 := num_len (n := v.l) (k := 4) (by decide) (by have := h.l; omega)
  have h4 := num_len (n := v.w) (k := 4) (by decide) (by have := h.w2; omega)
  have h5 : ("visit" : Str).length = 5 := by first | rfl | decide
  have h6 : (" " : Str).length = 1 := by first | rfl | decide
  rw [h5, h6]
  omega
theorem occ_visit {r : List Nat} : Builtin.Str.occurrences ⟨(118 :: 105 :: 115 :: 105 :: 116 :: 32 :: r).toArray⟩ ⟨#[32]⟩ 0 (⟨(118 :: 105 :: 115 :: 105 :: 116 :: 32 :: r).toArray⟩ : Str).length 1 = [5] := by
  have at_ : ∀ i, StrLaws.At ⟨(118 :: 105 :: 115 :: 105 :: 116 :: 32 :: r).toArray⟩ ⟨#[32]⟩ (⟨(118 :: 105 :: 115 :: 105 :: 116 :: 32 :: r).toArray⟩ : Str).length i ↔ (118 :: 105 :: 115 :: 105 :: 116 :: 32 :: r)[i]? = some 32 := fun i => by
    have := StrLaws.subAt_one ⟨(118 :: 105 :: 115 :: 105 :: 116 :: 32 :: r).toArray⟩ 32 i
    exact this
  rcases StrLaws.occ_head ⟨(118 :: 105 :: 115 :: 105 :: 116 :: 32 :: r).toArray⟩ ⟨#[32]⟩ 1 (Nat.le_refl _) with ⟨_, h⟩ | ⟨i, t, e, h1, h2⟩
  · exact absurd ((at_ 5).mpr rfl) (h 5)
  · have hl := StrLaws.occ_length_le ⟨(118 :: 105 :: 115 :: 105 :: 116 :: 32 :: r).toArray⟩ ⟨#[32]⟩ 0 (⟨(118 :: 105 :: 115 :: 105 :: 116 :: 32 :: r).toArray⟩ : Str).length 1
    rw [e] at hl ⊢
    have ht : t = [] := by
      cases t with
      | nil => rfl
      | cons _ _ => simp at hl
    subst ht
    have hi : i = 5 := by
      have q := (at_ i).mp h1
      rcases Nat.lt_trichotomy i 5 with z | z | z
      · exfalso
        have : i = 0 ∨ i = 1 ∨ i = 2 ∨ i = 3 ∨ i = 4 := by omega
        rcases this with rfl | rfl | rfl | rfl | rfl <;> simp at q
      · exact z
      · exact absurd ((at_ 5).mpr rfl) (h2 5 z)
    rw [hi]
theorem rep_visit {x : Str} {r : List Nat} (h : cl x = 118 :: 105 :: 115 :: 105 :: 116 :: 32 :: r) : cl (replace1 x " " "  ") = 118 :: 105 :: 115 :: 105 :: 116 :: 32 :: 32 :: r := by
  have ex : x = ⟨(118 :: 105 :: 115 :: 105 :: 116 :: 32 :: r).toArray⟩ := cl_ext (by rw [h, cl_mk])
  subst ex
  unfold replace1
  rw [sp_eq, occ_visit]
  have e2 : (("  " : Str).length == 0) = false := by decide
  rw [if_neg (by rw [e2]; simp)]
  rw [StrLaws.partsBetween_eq]
  show cl (Builtin.Str.glued "  " (StrLaws.partsFrom _ 1 0 [5])) = _
  simp only [StrLaws.partsFrom, StrLaws.glued_eq_join, join_two, join_one, cl_app]
  have s1 : ∀ i j, cl (Builtin.Str.strSub ⟨(118 :: 105 :: 115 :: 105 :: 116 :: 32 :: r).toArray⟩ i j) = ((118 :: 105 :: 115 :: 105 :: 116 :: 32 :: r).drop i).take (j - i) := fun i j => by
    have := StrLaws.strSub_toList ⟨(118 :: 105 :: 115 :: 105 :: 116 :: 32 :: r).toArray⟩ i j
    exact this
  have e3 : cl "  " = [32, 32] := by first | rfl | decide
  rw [s1, s1, e3]
  simp [Str.length]
theorem line_cl (v : Vis) : cl (line v) = 118 :: 105 :: 115 :: 105 :: 116 :: 32 :: cl (Str.join ⟨#[32]⟩ [v.name, numS v.m, numS v.l, numS v.w]) := by
  unfold line wordsOf
  rw [txt_join, sp_eq, cl_join_two, visit_cl]
  rfl
theorem rep_line (v : Vis) : replace1 (line v) " " "  " = Txt.join " " ["visit", "", v.name, numS v.m, numS v.l, numS v.w] := by
  refine cl_ext ?_
  have e : cl (Txt.join " " ["visit", "", v.name, numS v.m, numS v.l, numS v.w]) = cl "visit" ++ 32 :: (cl "" ++ 32 :: cl (Str.join ⟨#[32]⟩ [v.name, numS v.m, numS v.l, numS v.w])) := by
    rw [txt_join, sp_eq, cl_join_two, cl_join_two]
  rw [rep_visit (line_cl v), e, visit_cl, empty_eq, cl_empty]
  rfl
theorem flat_idx (f : Nat → List Nat) : ∀ l : List Nat, (List.map Array.toList (List.mapIdx (fun _ a => (f a).toArray) l)).flatten = l.flatMap f
  | [] => rfl
  | c :: r => by
    rw [List.mapIdx_cons, List.map_cons, List.flatten_cons, List.flatMap_cons]
    rw [flat_idx f r]
theorem upper_cl (x : Str) : cl (Txt.upper x) = (cl x).flatMap Unicode.upperOf := by
  unfold Txt.upper cl
  show ((x.cps.mapIdx fun i c => (Unicode.upperOf c).toArray).flatten).toList = _
  rw [Array.toList_flatten, Array.toList_mapIdx]
  exact flat_idx _ _
theorem upper_all : ((32 :: List.range' 48 10 ++ List.range' 97 26).all fun c => decide ((Unicode.upperOf c).length ≤ 3) && !(Unicode.upperOf c).contains 10) = true := by
  first
  | kernel_rfl
  | decide +kernel
theorem upper_v : Unicode.upperOf 118 = [86] := by
  first
  | kernel_rfl
  | decide +kernel
theorem line_signs {v : Vis} (h : VisOk v) : ∀ c ∈ cl (line v), c = 32 ∨ (48 ≤ c ∧ c ≤ 57) ∨ (97 ≤ c ∧ c ≤ 122) := by
  have hn : ∀ n, ∀ c ∈ cl (numS n), c = 32 ∨ (48 ≤ c ∧ c ≤ 57) ∨ (97 ≤ c ∧ c ≤ 122) := fun n c hc => by
    rw [cl_num] at hc
    exact .inr (.inl (TL.numL_digits n c hc))
  have hj : ∀ (a : Str) (r : List Nat), (∀ c ∈ cl a, c = 32 ∨ (48 ≤ c ∧ c ≤ 57) ∨ (97 ≤ c ∧ c ≤ 122)) → (∀ c ∈ r, c = 32 ∨ (48 ≤ c ∧ c ≤ 57) ∨ (97 ≤ c ∧ c ≤ 122)) → ∀ c ∈ cl a ++ 32 :: r, c = 32 ∨ (48 ≤ c ∧ c ≤ 57) ∨ (97 ≤ c ∧ c ≤ 122) := fun a r h1 h2 c hc => by
    rcases List.mem_append.mp hc with q | q
    · exact h1 c q
    · rcases List.mem_cons.mp q with rfl | q
      · exact .inl rfl
      · exact h2 c q
  unfold line wordsOf
  rw [txt_join, sp_eq, cl_join_two, cl_join_two, cl_join_two, cl_join_two, join_one]
  refine hj _ _ ?_ (hj _ _ ?_ (hj _ _ (hn _) (hj _ _ (hn _) (hn _))))
  · rw [visit_cl]
    intro c hc
    simp at hc
    omega
  · obtain ⟨a, r, e, h1, h2, _⟩ := h.name
    rw [e]
    intro c hc
    rcases List.mem_cons.mp hc with rfl | hc
    · exact .inr (.inr h1)
    · rcases h2 c hc with q | q
      · exact .inr (.inr q)
      · exact .inr (.inl q)
theorem upper_sign {c : Nat} (h : c = 32 ∨ (48 ≤ c ∧ c ≤ 57) ∨ (97 ≤ c ∧ c ≤ 122)) : (Unicode.upperOf c).length ≤ 3 ∧ 10 ∉ Unicode.upperOf c := by
  have q := List.all_eq_true.mp upper_all c (by
    simp only [List.cons_append, List.mem_cons, List.mem_append, List.mem_range'_1]
    omega)
  simp only [Bool.and_eq_true, decide_eq_true_eq, Bool.not_eq_true', List.contains_eq_mem, decide_eq_false_iff_not] at q
  exact q
theorem upper_free {v : Vis} (h : VisOk v) : 10 ∉ cl (Txt.upper (line v)) := by
  rw [upper_cl]
  intro hc
  obtain ⟨c, h1, h2⟩ := List.mem_flatMap.mp hc
  exact (upper_sign (line_signs h c h1)).2 h2
theorem flat_len {l : List Nat} {f : Nat → List Nat} (h : ∀ c ∈ l, (f c).length ≤ 3) : (l.flatMap f).length ≤ 3 * l.length := by
  induction l with
  | nil => simp
  | cons c r ih =>
    rw [List.flatMap_cons, List.length_append, List.length_cons]
    have h1 := h c (by simp)
    have h2 := ih fun x hx => h x (List.mem_cons_of_mem _ hx)
    omega
theorem upper_len {v : Vis} (h : VisOk v) : (Txt.upper (line v)).length ≤ 120 := by
  rw [cl_len, upper_cl]
  have h1 := flat_len (f := Unicode.upperOf) fun c hc => (upper_sign (line_signs h c hc)).1
  have h2 := line_len h
  rw [cl_len] at h2
  omega
/-- its first word -/
theorem upper_split (v : Vis) : ∃ w ws, Txt.split (Txt.upper (line v)) " " = w :: ws ∧ w ≠ "visit" := by
  cases hs : Txt.split (Txt.upper (line v)) " " with
  | nil => exact absurd hs (split_ne _ _)
  | cons w ws =>
    refine ⟨w, ws, rfl, fun e => ?_⟩
    have j := StrLaws.join_split (Txt.upper (line v)) " "
    rw [hs, e] at j
    have j2 := congrArg cl j
    rw [upper_cl, line_cl, List.flatMap_cons, upper_v] at j2
    cases ws with
    | nil =>
      rw [join_one, visit_cl] at j2
      simp at j2
    | cons q r =>
      rw [join_two, cl_app, cl_app, visit_cl] at j2
      simp at j2
end DL
namespace DL
open PySem L2
def Row (l : List Int) (a b c : Int) : List D := [.scr (l.map D.int), .int a, .int b, .int c]
theorem taken_c {l : List Int} {a b c m : Int} (hc : 0 < c) (hm : 0 < m) (hm2 : m < 1073741824) :
    f_ulaw_taken [.own (Row l a b c), .val (.int m)] = .ok (.int (c % m)) [.own (Row l a b (c / m)), .val (.int m)] := by
  simp [f_ulaw_taken, m_ulaw_taken, Row, hc, hm, hm2, fnF, sSeq, sIf, asTest, op1, op2, opN, opV, M.bnd, M.ret, M.opt, Arg.ev, rs, rss, Slot.rd, Slot.arg, Slot.has, evs, sV, sAsg, sNx, var, gN, gTu, gCo, gNi, Slot.isOwn, vAnd, vOr, vNot, vIf, bAnd, bOr, bNot, chain, chC, chL, callF, callV_1, callV_2, callV_3, callV_4, sz1, sz2, sz3, sz4, sz5, sz6, sz7, sz8, sz9, sz10, sz11, sz12, dvs, D.ix, L2.atI, ixN, D.cmpI, D.toI, D.mod, D.fdiv, D.add, D.sub, D.mul, D.pow, D.neg, D.len, D.mkL, D.mkT, D.isN, D.notN, isiB, isi2, D.is, D.tn, D.eq, D.ne, D.sc, D.eqb, sPut, sFor, forL, seqM, srcN, D.rng1, D.rng2, D.enum]
theorem taken_e {l : List Int} {a b c m : Int} (hc : ¬ 0 < c) (ha : (l.length : Int) < a + 1) (hb : 0 ≤ b) (hb2 : b < 2147483647) (hm : 0 < m) :
    f_ulaw_taken [.own (Row l a b c), .val (.int m)] = .ok (.int ((b * 48271 + 11) % 2147483647 / 7 % m)) [.own (Row l (a + 1) ((b * 48271 + 11) % 2147483647) c), .val (.int m)] := by
  have h1 : -18446744073709551616 < b := by omega
  have h2 : b < 18446744073709551616 := by omega
  simp [f_ulaw_taken, m_ulaw_taken, Row, hc, hm, ha, h1, h2, fnF, sSeq, sIf, asTest, op1, op2, opN, opV, M.bnd, M.ret, M.opt, Arg.ev, rs, rss, Slot.rd, Slot.arg, Slot.has, evs, sV, sAsg, sNx, var, gN, gTu, gCo, gNi, Slot.isOwn, vAnd, vOr, vNot, vIf, bAnd, bOr, bNot, chain, chC, chL, callF, callV_1, callV_2, callV_3, callV_4, sz1, sz2, sz3, sz4, sz5, sz6, sz7, sz8, sz9, sz10, sz11, sz12, dvs, D.ix, L2.atI, ixN, D.cmpI, D.toI, D.mod, D.fdiv, D.add, D.sub, D.mul, D.pow, D.neg, D.len, D.mkL, D.mkT, D.isN, D.notN, isiB, isi2, D.is, D.tn, D.eq, D.ne, D.sc, D.eqb, sPut, sFor, forL, seqM, srcN, D.rng1, D.rng2, D.enum]
theorem taken_n {l : List Int} {a b c m z : Int} {k : Nat} (hc : ¬ 0 < c) (ha : a = k) (hz : l[k]? = some z) (hb : 0 ≤ b) (hb2 : b < 2147483647) (hm : 0 < m) (hm2 : m < 1073741824) :
    f_ulaw_taken [.own (Row l a b c), .val (.int m)] = .ok (.int (z % m)) [.own (Row l (a + 1) ((b * 48271 + z + 11) % 2147483647) (if 1000000000000000000 ≤ z then z / m else c)), .val (.int m)] := by
  have h1 : -18446744073709551616 < b := by omega
  have h2 : b < 18446744073709551616 := by omega
  have hk : k < l.length := (List.getElem?_eq_some_iff.mp hz).1
  have hz' : l[k] = z := (List.getElem?_eq_some_iff.mp hz).2
  have ha2 : ¬ (l.length : Int) < a + 1 := by omega
  subst ha
  have ha3 : ¬ (l.length < k + 1) := by omega
  have e1 : ((k : Int) + 1 - 1) = k := by omega
  have e2 : (0 : Int) ≤ k := by omega
  by_cases hz1 : 1000000000000000000 ≤ z
  · simp [f_ulaw_taken, m_ulaw_taken, Row, hc, hm, hm2, ha2, ha3, h1, h2, e1, e2, hk, hz', hz, hz1, fnF, sSeq, sIf, asTest, op1, op2, opN, opV, M.bnd, M.ret, M.opt, Arg.ev, rs, rss, Slot.rd, Slot.arg, Slot.has, evs, sV, sAsg, sNx, var, gN, gTu, gCo, gNi, Slot.isOwn, vAnd, vOr, vNot, vIf, bAnd, bOr, bNot, chain, chC, chL, callF, callV_1, callV_2, callV_3, callV_4, sz1, sz2, sz3, sz4, sz5, sz6, sz7, sz8, sz9, sz10, sz11, sz12, dvs, D.ix, L2.atI, ixN, D.cmpI, D.toI, D.mod, D.fdiv, D.add, D.sub, D.mul, D.pow, D.neg, D.len, D.mkL, D.mkT, D.isN, D.notN, isiB, isi2, D.is, D.tn, D.eq, D.ne, D.sc, D.eqb, sPut, sFor, forL, seqM, srcN, D.rng1, D.rng2, D.enum]
  · simp [f_ulaw_taken, m_ulaw_taken, Row, hc, hm, hm2, ha2, ha3, h1, h2, e1, e2, hk, hz', hz, hz1, fnF, sSeq, sIf, asTest, op1, op2, opN, opV, M.bnd, M.ret, M.opt, Arg.ev, rs, rss, Slot.rd, Slot.arg, Slot.has, evs, sV, sAsg, sNx, var, gN, gTu, gCo, gNi, Slot.isOwn, vAnd, vOr, vNot, vIf, bAnd, bOr, bNot, chain, chC, chL, callF, callV_1, callV_2, callV_3, callV_4, sz1, sz2, sz3, sz4, sz5, sz6, sz7, sz8, sz9, sz10, sz11, sz12, dvs, D.ix, L2.atI, ixN, D.cmpI, D.toI, D.mod, D.fdiv, D.add, D.sub, D.mul, D.pow, D.neg, D.len, D.mkL, D.mkT, D.isN, D.notN, isiB, isi2, D.is, D.tn, D.eq, D.ne, D.sc, D.eqb, sPut, sFor, forL, seqM, srcN, D.rng1, D.rng2, D.enum]
def RowOk (d : List D) : Prop := ∃ l a b c, d = Row l a b c ∧ 0 ≤ a ∧ 0 ≤ b ∧ b < 2147483647
theorem taken_ok {d : List D} {m : Int} (h : RowOk d) (hm : 0 < m) (hm2 : m < 1073741824) : ∃ r d', f_ulaw_taken [.own d, .val (.int m)] = .ok (.int r) [.own d', .val (.int m)] ∧ 0 ≤ r ∧ r < m ∧ RowOk d' := by
  obtain ⟨l, a, b, c, rfl, ha, hb, hb2⟩ := h
  by_cases hc : 0 < c
  · exact ⟨_, _, taken_c hc hm hm2, Int.emod_nonneg _ (by omega), Int.emod_lt_of_pos _ hm, l, a, b, _, rfl, ha, hb, hb2⟩
  · by_cases hl : (l.length : Int) < a + 1
    · exact ⟨_, _, taken_e hc hl hb hb2 hm, Int.emod_nonneg _ (by omega), Int.emod_lt_of_pos _ hm, l, _, _, _, rfl, by omega, Int.emod_nonneg _ (by omega), Int.emod_lt_of_pos _ (by omega)⟩
    · obtain ⟨k, rfl⟩ := Int.eq_ofNat_of_zero_le ha
      have hk : k < l.length := by omega
      exact ⟨_, _, taken_n hc rfl (by simp [hk] : l[k]? = some l[k]) hb hb2 hm hm2, Int.emod_nonneg _ (by omega), Int.emod_lt_of_pos _ hm, l, _, _, _, rfl, by omega, Int.emod_nonneg _ (by omega), Int.emod_lt_of_pos _ (by omega)⟩
def RowD (d : D) (l : List D) : Prop := d = .lst l ∨ d = .tup l
inductive All2 {α β : Type} (R : α → β → Prop) : List α → List β → Prop
  | nil : All2 R [] []
  | cons {a b as bs} : R a b → All2 R as bs → All2 R (a :: as) (b :: bs)
theorem sh_nil : (D.lst []).sh = true := rfl
theorem eqbs_nil : D.eqbs [] [] = true := rfl
theorem rngOk_nat {n : Nat} (h : n ≤ 16777216) : D.rngOk 0 (n : Int) = true := by
  unfold D.rngOk
  simp
  omega
theorem rng1_len {l : List D} {ρ : Ev} (hl : l.length ≤ sizeLine) : D.rng1 [.int (l.length : Int)] = some (rng 0 l.length) := by
  have h1 := rngOk_nat (n := l.length) (Nat.le_trans hl (Nat.le_of_eq sizeLine_eq))
  have h2 : ((l.length : Int) - 0).toNat = l.length := by simp
  show (if D.rngOk 0 (l.length : Int) = true ∧ ((l.length : Int) - 0).toNat ≤ sizeLine then some (rng 0 (l.length : Int)) else none) = _
  exact if_pos ⟨h1, by rw [h2]; exact hl⟩
theorem src1 {f : List D → Option (List D)} {m : M D} {ρ : Ev} {d : D} {ds : List D} (hm : m ρ = .ok d ρ) (hf : f [d] = some ds) : srcN f [.v m] ρ = .ok ds ρ := by
  have he : evs [.v m] ρ = .ok [.d d] ρ := by
    show M.bnd (M.bnd m fun d => M.ret (AV.d d)) (fun x => M.bnd (M.ret []) fun xs => M.ret (x :: xs)) ρ = _
    rw [bnd_ok (a := AV.d d) (ρ' := ρ) (by rw [bnd_ok hm]; rfl)]
    rfl
  unfold srcN
  rw [bnd_ok he]
  show (match (some [d]).bind f with
    | some r => Out.ok r ρ
    | none => Out.bad) = _
  rw [show (some [d]).bind f = some ds from hf]
theorem eq_nil : D.eq (.lst []) (.lst []) = some (.bl true) := rfl
theorem callV_o1 {φ : Fn} {i : Nat} {a : D} {ρ : Ev} {l : List D} (h : ρ[i]? = some (.own l)) : callV φ [.o i, .d a] ρ = match φ [.own l, .val a] with
    | .ok d (t :: _ :: _) => if t.isOwn = true then .ok d (ρ.set i t) else .bad
    | .exc e (t :: _ :: _) => if t.isOwn = true then .exc e (ρ.set i t) else .bad
    | _ => .bad := by
  unfold callV
  have io : (Slot.own l).isOwn = true := rfl
  have e1 : slotsOf [.o i, .d a] ρ = some [.own l, .val a] := by simp [slotsOf, h, Slot.arg]
  have e2 : ownIx [.o i, .d a] ρ = [i] := by simp [ownIx, h, Slot.isOwn]
  rw [e1, e2]
  dsimp only
  rw [if_pos (by simp)]
  have e3 : ∀ (t u : Slot) (os : List Slot), upsOf [.o i, .d a] (t :: u :: os) ρ = if t.isOwn = true then some [(i, t)] else none := fun t u os => by
    cases ht : t.isOwn <;> simp [upsOf, h, io, ht]
  cases φ [.own l, .val a] with
  | bad => rfl
  | ok d os =>
    rcases os with _ | ⟨t, _ | ⟨u, os⟩⟩
    · simp [upsOf]
    · cases ht : t.isOwn <;> simp [upsOf, h, io, ht]
    · dsimp only
      rw [e3]
      cases ht : t.isOwn <;> simp [updE]
  | exc e os =>
    rcases os with _ | ⟨t, _ | ⟨u, os⟩⟩
    · simp [upsOf]
    · cases ht : t.isOwn <;> simp [upsOf, h, io, ht]
    · dsimp only
      rw [e3]
      cases ht : t.isOwn <;> simp [updE]
theorem evs_o1 {i : Nat} {m : M D} {a : D} {ρ : Ev} {l : List D} (h : ρ[i]? = some (.own l)) (hm : m ρ = .ok a ρ) : evs [.o i, .v m] ρ = .ok [.o i, .d a] ρ := by
  have e1 : (Arg.o i).ev ρ = .ok (.o i) ρ := by
    show (match ρ[i]? with
      | some s => if s.has then Out.ok (AV.o i) ρ else .bad
      | none => .bad) = _
    rw [h]
    rfl
  have e2 : evs [.v m] ρ = .ok [.d a] ρ := by
    show M.bnd (M.bnd m fun d => M.ret (AV.d d)) (fun x => M.bnd (M.ret []) fun xs => M.ret (x :: xs)) ρ = _
    rw [bnd_ok (a := AV.d a) (ρ' := ρ) (by rw [bnd_ok hm]; rfl)]
    rfl
  show M.bnd (Arg.o i).ev (fun x => M.bnd (evs [.v m]) fun xs => M.ret (x :: xs)) ρ = _
  rw [bnd_ok e1, bnd_ok e2]
  rfl
theorem op2_vv {f : D → D → Option D} {m1 m2 : M D} {a b c : D} {ρ ρ1 ρ2 : Ev} (ha : m1 ρ = .ok a ρ1) (hb : m2 ρ1 = .ok b ρ2) (hf : f a b = some c) : op2 f (.v m1) (.v m2) ρ = .ok c ρ2 := by
  have e1 : (Arg.v m1).ev ρ = .ok (.d a) ρ1 := by
    show M.bnd m1 (fun d => M.ret (AV.d d)) ρ = _
    rw [bnd_ok ha]
    rfl
  have e2 : (Arg.v m2).ev ρ1 = .ok (.d b) ρ2 := by
    show M.bnd m2 (fun d => M.ret (AV.d d)) ρ1 = _
    rw [bnd_ok hb]
    rfl
  unfold op2
  rw [bnd_ok e1, bnd_ok e2]
  show (match f a b with
    | some r => Out.ok r ρ2
    | none => .bad) = _
  rw [hf]
theorem op2_ov {f : D → D → Option D} {m : M D} {i : Nat} {s : Slot} {a b c : D} {ρ ρ1 : Ev} (h : ρ[i]? = some s) (hh : s.has = true) (hb : m ρ = .ok b ρ1) (ha : rs (.o i) ρ1 = some a) (hf : f a b = some c) : op2 f (.o i) (.v m) ρ = .ok c ρ1 := by
  have e1 : (Arg.o i).ev ρ = .ok (.o i) ρ := by
    show (match ρ[i]? with
      | some s => if s.has then Out.ok (AV.o i) ρ else .bad
      | none => .bad) = _
    rw [h]
    dsimp only
    rw [if_pos hh]
  have e2 : (Arg.v m).ev ρ = .ok (.d b) ρ1 := by
    show M.bnd m (fun d => M.ret (AV.d d)) ρ = _
    rw [bnd_ok hb]
    rfl
  unfold op2
  rw [bnd_ok e1, bnd_ok e2]
  show (match (rs (.o i) ρ1).bind fun p => (some b).bind fun q => f p q with
    | some r => Out.ok r ρ1
    | none => .bad) = _
  rw [ha]
  show (match f a b with
    | some r => Out.ok r ρ1
    | none => .bad) = _
  rw [hf]
theorem fn_rt {n loc : Nat} {m : S} {as : List Slot} {d : D} {ρ : Ev} {os : List Slot} (h1 : as.length = n) (h2 : as.all Slot.arg = true) (hm : m (as ++ List.replicate loc .no) = .rt d ρ) (ho : ρ.take n = os) : fnF n loc m as = .ok d os := by
  unfold fnF
  rw [if_pos ⟨h1, h2⟩, hm, ← ho]
theorem seq_nx {a b : S} {ρ ρ1 : Ev} (h : a ρ = .nx ρ1) : sSeq a b ρ = b ρ1 := by
  unfold sSeq
  rw [h]
theorem for_ok {src : M (List D)} {t : D → Ev → Option Ev} {b : S} {ρ ρ1 : Ev} {ds : List D} (h : src ρ = .ok ds ρ1) : sFor src t b ρ = forL t b ds ρ1 := by
  unfold sFor
  rw [h]
theorem rng1_nat {n : Nat} (hz : n ≤ 16777216) : D.rng1 [.int (n : Int)] = some ((List.range' 0 n).map fun x : Nat => D.int x) := by
  have e1 := rngOk_nat (n := n) hz
  have h2 : ((n : Int) - 0).toNat = n := by simp
  have e2 : rng 0 (n : Int) = (List.range' 0 n).map fun x : Nat => D.int x := by
    unfold rng
    rw [List.range_eq_range']
    simp
  have hs : n ≤ sizeLine := Nat.le_trans hz (Nat.le_of_eq sizeLine_eq.symm)
  rw [← e2]
  show (if D.rngOk 0 (n : Int) = true ∧ ((n : Int) - 0).toNat ≤ sizeLine then some (rng 0 (n : Int)) else none) = _
  exact if_pos ⟨e1, by rw [h2]; exact hs⟩
def tkV (d : List D) (m : Int) : Int := match f_ulaw_taken [.own d, .val (.int m)] with
  | .ok (.int r) _ => r
  | _ => 0
def tkN (d : List D) (m : Int) : List D := match f_ulaw_taken [.own d, .val (.int m)] with
  | .ok _ (.own d' :: _) => d'
  | _ => []
theorem tk_all {d : List D} {m : Int} (h : RowOk d) (hm : 0 < m) (hm2 : m < 1073741824) : f_ulaw_taken [.own d, .val (.int m)] = .ok (.int (tkV d m)) [.own (tkN d m), .val (.int m)] ∧ 0 ≤ tkV d m ∧ tkV d m < m ∧ RowOk (tkN d m) := by
  obtain ⟨r, d', e, h1, h2, h3⟩ := taken_ok h hm hm2
  have e1 : tkV d m = r := by unfold tkV; rw [e]
  have e2 : tkN d m = d' := by unfold tkN; rw [e]
  rw [e1, e2]
  exact ⟨e, h1, h2, h3⟩
theorem tk_eq {d : List D} {m : Int} (h : RowOk d) (hm : 0 < m) (hm2 : m < 1073741824) : f_ulaw_taken [.own d, .val (.int m)] = .ok (.int (tkV d m)) [.own (tkN d m), .val (.int m)] := (tk_all h hm hm2).1
theorem tkN_ok {d : List D} {m : Int} (h : RowOk d) (hm : 0 < m) (hm2 : m < 1073741824) : RowOk (tkN d m) := (tk_all h hm hm2).2.2.2
theorem tkV_lo {d : List D} {m : Int} (h : RowOk d) (hm : 0 < m) (hm2 : m < 1073741824) : 0 ≤ tkV d m := (tk_all h hm hm2).2.1
theorem tkV_hi {d : List D} {m : Int} (h : RowOk d) (hm : 0 < m) (hm2 : m < 1073741824) : tkV d m < m := (tk_all h hm hm2).2.2.1
theorem add_ii (i j : Int) : D.add (.int i) (.int j) = some (.int (i + j)) := rfl
theorem so_no : Slot.isOwn .no = false := rfl
theorem so_val {d : D} : Slot.isOwn (.val d) = false := rfl
theorem so_own {l : List D} : Slot.isOwn (.own l) = true := rfl
theorem so_dic {l m : List D} : Slot.isOwn (.dic l m) = true := rfl
theorem so_inst {c : Str} {ns : List Str} {l : List D} : Slot.isOwn (.inst c ns l) = true := rfl
theorem so_ex {e : Ex} : Slot.isOwn (.ex e) = false := rfl
theorem sh_no : Slot.has .no = false := rfl
theorem sh_val {d : D} : Slot.has (.val d) = true := rfl
theorem sh_own {l : List D} : Slot.has (.own l) = true := rfl
theorem sh_dic {l m : List D} : Slot.has (.dic l m) = true := rfl
theorem sh_inst {c : Str} {ns : List Str} {l : List D} : Slot.has (.inst c ns l) = true := rfl
theorem sh_ex {e : Ex} : Slot.has (.ex e) = true := rfl
theorem sa_no : Slot.arg .no = false := rfl
theorem sa_val {d : D} : Slot.arg (.val d) = true := rfl
theorem sa_own {l : List D} : Slot.arg (.own l) = true := rfl
theorem sa_dic {l m : List D} : Slot.arg (.dic l m) = true := rfl
theorem sa_inst {c : Str} {ns : List Str} {l : List D} : Slot.arg (.inst c ns l) = true := rfl
theorem sa_ex {e : Ex} : Slot.arg (.ex e) = false := rfl
theorem callV_o1g {φ : Fn} {i : Nat} {a : D} {ρ : Ev} : callV φ [.o i, .d a] ρ = match ρ[i]? with
    | none => .bad
    | some s => if s.arg = true then (match φ [s, .val a] with
      | .ok d (t :: _ :: _) => if s.isOwn = true then (if t.isOwn = true then .ok d (ρ.set i t) else .bad) else .ok d ρ
      | .exc e (t :: _ :: _) => if s.isOwn = true then (if t.isOwn = true then .exc e (ρ.set i t) else .bad) else .exc e ρ
      | _ => .bad) else .bad := by
  unfold callV
  cases h : ρ[i]? with
  | none => simp [slotsOf, h]
  | some s =>
    cases ha : s.arg with
    | false => simp [slotsOf, h, ha]
    | true =>
      have e1 : slotsOf [.o i, .d a] ρ = some [s, .val a] := by simp [slotsOf, h, ha]
      rw [e1]
      cases ho : s.isOwn with
      | false =>
        have e2 : ownIx [.o i, .d a] ρ = [] := by simp [ownIx, h, ho]
        rw [e2]
        dsimp only
        rw [if_pos (by simp)]
        cases φ [s, .val a] with
        | bad => simp [ha]
        | ok d os => rcases os with _ | ⟨t, _ | ⟨u, os⟩⟩ <;> simp [upsOf, h, ho, ha, updE]
        | exc e os => rcases os with _ | ⟨t, _ | ⟨u, os⟩⟩ <;> simp [upsOf, h, ho, ha, updE]
      | true =>
        have e2 : ownIx [.o i, .d a] ρ = [i] := by simp [ownIx, h, ho]
        rw [e2]
        dsimp only
        rw [if_pos (by simp)]
        cases φ [s, .val a] with
        | bad => simp [ha]
        | ok d os => rcases os with _ | ⟨t, _ | ⟨u, os⟩⟩ <;> (try cases ht : t.isOwn) <;> simp [upsOf, h, ho, ha, updE, *]
        | exc e os => rcases os with _ | ⟨t, _ | ⟨u, os⟩⟩ <;> (try cases ht : t.isOwn) <;> simp [upsOf, h, ho, ha, updE, *]
theorem pick_eq {l ks : List D} (hl : RowOk l) (h0 : 0 < ks.length) (h1 : ks.length < 1000) : ∃ x, ks[(tkV l ks.length).toNat]? = some x ∧ f_ulaw_pick [.own l, .val (.lst ks)] = .ok x [.own (tkN l ks.length), .val (.lst ks)] := by
  have g0 : (0 : Int) < (ks.length : Int) := by omega
  have g1 : (ks.length : Int) < 1073741824 := by omega
  have e := tk_eq hl g0 g1
  have lo := tkV_lo hl g0 g1
  have hi := tkV_hi hl g0 g1
  have hn : (tkV l ks.length).toNat < ks.length := by omega
  have e2 : (((tkV l ks.length).toNat : Nat) : Int) = tkV l ks.length := by omega
  refine ⟨ks[(tkV l ks.length).toNat], List.getElem?_eq_getElem hn, ?_⟩
  have e3 : callF f_ulaw_taken [.o 0, .v (opN D.len [.o 1])] [.own l, .val (.lst ks)] = .ok (.int (tkV l ks.length)) [.own (tkN l ks.length), .val (.lst ks)] := by
    unfold callF
    rw [bnd_ok (evs_o1 (i := 0) (m := opN D.len [.o 1]) (ρ := [.own l, .val (.lst ks)]) (l := l) (a := .int (ks.length : Int)) rfl (by clear e lo hi hn e2; simp [fnF, sSeq, sIf, asTest, op1, op2, opN, opV, M.bnd, M.ret, M.opt, Arg.ev, rs, rss, Slot.rd, Slot.arg, Slot.has, evs, sV, sAsg, sNx, var, gN, gTu, gCo, gNi, Slot.isOwn, vAnd, vOr, vNot, vIf, bAnd, bOr, bNot, chain, chC, chL, callF, callV_1, callV_2, callV_3, callV_4, sz1, sz2, sz3, sz4, sz5, sz6, sz7, sz8, sz9, sz10, sz11, sz12, dvs, D.ix, L2.atI, ixN, D.cmpI, D.toI, D.mod, D.fdiv, D.add, D.sub, D.mul, D.pow, D.neg, D.len, D.mkL, D.mkT, D.isN, D.notN, isiB, isi2, D.is, D.tn, D.eq, D.ne, D.sc, D.eqb, sPut])), callV_o1 (l := l) rfl, e]
    rfl
  have e4 : D.ix (.lst ks) (.int (tkV l ks.length)) = some ks[(tkV l ks.length).toNat] := by
    clear e e3
    generalize tkV l ks.length = v at *
    obtain ⟨k, rfl⟩ := Int.eq_ofNat_of_zero_le lo
    have hn' : k < ks.length := by simpa using hn
    simp [D.ix, L2.atI, ixN, hn']
  have e5 := op2_ov (i := 1) (s := .val (.lst ks)) (ρ := [.own l, .val (.lst ks)]) (f := D.ix) (a := .lst ks) rfl rfl e3 rfl e4
  unfold f_ulaw_pick m_ulaw_pick fnF
  rw [if_pos ⟨rfl, rfl⟩]
  unfold sV
  simp only [List.replicate, List.append_nil]
  rw [e5]
  rfl
theorem gN_set {i : Nat} {d : D} {ρ : Ev} {s : Slot} (h : ρ[i]? = some s) (ho : s.isOwn = false) : gN i d ρ = some (ρ.set i (.val d)) := by
  unfold gN
  rw [h]
  simp [ho]
theorem for_cons {t : D → Ev → Option Ev} {b : S} {d : D} {ds : List D} {ρ ρ1 ρ2 : Ev} (h1 : t d ρ = some ρ1) (h2 : b ρ1 = .nx ρ2) : forL t b (d :: ds) ρ = forL t b ds ρ2 := by
  conv => lhs; unfold forL
  rw [h1]
  dsimp only
  rw [h2]
def Pl (s : Slot) : Prop := s.isOwn = false ∧ s.isEx = false
theorem Pl.val (d : D) : Pl (.val d) := ⟨rfl, rfl⟩
theorem Pl.no : Pl .no := ⟨rfl, rfl⟩
theorem lcL_inv {vs : List Nat} {t : D → Ev → Option Ev} {tt : M Bool} {te : M D} (I : Ev → Prop) (R : D → D → Prop) : ∀ {ds : List D} {acc : List D} {ρ : Ev}, I ρ →
    (∀ d ∈ ds, ∀ ρ, I ρ → ∃ ρ1 ρ2 y ρ3, t d ρ = some ρ1 ∧ tt ρ1 = .ok true ρ2 ∧ te ρ2 = .ok y ρ3 ∧ ownAt vs ρ3 = false ∧ I (wipeE ρ3 vs) ∧ R d y) → ∃ ys ρ', lcL vs t tt te ds ρ acc = .ok (acc ++ ys) ρ' ∧ I ρ' ∧ All2 R ds ys
  | [], acc, ρ, h, _ => ⟨[], ρ, by simp [lcL], h, .nil⟩
  | d :: ds, acc, ρ, h, q => by
    obtain ⟨ρ1, ρ2, y, ρ3, h1, h2, h3, h4, h5, h6⟩ := q d List.mem_cons_self ρ h
    obtain ⟨ys, ρ', k1, k2, k3⟩ := lcL_inv I R (ds := ds) (acc := acc ++ [y]) h5 fun x hx => q x (List.mem_cons_of_mem _ hx)
    refine ⟨y :: ys, ρ', ?_, k2, .cons h6 k3⟩
    unfold lcL
    rw [h1]
    dsimp only
    rw [h2]
    dsimp only
    rw [h3]
    dsimp only
    rw [h4]
    simp only [Bool.false_eq_true, if_false]
    rw [k1]
    simp
end DL
namespace DL
open PySem L2
theorem is_whole_int (i : Int) : f_is_whole [.val (.int i)] = .ok (.bl true) [.val (.int i)] := by simp [f_is_whole, m_is_whole, fnF, sSeq, sIf, asTest, op1, op2, opN, opV, M.bnd, M.ret, M.opt, Arg.ev, rs, rss, Slot.rd, Slot.arg, Slot.has, evs, sV, sAsg, sNx, var, gN, gTu, gCo, gNi, Slot.isOwn, vAnd, vOr, vNot, vIf, bAnd, bOr, bNot, chain, chC, chL, callF, callV_1, callV_2, callV_3, callV_4, sz1, sz2, sz3, sz4, sz5, sz6, sz7, sz8, sz9, sz10, sz11, sz12, dvs, D.ix, L2.atI, ixN, D.cmpI, D.toI, D.mod, D.fdiv, D.add, D.sub, D.mul, D.pow, D.neg, D.len, D.mkL, D.mkT, D.isN, D.notN, isiB, isi2, D.is, D.tn, D.eq, D.ne, D.sc, D.eqb, sPut, sFor, forL, seqM, srcN, D.rng1, D.rng2, D.enum]
theorem is_whole_non : f_is_whole [.val .non] = .ok (.bl false) [.val .non] := by simp [f_is_whole, m_is_whole, fnF, sSeq, sIf, asTest, op1, op2, opN, opV, M.bnd, M.ret, M.opt, Arg.ev, rs, rss, Slot.rd, Slot.arg, Slot.has, evs, sV, sAsg, sNx, var, gN, gTu, gCo, gNi, Slot.isOwn, vAnd, vOr, vNot, vIf, bAnd, bOr, bNot, chain, chC, chL, callF, callV_1, callV_2, callV_3, callV_4, sz1, sz2, sz3, sz4, sz5, sz6, sz7, sz8, sz9, sz10, sz11, sz12, dvs, D.ix, L2.atI, ixN, D.cmpI, D.toI, D.mod, D.fdiv, D.add, D.sub, D.mul, D.pow, D.neg, D.len, D.mkL, D.mkT, D.isN, D.notN, isiB, isi2, D.is, D.tn, D.eq, D.ne, D.sc, D.eqb, sPut, sFor, forL, seqM, srcN, D.rng1, D.rng2, D.enum]
theorem is_number_int (i a b : Int) : f_is_number [.val (.int i), .val (.int a), .val (.int b)] = .ok (.bl (decide (a ≤ i) && decide (i ≤ b))) [.val (.int i), .val (.int a), .val (.int b)] := by
  by_cases h1 : a ≤ i <;> by_cases h2 : i ≤ b <;> simp [f_is_number, m_is_number, is_whole_int, h1, h2, fnF, sSeq, sIf, asTest, op1, op2, opN, opV, M.bnd, M.ret, M.opt, Arg.ev, rs, rss, Slot.rd, Slot.arg, Slot.has, evs, sV, sAsg, sNx, var, gN, gTu, gCo, gNi, Slot.isOwn, vAnd, vOr, vNot, vIf, bAnd, bOr, bNot, chain, chC, chL, callF, callV_1, callV_2, callV_3, callV_4, sz1, sz2, sz3, sz4, sz5, sz6, sz7, sz8, sz9, sz10, sz11, sz12, dvs, D.ix, L2.atI, ixN, D.cmpI, D.toI, D.mod, D.fdiv, D.add, D.sub, D.mul, D.pow, D.neg, D.len, D.mkL, D.mkT, D.isN, D.notN, isiB, isi2, D.is, D.tn, D.eq, D.ne, D.sc, D.eqb, sPut, sFor, forL, seqM, srcN, D.rng1, D.rng2, D.enum]
theorem is_number_non (a b : Int) : f_is_number [.val .non, .val (.int a), .val (.int b)] = .ok (.bl false) [.val .non, .val (.int a), .val (.int b)] := by
  simp [f_is_number, m_is_number, is_whole_non, fnF, sSeq, sIf, asTest, op1, op2, opN, opV, M.bnd, M.ret, M.opt, Arg.ev, rs, rss, Slot.rd, Slot.arg, Slot.has, evs, sV, sAsg, sNx, var, gN, gTu, gCo, gNi, Slot.isOwn, vAnd, vOr, vNot, vIf, bAnd, bOr, bNot, chain, chC, chL, callF, callV_1, callV_2, callV_3, callV_4, sz1, sz2, sz3, sz4, sz5, sz6, sz7, sz8, sz9, sz10, sz11, sz12, dvs, D.ix, L2.atI, ixN, D.cmpI, D.toI, D.mod, D.fdiv, D.add, D.sub, D.mul, D.pow, D.neg, D.len, D.mkL, D.mkT, D.isN, D.notN, isiB, isi2, D.is, D.tn, D.eq, D.ne, D.sc, D.eqb, sPut, sFor, forL, seqM, srcN, D.rng1, D.rng2, D.enum]
theorem let_cl : cl "abcdefghijklmnopqrstuvwxyz" = List.range' 97 26 := by first | rfl | decide
theorem fig_cl : cl "0123456789" = List.range' 48 10 := by first | rfl | decide
theorem mem_let {c : Nat} : c ∈ cl "abcdefghijklmnopqrstuvwxyz" ↔ 97 ≤ c ∧ c ≤ 122 := by
  rw [let_cl, List.mem_range'_1]; omega
theorem mem_fig {c : Nat} : c ∈ cl "0123456789" ↔ 48 ≤ c ∧ c ≤ 57 := by
  rw [fig_cl, List.mem_range'_1]; omega
theorem mem_one (c : Nat) (z : Str) : D.mem (.str ⟨#[c]⟩) (.str z) = some (.bl (decide (c ∈ cl z))) := rfl
theorem nmem_one (c : Nat) (z : Str) : D.nmem (.str ⟨#[c]⟩) (.str z) = some (.bl (!decide (c ∈ cl z))) := rfl
/-- what looks at each sign -/
def sgn (d : D) : D := match d with
  | .str s => (match cl s with
    | [c] => .bl (decide (c ∈ cl "abcdefghijklmnopqrstuvwxyz") || decide (c ∈ cl "0123456789"))
    | _ => .non)
  | _ => .non
def fgn (d : D) : D := match d with
  | .str s => (match cl s with
    | [c] => .bl (decide (c ∈ cl "0123456789"))
    | _ => .non)
  | _ => .non
theorem signs_map (s : Str) : signs s = (cl s).map fun c => D.str ⟨#[c]⟩ := rfl
theorem sgn_signs (s : Str) : (signs s).map sgn = ((cl s).map fun c => decide (c ∈ cl "abcdefghijklmnopqrstuvwxyz") || decide (c ∈ cl "0123456789")).map D.bl := by
  rw [signs_map, List.map_map, List.map_map]; rfl
theorem fgn_signs (s : Str) : (signs s).map fgn = ((cl s).map fun c => decide (c ∈ cl "0123456789")).map D.bl := by
  rw [signs_map, List.map_map, List.map_map]; rfl
theorem filter_true {α : Type} (l : List α) : l.filter (fun _ => true) = l := by simp
theorem names_k {s : Str} {s1 : Slot} (h : s.length ≤ sizeLine) (h1 : s1.isOwn = false) : k1_is_name [.val (.str s), s1] = .ok (.lst ((signs s).map sgn)) [.val (.str s), s1] := by
  have e := comp_pure (vs := [1]) (src := seqS (var 0)) (t := gN 1) (tt := noTest) (te := c0_is_name) (ρ := [.val (.str s), s1]) (ρ0 := [.val (.str s), s1]) (ds := signs s) (fun _ => true) sgn (by simp [seqS, h, fnF, sSeq, sIf, asTest, op1, op2, opN, opV, M.bnd, M.ret, M.opt, Arg.ev, rs, rss, Slot.rd, Slot.arg, Slot.has, evs, sV, sAsg, sNx, var, gN, gTu, gCo, gNi, Slot.isOwn, vAnd, vOr, vNot, vIf, bAnd, bOr, bNot, chain, chC, chL, callF, callV_1, callV_2, callV_3, callV_4, sz1, sz2, sz3, sz4, sz5, sz6, sz7, sz8, sz9, sz10, sz11, sz12, dvs, D.ix, L2.atI, ixN, D.cmpI, D.toI, D.mod, D.fdiv, D.add, D.sub, D.mul, D.pow, D.neg, D.len, D.mkL, D.mkT, D.isN, D.notN, isiB, isi2, D.is, D.tn, D.eq, D.ne, D.sc, D.eqb, sPut, sFor, forL, seqM, srcN, D.rng1, D.rng2, D.enum]) (by simp [ownAt, h1]) fun x hx => ?_
  · rw [filter_true] at e
    exact e
  · rw [signs_map] at hx
    obtain ⟨c, _, rfl⟩ := List.mem_map.mp hx
    refine ⟨[.val (.str s), .val (.str ⟨#[c]⟩)], by simp [wipeE, fnF, sSeq, sIf, asTest, op1, op2, opN, opV, M.bnd, M.ret, M.opt, Arg.ev, rs, rss, Slot.rd, Slot.arg, Slot.has, evs, sV, sAsg, sNx, var, gN, gTu, gCo, gNi, Slot.isOwn, vAnd, vOr, vNot, vIf, bAnd, bOr, bNot, chain, chC, chL, callF, callV_1, callV_2, callV_3, callV_4, sz1, sz2, sz3, sz4, sz5, sz6, sz7, sz8, sz9, sz10, sz11, sz12, dvs, D.ix, L2.atI, ixN, D.cmpI, D.toI, D.mod, D.fdiv, D.add, D.sub, D.mul, D.pow, D.neg, D.len, D.mkL, D.mkT, D.isN, D.notN, isiB, isi2, D.is, D.tn, D.eq, D.ne, D.sc, D.eqb, sPut, sFor, forL, seqM, srcN, D.rng1, D.rng2, D.enum], rfl, fun _ => ?_, by simp [ownAt, Slot.isOwn], by simp [wipeE]⟩
    have e1 : sgn (.str ⟨#[c]⟩) = .bl (decide (c ∈ cl "abcdefghijklmnopqrstuvwxyz") || decide (c ∈ cl "0123456789")) := rfl
    rw [e1]
    by_cases h2 : c ∈ cl "abcdefghijklmnopqrstuvwxyz" <;> by_cases h3 : c ∈ cl "0123456789" <;> simp [c0_is_name, mem_one, h2, h3, fnF, sSeq, sIf, asTest, op1, op2, opN, opV, M.bnd, M.ret, M.opt, Arg.ev, rs, rss, Slot.rd, Slot.arg, Slot.has, evs, sV, sAsg, sNx, var, gN, gTu, gCo, gNi, Slot.isOwn, vAnd, vOr, vNot, vIf, bAnd, bOr, bNot, chain, chC, chL, callF, callV_1, callV_2, callV_3, callV_4, sz1, sz2, sz3, sz4, sz5, sz6, sz7, sz8, sz9, sz10, sz11, sz12, dvs, D.ix, L2.atI, ixN, D.cmpI, D.toI, D.mod, D.fdiv, D.add, D.sub, D.mul, D.pow, D.neg, D.len, D.mkL, D.mkT, D.isN, D.notN, isiB, isi2, D.is, D.tn, D.eq, D.ne, D.sc, D.eqb, sPut, sFor, forL, seqM, srcN, D.rng1, D.rng2, D.enum]
theorem figs_k {s : Str} {s1 : Slot} (h : s.length ≤ sizeLine) (h1 : s1.isOwn = false) : k1_number_in [.val (.str s), s1] = .ok (.lst ((signs s).map fgn)) [.val (.str s), s1] := by
  have e := comp_pure (vs := [1]) (src := seqS (var 0)) (t := gN 1) (tt := noTest) (te := c0_number_in) (ρ := [.val (.str s), s1]) (ρ0 := [.val (.str s), s1]) (ds := signs s) (fun _ => true) fgn (by simp [seqS, h, fnF, sSeq, sIf, asTest, op1, op2, opN, opV, M.bnd, M.ret, M.opt, Arg.ev, rs, rss, Slot.rd, Slot.arg, Slot.has, evs, sV, sAsg, sNx, var, gN, gTu, gCo, gNi, Slot.isOwn, vAnd, vOr, vNot, vIf, bAnd, bOr, bNot, chain, chC, chL, callF, callV_1, callV_2, callV_3, callV_4, sz1, sz2, sz3, sz4, sz5, sz6, sz7, sz8, sz9, sz10, sz11, sz12, dvs, D.ix, L2.atI, ixN, D.cmpI, D.toI, D.mod, D.fdiv, D.add, D.sub, D.mul, D.pow, D.neg, D.len, D.mkL, D.mkT, D.isN, D.notN, isiB, isi2, D.is, D.tn, D.eq, D.ne, D.sc, D.eqb, sPut, sFor, forL, seqM, srcN, D.rng1, D.rng2, D.enum]) (by simp [ownAt, h1]) fun x hx => ?_
  · rw [filter_true] at e
    exact e
  · rw [signs_map] at hx
    obtain ⟨c, _, rfl⟩ := List.mem_map.mp hx
    refine ⟨[.val (.str s), .val (.str ⟨#[c]⟩)], by simp [wipeE, fnF, sSeq, sIf, asTest, op1, op2, opN, opV, M.bnd, M.ret, M.opt, Arg.ev, rs, rss, Slot.rd, Slot.arg, Slot.has, evs, sV, sAsg, sNx, var, gN, gTu, gCo, gNi, Slot.isOwn, vAnd, vOr, vNot, vIf, bAnd, bOr, bNot, chain, chC, chL, callF, callV_1, callV_2, callV_3, callV_4, sz1, sz2, sz3, sz4, sz5, sz6, sz7, sz8, sz9, sz10, sz11, sz12, dvs, D.ix, L2.atI, ixN, D.cmpI, D.toI, D.mod, D.fdiv, D.add, D.sub, D.mul, D.pow, D.neg, D.len, D.mkL, D.mkT, D.isN, D.notN, isiB, isi2, D.is, D.tn, D.eq, D.ne, D.sc, D.eqb, sPut, sFor, forL, seqM, srcN, D.rng1, D.rng2, D.enum], rfl, fun _ => ?_, by simp [ownAt, Slot.isOwn], by simp [wipeE]⟩
    have e1 : fgn (.str ⟨#[c]⟩) = .bl (decide (c ∈ cl "0123456789")) := rfl
    rw [e1]
    by_cases h3 : c ∈ cl "0123456789" <;> simp [c0_number_in, mem_one, h3, fnF, sSeq, sIf, asTest, op1, op2, opN, opV, M.bnd, M.ret, M.opt, Arg.ev, rs, rss, Slot.rd, Slot.arg, Slot.has, evs, sV, sAsg, sNx, var, gN, gTu, gCo, gNi, Slot.isOwn, vAnd, vOr, vNot, vIf, bAnd, bOr, bNot, chain, chC, chL, callF, callV_1, callV_2, callV_3, callV_4, sz1, sz2, sz3, sz4, sz5, sz6, sz7, sz8, sz9, sz10, sz11, sz12, dvs, D.ix, L2.atI, ixN, D.cmpI, D.toI, D.mod, D.fdiv, D.add, D.sub, D.mul, D.pow, D.neg, D.len, D.mkL, D.mkT, D.isN, D.notN, isiB, isi2, D.is, D.tn, D.eq, D.ne, D.sc, D.eqb, sPut, sFor, forL, seqM, srcN, D.rng1, D.rng2, D.enum]
theorem str_ix0 {s : Str} {c : Nat} {r : List Nat} (h : cl s = c :: r) (hl : s.length ≤ sizeLine) : D.ix (.str s) (.int 0) = some (.str ⟨#[c]⟩) := by
  have h' : s.cps.toList = c :: r := h
  have h2 : ixN (r.length + 1) 0 = some 0 := by simp [ixN]
  simp [D.ix, hl, L2.atI, h', h2]
theorem is_name_ok {s : Str} (h : NameOk s) : f_is_name [.val (.str s)] = .ok (.bl true) [.val (.str s)] := by
  have hl := name_len h
  have hz : s.length ≤ sizeLine := by rw [sizeLine_eq]; omega
  obtain ⟨c, r, e, h1, h2, h3⟩ := h
  have hc : c ∈ cl "abcdefghijklmnopqrstuvwxyz" := mem_let.mpr h1
  have hall : ((cl s).map fun c => decide (c ∈ cl "abcdefghijklmnopqrstuvwxyz") || decide (c ∈ cl "0123456789")).all id = true := by
    rw [List.all_eq_true]
    intro b hb
    obtain ⟨x, hx, rfl⟩ := List.mem_map.mp hb
    rw [e] at hx
    have : x ∈ cl "abcdefghijklmnopqrstuvwxyz" ∨ x ∈ cl "0123456789" := by
      rcases List.mem_cons.mp hx with rfl | hx
      · exact .inl hc
      · rcases h2 x hx with q | q
        · exact .inl (mem_let.mpr q)
        · exact .inr (mem_fig.mpr q)
    simpa using this
  have n1 : (1 : Int) ≤ (s.length : Int) := by omega
  have n2 : (s.length : Int) ≤ 12 := by omega
  have i0 := str_ix0 e hz
  have hk := names_k (s := s) (s1 := .no) hz rfl
  have hA : D.all [.lst ((signs s).map sgn)] = some (.bl true) := by
    rw [sgn_signs]
    show (D.blsOf _).map _ = _
    rw [blsOf_map]
    simp only [Option.map_some, hall]
  simp [f_is_name, m_is_name, hk, hA, i0, nmem_one, hc, n1, n2, hz, fnF, sSeq, sIf, asTest, op1, op2, opN, opV, M.bnd, M.ret, M.opt, Arg.ev, rs, rss, Slot.rd, evs, sV, sAsg, sNx, var, gN, gTu, gCo, gNi, so_no, so_val, so_own, so_dic, so_inst, so_ex, sh_no, sh_val, sh_own, sh_dic, sh_inst, sh_ex, sa_no, sa_val, sa_own, sa_dic, sa_inst, sa_ex, vAnd, vOr, vNot, vIf, bAnd, bOr, bNot, chain, chC, chL, callF, callV_1, callV_2, callV_3, callV_4, sz1, sz2, sz3, sz4, sz5, sz6, sz7, sz8, sz9, sz10, sz11, sz12, dvs, D.cmpI, D.toI, D.mod, D.fdiv, add_ii, D.sub, D.mul, D.pow, D.neg, D.len, D.mkL, D.mkT, D.isN, D.notN, isiB, isi2, D.is, D.tn, sPut, callV_o1g]
end DL
namespace DL
open PySem L2
theorem eq_str (a b : Str) : D.eq (.str a) (.str b) = some (.bl (a == b)) := by
  unfold D.eq
  simp [D.sc, D.eqb]
theorem ne_str (a b : Str) : D.ne (.str a) (.str b) = some (.bl (!(a == b))) := by
  unfold D.ne
  simp [D.sc, D.eqb]
def figs (s : Str) : Bool := ((cl s).map fun c => decide (c ∈ cl "0123456789")).all id
theorem figs_all {s : Str} : D.all [.lst ((signs s).map fgn)] = some (.bl (figs s)) := by
  rw [fgn_signs]
  show (D.blsOf _).map _ = _
  rw [blsOf_map]
  rfl
theorem figs_iff {s : Str} : figs s = true ↔ ∀ c ∈ cl s, 48 ≤ c ∧ c ≤ 57 := by
  unfold figs
  rw [List.all_eq_true]
  constructor
  · intro h c hc
    have := h (decide (c ∈ cl "0123456789")) (List.mem_map.mpr ⟨c, hc, rfl⟩)
    exact mem_fig.mp (by simpa using this)
  · intro h b hb
    obtain ⟨c, hc, rfl⟩ := List.mem_map.mp hb
    simpa using mem_fig.mpr (h c hc)
theorem zero_cl : cl "0" = [48] := by first | rfl | decide
theorem one_zero {c : Nat} : ((⟨#[c]⟩ : Str) == ("0" : Str)) = decide (c = 48) := by
  by_cases h : c = 48
  · subst h
    simp
    first | rfl | decide
  · have : (⟨#[c]⟩ : Str) ≠ "0" := fun e => by
      have e2 := congrArg cl e
      rw [zero_cl] at e2
      have e3 : cl (⟨#[c]⟩ : Str) = [c] := rfl
      rw [e3] at e2
      simp at e2
      exact h e2
    simp [h, this]
/-- no number: its length, its signs -/
theorem number_no {s : Str} (hz : s.length ≤ sizeLine) (h : ¬ (1 ≤ s.length ∧ s.length ≤ 8 ∧ figs s = true)) : f_number_in [.val (.str s)] = .ok .non [.val (.str s)] := by
  have hk := figs_k (s := s) (s1 := .no) hz rfl
  have hA := figs_all (s := s)
  by_cases h1 : (1 : Int) ≤ (s.length : Int)
  · by_cases h2 : (s.length : Int) ≤ 8
    · have h3 : figs s = false := by
        cases hf : figs s with
        | false => rfl
        | true => exact absurd ⟨by omega, by omega, hf⟩ h
      simp [f_number_in, m_number_in, hk, hA, h1, h2, h3, hz, fnF, sSeq, sIf, asTest, op1, op2, opN, opV, M.bnd, M.ret, M.opt, Arg.ev, rs, rss, Slot.rd, evs, sV, sAsg, sNx, var, gN, gTu, gCo, gNi, so_no, so_val, so_own, so_dic, so_inst, so_ex, sh_no, sh_val, sh_own, sh_dic, sh_inst, sh_ex, sa_no, sa_val, sa_own, sa_dic, sa_inst, sa_ex, vAnd, vOr, vNot, vIf, bAnd, bOr, bNot, chain, chC, chL, callF, callV_1, callV_2, callV_3, callV_4, sz1, sz2, sz3, sz4, sz5, sz6, sz7, sz8, sz9, sz10, sz11, sz12, dvs, D.cmpI, D.toI, D.mod, D.fdiv, add_ii, D.sub, D.mul, D.pow, D.neg, D.len, D.mkL, D.mkT, D.isN, D.notN, isiB, isi2, D.is, D.tn, sPut, callV_o1g]
    · simp [f_number_in, m_number_in, hk, hA, h1, h2, hz, fnF, sSeq, sIf, asTest, op1, op2, opN, opV, M.bnd, M.ret, M.opt, Arg.ev, rs, rss, Slot.rd, evs, sV, sAsg, sNx, var, gN, gTu, gCo, gNi, so_no, so_val, so_own, so_dic, so_inst, so_ex, sh_no, sh_val, sh_own, sh_dic, sh_inst, sh_ex, sa_no, sa_val, sa_own, sa_dic, sa_inst, sa_ex, vAnd, vOr, vNot, vIf, bAnd, bOr, bNot, chain, chC, chL, callF, callV_1, callV_2, callV_3, callV_4, sz1, sz2, sz3, sz4, sz5, sz6, sz7, sz8, sz9, sz10, sz11, sz12, dvs, D.cmpI, D.toI, D.mod, D.fdiv, add_ii, D.sub, D.mul, D.pow, D.neg, D.len, D.mkL, D.mkT, D.isN, D.notN, isiB, isi2, D.is, D.tn, sPut, callV_o1g]
  · simp [f_number_in, m_number_in, hk, hA, h1, hz, fnF, sSeq, sIf, asTest, op1, op2, opN, opV, M.bnd, M.ret, M.opt, Arg.ev, rs, rss, Slot.rd, evs, sV, sAsg, sNx, var, gN, gTu, gCo, gNi, so_no, so_val, so_own, so_dic, so_inst, so_ex, sh_no, sh_val, sh_own, sh_dic, sh_inst, sh_ex, sa_no, sa_val, sa_own, sa_dic, sa_inst, sa_ex, vAnd, vOr, vNot, vIf, bAnd, bOr, bNot, chain, chC, chL, callF, callV_1, callV_2, callV_3, callV_4, sz1, sz2, sz3, sz4, sz5, sz6, sz7, sz8, sz9, sz10, sz11, sz12, dvs, D.cmpI, D.toI, D.mod, D.fdiv, add_ii, D.sub, D.mul, D.pow, D.neg, D.len, D.mkL, D.mkT, D.isN, D.notN, isiB, isi2, D.is, D.tn, sPut, callV_o1g]
/-- no number: a zero ahead -/
theorem number_zero {s : Str} {c : Nat} {r : List Nat} (h : cl s = 48 :: c :: r) (hl : s.length ≤ 8) : f_number_in [.val (.str s)] = .ok .non [.val (.str s)] := by
  have hz : s.length ≤ sizeLine := by rw [sizeLine_eq]; omega
  have hk := figs_k (s := s) (s1 := .no) hz rfl
  have hA := figs_all (s := s)
  have e1 : s.length = r.length + 2 := by rw [cl_len, h]; rfl
  have h1 : (1 : Int) ≤ (s.length : Int) := by omega
  have h2 : (s.length : Int) ≤ 8 := by omega
  have h3 : (1 : Int) < (s.length : Int) := by omega
  have i0 := str_ix0 h hz
  have e0 : ((⟨#[48]⟩ : Str) == ("0" : Str)) = true := by rw [one_zero]; rfl
  cases hf : figs s with
  | false => simp [f_number_in, m_number_in, hk, hA, hf, h1, h2, hz, fnF, sSeq, sIf, asTest, op1, op2, opN, opV, M.bnd, M.ret, M.opt, Arg.ev, rs, rss, Slot.rd, evs, sV, sAsg, sNx, var, gN, gTu, gCo, gNi, so_no, so_val, so_own, so_dic, so_inst, so_ex, sh_no, sh_val, sh_own, sh_dic, sh_inst, sh_ex, sa_no, sa_val, sa_own, sa_dic, sa_inst, sa_ex, vAnd, vOr, vNot, vIf, bAnd, bOr, bNot, chain, chC, chL, callF, callV_1, callV_2, callV_3, callV_4, sz1, sz2, sz3, sz4, sz5, sz6, sz7, sz8, sz9, sz10, sz11, sz12, dvs, D.cmpI, D.toI, D.mod, D.fdiv, add_ii, D.sub, D.mul, D.pow, D.neg, D.len, D.mkL, D.mkT, D.isN, D.notN, isiB, isi2, D.is, D.tn, sPut, callV_o1g]
  | true => simp [f_number_in, m_number_in, hk, hA, hf, h1, h2, h3, hz, i0, eq_str, e0, fnF, sSeq, sIf, asTest, op1, op2, opN, opV, M.bnd, M.ret, M.opt, Arg.ev, rs, rss, Slot.rd, evs, sV, sAsg, sNx, var, gN, gTu, gCo, gNi, so_no, so_val, so_own, so_dic, so_inst, so_ex, sh_no, sh_val, sh_own, sh_dic, sh_inst, sh_ex, sa_no, sa_val, sa_own, sa_dic, sa_inst, sa_ex, vAnd, vOr, vNot, vIf, bAnd, bOr, bNot, chain, chC, chL, callF, callV_1, callV_2, callV_3, callV_4, sz1, sz2, sz3, sz4, sz5, sz6, sz7, sz8, sz9, sz10, sz11, sz12, dvs, D.cmpI, D.toI, D.mod, D.fdiv, add_ii, D.sub, D.mul, D.pow, D.neg, D.len, D.mkL, D.mkT, D.isN, D.notN, isiB, isi2, D.is, D.tn, sPut, callV_o1g]
/-- a number -/
theorem number_yes {s : Str} {c : Nat} {r : List Nat} {n : Int} (h : cl s = c :: r) (hl : s.length ≤ 8) (hf : figs s = true) (h0 : c = 48 → r = []) (hn : PySem.intText? s = some n) : f_number_in [.val (.str s)] = .ok (.int n) [.val (.str s)] := by
  have hz : s.length ≤ sizeLine := by rw [sizeLine_eq]; omega
  have hk := figs_k (s := s) (s1 := .no) hz rfl
  have hA := figs_all (s := s)
  have e1 : s.length = r.length + 1 := by rw [cl_len, h]; rfl
  have h1 : (1 : Int) ≤ (s.length : Int) := by omega
  have h2 : (s.length : Int) ≤ 8 := by omega
  have i0 := str_ix0 h hz
  have hT : D.toS [.str s] = some (.int n) := by
    show (if s.length ≤ 640 then Option.map D.int (intText? s) else none) = _
    rw [if_pos (by omega), hn]
    rfl
  by_cases hc : c = 48
  · have hr := h0 hc
    subst hr
    have h3 : ¬ (1 : Int) < (s.length : Int) := by
      rw [e1]
      decide
    have e0 : ((⟨#[c]⟩ : Str) == ("0" : Str)) = true := by rw [one_zero, hc]; rfl
    simp [f_number_in, m_number_in, hk, hA, hf, h1, h2, h3, hz, i0, eq_str, e0, hT, fnF, sSeq, sIf, asTest, op1, op2, opN, opV, M.bnd, M.ret, M.opt, Arg.ev, rs, rss, Slot.rd, evs, sV, sAsg, sNx, var, gN, gTu, gCo, gNi, so_no, so_val, so_own, so_dic, so_inst, so_ex, sh_no, sh_val, sh_own, sh_dic, sh_inst, sh_ex, sa_no, sa_val, sa_own, sa_dic, sa_inst, sa_ex, vAnd, vOr, vNot, vIf, bAnd, bOr, bNot, chain, chC, chL, callF, callV_1, callV_2, callV_3, callV_4, sz1, sz2, sz3, sz4, sz5, sz6, sz7, sz8, sz9, sz10, sz11, sz12, dvs, D.cmpI, D.toI, D.mod, D.fdiv, add_ii, D.sub, D.mul, D.pow, D.neg, D.len, D.mkL, D.mkT, D.isN, D.notN, isiB, isi2, D.is, D.tn, sPut, callV_o1g]
  · have e0 : ((⟨#[c]⟩ : Str) == ("0" : Str)) = false := by rw [one_zero]; simp [hc]
    simp [f_number_in, m_number_in, hk, hA, hf, h1, h2, hz, i0, eq_str, e0, hT, fnF, sSeq, sIf, asTest, op1, op2, opN, opV, M.bnd, M.ret, M.opt, Arg.ev, rs, rss, Slot.rd, evs, sV, sAsg, sNx, var, gN, gTu, gCo, gNi, so_no, so_val, so_own, so_dic, so_inst, so_ex, sh_no, sh_val, sh_own, sh_dic, sh_inst, sh_ex, sa_no, sa_val, sa_own, sa_dic, sa_inst, sa_ex, vAnd, vOr, vNot, vIf, bAnd, bOr, bNot, chain, chC, chL, callF, callV_1, callV_2, callV_3, callV_4, sz1, sz2, sz3, sz4, sz5, sz6, sz7, sz8, sz9, sz10, sz11, sz12, dvs, D.cmpI, D.toI, D.mod, D.fdiv, add_ii, D.sub, D.mul, D.pow, D.neg, D.len, D.mkL, D.mkT, D.isN, D.notN, isiB, isi2, D.is, D.tn, sPut, callV_o1g]
theorem number_num {n : Nat} (h : n < 10000) : f_number_in [.val (.str (numS n))] = .ok (.int n) [.val (.str (numS n))] := by
  have hl := num_len (n := n) (k := 4) (by decide) (by omega)
  have hL : (TL.numL n).length ≤ 4 := TL.numL_len (by decide) (by omega)
  have hf : figs (numS n) = true := figs_iff.mpr fun c hc => by
    rw [cl_num] at hc
    exact TL.numL_digits n c hc
  have hi : PySem.intText? (numS n) = some (n : Int) := TL.int_num (by omega)
  by_cases h0 : n = 0
  · subst h0
    exact number_yes (c := 48) (r := []) (by rw [cl_num]; exact TL.numL_lt (by decide)) (by omega) hf (fun _ => rfl) hi
  · obtain ⟨c, r, e, hc⟩ := numL_head n (by omega)
    exact number_yes (c := c) (r := r) (by rw [cl_num]; exact e) (by omega) hf (fun z => absurd z hc) hi
theorem visit_in4 {a b c d : Str} {x y z : D} (h1 : f_number_in [.val (.str b)] = .ok x [.val (.str b)]) (h2 : f_number_in [.val (.str c)] = .ok y [.val (.str c)]) (h3 : f_number_in [.val (.str d)] = .ok z [.val (.str d)]) :
    f_visit_in [.val (.lst [.str a, .str b, .str c, .str d])] = .ok (.tup [.str a, x, y, z]) [.val (.lst [.str a, .str b, .str c, .str d])] := by
  have i0 : D.ix (.lst [.str a, .str b, .str c, .str d]) (.int 0) = some (.str a) := by simp [D.ix, L2.atI, ixN]
  have i1 : D.ix (.lst [.str a, .str b, .str c, .str d]) (.int 1) = some (.str b) := by simp [D.ix, L2.atI, ixN]
  have i2 : D.ix (.lst [.str a, .str b, .str c, .str d]) (.int 2) = some (.str c) := by simp [D.ix, L2.atI, ixN]
  have i3 : D.ix (.lst [.str a, .str b, .str c, .str d]) (.int 3) = some (.str d) := by simp [D.ix, L2.atI, ixN]
  have n4 : D.ne (.int 4) (.int 4) = some (.bl false) := rfl
  simp [f_visit_in, m_visit_in, i0, i1, i2, i3, n4, h1, h2, h3, fnF, sSeq, sIf, asTest, op1, op2, opN, opV, M.bnd, M.ret, M.opt, Arg.ev, rs, rss, Slot.rd, evs, sV, sAsg, sNx, var, gN, gTu, gCo, gNi, so_no, so_val, so_own, so_dic, so_inst, so_ex, sh_no, sh_val, sh_own, sh_dic, sh_inst, sh_ex, sa_no, sa_val, sa_own, sa_dic, sa_inst, sa_ex, vAnd, vOr, vNot, vIf, bAnd, bOr, bNot, chain, chC, chL, callF, callV_1, callV_2, callV_3, callV_4, sz1, sz2, sz3, sz4, sz5, sz6, sz7, sz8, sz9, sz10, sz11, sz12, dvs, D.cmpI, D.toI, D.mod, D.fdiv, add_ii, D.sub, D.mul, D.pow, D.neg, D.len, D.mkL, D.mkT, D.isN, D.notN, isiB, isi2, D.is, D.tn, sPut, callV_o1g]
theorem visit_inN {l : List D} (h : l.length ≠ 4) : f_visit_in [.val (.lst l)] = .ok .non [.val (.lst l)] := by
  have n4 : D.ne (.int (l.length : Int)) (.int 4) = some (.bl true) := by
    unfold D.ne
    have : ((l.length : Int) == 4) = false := by
      simp
      omega
    simp [D.sc, D.eqb, this]
  simp [f_visit_in, m_visit_in, n4, fnF, sSeq, sIf, asTest, op1, op2, opN, opV, M.bnd, M.ret, M.opt, Arg.ev, rs, rss, Slot.rd, evs, sV, sAsg, sNx, var, gN, gTu, gCo, gNi, so_no, so_val, so_own, so_dic, so_inst, so_ex, sh_no, sh_val, sh_own, sh_dic, sh_inst, sh_ex, sa_no, sa_val, sa_own, sa_dic, sa_inst, sa_ex, vAnd, vOr, vNot, vIf, bAnd, bOr, bNot, chain, chC, chL, callF, callV_1, callV_2, callV_3, callV_4, sz1, sz2, sz3, sz4, sz5, sz6, sz7, sz8, sz9, sz10, sz11, sz12, dvs, D.cmpI, D.toI, D.mod, D.fdiv, add_ii, D.sub, D.mul, D.pow, D.neg, D.len, D.mkL, D.mkT, D.isN, D.notN, isiB, isi2, D.is, D.tn, sPut, callV_o1g]
theorem is_row_tup (l : List D) : f_is_row [.val (.tup l)] = .ok (.bl true) [.val (.tup l)] := by simp [f_is_row, m_is_row, fnF, sSeq, sIf, asTest, op1, op2, opN, opV, M.bnd, M.ret, M.opt, Arg.ev, rs, rss, Slot.rd, Slot.arg, Slot.has, evs, sV, sAsg, sNx, var, gN, gTu, gCo, gNi, Slot.isOwn, vAnd, vOr, vNot, vIf, bAnd, bOr, bNot, chain, chC, chL, callF, callV_1, callV_2, callV_3, callV_4, sz1, sz2, sz3, sz4, sz5, sz6, sz7, sz8, sz9, sz10, sz11, sz12, dvs, D.ix, L2.atI, ixN, D.cmpI, D.toI, D.mod, D.fdiv, D.add, D.sub, D.mul, D.pow, D.neg, D.len, D.mkL, D.mkT, D.isN, D.notN, isiB, isi2, D.is, D.tn, D.eq, D.ne, D.sc, D.eqb, sPut, sFor, forL, seqM, srcN, D.rng1, D.rng2, D.enum]
theorem is_row_lst (l : List D) : f_is_row [.val (.lst l)] = .ok (.bl true) [.val (.lst l)] := by simp [f_is_row, m_is_row, fnF, sSeq, sIf, asTest, op1, op2, opN, opV, M.bnd, M.ret, M.opt, Arg.ev, rs, rss, Slot.rd, Slot.arg, Slot.has, evs, sV, sAsg, sNx, var, gN, gTu, gCo, gNi, Slot.isOwn, vAnd, vOr, vNot, vIf, bAnd, bOr, bNot, chain, chC, chL, callF, callV_1, callV_2, callV_3, callV_4, sz1, sz2, sz3, sz4, sz5, sz6, sz7, sz8, sz9, sz10, sz11, sz12, dvs, D.ix, L2.atI, ixN, D.cmpI, D.toI, D.mod, D.fdiv, D.add, D.sub, D.mul, D.pow, D.neg, D.len, D.mkL, D.mkT, D.isN, D.notN, isiB, isi2, D.is, D.tn, D.eq, D.ne, D.sc, D.eqb, sPut, sFor, forL, seqM, srcN, D.rng1, D.rng2, D.enum]
theorem is_row_non : f_is_row [.val .non] = .ok (.bl false) [.val .non] := by simp [f_is_row, m_is_row, fnF, sSeq, sIf, asTest, op1, op2, opN, opV, M.bnd, M.ret, M.opt, Arg.ev, rs, rss, Slot.rd, Slot.arg, Slot.has, evs, sV, sAsg, sNx, var, gN, gTu, gCo, gNi, Slot.isOwn, vAnd, vOr, vNot, vIf, bAnd, bOr, bNot, chain, chC, chL, callF, callV_1, callV_2, callV_3, callV_4, sz1, sz2, sz3, sz4, sz5, sz6, sz7, sz8, sz9, sz10, sz11, sz12, dvs, D.ix, L2.atI, ixN, D.cmpI, D.toI, D.mod, D.fdiv, D.add, D.sub, D.mul, D.pow, D.neg, D.len, D.mkL, D.mkT, D.isN, D.notN, isiB, isi2, D.is, D.tn, D.eq, D.ne, D.sc, D.eqb, sPut, sFor, forL, seqM, srcN, D.rng1, D.rng2, D.enum]
theorem is_visit_non : f_is_visit [.val .non] = .ok (.bl false) [.val .non] := by
  simp [f_is_visit, m_is_visit, is_row_non, fnF, sSeq, sIf, asTest, op1, op2, opN, opV, M.bnd, M.ret, M.opt, Arg.ev, rs, rss, Slot.rd, evs, sV, sAsg, sNx, var, gN, gTu, gCo, gNi, so_no, so_val, so_own, so_dic, so_inst, so_ex, sh_no, sh_val, sh_own, sh_dic, sh_inst, sh_ex, sa_no, sa_val, sa_own, sa_dic, sa_inst, sa_ex, vAnd, vOr, vNot, vIf, bAnd, bOr, bNot, chain, chC, chL, callF, callV_1, callV_2, callV_3, callV_4, sz1, sz2, sz3, sz4, sz5, sz6, sz7, sz8, sz9, sz10, sz11, sz12, dvs, D.cmpI, D.toI, D.mod, D.fdiv, add_ii, D.sub, D.mul, D.pow, D.neg, D.len, D.mkL, D.mkT, D.isN, D.notN, isiB, isi2, D.is, D.tn, sPut, callV_o1g]
/-- a number or nothing, within bounds -/
def inB (a b : Int) : D → Bool
  | .int i => decide (a ≤ i) && decide (i ≤ b)
  | _ => false
inductive NumD : D → Prop where
  | i (n : Int) : NumD (.int n)
  | n : NumD .non
theorem is_number_d {d : D} (h : NumD d) (a b : Int) : f_is_number [.val d, .val (.int a), .val (.int b)] = .ok (.bl (inB a b d)) [.val d, .val (.int a), .val (.int b)] := by
  cases h with
  | i n => exact is_number_int n a b
  | n => exact is_number_non a b
theorem is_visit_tup {s : Str} {x y z : D} {bn : Bool} (hn : f_is_name [.val (.str s)] = .ok (.bl bn) [.val (.str s)]) (hx : NumD x) (hy : NumD y) (hz : NumD z) :
    f_is_visit [.val (.tup [.str s, x, y, z])] = .ok (.bl (bn && inB 0 2000 x && (inB 0 400 y && inB 1 400 z))) [.val (.tup [.str s, x, y, z])] := by
  have i0 : D.ix (.tup [.str s, x, y, z]) (.int 0) = some (.str s) := by simp [D.ix, L2.atI, ixN]
  have i1 : D.ix (.tup [.str s, x, y, z]) (.int 1) = some x := by simp [D.ix, L2.atI, ixN]
  have i2 : D.ix (.tup [.str s, x, y, z]) (.int 2) = some y := by simp [D.ix, L2.atI, ixN]
  have i3 : D.ix (.tup [.str s, x, y, z]) (.int 3) = some z := by simp [D.ix, L2.atI, ixN]
  have n4 : D.ne (.int 4) (.int 4) = some (.bl false) := rfl
  have q1 := is_number_d hx 0 2000
  have q2 := is_number_d hy 0 400
  have q3 := is_number_d hz 1 400
  cases bn <;> cases h1 : inB 0 2000 x <;> cases h2 : inB 0 400 y <;> cases h3 : inB 1 400 z <;> simp [f_is_visit, m_is_visit, is_row_tup, i0, i1, i2, i3, n4, hn, q1, q2, q3, h1, h2, h3, fnF, sSeq, sIf, asTest, op1, op2, opN, opV, M.bnd, M.ret, M.opt, Arg.ev, rs, rss, Slot.rd, evs, sV, sAsg, sNx, var, gN, gTu, gCo, gNi, so_no, so_val, so_own, so_dic, so_inst, so_ex, sh_no, sh_val, sh_own, sh_dic, sh_inst, sh_ex, sa_no, sa_val, sa_own, sa_dic, sa_inst, sa_ex, vAnd, vOr, vNot, vIf, bAnd, bOr, bNot, chain, chC, chL, callF, callV_1, callV_2, callV_3, callV_4, sz1, sz2, sz3, sz4, sz5, sz6, sz7, sz8, sz9, sz10, sz11, sz12, dvs, D.cmpI, D.toI, D.mod, D.fdiv, add_ii, D.sub, D.mul, D.pow, D.neg, D.len, D.mkL, D.mkT, D.isN, D.notN, isiB, isi2, D.is, D.tn, sPut, callV_o1g]
end DL
namespace DL
open PySem L2
def VD (v : Vis) : D := .tup [.str v.name, .int v.m, .int v.l, .int v.w]
def Look (d : D) (b : Bool) : Prop := f_is_visit [.val d] = .ok (.bl b) [.val d]
theorem look_vis {v : Vis} (h : VisOk v) : Look (VD v) true := by
  have e := is_visit_tup (is_name_ok h.name) (.i (v.m : Int)) (.i (v.l : Int)) (.i (v.w : Int))
  have h1 := h.m
  have h2 := h.l
  have h3 := h.w1
  have h4 := h.w2
  have e1 : inB 0 2000 (.int (v.m : Int)) = true := by simp [inB]; omega
  have e2 : inB 0 400 (.int (v.l : Int)) = true := by simp [inB]; omega
  have e3 : inB 1 400 (.int (v.w : Int)) = true := by simp [inB]; omega
  rw [e1, e2, e3] at e
  exact e
theorem frozen_str (n : Nat) (s : Str) : f_frozen (n + 1) [.val (.str s)] = .ok (.str s) [.val (.str s)] := by
  simp [f_frozen, m_frozen, fnF, sSeq, sIf, asTest, op1, op2, opN, opV, M.bnd, M.ret, M.opt, Arg.ev, rs, rss, Slot.rd, evs, sV, sAsg, sNx, var, gN, gTu, gCo, gNi, so_no, so_val, so_own, so_dic, so_inst, so_ex, sh_no, sh_val, sh_own, sh_dic, sh_inst, sh_ex, sa_no, sa_val, sa_own, sa_dic, sa_inst, sa_ex, vAnd, vOr, vNot, vIf, bAnd, bOr, bNot, chain, chC, chL, callF, callV_1, callV_2, callV_3, callV_4, sz1, sz2, sz3, sz4, sz5, sz6, sz7, sz8, sz9, sz10, sz11, sz12, dvs, D.cmpI, D.toI, D.mod, D.fdiv, add_ii, D.sub, D.mul, D.pow, D.neg, D.len, D.mkL, D.mkT, D.isN, D.notN, isiB, isi2, D.is, D.tn, sPut, callV_o1g]
theorem frozen_int (n : Nat) (i : Int) : f_frozen (n + 1) [.val (.int i)] = .ok (.int i) [.val (.int i)] := by
  simp [f_frozen, m_frozen, fnF, sSeq, sIf, asTest, op1, op2, opN, opV, M.bnd, M.ret, M.opt, Arg.ev, rs, rss, Slot.rd, evs, sV, sAsg, sNx, var, gN, gTu, gCo, gNi, so_no, so_val, so_own, so_dic, so_inst, so_ex, sh_no, sh_val, sh_own, sh_dic, sh_inst, sh_ex, sa_no, sa_val, sa_own, sa_dic, sa_inst, sa_ex, vAnd, vOr, vNot, vIf, bAnd, bOr, bNot, chain, chC, chL, callF, callV_1, callV_2, callV_3, callV_4, sz1, sz2, sz3, sz4, sz5, sz6, sz7, sz8, sz9, sz10, sz11, sz12, dvs, D.cmpI, D.toI, D.mod, D.fdiv, add_ii, D.sub, D.mul, D.pow, D.neg, D.len, D.mkL, D.mkT, D.isN, D.notN, isiB, isi2, D.is, D.tn, sPut, callV_o1g]
theorem frozen_k {n : Nat} {d : D} {l : List D} {s1 : Slot} (hs : seqM (var 0) [.val d, s1] = .ok l [.val d, s1]) (h1 : s1.isOwn = false) (h : ∀ x ∈ l, f_frozen n [.val x] = .ok x [.val x]) : k1_frozen (f_frozen n) [.val d, s1] = .ok (.lst l) [.val d, s1] := by
  have e := comp_pure (vs := [1]) (src := seqM (var 0)) (t := gN 1) (tt := noTest) (te := c0_frozen (f_frozen n)) (ρ := [.val d, s1]) (ρ0 := [.val d, s1]) (ds := l) (fun _ => true) id hs (by simp [ownAt, h1]) fun x hx => ?_
  · rw [filter_true, List.map_id] at e
    exact e
  · exact ⟨[.val d, .val x], by simp [wipeE, fnF, sSeq, sIf, asTest, op1, op2, opN, opV, M.bnd, M.ret, M.opt, Arg.ev, rs, rss, Slot.rd, Slot.arg, Slot.has, evs, sV, sAsg, sNx, var, gN, gTu, gCo, gNi, Slot.isOwn, vAnd, vOr, vNot, vIf, bAnd, bOr, bNot, chain, chC, chL, callF, callV_1, callV_2, callV_3, callV_4, sz1, sz2, sz3, sz4, sz5, sz6, sz7, sz8, sz9, sz10, sz11, sz12, dvs, D.ix, L2.atI, ixN, D.cmpI, D.toI, D.mod, D.fdiv, D.add, D.sub, D.mul, D.pow, D.neg, D.len, D.mkL, D.mkT, D.isN, D.notN, isiB, isi2, D.is, D.tn, D.eq, D.ne, D.sc, D.eqb, sPut, sFor, forL, seqM, srcN, D.rng1, D.rng2, D.enum], rfl, fun _ => by simp [c0_frozen, h x hx, fnF, sSeq, sIf, asTest, op1, op2, opN, opV, M.bnd, M.ret, M.opt, Arg.ev, rs, rss, Slot.rd, Slot.arg, Slot.has, evs, sV, sAsg, sNx, var, gN, gTu, gCo, gNi, Slot.isOwn, vAnd, vOr, vNot, vIf, bAnd, bOr, bNot, chain, chC, chL, callF, callV_1, callV_2, callV_3, callV_4, sz1, sz2, sz3, sz4, sz5, sz6, sz7, sz8, sz9, sz10, sz11, sz12, dvs, D.ix, L2.atI, ixN, D.cmpI, D.toI, D.mod, D.fdiv, D.add, D.sub, D.mul, D.pow, D.neg, D.len, D.mkL, D.mkT, D.isN, D.notN, isiB, isi2, D.is, D.tn, D.eq, D.ne, D.sc, D.eqb, sPut, sFor, forL, seqM, srcN, D.rng1, D.rng2, D.enum], by simp [ownAt, Slot.isOwn], by simp [wipeE]⟩
theorem frozen_tup {n : Nat} {l : List D} (hz : l.length ≤ sizeLine) (h : ∀ x ∈ l, f_frozen n [.val x] = .ok x [.val x]) : f_frozen (n + 1) [.val (.tup l)] = .ok (.tup l) [.val (.tup l)] := by
  have hk := frozen_k (n := n) (d := .tup l) (l := l) (s1 := .no) (by simp [fnF, sSeq, sIf, asTest, op1, op2, opN, opV, M.bnd, M.ret, M.opt, Arg.ev, rs, rss, Slot.rd, Slot.arg, Slot.has, evs, sV, sAsg, sNx, var, gN, gTu, gCo, gNi, Slot.isOwn, vAnd, vOr, vNot, vIf, bAnd, bOr, bNot, chain, chC, chL, callF, callV_1, callV_2, callV_3, callV_4, sz1, sz2, sz3, sz4, sz5, sz6, sz7, sz8, sz9, sz10, sz11, sz12, dvs, D.ix, L2.atI, ixN, D.cmpI, D.toI, D.mod, D.fdiv, D.add, D.sub, D.mul, D.pow, D.neg, D.len, D.mkL, D.mkT, D.isN, D.notN, isiB, isi2, D.is, D.tn, D.eq, D.ne, D.sc, D.eqb, sPut, sFor, forL, seqM, srcN, D.rng1, D.rng2, D.enum]) rfl h
  simp [f_frozen, m_frozen, hk, D.toT, fnF, sSeq, sIf, asTest, op1, op2, opN, opV, M.bnd, M.ret, M.opt, Arg.ev, rs, rss, Slot.rd, evs, sV, sAsg, sNx, var, gN, gTu, gCo, gNi, so_no, so_val, so_own, so_dic, so_inst, so_ex, sh_no, sh_val, sh_own, sh_dic, sh_inst, sh_ex, sa_no, sa_val, sa_own, sa_dic, sa_inst, sa_ex, vAnd, vOr, vNot, vIf, bAnd, bOr, bNot, chain, chC, chL, callF, callV_1, callV_2, callV_3, callV_4, sz1, sz2, sz3, sz4, sz5, sz6, sz7, sz8, sz9, sz10, sz11, sz12, dvs, D.cmpI, D.toI, D.mod, D.fdiv, add_ii, D.sub, D.mul, D.pow, D.neg, D.len, D.mkL, D.mkT, D.isN, D.notN, isiB, isi2, D.is, D.tn, sPut, callV_o1g]
theorem frozen_lst {n : Nat} {l : List D} (hz : l.length ≤ sizeLine) (h : ∀ x ∈ l, f_frozen n [.val x] = .ok x [.val x]) : f_frozen (n + 1) [.val (.lst l)] = .ok (.tup l) [.val (.lst l)] := by
  have hk := frozen_k (n := n) (d := .lst l) (l := l) (s1 := .no) (by simp [fnF, sSeq, sIf, asTest, op1, op2, opN, opV, M.bnd, M.ret, M.opt, Arg.ev, rs, rss, Slot.rd, Slot.arg, Slot.has, evs, sV, sAsg, sNx, var, gN, gTu, gCo, gNi, Slot.isOwn, vAnd, vOr, vNot, vIf, bAnd, bOr, bNot, chain, chC, chL, callF, callV_1, callV_2, callV_3, callV_4, sz1, sz2, sz3, sz4, sz5, sz6, sz7, sz8, sz9, sz10, sz11, sz12, dvs, D.ix, L2.atI, ixN, D.cmpI, D.toI, D.mod, D.fdiv, D.add, D.sub, D.mul, D.pow, D.neg, D.len, D.mkL, D.mkT, D.isN, D.notN, isiB, isi2, D.is, D.tn, D.eq, D.ne, D.sc, D.eqb, sPut, sFor, forL, seqM, srcN, D.rng1, D.rng2, D.enum]) rfl h
  simp [f_frozen, m_frozen, hk, D.toT, fnF, sSeq, sIf, asTest, op1, op2, opN, opV, M.bnd, M.ret, M.opt, Arg.ev, rs, rss, Slot.rd, evs, sV, sAsg, sNx, var, gN, gTu, gCo, gNi, so_no, so_val, so_own, so_dic, so_inst, so_ex, sh_no, sh_val, sh_own, sh_dic, sh_inst, sh_ex, sa_no, sa_val, sa_own, sa_dic, sa_inst, sa_ex, vAnd, vOr, vNot, vIf, bAnd, bOr, bNot, chain, chC, chL, callF, callV_1, callV_2, callV_3, callV_4, sz1, sz2, sz3, sz4, sz5, sz6, sz7, sz8, sz9, sz10, sz11, sz12, dvs, D.cmpI, D.toI, D.mod, D.fdiv, add_ii, D.sub, D.mul, D.pow, D.neg, D.len, D.mkL, D.mkT, D.isN, D.notN, isiB, isi2, D.is, D.tn, sPut, callV_o1g]
theorem frozen_vis (n : Nat) (v : Vis) : f_frozen (n + 2) [.val (VD v)] = .ok (VD v) [.val (VD v)] := by
  refine frozen_tup (by rw [sizeLine_eq]; show 4 ≤ _; decide) fun x hx => ?_
  simp only [List.mem_cons, List.not_mem_nil, or_false] at hx
  rcases hx with rfl | rfl | rfl | rfl
  · exact frozen_str n _
  · exact frozen_int n _
  · exact frozen_int n _
  · exact frozen_int n _
theorem wr_body {L d item : D} {b : Bool} {i : Int} (h : Look item b) : b0_want_row [.val L, .val (.fn "is_visit"), .val (.int 40), .val (.int i), .val item] =
    if b = true then .nx [.val L, .val (.fn "is_visit"), .val (.int 40), .val (.int i), .val item] else .exc ⟨"BadItem", ["index"], [.int i]⟩ [.val L, .val (.fn "is_visit"), .val (.int 40), .val (.int i), .val item] := by
  have hl : List.lookup ("is_visit" : Str) [(("is_visit" : Str), f_is_visit)] = some f_is_visit := by simp [List.lookup]
  have h' : f_is_visit [.val item] = .ok (.bl b) [.val item] := h
  cases b <;> simp [b0_want_row, callP, hl, callV, slotsOf, ownIx, upsOf, updE, h', sRaise, allD, fnF, sSeq, sIf, asTest, op1, op2, opN, opV, M.bnd, M.ret, M.opt, Arg.ev, rs, rss, Slot.rd, evs, sV, sAsg, sNx, var, gN, gTu, gCo, gNi, so_no, so_val, so_own, so_dic, so_inst, so_ex, sh_no, sh_val, sh_own, sh_dic, sh_inst, sh_ex, sa_no, sa_val, sa_own, sa_dic, sa_inst, sa_ex, vAnd, vOr, vNot, vIf, bAnd, bOr, bNot, chain, chC, chL, callF, callV_1, callV_2, callV_3, callV_4, sz1, sz2, sz3, sz4, sz5, sz6, sz7, sz8, sz9, sz10, sz11, sz12, dvs, D.cmpI, D.toI, D.mod, D.fdiv, add_ii, D.sub, D.mul, D.pow, D.neg, D.len, D.mkL, D.mkT, D.isN, D.notN, isiB, isi2, D.is, D.tn, sPut, callV_o1g]
/-- all are visits -/
theorem wr_all {L : D} : ∀ {l : List D} {n : Nat} {s3 s4 : Slot}, s3.isOwn = false → s4.isOwn = false → (∀ d ∈ l, Look d true) →
    ∃ t3 t4 : Slot, t3.isOwn = false ∧ t4.isOwn = false ∧ forL (gTu (gCo (gN 3) (gCo (gN 4) (gNi))) 2) b0_want_row (numd n l) [.val L, .val (.fn "is_visit"), .val (.int 40), s3, s4] = .nx [.val L, .val (.fn "is_visit"), .val (.int 40), t3, t4]
  | [], n, s3, s4, h3, h4, _ => ⟨s3, s4, h3, h4, rfl⟩
  | d :: l, n, s3, s4, h3, h4, h => by
    obtain ⟨t3, t4, g3, g4, e⟩ := wr_all (L := L) (l := l) (n := n + 1) (s3 := .val (.int (n : Int))) (s4 := .val d) rfl rfl fun x hx => h x (List.mem_cons_of_mem _ hx)
    refine ⟨t3, t4, g3, g4, ?_⟩
    have hb := wr_body (L := L) (d := d) (i := (n : Int)) (h d (by simp))
    rw [if_pos rfl] at hb
    have ht : gTu (gCo (gN 3) (gCo (gN 4) (gNi))) 2 (.tup [.int (n : Int), d]) [.val L, .val (.fn "is_visit"), .val (.int 40), s3, s4] = some [.val L, .val (.fn "is_visit"), .val (.int 40), .val (.int (n : Int)), .val d] := by
      simp [gTu, gCo, gN, gNi, h3, h4]
    exact (for_cons ht hb).trans e
/-- some is none -/
theorem wr_some {L : D} : ∀ {l : List D} {n : Nat} {s3 s4 : Slot}, s3.isOwn = false → s4.isOwn = false → (∀ d ∈ l, ∃ b, Look d b) → (∃ d ∈ l, Look d false) →
    ∃ (i : Int) (t3 t4 : Slot), forL (gTu (gCo (gN 3) (gCo (gN 4) (gNi))) 2) b0_want_row (numd n l) [.val L, .val (.fn "is_visit"), .val (.int 40), s3, s4] = .exc ⟨"BadItem", ["index"], [.int i]⟩ [.val L, .val (.fn "is_visit"), .val (.int 40), t3, t4]
  | [], n, s3, s4, h3, h4, _, h => by obtain ⟨d, hd, _⟩ := h; cases hd
  | d :: l, n, s3, s4, h3, h4, hb, h => by
    have ht : gTu (gCo (gN 3) (gCo (gN 4) (gNi))) 2 (.tup [.int (n : Int), d]) [.val L, .val (.fn "is_visit"), .val (.int 40), s3, s4] = some [.val L, .val (.fn "is_visit"), .val (.int 40), .val (.int (n : Int)), .val d] := by
      simp [gTu, gCo, gN, gNi, h3, h4]
    obtain ⟨b, hd⟩ := hb d (by simp)
    have hbody := wr_body (L := L) (d := d) (i := (n : Int)) hd
    cases b with
    | true =>
      rw [if_pos rfl] at hbody
      obtain ⟨i, t3, t4, e⟩ := wr_some (L := L) (l := l) (n := n + 1) (s3 := .val (.int (n : Int))) (s4 := .val d) rfl rfl (fun x hx => hb x (List.mem_cons_of_mem _ hx)) (by
        obtain ⟨x, hx, hl⟩ := h
        rcases List.mem_cons.mp hx with rfl | hx
        · exfalso
          have := hd.symm.trans hl
          cases this
        · exact ⟨x, hx, hl⟩)
      exact ⟨i, t3, t4, (for_cons ht hbody).trans e⟩
    | false =>
      rw [if_neg (by decide)] at hbody
      refine ⟨(n : Int), .val (.int (n : Int)), .val d, ?_⟩
      show forL _ _ (D.tup [.int (n : Int), d] :: numd (n + 1) l) _ = _
      unfold forL
      rw [ht]
      dsimp only
      rw [hbody]
theorem want_ok {l : List D} (hl : l.length ≤ 40) (h : ∀ d ∈ l, Look d true) (hf : ∀ d ∈ l, f_frozen 7 [.val d] = .ok d [.val d]) :
    f_want_row [.val (.lst l), .val (.fn "is_visit"), .val (.int 40)] = .ok (.tup l) [.val (.lst l), .val (.fn "is_visit"), .val (.int 40)] := by
  have hz : l.length ≤ sizeLine := by rw [sizeLine_eq]; omega
  obtain ⟨t3, t4, g3, g4, e⟩ := wr_all (L := .lst l) (l := l) (n := 0) (s3 := .no) (s4 := .no) rfl rfl h
  have hs : srcN D.enum [.v (var 0)] [.val (.lst l), .val (.fn "is_visit"), .val (.int 40), .no, .no] = .ok (numd 0 l) [.val (.lst l), .val (.fn "is_visit"), .val (.int 40), .no, .no] := by simp [fnF, sSeq, sIf, asTest, op1, op2, opN, opV, M.bnd, M.ret, M.opt, Arg.ev, rs, rss, Slot.rd, Slot.arg, Slot.has, evs, sV, sAsg, sNx, var, gN, gTu, gCo, gNi, Slot.isOwn, vAnd, vOr, vNot, vIf, bAnd, bOr, bNot, chain, chC, chL, callF, callV_1, callV_2, callV_3, callV_4, sz1, sz2, sz3, sz4, sz5, sz6, sz7, sz8, sz9, sz10, sz11, sz12, dvs, D.ix, L2.atI, ixN, D.cmpI, D.toI, D.mod, D.fdiv, D.add, D.sub, D.mul, D.pow, D.neg, D.len, D.mkL, D.mkT, D.isN, D.notN, isiB, isi2, D.is, D.tn, D.eq, D.ne, D.sc, D.eqb, sPut, sFor, forL, seqM, srcN, D.rng1, D.rng2, D.enum]
  have hloop : l1_want_row [.val (.lst l), .val (.fn "is_visit"), .val (.int 40), .no, .no] = .nx [.val (.lst l), .val (.fn "is_visit"), .val (.int 40), t3, t4] := (for_ok hs).trans e
  have hr := frozen_lst (n := 7) (l := l) hz hf
  have h40 : ¬ (40 : Int) < (l.length : Int) := by omega
  simp [f_want_row, m_want_row, is_row_lst, hloop, hr, h40, fnF, sSeq, sIf, asTest, op1, op2, opN, opV, M.bnd, M.ret, M.opt, Arg.ev, rs, rss, Slot.rd, evs, sV, sAsg, sNx, var, gN, gTu, gCo, gNi, so_no, so_val, so_own, so_dic, so_inst, so_ex, sh_no, sh_val, sh_own, sh_dic, sh_inst, sh_ex, sa_no, sa_val, sa_own, sa_dic, sa_inst, sa_ex, vAnd, vOr, vNot, vIf, bAnd, bOr, bNot, chain, chC, chL, callF, callV_1, callV_2, callV_3, callV_4, sz1, sz2, sz3, sz4, sz5, sz6, sz7, sz8, sz9, sz10, sz11, sz12, dvs, D.cmpI, D.toI, D.mod, D.fdiv, add_ii, D.sub, D.mul, D.pow, D.neg, D.len, D.mkL, D.mkT, D.isN, D.notN, isiB, isi2, D.is, D.tn, sPut, callV_o1g]
theorem want_bad {l : List D} (hb : ∀ d ∈ l, ∃ b, Look d b) (h : ∃ d ∈ l, Look d false) :
    ∃ (i : Int), f_want_row [.val (.lst l), .val (.fn "is_visit"), .val (.int 40)] = .exc ⟨"BadItem", ["index"], [.int i]⟩ [.val (.lst l), .val (.fn "is_visit"), .val (.int 40)] := by
  obtain ⟨i, t3, t4, e⟩ := wr_some (L := .lst l) (l := l) (n := 0) (s3 := .no) (s4 := .no) rfl rfl hb h
  have hs : srcN D.enum [.v (var 0)] [.val (.lst l), .val (.fn "is_visit"), .val (.int 40), .no, .no] = .ok (numd 0 l) [.val (.lst l), .val (.fn "is_visit"), .val (.int 40), .no, .no] := by simp [fnF, sSeq, sIf, asTest, op1, op2, opN, opV, M.bnd, M.ret, M.opt, Arg.ev, rs, rss, Slot.rd, Slot.arg, Slot.has, evs, sV, sAsg, sNx, var, gN, gTu, gCo, gNi, Slot.isOwn, vAnd, vOr, vNot, vIf, bAnd, bOr, bNot, chain, chC, chL, callF, callV_1, callV_2, callV_3, callV_4, sz1, sz2, sz3, sz4, sz5, sz6, sz7, sz8, sz9, sz10, sz11, sz12, dvs, D.ix, L2.atI, ixN, D.cmpI, D.toI, D.mod, D.fdiv, D.add, D.sub, D.mul, D.pow, D.neg, D.len, D.mkL, D.mkT, D.isN, D.notN, isiB, isi2, D.is, D.tn, D.eq, D.ne, D.sc, D.eqb, sPut, sFor, forL, seqM, srcN, D.rng1, D.rng2, D.enum]
  have hloop : l1_want_row [.val (.lst l), .val (.fn "is_visit"), .val (.int 40), .no, .no] = .exc ⟨"BadItem", ["index"], [.int i]⟩ [.val (.lst l), .val (.fn "is_visit"), .val (.int 40), t3, t4] := (for_ok hs).trans e
  refine ⟨i, ?_⟩
  simp [f_want_row, m_want_row, is_row_lst, hloop, fnF, sSeq, sIf, asTest, op1, op2, opN, opV, M.bnd, M.ret, M.opt, Arg.ev, rs, rss, Slot.rd, evs, sV, sAsg, sNx, var, gN, gTu, gCo, gNi, so_no, so_val, so_own, so_dic, so_inst, so_ex, sh_no, sh_val, sh_own, sh_dic, sh_inst, sh_ex, sa_no, sa_val, sa_own, sa_dic, sa_inst, sa_ex, vAnd, vOr, vNot, vIf, bAnd, bOr, bNot, chain, chC, chL, callF, callV_1, callV_2, callV_3, callV_4, sz1, sz2, sz3, sz4, sz5, sz6, sz7, sz8, sz9, sz10, sz11, sz12, dvs, D.cmpI, D.toI, D.mod, D.fdiv, add_ii, D.sub, D.mul, D.pow, D.neg, D.len, D.mkL, D.mkT, D.isN, D.notN, isiB, isi2, D.is, D.tn, sPut, callV_o1g]
end DL
namespace DL
open PySem L2
theorem cut_take {α : Type} (l : List α) (n : Nat) : cutG l none (some (n : Int)) = l.take n := by
  unfold cutG
  rw [HT.sIx_none, HT.sIx_nat]
  simp
theorem name_lay {s : Str} (h : NameOk s) : PyData.canLay0 (.str s) = true := by
  show s.cps.all (· < 0x110000) = true
  rw [← Array.all_toList, List.all_eq_true]
  intro c hc
  obtain ⟨a, r, e, h1, h2, _⟩ := h
  have hc' : c ∈ cl s := hc
  rw [e] at hc'
  rcases List.mem_cons.mp hc' with rfl | hc'
  · simp; omega
  · have := h2 c hc'
    simp; omega
theorem mem_lst (x : Str) (l : List D) : D.mem (.str x) (.lst l) = if (D.sh (.str x) && D.sh (.lst l)) = true then some (.bl (l.any fun z => D.eqb z (.str x))) else none := rfl
theorem any_str (x : Str) (ms : List Str) : ((ms.map D.str).any fun z => D.eqb z (.str x)) = decide (x ∈ ms) := by
  induction ms with
  | nil => simp
  | cons y ms ih =>
    rw [List.map_cons, List.any_cons, ih]
    show ((y == x) || _) = _
    by_cases h : y = x
    · subst h; simp
    · have h' : (y == x) = false := by simpa using h
      have h2 : ¬ x = y := fun e => h e.symm
      simp [h', h2]
theorem mem_strs {x : Str} {ms : List Str} (hx : NameOk x) (hms : ∀ y ∈ ms, NameOk y) : D.mem (.str x) (.lst (ms.map .str)) = some (.bl (decide (x ∈ ms))) := by
  have h1 : D.sh (.str x) = true := sh_of (name_lay hx)
  have h2 : D.sh (.lst (ms.map .str)) = true := sh_of (shd_map fun y hy => name_lay (hms y hy))
  rw [mem_lst, h1, h2, any_str]
  rfl
theorem bt_body {I V s5 : Slot} {ms : List Str} {x : Str} {n : Nat} (hI : I.isOwn = true) (hx : NameOk x) (hms : ∀ y ∈ ms, NameOk y) : b2_Lane_uuinit__ [I, V, .val (.lst (ms.map .str)), .val (.int n), .val (.str x), s5] =
    if x ∈ ms.take n then .exc ⟨"Taken", ["value"], [.str x]⟩ [I, V, .val (.lst (ms.map .str)), .val (.int n), .val (.str x), s5] else .nx [I, V, .val (.lst (ms.map .str)), .val (.int n), .val (.str x), s5] := by
  have e1 : D.cut none (some (n : Int)) (.lst (ms.map .str)) = some (.lst ((ms.map .str).take n)) := by
    show some (D.lst (cutG (ms.map .str) none (some (n : Int)))) = _
    rw [cut_take]
  have e2 := mem_strs (ms := ms.take n) hx fun y hy => hms y (List.mem_of_mem_take hy)
  rw [List.map_take] at e2
  by_cases h : x ∈ ms.take n
  · rw [if_pos h]
    have e3 : decide (x ∈ ms.take n) = true := by simp [h]
    rw [e3] at e2
    simp [b2_Lane_uuinit__, slc, Pt.ev, e1, e2, sRaise, allD, fnF, sSeq, sIf, asTest, op1, op2, opN, opV, M.bnd, M.ret, M.opt, Arg.ev, rs, rss, Slot.rd, evs, sV, sAsg, sNx, var, gN, gTu, gCo, gNi, so_no, so_val, so_own, so_dic, so_inst, so_ex, sh_no, sh_val, sh_own, sh_dic, sh_inst, sh_ex, sa_no, sa_val, sa_own, sa_dic, sa_inst, sa_ex, vAnd, vOr, vNot, vIf, bAnd, bOr, bNot, chain, chC, chL, callF, callV_1, callV_2, callV_3, callV_4, sz1, sz2, sz3, sz4, sz5, sz6, sz7, sz8, sz9, sz10, sz11, sz12, dvs, D.cmpI, D.toI, D.mod, D.fdiv, add_ii, D.sub, D.mul, D.pow, D.neg, D.len, D.mkL, D.mkT, D.isN, D.notN, isiB, isi2, D.is, D.tn, sPut, callV_o1g]
  · rw [if_neg h]
    have e3 : decide (x ∈ ms.take n) = false := by simp [h]
    rw [e3] at e2
    simp [b2_Lane_uuinit__, slc, Pt.ev, e1, e2, fnF, sSeq, sIf, asTest, op1, op2, opN, opV, M.bnd, M.ret, M.opt, Arg.ev, rs, rss, Slot.rd, evs, sV, sAsg, sNx, var, gN, gTu, gCo, gNi, so_no, so_val, so_own, so_dic, so_inst, so_ex, sh_no, sh_val, sh_own, sh_dic, sh_inst, sh_ex, sa_no, sa_val, sa_own, sa_dic, sa_inst, sa_ex, vAnd, vOr, vNot, vIf, bAnd, bOr, bNot, chain, chC, chL, callF, callV_1, callV_2, callV_3, callV_4, sz1, sz2, sz3, sz4, sz5, sz6, sz7, sz8, sz9, sz10, sz11, sz12, dvs, D.cmpI, D.toI, D.mod, D.fdiv, add_ii, D.sub, D.mul, D.pow, D.neg, D.len, D.mkL, D.mkT, D.isN, D.notN, isiB, isi2, D.is, D.tn, sPut, callV_o1g]
theorem numd_app : ∀ (a b : List D) (n : Nat), numd n (a ++ b) = numd n a ++ numd (n + a.length) b
  | [], b, n => by simp [numd]
  | d :: a, b, n => by
    show _ :: numd (n + 1) (a ++ b) = _ :: (numd (n + 1) a ++ _)
    rw [numd_app a b (n + 1), List.length_cons, show n + 1 + a.length = n + (a.length + 1) by omega]
/-- names that are new -/
theorem bt_new {I V s5 : Slot} {ms : List Str} {rest : List D} (hI : I.isOwn = true) (hms : ∀ y ∈ ms, NameOk y) : ∀ {post pre : List Str} {s3 s4 : Slot}, ms.take (pre.length + post.length) = pre ++ post → (pre ++ post).Nodup → s3.isOwn = false → s4.isOwn = false →
    ∃ t3 t4 : Slot, t3.isOwn = false ∧ t4.isOwn = false ∧ forL (gTu (gCo (gN 3) (gCo (gN 4) (gNi))) 2) b2_Lane_uuinit__ (numd pre.length (post.map .str) ++ rest) [I, V, .val (.lst (ms.map .str)), s3, s4, s5] =
      forL (gTu (gCo (gN 3) (gCo (gN 4) (gNi))) 2) b2_Lane_uuinit__ rest [I, V, .val (.lst (ms.map .str)), t3, t4, s5]
  | [], pre, s3, s4, _, _, h3, h4 => ⟨s3, s4, h3, h4, rfl⟩
  | x :: post, pre, s3, s4, hp, hn, h3, h4 => by
    have hp2 : ms.take ((pre ++ [x]).length + post.length) = (pre ++ [x]) ++ post := by
      rw [List.append_assoc]
      show ms.take _ = pre ++ (x :: post)
      rw [← hp]
      simp
      congr 1
      omega
    have hn2 : ((pre ++ [x]) ++ post).Nodup := by
      rw [List.append_assoc]
      exact hn
    obtain ⟨t3, t4, g3, g4, e⟩ := bt_new (I := I) (V := V) (s5 := s5) (rest := rest) hI hms (post := post) (pre := pre ++ [x]) (s3 := .val (.int (pre.length : Int))) (s4 := .val (.str x)) hp2 hn2 rfl rfl
    refine ⟨t3, t4, g3, g4, ?_⟩
    have hx : x ∈ ms := List.mem_of_mem_take (show x ∈ ms.take (pre.length + (x :: post).length) by rw [hp]; simp)
    have htk : ms.take pre.length = pre := by
      have := congrArg (List.take pre.length) hp
      rw [List.take_take, List.take_left, Nat.min_eq_left (Nat.le_add_right _ _)] at this
      exact this
    have hni : x ∉ ms.take pre.length := by
      rw [htk]
      intro hm
      have := List.nodup_append.mp hn
      exact this.2.2 x hm x (by simp) rfl
    have hb := bt_body (I := I) (V := V) (s5 := s5) (n := pre.length) hI (hms x hx) hms
    rw [if_neg hni] at hb
    have ht : gTu (gCo (gN 3) (gCo (gN 4) (gNi))) 2 (.tup [.int (pre.length : Int), .str x]) [I, V, .val (.lst (ms.map .str)), s3, s4, s5] = some [I, V, .val (.lst (ms.map .str)), .val (.int (pre.length : Int)), .val (.str x), s5] := by
      simp [gTu, gCo, gN, gNi, h3, h4]
    rw [List.length_append] at e
    exact (for_cons ht hb).trans e
theorem names_comp {I V : Slot} {vs : List Vis} {n l : List D} (hI : I = .inst "Lane" ["visits"] [.tup (vs.map VD)]) : k1_Lane_uuinit__ [I, V, .no, .no, .no, .no] = .ok (.lst ((vs.map fun v => v.name).map .str)) [I, V, .no, .no, .no, .no] := by
  subst hI
  have e := comp_pure (vs := [5]) (src := seqM (op1 (D.fld "Lane" "visits") (.o 0))) (t := gN 5) (tt := noTest) (te := c0_Lane_uuinit__) (ρ := [.inst "Lane" ["visits"] [.tup (vs.map VD)], V, .no, .no, .no, .no]) (ρ0 := [.inst "Lane" ["visits"] [.tup (vs.map VD)], V, .no, .no, .no, .no])
    (ds := vs.map VD) (fun _ => true) (fun d => match d with | .tup (x :: _) => x | _ => .non) (by simp [D.fld, List.lookup, fnF, sSeq, sIf, asTest, op1, op2, opN, opV, M.bnd, M.ret, M.opt, Arg.ev, rs, rss, Slot.rd, Slot.arg, Slot.has, evs, sV, sAsg, sNx, var, gN, gTu, gCo, gNi, Slot.isOwn, vAnd, vOr, vNot, vIf, bAnd, bOr, bNot, chain, chC, chL, callF, callV_1, callV_2, callV_3, callV_4, sz1, sz2, sz3, sz4, sz5, sz6, sz7, sz8, sz9, sz10, sz11, sz12, dvs, D.ix, L2.atI, ixN, D.cmpI, D.toI, D.mod, D.fdiv, D.add, D.sub, D.mul, D.pow, D.neg, D.len, D.mkL, D.mkT, D.isN, D.notN, isiB, isi2, D.is, D.tn, D.eq, D.ne, D.sc, D.eqb, sPut, sFor, forL, seqM, srcN, D.rng1, D.rng2, D.enum]) (by simp [ownAt, Slot.isOwn]) fun x hx => ?_
  · rw [filter_true, List.map_map] at e
    rw [List.map_map]
    exact e
  · obtain ⟨v, _, rfl⟩ := List.mem_map.mp hx
    have i0 : D.ix (VD v) (.int 0) = some (.str v.name) := by simp [VD, D.ix, L2.atI, ixN]
    refine ⟨[.inst "Lane" ["visits"] [.tup (vs.map VD)], V, .no, .no, .no, .val (VD v)], by simp [wipeE, fnF, sSeq, sIf, asTest, op1, op2, opN, opV, M.bnd, M.ret, M.opt, Arg.ev, rs, rss, Slot.rd, Slot.arg, Slot.has, evs, sV, sAsg, sNx, var, gN, gTu, gCo, gNi, Slot.isOwn, vAnd, vOr, vNot, vIf, bAnd, bOr, bNot, chain, chC, chL, callF, callV_1, callV_2, callV_3, callV_4, sz1, sz2, sz3, sz4, sz5, sz6, sz7, sz8, sz9, sz10, sz11, sz12, dvs, D.ix, L2.atI, ixN, D.cmpI, D.toI, D.mod, D.fdiv, D.add, D.sub, D.mul, D.pow, D.neg, D.len, D.mkL, D.mkT, D.isN, D.notN, isiB, isi2, D.is, D.tn, D.eq, D.ne, D.sc, D.eqb, sPut, sFor, forL, seqM, srcN, D.rng1, D.rng2, D.enum], rfl, fun _ => ?_, by simp [ownAt, Slot.isOwn], by simp [wipeE]⟩
    simp [c0_Lane_uuinit__, i0, fnF, sSeq, sIf, asTest, op1, op2, opN, opV, M.bnd, M.ret, M.opt, Arg.ev, rs, rss, Slot.rd, evs, sV, sAsg, sNx, var, gN, gTu, gCo, gNi, so_no, so_val, so_own, so_dic, so_inst, so_ex, sh_no, sh_val, sh_own, sh_dic, sh_inst, sh_ex, sa_no, sa_val, sa_own, sa_dic, sa_inst, sa_ex, vAnd, vOr, vNot, vIf, bAnd, bOr, bNot, chain, chC, chL, callF, callV_1, callV_2, callV_3, callV_4, sz1, sz2, sz3, sz4, sz5, sz6, sz7, sz8, sz9, sz10, sz11, sz12, dvs, D.cmpI, D.toI, D.mod, D.fdiv, add_ii, D.sub, D.mul, D.pow, D.neg, D.len, D.mkL, D.mkT, D.isN, D.notN, isiB, isi2, D.is, D.tn, sPut, callV_o1g]
    rfl
theorem vis_hot {vs : List Vis} (h : ∀ v ∈ vs, VisOk v) : (∀ d ∈ vs.map VD, Look d true) ∧ ∀ d ∈ vs.map VD, f_frozen 7 [.val d] = .ok d [.val d] := by
  constructor
  · intro d hd
    obtain ⟨v, hv, rfl⟩ := List.mem_map.mp hd
    exact look_vis (h v hv)
  · intro d hd
    obtain ⟨v, hv, rfl⟩ := List.mem_map.mp hd
    exact frozen_vis 5 v
theorem lane_src {I V : Slot} {N : List Str} : srcN D.enum [.v (var 2)] [I, V, .val (.lst (N.map .str)), .no, .no, .no] = .ok (numd 0 (N.map .str)) [I, V, .val (.lst (N.map .str)), .no, .no, .no] := by simp [fnF, sSeq, sIf, asTest, op1, op2, opN, opV, M.bnd, M.ret, M.opt, Arg.ev, rs, rss, Slot.rd, Slot.arg, Slot.has, evs, sV, sAsg, sNx, var, gN, gTu, gCo, gNi, Slot.isOwn, vAnd, vOr, vNot, vIf, bAnd, bOr, bNot, chain, chC, chL, callF, callV_1, callV_2, callV_3, callV_4, sz1, sz2, sz3, sz4, sz5, sz6, sz7, sz8, sz9, sz10, sz11, sz12, dvs, D.ix, L2.atI, ixN, D.cmpI, D.toI, D.mod, D.fdiv, D.add, D.sub, D.mul, D.pow, D.neg, D.len, D.mkL, D.mkT, D.isN, D.notN, isiB, isi2, D.is, D.tn, D.eq, D.ne, D.sc, D.eqb, sPut, sFor, forL, seqM, srcN, D.rng1, D.rng2, D.enum]
theorem lane_ok {vs : List Vis} (h : ∀ v ∈ vs, VisOk v) (hn : (vs.map fun v => v.name).Nodup) (hl : vs.length ≤ 40) :
    f_Lane_uuinit__ [.inst "Lane" [] [], .val (.lst (vs.map VD))] = .ok .non [.inst "Lane" ["visits"] [.tup (vs.map VD)], .val (.lst (vs.map VD))] := by
  have hw := want_ok (l := vs.map VD) (by simpa using hl) (vis_hot h).1 (vis_hot h).2
  have hc := names_comp (I := .inst "Lane" ["visits"] [.tup (vs.map VD)]) (V := .val (.lst (vs.map VD))) (vs := vs) (n := []) (l := []) rfl
  obtain ⟨t3, t4, g3, g4, e⟩ := bt_new (I := .inst "Lane" ["visits"] [.tup (vs.map VD)]) (V := .val (.lst (vs.map VD))) (s5 := .no) (ms := vs.map fun v => v.name) (rest := []) rfl (fun y hy => by
    obtain ⟨v, hv, rfl⟩ := List.mem_map.mp hy
    exact (h v hv).name) (post := vs.map fun v => v.name) (pre := []) (s3 := .no) (s4 := .no) (by rw [List.length_nil, Nat.zero_add, List.take_length]; rfl) (by simpa using hn) rfl rfl
  rw [List.append_nil] at e
  have hloop : l3_Lane_uuinit__ [.inst "Lane" ["visits"] [.tup (vs.map VD)], .val (.lst (vs.map VD)), .val (.lst ((vs.map fun v => v.name).map .str)), .no, .no, .no] = .nx [.inst "Lane" ["visits"] [.tup (vs.map VD)], .val (.lst (vs.map VD)), .val (.lst ((vs.map fun v => v.name).map .str)), t3, t4, .no] := (for_ok lane_src).trans e
  generalize (vs.map fun v => v.name).map D.str = NN at hc hloop
  simp [f_Lane_uuinit__, m_Lane_uuinit__, sFldSet, putN, putL, hw, hc, hloop, fnF, sSeq, sIf, asTest, op1, op2, opN, opV, M.bnd, M.ret, M.opt, Arg.ev, rs, rss, Slot.rd, evs, sV, sAsg, sNx, var, gN, gTu, gCo, gNi, so_no, so_val, so_own, so_dic, so_inst, so_ex, sh_no, sh_val, sh_own, sh_dic, sh_inst, sh_ex, sa_no, sa_val, sa_own, sa_dic, sa_inst, sa_ex, vAnd, vOr, vNot, vIf, bAnd, bOr, bNot, chain, chC, chL, callF, callV_1, callV_2, callV_3, callV_4, sz1, sz2, sz3, sz4, sz5, sz6, sz7, sz8, sz9, sz10, sz11, sz12, dvs, D.cmpI, D.toI, D.mod, D.fdiv, add_ii, D.sub, D.mul, D.pow, D.neg, D.len, D.mkL, D.mkT, D.isN, D.notN, isiB, isi2, D.is, D.tn, sPut, callV_o1g]
theorem lane_bad {l : List D} (hb : ∀ d ∈ l, ∃ b, Look d b) (h : ∃ d ∈ l, Look d false) : ∃ e os, f_Lane_uuinit__ [.inst "Lane" [] [], .val (.lst l)] = .exc e os ∧ e.c = "BadItem" := by
  obtain ⟨i, hw⟩ := want_bad hb h
  refine ⟨⟨"BadItem", ["index"], [.int i]⟩, [.inst "Lane" [] [], .val (.lst l)], ?_, rfl⟩
  simp [f_Lane_uuinit__, m_Lane_uuinit__, sFldSet, hw, fnF, sSeq, sIf, asTest, op1, op2, opN, opV, M.bnd, M.ret, M.opt, Arg.ev, rs, rss, Slot.rd, evs, sV, sAsg, sNx, var, gN, gTu, gCo, gNi, so_no, so_val, so_own, so_dic, so_inst, so_ex, sh_no, sh_val, sh_own, sh_dic, sh_inst, sh_ex, sa_no, sa_val, sa_own, sa_dic, sa_inst, sa_ex, vAnd, vOr, vNot, vIf, bAnd, bOr, bNot, chain, chC, chL, callF, callV_1, callV_2, callV_3, callV_4, sz1, sz2, sz3, sz4, sz5, sz6, sz7, sz8, sz9, sz10, sz11, sz12, dvs, D.cmpI, D.toI, D.mod, D.fdiv, add_ii, D.sub, D.mul, D.pow, D.neg, D.len, D.mkL, D.mkT, D.isN, D.notN, isiB, isi2, D.is, D.tn, sPut, callV_o1g]
theorem lane_dup {vs : List Vis} {u : Vis} (h : ∀ v ∈ vs, VisOk v) (hu : VisOk u) (hn : (vs.map fun v => v.name).Nodup) (hm : u.name ∈ vs.map fun v => v.name) (hl : vs.length < 40) :
    ∃ e os, f_Lane_uuinit__ [.inst "Lane" [] [], .val (.lst (vs.map VD ++ [VD u]))] = .exc e os ∧ e.c = "Taken" := by
  have e0 : vs.map VD ++ [VD u] = (vs ++ [u]).map VD := by simp
  have hall : ∀ v ∈ vs ++ [u], VisOk v := fun v hv => by
    rcases List.mem_append.mp hv with q | q
    · exact h v q
    · simp at q; subst q; exact hu
  have hw := want_ok (l := (vs ++ [u]).map VD) (by simp; omega) (vis_hot hall).1 (vis_hot hall).2
  have hc := names_comp (I := .inst "Lane" ["visits"] [.tup ((vs ++ [u]).map VD)]) (V := .val (.lst ((vs ++ [u]).map VD))) (vs := vs ++ [u]) (n := []) (l := []) rfl
  have hms : ∀ y ∈ (vs ++ [u]).map fun v => v.name, NameOk y := fun y hy => by
    obtain ⟨v, hv, rfl⟩ := List.mem_map.mp hy
    exact (hall v hv).name
  have ems : ((vs ++ [u]).map fun v => v.name) = (vs.map fun v => v.name) ++ [u.name] := by simp
  obtain ⟨t3, t4, g3, g4, e⟩ := bt_new (I := .inst "Lane" ["visits"] [.tup ((vs ++ [u]).map VD)]) (V := .val (.lst ((vs ++ [u]).map VD))) (s5 := .no) (ms := (vs ++ [u]).map fun v => v.name) (rest := numd vs.length [.str u.name]) rfl hms (post := vs.map fun v => v.name) (pre := []) (s3 := .no) (s4 := .no) (by rw [ems, List.length_nil, Nat.zero_add, List.take_left]; rfl) (by simpa using hn) rfl rfl
  have hb := bt_body (I := .inst "Lane" ["visits"] [.tup ((vs ++ [u]).map VD)]) (V := .val (.lst ((vs ++ [u]).map VD))) (s5 := .no) (ms := (vs ++ [u]).map fun v => v.name) (x := u.name) (n := vs.length) rfl hu.name hms
  rw [if_pos (by rw [ems]; simpa using hm)] at hb
  have ht : gTu (gCo (gN 3) (gCo (gN 4) (gNi))) 2 (.tup [.int (vs.length : Int), .str u.name]) [.inst "Lane" ["visits"] [.tup ((vs ++ [u]).map VD)], .val (.lst ((vs ++ [u]).map VD)), .val (.lst (((vs ++ [u]).map fun v => v.name).map .str)), t3, t4, .no] = some [.inst "Lane" ["visits"] [.tup ((vs ++ [u]).map VD)], .val (.lst ((vs ++ [u]).map VD)), .val (.lst (((vs ++ [u]).map fun v => v.name).map .str)), .val (.int (vs.length : Int)), .val (.str u.name), .no] := by
    simp [gTu, gCo, gN, gNi, g3, g4]
  have elast : forL (gTu (gCo (gN 3) (gCo (gN 4) (gNi))) 2) b2_Lane_uuinit__ (numd vs.length [.str u.name]) [.inst "Lane" ["visits"] [.tup ((vs ++ [u]).map VD)], .val (.lst ((vs ++ [u]).map VD)), .val (.lst (((vs ++ [u]).map fun v => v.name).map .str)), t3, t4, .no] = .exc ⟨"Taken", ["value"], [.str u.name]⟩ [.inst "Lane" ["visits"] [.tup ((vs ++ [u]).map VD)], .val (.lst ((vs ++ [u]).map VD)), .val (.lst (((vs ++ [u]).map fun v => v.name).map .str)), .val (.int (vs.length : Int)), .val (.str u.name), .no] := by
    show forL _ _ (D.tup [.int (vs.length : Int), .str u.name] :: []) _ = _
    unfold forL
    rw [ht]
    dsimp only
    rw [hb]
  have hsplit : numd 0 (((vs ++ [u]).map fun v => v.name).map D.str) = numd 0 ((vs.map fun v => v.name).map D.str) ++ numd vs.length [.str u.name] := by
    rw [ems, List.map_append, numd_app]
    simp
  have hloop : ∃ os, l3_Lane_uuinit__ [.inst "Lane" ["visits"] [.tup ((vs ++ [u]).map VD)], .val (.lst ((vs ++ [u]).map VD)), .val (.lst (((vs ++ [u]).map fun v => v.name).map .str)), .no, .no, .no] = .exc ⟨"Taken", ["value"], [.str u.name]⟩ os := by
    have e2 := e.trans elast
    rw [List.length_nil, ← hsplit] at e2
    exact ⟨_, (for_ok lane_src).trans e2⟩
  obtain ⟨os, hloop⟩ := hloop
  rw [e0]
  refine ⟨⟨"Taken", ["value"], [.str u.name]⟩, os.take 2, ?_, rfl⟩
  generalize ((vs ++ [u]).map fun v => v.name).map D.str = NN at hc hloop
  generalize (vs ++ [u]).map VD = VV at hw hc hloop ⊢
  simp [f_Lane_uuinit__, m_Lane_uuinit__, sFldSet, putN, putL, hw, hc, hloop, fnF, sSeq, sIf, asTest, op1, op2, opN, opV, M.bnd, M.ret, M.opt, Arg.ev, rs, rss, Slot.rd, evs, sV, sAsg, sNx, var, gN, gTu, gCo, gNi, so_no, so_val, so_own, so_dic, so_inst, so_ex, sh_no, sh_val, sh_own, sh_dic, sh_inst, sh_ex, sa_no, sa_val, sa_own, sa_dic, sa_inst, sa_ex, vAnd, vOr, vNot, vIf, bAnd, bOr, bNot, chain, chC, chL, callF, callV_1, callV_2, callV_3, callV_4, sz1, sz2, sz3, sz4, sz5, sz6, sz7, sz8, sz9, sz10, sz11, sz12, dvs, D.cmpI, D.toI, D.mod, D.fdiv, add_ii, D.sub, D.mul, D.pow, D.neg, D.len, D.mkL, D.mkT, D.isN, D.notN, isiB, isi2, D.is, D.tn, sPut, callV_o1g]
end DL
namespace DL
open PySem L2
/-- what a row says -/
def Found (r : Str) (d : D) : Prop := ∃ w ws, Txt.split r " " = w :: ws ∧ ((w = "visit" ∧ f_visit_in [.val (.lst (ws.map .str))] = .ok d [.val (.lst (ws.map .str))]) ∨ (w ≠ "visit" ∧ d = .non))
theorem found_line {v : Vis} (h : VisOk v) : Found (line v) (VD v) := by
  refine ⟨"visit", [v.name, numS v.m, numS v.l, numS v.w], line_split h, .inl ⟨rfl, ?_⟩⟩
  exact visit_in4 (number_num (by have := h.m; omega)) (number_num (by have := h.l; omega)) (number_num (by have := h.w2; omega))
def MakesOk (l : List D) : Prop := f_Lane_uuinit__ [.inst "Lane" [] [], .val (.lst l)] = .ok .non [.inst "Lane" ["visits"] [.tup l], .val (.lst l)]
def MakesNot (l : List D) : Prop := ∃ e os, f_Lane_uuinit__ [.inst "Lane" [] [], .val (.lst l)] = .exc e os ∧ (e.c = "BadItem" ∨ e.c = "Taken")
theorem make_yes {l : List D} {ρ : Ev} (h : MakesOk l) : makeV "Lane" f_Lane_uuinit__ [.lst l] ρ = .ok (.obj "Lane" ["visits"] [.tup l]) ρ := by
  unfold makeV
  have h' : f_Lane_uuinit__ (.inst "Lane" [] [] :: [D.lst l].map Slot.val) = .ok .non [.inst "Lane" ["visits"] [.tup l], .val (.lst l)] := h
  rw [h']
theorem make_not {l : List D} {ρ : Ev} {e : Ex} {os : List Slot} (h : f_Lane_uuinit__ [.inst "Lane" [] [], .val (.lst l)] = .exc e os) : makeV "Lane" f_Lane_uuinit__ [.lst l] ρ = .exc e ρ := by
  unfold makeV
  have h' : f_Lane_uuinit__ (.inst "Lane" [] [] :: [D.lst l].map Slot.val) = .exc e os := h
  rw [h']
theorem eq_at {a b : Int} : D.eq (.int a) (.int b) = some (.bl (decide (a = b))) := by
  unfold D.eq
  have : D.eqb (.int a) (.int b) = decide (a = b) := by
    show (a == b) = _
    by_cases h : a = b <;> simp [h]
  rw [this]
  rfl
theorem split_D {r : Str} (h : r.length ≤ 1000) : D.split r (.str " ") = some (.lst ((Txt.split r " ").map D.str)) := by
  have : (((" " : Str).length == 0) = false ∧ r.length + 2 ≤ sizeLine) := ⟨by decide, by rw [sizeLine_eq]; omega⟩
  show (if _ then _ else none) = _
  rw [if_pos this]
theorem cut_tail {x : D} {l : List D} : D.cut (some 1) none (.lst (x :: l)) = some (.lst l) := by
  show some (D.lst (cutG (x :: l) (some 1) none)) = _
  unfold cutG
  rw [HT.sIx_none, show (some (1 : Int)) = some ((1 : Nat) : Int) from rfl, HT.sIx_nat]
  have : min 1 (x :: l).length = 1 := by simp
  rw [this]
  simp
section
variable {T : D} {R V : List D} {a : Int} {r : Str} {s5 s6 : Slot} {d : D}
/-- what it says is stored -/
def fnd : S := sAsg (vIf (asTest (op2 D.eq (.v (op2 D.ix (.o 5) (.v (M.ret (.int 0))))) (.v (M.ret (.str "visit"))))) (callF f_visit_in [.v (slc (.o 5) (some (M.ret (.int 1))) none)]) (M.ret .non)) (gN 6)
theorem b0_eq : b0_parse_lane = sIf (asTest (op2 D.eq (.o 3) (.v (opN D.len [(.o 1)])))) (sIf (asTest (op2 D.ne (.o 4) (.v (M.ret (.str ""))))) (sRaise "BadNote" ["line"] [.v (var 3)]) (sNx)) (sSeq (sAsg (strM1 D.split (var 4) (M.ret (.str " "))) (gN 5)) (sSeq fnd (sSeq (sTryR known (caught "GateError") "BadNote" ["line"] [.v (var 3)] (sV (makeF "Lane" f_Lane_uuinit__ [.v (op2 D.add (.o 2) (.v (opV D.mkL [.v (var 6)])))]) fun _ => sNx)) (sApp 2 (var 6))))) := rfl
/-- the row's words, what it says -/
theorem pb_found {ρ : Ev} (hρ : ρ = [.val T, .val (.lst R), .own V, .val (.int a), .val (.str r), .val (.lst ((Txt.split r " ").map D.str)), s6]) (h6 : s6.isOwn = false) (hf : Found r d) :
    fnd ρ =
      .nx [.val T, .val (.lst R), .own V, .val (.int a), .val (.str r), .val (.lst ((Txt.split r " ").map D.str)), .val d] := by
  obtain ⟨w, ws, hs, h⟩ := hf
  subst hρ
  rw [hs]
  unfold fnd
  have i0 : D.ix (.lst ((w :: ws).map D.str)) (.int 0) = some (.str w) := by
    have h2 : ixN (ws.length + 1) 0 = some 0 := by simp [ixN]
    simp [D.ix, L2.atI, h2]
  have ct : D.cut (some 1) none (.lst ((w :: ws).map D.str)) = some (.lst (ws.map D.str)) := cut_tail
  generalize hW : (w :: ws).map D.str = W at i0 ct ⊢
  rcases h with ⟨rfl, h⟩ | ⟨hw, rfl⟩
  · have e1 : (("visit" : Str) == ("visit" : Str)) = true := by simp
    generalize ws.map D.str = W2 at h ct
    simp [i0, eq_str, slc, Pt.ev, ct, h, h6, fnF, sSeq, sIf, asTest, op1, op2, opN, opV, M.bnd, M.ret, M.opt, Arg.ev, rs, rss, Slot.rd, evs, sV, sAsg, sNx, var, gN, gTu, gCo, gNi, so_no, so_val, so_own, so_dic, so_inst, so_ex, sh_no, sh_val, sh_own, sh_dic, sh_inst, sh_ex, sa_no, sa_val, sa_own, sa_dic, sa_inst, sa_ex, vAnd, vOr, vNot, vIf, bAnd, bOr, bNot, chain, chC, chL, callF, callV_1, callV_2, callV_3, callV_4, sz1, sz2, sz3, sz4, sz5, sz6, sz7, sz8, sz9, sz10, sz11, sz12, dvs, D.cmpI, D.toI, D.mod, D.fdiv, add_ii, D.sub, D.mul, D.pow, D.neg, D.len, D.mkL, D.mkT, D.isN, D.notN, isiB, isi2, D.is, D.tn, sPut, callV_o1g]
  · have e1 : (w == ("visit" : Str)) = false := by simpa using hw
    simp [i0, eq_str, e1, h6, fnF, sSeq, sIf, asTest, op1, op2, opN, opV, M.bnd, M.ret, M.opt, Arg.ev, rs, rss, Slot.rd, evs, sV, sAsg, sNx, var, gN, gTu, gCo, gNi, so_no, so_val, so_own, so_dic, so_inst, so_ex, sh_no, sh_val, sh_own, sh_dic, sh_inst, sh_ex, sa_no, sa_val, sa_own, sa_dic, sa_inst, sa_ex, vAnd, vOr, vNot, vIf, bAnd, bOr, bNot, chain, chC, chL, callF, callV_1, callV_2, callV_3, callV_4, sz1, sz2, sz3, sz4, sz5, sz6, sz7, sz8, sz9, sz10, sz11, sz12, dvs, D.cmpI, D.toI, D.mod, D.fdiv, add_ii, D.sub, D.mul, D.pow, D.neg, D.len, D.mkL, D.mkT, D.isN, D.notN, isiB, isi2, D.is, D.tn, sPut, callV_o1g]
theorem pb_ok (ha : a ≠ R.length) (hr : r.length ≤ 1000) (h5 : s5.isOwn = false) (h6 : s6.isOwn = false) (hV : V.length < 1000) (hf : Found r d) (hm : MakesOk (V ++ [d])) :
    b0_parse_lane [.val T, .val (.lst R), .own V, .val (.int a), .val (.str r), s5, s6] = .nx [.val T, .val (.lst R), .own (V ++ [d]), .val (.int a), .val (.str r), .val (.lst ((Txt.split r " ").map D.str)), .val d] := by
  have e1 : D.eq (.int a) (.int (R.length : Int)) = some (.bl false) := by rw [eq_at]; simp [ha]
  have e2 := split_D hr
  have e3 := pb_found (T := T) (R := R) (V := V) (a := a) (r := r) (s6 := s6) (d := d) rfl h6 hf
  have hz : V.length + 1 ≤ sizeLine := by rw [sizeLine_eq]; omega
  have hz2 : V.length < sizeLine := by rw [sizeLine_eq]; omega
  have e4 : D.add (.lst V) (.lst [d]) = some (.lst (V ++ [d])) := by
    show (if V.length + 1 ≤ sizeLine then _ else none) = _
    rw [if_pos hz]
  generalize Txt.split r " " = S at e2 e3
  generalize S.map D.str = W at e2 e3 ⊢
  have e5 := make_yes (l := V ++ [d]) (ρ := [.val T, .val (.lst R), .own V, .val (.int a), .val (.str r), .val (.lst W), .val d]) hm
  rw [b0_eq]
  simp [sSeq, sIf, strM1, sTryR, makeF, sApp, e1, e2, e3, e4, e5, h5, hz, hz2, fnF, sSeq, sIf, asTest, op1, op2, opN, opV, M.bnd, M.ret, M.opt, Arg.ev, rs, rss, Slot.rd, evs, sV, sAsg, sNx, var, gN, gTu, gCo, gNi, so_no, so_val, so_own, so_dic, so_inst, so_ex, sh_no, sh_val, sh_own, sh_dic, sh_inst, sh_ex, sa_no, sa_val, sa_own, sa_dic, sa_inst, sa_ex, vAnd, vOr, vNot, vIf, bAnd, bOr, bNot, chain, chC, chL, callF, callV_1, callV_2, callV_3, callV_4, sz1, sz2, sz3, sz4, sz5, sz6, sz7, sz8, sz9, sz10, sz11, sz12, dvs, D.cmpI, D.toI, D.mod, D.fdiv, add_ii, D.sub, D.mul, D.pow, D.neg, D.len, D.mkL, D.mkT, D.isN, D.notN, isiB, isi2, D.is, D.tn, sPut, callV_o1g]
theorem pb_bad (ha : a ≠ R.length) (hr : r.length ≤ 1000) (h5 : s5.isOwn = false) (h6 : s6.isOwn = false) (hV : V.length < 1000) (hf : Found r d) (hm : MakesNot (V ++ [d])) :
    b0_parse_lane [.val T, .val (.lst R), .own V, .val (.int a), .val (.str r), s5, s6] = .exc ⟨"BadNote", ["line"], [.int a]⟩ [.val T, .val (.lst R), .own V, .val (.int a), .val (.str r), .val (.lst ((Txt.split r " ").map D.str)), .val d] := by
  have e1 : D.eq (.int a) (.int (R.length : Int)) = some (.bl false) := by rw [eq_at]; simp [ha]
  have e2 := split_D hr
  have e3 := pb_found (T := T) (R := R) (V := V) (a := a) (r := r) (s6 := s6) (d := d) rfl h6 hf
  have hz : V.length + 1 ≤ sizeLine := by rw [sizeLine_eq]; omega
  have e4 : D.add (.lst V) (.lst [d]) = some (.lst (V ++ [d])) := by
    show (if V.length + 1 ≤ sizeLine then _ else none) = _
    rw [if_pos hz]
  generalize Txt.split r " " = S at e2 e3
  generalize S.map D.str = W at e2 e3 ⊢
  obtain ⟨⟨c, ns, l⟩, os, hm, hc⟩ := hm
  have e5 := make_not (l := V ++ [d]) (ρ := [.val T, .val (.lst R), .own V, .val (.int a), .val (.str r), .val (.lst W), .val d]) hm
  have hk : known.contains c = true := by
    rcases hc with h | h <;> (have h : c = _ := h; subst h; decide)
  have hk2 : c ∈ known := by simpa using hk
  have hc : caught "GateError" c = true := by
    unfold caught
    simp
  rw [b0_eq]
  simp [sSeq, sIf, strM1, sTryR, makeF, sRaise, allD, noEx, Slot.isEx, hk, hk2, hc, e1, e2, e3, e4, e5, h5, hz, fnF, sSeq, sIf, asTest, op1, op2, opN, opV, M.bnd, M.ret, M.opt, Arg.ev, rs, rss, Slot.rd, evs, sV, sAsg, sNx, var, gN, gTu, gCo, gNi, so_no, so_val, so_own, so_dic, so_inst, so_ex, sh_no, sh_val, sh_own, sh_dic, sh_inst, sh_ex, sa_no, sa_val, sa_own, sa_dic, sa_inst, sa_ex, vAnd, vOr, vNot, vIf, bAnd, bOr, bNot, chain, chC, chL, callF, callV_1, callV_2, callV_3, callV_4, sz1, sz2, sz3, sz4, sz5, sz6, sz7, sz8, sz9, sz10, sz11, sz12, dvs, D.cmpI, D.toI, D.mod, D.fdiv, add_ii, D.sub, D.mul, D.pow, D.neg, D.len, D.mkL, D.mkT, D.isN, D.notN, isiB, isi2, D.is, D.tn, sPut, callV_o1g]
theorem pb_end (ha : a = R.length) : b0_parse_lane [.val T, .val (.lst R), .own V, .val (.int a), .val (.str ""), s5, s6] = .nx [.val T, .val (.lst R), .own V, .val (.int a), .val (.str ""), s5, s6] := by
  have e1 : D.eq (.int a) (.int (R.length : Int)) = some (.bl true) := by rw [eq_at]; simp [ha]
  have e2 : D.ne (.str "") (.str "") = some (.bl false) := by rw [ne_str]; simp
  unfold b0_parse_lane
  simp [sSeq, sIf, e1, e2, fnF, sSeq, sIf, asTest, op1, op2, opN, opV, M.bnd, M.ret, M.opt, Arg.ev, rs, rss, Slot.rd, evs, sV, sAsg, sNx, var, gN, gTu, gCo, gNi, so_no, so_val, so_own, so_dic, so_inst, so_ex, sh_no, sh_val, sh_own, sh_dic, sh_inst, sh_ex, sa_no, sa_val, sa_own, sa_dic, sa_inst, sa_ex, vAnd, vOr, vNot, vIf, bAnd, bOr, bNot, chain, chC, chL, callF, callV_1, callV_2, callV_3, callV_4, sz1, sz2, sz3, sz4, sz5, sz6, sz7, sz8, sz9, sz10, sz11, sz12, dvs, D.cmpI, D.toI, D.mod, D.fdiv, add_ii, D.sub, D.mul, D.pow, D.neg, D.len, D.mkL, D.mkT, D.isN, D.notN, isiB, isi2, D.is, D.tn, sPut, callV_o1g]
theorem pb_last (ha : a = R.length) (hr : r ≠ "") : b0_parse_lane [.val T, .val (.lst R), .own V, .val (.int a), .val (.str r), s5, s6] = .exc ⟨"BadNote", ["line"], [.int a]⟩ [.val T, .val (.lst R), .own V, .val (.int a), .val (.str r), s5, s6] := by
  have e1 : D.eq (.int a) (.int (R.length : Int)) = some (.bl true) := by rw [eq_at]; simp [ha]
  have e2 : D.ne (.str r) (.str "") = some (.bl true) := by
    rw [ne_str]
    have : (r == ("" : Str)) = false := by simpa using hr
    rw [this]
    rfl
  unfold b0_parse_lane
  simp [sSeq, sIf, sRaise, allD, e1, e2, fnF, sSeq, sIf, asTest, op1, op2, opN, opV, M.bnd, M.ret, M.opt, Arg.ev, rs, rss, Slot.rd, evs, sV, sAsg, sNx, var, gN, gTu, gCo, gNi, so_no, so_val, so_own, so_dic, so_inst, so_ex, sh_no, sh_val, sh_own, sh_dic, sh_inst, sh_ex, sa_no, sa_val, sa_own, sa_dic, sa_inst, sa_ex, vAnd, vOr, vNot, vIf, bAnd, bOr, bNot, chain, chC, chL, callF, callV_1, callV_2, callV_3, callV_4, sz1, sz2, sz3, sz4, sz5, sz6, sz7, sz8, sz9, sz10, sz11, sz12, dvs, D.cmpI, D.toI, D.mod, D.fdiv, add_ii, D.sub, D.mul, D.pow, D.neg, D.len, D.mkL, D.mkT, D.isN, D.notN, isiB, isi2, D.is, D.tn, sPut, callV_o1g]
end
end DL
namespace DL
open PySem L2
structure VisesOk (vs : List Vis) : Prop where
  all : ∀ v ∈ vs, VisOk v
  nd : (vs.map fun v => v.name).Nodup
  len : vs.length ≤ 39
theorem VisesOk.take {vs : List Vis} (h : VisesOk vs) (n : Nat) : VisesOk (vs.take n) :=
  ⟨fun v hv => h.all v (List.mem_of_mem_take hv), by rw [List.map_take]; exact h.nd.sublist (List.take_sublist _ _), by rw [List.length_take]; have := h.len; omega⟩
theorem makes_vis {vs : List Vis} (h : VisesOk vs) : MakesOk (vs.map VD) := lane_ok h.all h.nd (by have := h.len; omega)
abbrev TG : D → Ev → Option Ev := gTu (gCo (gN 3) (gCo (gN 4) (gNi))) 2
theorem tg_eq {T : D} {R V : List D} {s3 s4 s5 s6 : Slot} {n : Nat} {d : D} (h3 : s3.isOwn = false) (h4 : s4.isOwn = false) : TG (.tup [.int (n : Int), d]) [.val T, .val (.lst R), .own V, s3, s4, s5, s6] = some [.val T, .val (.lst R), .own V, .val (.int (n : Int)), .val d, s5, s6] := by
  simp [gTu, gCo, gN, gNi, h3, h4]
/-- rows of visits -/
theorem pl_good {T : D} {R rest : List D} {vs : List Vis} (hv : VisesOk vs) : ∀ {post pre : List Vis} {s3 s4 s5 s6 : Slot}, vs = pre ++ post → vs.length < R.length → s3.isOwn = false → s4.isOwn = false → s5.isOwn = false → s6.isOwn = false →
    ∃ t3 t4 t5 t6 : Slot, t3.isOwn = false ∧ t4.isOwn = false ∧ t5.isOwn = false ∧ t6.isOwn = false ∧
      forL TG b0_parse_lane (numd (1 + pre.length) (post.map fun v => .str (line v)) ++ rest) [.val T, .val (.lst R), .own (pre.map VD), s3, s4, s5, s6] = forL TG b0_parse_lane rest [.val T, .val (.lst R), .own (vs.map VD), t3, t4, t5, t6]
  | [], pre, s3, s4, s5, s6, e, hl, h3, h4, h5, h6 => by
    rw [List.append_nil] at e
    subst e
    exact ⟨s3, s4, s5, s6, h3, h4, h5, h6, rfl⟩
  | v :: post, pre, s3, s4, s5, s6, e, hl, h3, h4, h5, h6 => by
    have hvv : VisOk v := hv.all v (by rw [e]; simp)
    have e2 : vs = (pre ++ [v]) ++ post := by rw [e]; simp
    have hpre : VisesOk (pre ++ [v]) := by
      have := hv.take (pre ++ [v]).length
      rw [e2, List.take_left] at this
      exact this
    have hlen : pre.length + 1 + post.length < R.length := by
      rw [e2] at hl
      simp at hl
      omega
    have hm : MakesOk (pre.map VD ++ [VD v]) := by
      have := makes_vis hpre
      rw [List.map_append] at this
      exact this
    have hb := pb_ok (T := T) (R := R) (V := pre.map VD) (a := ((1 + pre.length : Nat) : Int)) (r := line v) (s5 := s5) (s6 := s6) (d := VD v) (by omega) (by have := line_len hvv; omega) h5 h6 (by
      have := hpre.len
      simp at this ⊢
      omega) (found_line hvv) hm
    have ht := tg_eq (T := T) (R := R) (V := pre.map VD) (s5 := s5) (s6 := s6) (n := 1 + pre.length) (d := .str (line v)) h3 h4
    obtain ⟨t3, t4, t5, t6, g3, g4, g5, g6, q⟩ := pl_good (T := T) (R := R) (rest := rest) hv (post := post) (pre := pre ++ [v]) (s3 := .val (.int ((1 + pre.length : Nat) : Int))) (s4 := .val (.str (line v))) (s5 := .val (.lst ((Txt.split (line v) " ").map D.str))) (s6 := .val (VD v)) e2 hl rfl rfl rfl rfl
    refine ⟨t3, t4, t5, t6, g3, g4, g5, g6, ?_⟩
    rw [List.length_append, List.map_append] at q
    exact (for_cons ht hb).trans q
theorem exc_cons {t : D → Ev → Option Ev} {b : S} {d : D} {ds : List D} {ρ ρ1 ρ2 : Ev} {e : Ex} (h1 : t d ρ = some ρ1) (h2 : b ρ1 = .exc e ρ2) : forL t b (d :: ds) ρ = .exc e ρ2 := by
  unfold forL
  rw [h1]
  dsimp only
  rw [h2]
theorem enumS_rows {T : D} {R : List D} {s : Slot} : srcN (D.enumS 1) [.v (var 1)] [.val T, .val (.lst R), s, .no, .no, .no, .no] = .ok (numd 1 R) [.val T, .val (.lst R), s, .no, .no, .no, .no] := by simp [D.enumS, fnF, sSeq, sIf, asTest, op1, op2, opN, opV, M.bnd, M.ret, M.opt, Arg.ev, rs, rss, Slot.rd, Slot.arg, Slot.has, evs, sV, sAsg, sNx, var, gN, gTu, gCo, gNi, Slot.isOwn, vAnd, vOr, vNot, vIf, bAnd, bOr, bNot, chain, chC, chL, callF, callV_1, callV_2, callV_3, callV_4, sz1, sz2, sz3, sz4, sz5, sz6, sz7, sz8, sz9, sz10, sz11, sz12, dvs, D.ix, L2.atI, ixN, D.cmpI, D.toI, D.mod, D.fdiv, D.add, D.sub, D.mul, D.pow, D.neg, D.len, D.mkL, D.mkT, D.isN, D.notN, isiB, isi2, D.is, D.tn, D.eq, D.ne, D.sc, D.eqb, sPut, sFor, forL, seqM, srcN, D.rng1, D.rng2, D.enum]
theorem split_nl {t : Str} (h : t.length ≤ 100000) : D.split t (.str "\n") = some (.lst ((Txt.split t "\n").map D.str)) := by
  have : (((("\n" : Str).length == 0) = false) ∧ t.length + 2 ≤ sizeLine) := ⟨by decide, by rw [sizeLine_eq]; omega⟩
  show (if _ then _ else none) = _
  rw [if_pos this]
/-- a good text -/
theorem parse_ok {t : Str} {vs : List Vis} (hv : VisesOk vs) (ht : t.length ≤ 100000) (hs : Txt.split t "\n" = vs.map line ++ [("" : Str)]) : f_parse_lane [.val (.str t)] = .ok (.obj "Lane" ["visits"] [.tup (vs.map VD)]) [.val (.str t)] := by
  have e1 := split_nl ht
  rw [hs] at e1
  obtain ⟨t3, t4, t5, t6, g3, g4, g5, g6, q⟩ := pl_good (T := .str t) (R := (vs.map line ++ [("" : Str)]).map D.str) (rest := numd (1 + vs.length) [.str ("" : Str)]) hv (post := vs) (pre := []) (s3 := .no) (s4 := .no) (s5 := .no) (s6 := .no) rfl (by simp) rfl rfl rfl rfl
  have hsplit : numd 1 ((vs.map line ++ [("" : Str)]).map D.str) = numd 1 (vs.map fun v => D.str (line v)) ++ numd (1 + vs.length) [.str ""] := by
    rw [List.map_append, numd_app, List.map_map]
    simp
    rfl
  have hb := pb_end (T := .str t) (R := (vs.map line ++ [("" : Str)]).map D.str) (V := vs.map VD) (a := ((1 + vs.length : Nat) : Int)) (s5 := t5) (s6 := t6) (by simp; omega)
  have htg := tg_eq (T := .str t) (R := (vs.map line ++ [("" : Str)]).map D.str) (V := vs.map VD) (s5 := t5) (s6 := t6) (n := 1 + vs.length) (d := .str "") g3 g4
  have hloop : l1_parse_lane [.val (.str t), .val (.lst ((vs.map line ++ [("" : Str)]).map D.str)), .own [], .no, .no, .no, .no] = .nx [.val (.str t), .val (.lst ((vs.map line ++ [("" : Str)]).map D.str)), .own (vs.map VD), .val (.int ((1 + vs.length : Nat) : Int)), .val (.str ""), t5, t6] := by
    refine (for_ok enumS_rows).trans ?_
    rw [hsplit]
    exact q.trans ((for_cons htg hb).trans rfl)
  have hm := fun ρ => make_yes (l := vs.map VD) (ρ := ρ) (makes_vis hv)
  generalize (vs.map line ++ [("" : Str)]).map D.str = R at e1 hloop
  generalize vs.map VD = V at hloop hm ⊢
  simp [f_parse_lane, m_parse_lane, strM1, sOwn, sFrz, makeF, e1, hloop, hm, fnF, sSeq, sIf, asTest, op1, op2, opN, opV, M.bnd, M.ret, M.opt, Arg.ev, rs, rss, Slot.rd, evs, sV, sAsg, sNx, var, gN, gTu, gCo, gNi, so_no, so_val, so_own, so_dic, so_inst, so_ex, sh_no, sh_val, sh_own, sh_dic, sh_inst, sh_ex, sa_no, sa_val, sa_own, sa_dic, sa_inst, sa_ex, vAnd, vOr, vNot, vIf, bAnd, bOr, bNot, chain, chC, chL, callF, callV_1, callV_2, callV_3, callV_4, sz1, sz2, sz3, sz4, sz5, sz6, sz7, sz8, sz9, sz10, sz11, sz12, dvs, D.cmpI, D.toI, D.mod, D.fdiv, add_ii, D.sub, D.mul, D.pow, D.neg, D.len, D.mkL, D.mkT, D.isN, D.notN, isiB, isi2, D.is, D.tn, sPut, callV_o1g]
/-- a row that is no new visit -/
def BadRow (vs : List Vis) (r : Str) : Prop := r.length ≤ 1000 ∧ ∃ d, Found r d ∧ MakesNot (vs.map VD ++ [d])
theorem parse_bad {t : Str} {vs : List Vis} {r : Str} {rest : List Str} (hv : VisesOk vs) (ht : t.length ≤ 100000) (hs : Txt.split t "\n" = vs.map line ++ r :: rest) (hr : rest ≠ []) (hb : BadRow vs r) :
    f_parse_lane [.val (.str t)] = .exc ⟨"BadNote", ["line"], [.int ((vs.length : Int) + 1)]⟩ [.val (.str t)] := by
  have e1 := split_nl ht
  rw [hs] at e1
  obtain ⟨hrl, d, hf, hm⟩ := hb
  obtain ⟨t3, t4, t5, t6, g3, g4, g5, g6, q⟩ := pl_good (T := .str t) (R := (vs.map line ++ r :: rest).map D.str) (rest := numd (1 + vs.length) ((r :: rest).map D.str)) hv (post := vs) (pre := []) (s3 := .no) (s4 := .no) (s5 := .no) (s6 := .no) rfl (by simp) rfl rfl rfl rfl
  have hsplit : numd 1 ((vs.map line ++ r :: rest).map D.str) = numd 1 (vs.map fun v => D.str (line v)) ++ numd (1 + vs.length) ((r :: rest).map D.str) := by
    rw [List.map_append, numd_app, List.map_map]
    simp
    rfl
  have hne : ((1 + vs.length : Nat) : Int) ≠ (((vs.map line ++ r :: rest).map D.str).length : Int) := by
    have : rest.length ≠ 0 := fun z => hr (List.length_eq_zero_iff.mp z)
    simp
    omega
  have hbd := pb_bad (T := .str t) (R := (vs.map line ++ r :: rest).map D.str) (V := vs.map VD) (a := ((1 + vs.length : Nat) : Int)) (r := r) (s5 := t5) (s6 := t6) (d := d) hne hrl g5 g6 (by have := hv.len; simp; omega) hf hm
  have htg := tg_eq (T := .str t) (R := (vs.map line ++ r :: rest).map D.str) (V := vs.map VD) (s5 := t5) (s6 := t6) (n := 1 + vs.length) (d := .str r) g3 g4
  have hloop : ∃ os, l1_parse_lane [.val (.str t), .val (.lst ((vs.map line ++ r :: rest).map D.str)), .own [], .no, .no, .no, .no] = .exc ⟨"BadNote", ["line"], [.int ((1 + vs.length : Nat) : Int)]⟩ (.val (.str t) :: os) := by
    have e2 := q.trans (exc_cons (ds := numd (1 + vs.length + 1) (rest.map D.str)) htg hbd)
    rw [List.length_nil, Nat.add_zero, ← hsplit] at e2
    exact ⟨_, (for_ok enumS_rows).trans e2⟩
  obtain ⟨os, hloop⟩ := hloop
  have e3 : ((1 + vs.length : Nat) : Int) = (vs.length : Int) + 1 := by omega
  rw [e3] at hloop
  generalize (vs.map line ++ r :: rest).map D.str = R at e1 hloop
  generalize (vs.length : Int) + 1 = k at hloop ⊢
  simp [f_parse_lane, m_parse_lane, strM1, sOwn, e1, hloop, fnF, sSeq, sIf, asTest, op1, op2, opN, opV, M.bnd, M.ret, M.opt, Arg.ev, rs, rss, Slot.rd, evs, sV, sAsg, sNx, var, gN, gTu, gCo, gNi, so_no, so_val, so_own, so_dic, so_inst, so_ex, sh_no, sh_val, sh_own, sh_dic, sh_inst, sh_ex, sa_no, sa_val, sa_own, sa_dic, sa_inst, sa_ex, vAnd, vOr, vNot, vIf, bAnd, bOr, bNot, chain, chC, chL, callF, callV_1, callV_2, callV_3, callV_4, sz1, sz2, sz3, sz4, sz5, sz6, sz7, sz8, sz9, sz10, sz11, sz12, dvs, D.cmpI, D.toI, D.mod, D.fdiv, add_ii, D.sub, D.mul, D.pow, D.neg, D.len, D.mkL, D.mkT, D.isN, D.notN, isiB, isi2, D.is, D.tn, sPut, callV_o1g]
/-- the last row is not empty -/
theorem parse_last {t : Str} {vs : List Vis} {r : Str} (hv : VisesOk vs) (ht : t.length ≤ 100000) (hs : Txt.split t "\n" = vs.map line ++ [r]) (hr : r ≠ "") :
    f_parse_lane [.val (.str t)] = .exc ⟨"BadNote", ["line"], [.int ((vs.length : Int) + 1)]⟩ [.val (.str t)] := by
  have e1 := split_nl ht
  rw [hs] at e1
  obtain ⟨t3, t4, t5, t6, g3, g4, g5, g6, q⟩ := pl_good (T := .str t) (R := (vs.map line ++ [r]).map D.str) (rest := numd (1 + vs.length) ([r].map D.str)) hv (post := vs) (pre := []) (s3 := .no) (s4 := .no) (s5 := .no) (s6 := .no) rfl (by simp) rfl rfl rfl rfl
  have hsplit : numd 1 ((vs.map line ++ [r]).map D.str) = numd 1 (vs.map fun v => D.str (line v)) ++ numd (1 + vs.length) ([r].map D.str) := by
    rw [List.map_append, numd_app, List.map_map]
    simp
    rfl
  have hbd := pb_last (T := .str t) (R := (vs.map line ++ [r]).map D.str) (V := vs.map VD) (a := ((1 + vs.length : Nat) : Int)) (r := r) (s5 := t5) (s6 := t6) (by simp; omega) hr
  have htg := tg_eq (T := .str t) (R := (vs.map line ++ [r]).map D.str) (V := vs.map VD) (s5 := t5) (s6 := t6) (n := 1 + vs.length) (d := .str r) g3 g4
  have hloop : ∃ os, l1_parse_lane [.val (.str t), .val (.lst ((vs.map line ++ [r]).map D.str)), .own [], .no, .no, .no, .no] = .exc ⟨"BadNote", ["line"], [.int ((1 + vs.length : Nat) : Int)]⟩ (.val (.str t) :: os) := by
    have e2 := q.trans (exc_cons (ds := []) htg hbd)
    rw [List.length_nil, Nat.add_zero, ← hsplit] at e2
    exact ⟨_, (for_ok enumS_rows).trans e2⟩
  obtain ⟨os, hloop⟩ := hloop
  have e3 : ((1 + vs.length : Nat) : Int) = (vs.length : Int) + 1 := by omega
  rw [e3] at hloop
  generalize (vs.map line ++ [r]).map D.str = R at e1 hloop
  generalize (vs.length : Int) + 1 = k at hloop ⊢
  simp [f_parse_lane, m_parse_lane, strM1, sOwn, e1, hloop, fnF, sSeq, sIf, asTest, op1, op2, opN, opV, M.bnd, M.ret, M.opt, Arg.ev, rs, rss, Slot.rd, evs, sV, sAsg, sNx, var, gN, gTu, gCo, gNi, so_no, so_val, so_own, so_dic, so_inst, so_ex, sh_no, sh_val, sh_own, sh_dic, sh_inst, sh_ex, sa_no, sa_val, sa_own, sa_dic, sa_inst, sa_ex, vAnd, vOr, vNot, vIf, bAnd, bOr, bNot, chain, chC, chL, callF, callV_1, callV_2, callV_3, callV_4, sz1, sz2, sz3, sz4, sz5, sz6, sz7, sz8, sz9, sz10, sz11, sz12, dvs, D.cmpI, D.toI, D.mod, D.fdiv, add_ii, D.sub, D.mul, D.pow, D.neg, D.len, D.mkL, D.mkT, D.isN, D.notN, isiB, isi2, D.is, D.tn, sPut, callV_o1g]
/-- _law_refused -/
theorem refused_ok {t : Str} {k : Int} (h : f_parse_lane [.val (.str t)] = .exc ⟨"BadNote", ["line"], [.int k]⟩ [.val (.str t)]) : f_ulaw_refused [.val (.str t)] = .ok (.int k) [.val (.str t)] := by
  have hk : ("BadNote" : Str) ∈ known := by decide
  have hc : caught "BadNote" "BadNote" = true := by decide
  simp [f_ulaw_refused, m_ulaw_refused, sTry, hk, hc, h, noExBut, noEx, Slot.isEx, exF, List.lookup, fnF, sSeq, sIf, asTest, op1, op2, opN, opV, M.bnd, M.ret, M.opt, Arg.ev, rs, rss, Slot.rd, evs, sV, sAsg, sNx, var, gN, gTu, gCo, gNi, so_no, so_val, so_own, so_dic, so_inst, so_ex, sh_no, sh_val, sh_own, sh_dic, sh_inst, sh_ex, sa_no, sa_val, sa_own, sa_dic, sa_inst, sa_ex, vAnd, vOr, vNot, vIf, bAnd, bOr, bNot, chain, chC, chL, callF, callV_1, callV_2, callV_3, callV_4, sz1, sz2, sz3, sz4, sz5, sz6, sz7, sz8, sz9, sz10, sz11, sz12, dvs, D.cmpI, D.toI, D.mod, D.fdiv, add_ii, D.sub, D.mul, D.pow, D.neg, D.len, D.mkL, D.mkT, D.isN, D.notN, isiB, isi2, D.is, D.tn, sPut, callV_o1g]
end DL
namespace DL
open PySem L2
def PcOk (p : Str) : Prop := (∀ c ∈ cl p, 32 < c) ∧ p.length ≤ 20
structure WsOk (ws : List Str) : Prop where
  ne : ws ≠ []
  all : ∀ p ∈ ws, PcOk p
  n : ws.length ≤ 10
theorem pc_name {s : Str} (h : NameOk s) : PcOk s := by
  refine ⟨fun c hc => ?_, by have := (name_len h).2; omega⟩
  obtain ⟨a, r, e, h1, h2, _⟩ := h
  rw [e] at hc
  rcases List.mem_cons.mp hc with rfl | hc
  · omega
  · have := h2 c hc
    omega
theorem pc_num {n : Nat} (h : n < 10000) : PcOk (numS n) := by
  refine ⟨fun c hc => ?_, by have := num_len (n := n) (k := 4) (by decide) (by omega); omega⟩
  rw [cl_num] at hc
  have := TL.numL_digits n c hc
  omega
theorem pc_empty : PcOk "" := ⟨fun c hc => absurd (show c ∈ ([] : List Nat) from by rwa [empty_eq, cl_empty] at hc) (by simp), by decide⟩
theorem join_len : ∀ {ws : List Str}, (∀ p ∈ ws, p.length ≤ 20) → (Str.join ⟨#[32]⟩ ws).length ≤ 21 * ws.length
  | [], _ => by
    show Str.empty.length ≤ _
    simp [Str.length, Str.empty]
  | [p], h => by
    rw [join_one]
    have := h p (by simp)
    simp
    omega
  | p :: q :: r, h => by
    have ih := join_len (ws := q :: r) fun x hx => h x (List.mem_cons_of_mem _ hx)
    rw [join_two, Str.length_append, Str.length_append]
    have h1 := h p (by simp)
    have h2 : (⟨#[32]⟩ : Str).length = 1 := rfl
    simp only [List.length_cons] at ih ⊢
    omega
theorem row_len {ws : List Str} (h : WsOk ws) : (Txt.join " " ws).length ≤ 210 := by
  rw [txt_join, sp_eq]
  have := join_len (ws := ws) fun p hp => (h.all p hp).2
  have := h.n
  omega
theorem row_free {ws : List Str} (h : WsOk ws) : 10 ∉ cl (Txt.join " " ws) := by
  rw [txt_join]
  exact join_free (by rw [sp_cl]; decide) fun p hp hc => by have := (h.all p hp).1 10 hc; omega
theorem row_split {ws : List Str} (h : WsOk ws) : Txt.split (Txt.join " " ws) " " = ws := split_words h.ne fun p hp hc => by have := (h.all p hp).1 32 hc; omega
theorem found_len {rest : List Str} (h : WsOk ("visit" :: rest)) (hn : rest.length ≠ 4) : Found (Txt.join " " ("visit" :: rest)) .non :=
  ⟨"visit", rest, row_split h, .inl ⟨rfl, visit_inN (by simpa using hn)⟩⟩
theorem found_head {w : Str} {rest : List Str} (h : WsOk (w :: rest)) (hw : w ≠ "visit") : Found (Txt.join " " (w :: rest)) .non :=
  ⟨w, rest, row_split h, .inr ⟨hw, rfl⟩⟩
theorem found_four {a b c d : Str} {x y z : D} (h : WsOk ["visit", a, b, c, d]) (h1 : f_number_in [.val (.str b)] = .ok x [.val (.str b)]) (h2 : f_number_in [.val (.str c)] = .ok y [.val (.str c)]) (h3 : f_number_in [.val (.str d)] = .ok z [.val (.str d)]) :
    Found (Txt.join " " ["visit", a, b, c, d]) (.tup [.str a, x, y, z]) :=
  ⟨"visit", [a, b, c, d], row_split h, .inl ⟨rfl, visit_in4 h1 h2 h3⟩⟩
theorem not_of {vs : List Vis} {d : D} (hv : VisesOk vs) (h : Look d false) : MakesNot (vs.map VD ++ [d]) := by
  obtain ⟨e, os, h1, h2⟩ := lane_bad (l := vs.map VD ++ [d]) (fun x hx => by
    rcases List.mem_append.mp hx with q | q
    · exact ⟨true, (vis_hot hv.all).1 x q⟩
    · simp at q
      subst q
      exact ⟨false, h⟩) ⟨d, by simp, h⟩
  exact ⟨e, os, h1, .inl h2⟩
theorem bad_non {vs : List Vis} {r : Str} (hv : VisesOk vs) (hl : r.length ≤ 1000) (h : Found r .non) : BadRow vs r := ⟨hl, .non, h, not_of hv is_visit_non⟩
theorem bad_four {vs : List Vis} {a b c d : Str} {x y z : D} {bn : Bool} (hv : VisesOk vs) (h : WsOk ["visit", a, b, c, d]) (h1 : f_number_in [.val (.str b)] = .ok x [.val (.str b)]) (h2 : f_number_in [.val (.str c)] = .ok y [.val (.str c)]) (h3 : f_number_in [.val (.str d)] = .ok z [.val (.str d)])
    (hx : NumD x) (hy : NumD y) (hz : NumD z) (hn : f_is_name [.val (.str a)] = .ok (.bl bn) [.val (.str a)]) (hb : (bn && inB 0 2000 x && (inB 0 400 y && inB 1 400 z)) = false) : BadRow vs (Txt.join " " ["visit", a, b, c, d]) := by
  refine ⟨by have := row_len h; omega, _, found_four h h1 h2 h3, not_of hv ?_⟩
  have e := is_visit_tup hn hx hy hz
  rw [hb] at e
  exact e
theorem bad_dup {vs : List Vis} {v : Vis} (hv : VisesOk vs) (hvv : VisOk v) (hm : v.name ∈ vs.map fun v => v.name) : BadRow vs (line v) := by
  refine ⟨by have := line_len hvv; omega, _, found_line hvv, ?_⟩
  obtain ⟨e, os, h1, h2⟩ := lane_dup hv.all hvv hv.nd hm (by have := hv.len; omega)
  exact ⟨e, os, h1, .inr h2⟩
theorem is_name_cap {s : Str} {c : Nat} {r : List Nat} (h : cl s = c :: r) (hl : s.length ≤ 12) (hc : ¬ (97 ≤ c ∧ c ≤ 122)) : f_is_name [.val (.str s)] = .ok (.bl false) [.val (.str s)] := by
  have hz : s.length ≤ sizeLine := by rw [sizeLine_eq]; omega
  have e1 : s.length = r.length + 1 := by rw [cl_len, h]; rfl
  have n1 : (1 : Int) ≤ (s.length : Int) := by omega
  have n2 : (s.length : Int) ≤ 12 := by omega
  have i0 := str_ix0 h hz
  have hc2 : c ∉ cl "abcdefghijklmnopqrstuvwxyz" := fun q => hc (mem_let.mp q)
  simp [f_is_name, m_is_name, i0, nmem_one, hc2, n1, n2, hz, fnF, sSeq, sIf, asTest, op1, op2, opN, opV, M.bnd, M.ret, M.opt, Arg.ev, rs, rss, Slot.rd, evs, sV, sAsg, sNx, var, gN, gTu, gCo, gNi, so_no, so_val, so_own, so_dic, so_inst, so_ex, sh_no, sh_val, sh_own, sh_dic, sh_inst, sh_ex, sa_no, sa_val, sa_own, sa_dic, sa_inst, sa_ex, vAnd, vOr, vNot, vIf, bAnd, bOr, bNot, chain, chC, chL, callF, callV_1, callV_2, callV_3, callV_4, sz1, sz2, sz3, sz4, sz5, sz6, sz7, sz8, sz9, sz10, sz11, sz12, dvs, D.cmpI, D.toI, D.mod, D.fdiv, add_ii, D.sub, D.mul, D.pow, D.neg, D.len, D.mkL, D.mkT, D.isN, D.notN, isiB, isi2, D.is, D.tn, sPut, callV_o1g]
/-- the rows that the law tries in the place of v's -/
def badsA (v : Vis) : List Str := ["", line v ++ " ", " " ++ line v, replace1 (line v) " " "  ", "visit", Txt.upper (line v), "note " ++ v.name, line v ++ " 5", "visits " ++ Txt.join " " [v.name, numS v.m, numS v.l, numS v.w], Txt.join " " ["visit", v.name, numS v.m, numS v.l]]
def vals : List Str := ["-5", "05", "0", "401", "x", "999999999", "1.0", "+1"]
def badsB (v : Vis) : List Str := vals.map fun x => Txt.join " " ["visit", v.name, numS v.m, numS v.l, x]
def badsC (v : Vis) : List Str := [Txt.join " " ["visit", v.name, "2001", numS v.l, numS v.w], Txt.join " " ["visit", v.name, numS v.m, "401", numS v.w], Txt.join " " ["visit", "A", numS v.m, numS v.l, numS v.w]]
theorem vals_pc : ∀ x ∈ vals, PcOk x := by
  have h : ∀ x ∈ vals, ((cl x).all fun c => decide (32 < c)) = true ∧ x.length ≤ 20 := by decide
  intro x hx
  obtain ⟨h1, h2⟩ := h x hx
  refine ⟨fun c hc => ?_, h2⟩
  rw [List.all_eq_true] at h1
  simpa using h1 c hc
theorem pc_of {p : Str} (h : (((cl p).all fun c => decide (32 < c)) && decide (p.length ≤ 20)) = true) : PcOk p := by
  rw [Bool.and_eq_true] at h
  refine ⟨fun c hc => ?_, of_decide_eq_true h.2⟩
  have h1 := h.1
  rw [List.all_eq_true] at h1
  simpa using h1 c hc
theorem ws_of {ws : List Str} (h1 : ws ≠ []) (h2 : ws.length ≤ 10) (h3 : ∀ p ∈ ws, PcOk p) : WsOk ws := ⟨h1, h3, h2⟩
theorem two_eq : numS 2001 = "2001" := by first | rfl | decide +kernel
theorem four_eq : numS 401 = "401" := by first | rfl | decide +kernel
theorem zero_eq : numS 0 = "0" := by first | rfl | decide +kernel
/-- the last number is none, or out of bounds -/
theorem vals_num : ∀ x ∈ vals, ∃ d, f_number_in [.val (.str x)] = .ok d [.val (.str x)] ∧ NumD d ∧ inB 1 400 d = false := by
  have no : ∀ x : Str, x.length ≤ 100 → ¬ (1 ≤ x.length ∧ x.length ≤ 8 ∧ figs x = true) → ∃ d, f_number_in [.val (.str x)] = .ok d [.val (.str x)] ∧ NumD d ∧ inB 1 400 d = false := fun x hl h => ⟨.non, number_no (by rw [sizeLine_eq]; omega) h, .n, rfl⟩
  intro x hx
  simp only [vals, List.mem_cons, List.not_mem_nil, or_false] at hx
  rcases hx with rfl | rfl | rfl | rfl | rfl | rfl | rfl | rfl
  · exact no _ (by decide) (by decide)
  · exact ⟨.non, number_zero (c := 53) (r := []) (by first | rfl | decide) (by decide), .n, rfl⟩
  · exact ⟨.int 0, by rw [← zero_eq]; exact number_num (by decide), .i 0, rfl⟩
  · exact ⟨.int 401, by rw [← four_eq]; exact number_num (by decide), .i 401, rfl⟩
  · exact no _ (by decide) (by decide)
  · exact no _ (by decide) (by decide)
  · exact no _ (by decide) (by decide)
  · exact no _ (by decide) (by decide)
section
variable {vs : List Vis} {v : Vis}
theorem ws_line (h : VisOk v) : WsOk (wordsOf v) := by
  refine ws_of (by unfold wordsOf; simp) (by unfold wordsOf; simp) fun p hp => ?_
  unfold wordsOf at hp
  simp only [List.mem_cons, List.not_mem_nil, or_false] at hp
  rcases hp with rfl | rfl | rfl | rfl | rfl
  · exact pc_of (by decide)
  · exact pc_name h.name
  · exact pc_num (by have := h.m; omega)
  · exact pc_num (by have := h.l; omega)
  · exact pc_num (by have := h.w2; omega)
theorem ws_sub {ws : List Str} (h : VisOk v) (h1 : ws ≠ []) (h2 : ws.length ≤ 10) (h3 : ∀ p ∈ ws, p ∈ wordsOf v ∨ (((cl p).all fun c => decide (32 < c)) && decide (p.length ≤ 20)) = true) : WsOk ws :=
  ws_of h1 h2 fun p hp => (h3 p hp).elim (fun q => (ws_line h).all p q) pc_of
theorem b2_eq : line v ++ " " = Txt.join " " ["visit", v.name, numS v.m, numS v.l, numS v.w, ""] := by
  have e := join_snoc " " "" (ps := wordsOf v) (by unfold wordsOf; simp)
  unfold line
  rw [txt_join, txt_join, show (["visit", v.name, numS v.m, numS v.l, numS v.w, ""] : List Str) = wordsOf v ++ [("" : Str)] from rfl, e, empty_eq, Str.append_empty]
theorem b3_eq : " " ++ line v = Txt.join " " ["", "visit", v.name, numS v.m, numS v.l, numS v.w] := by
  unfold line wordsOf
  rw [txt_join, txt_join, join_two " " "" "visit", empty_eq, Str.empty_append]
theorem b7_eq : "note " ++ v.name = Txt.join " " ["note", v.name] := by
  rw [txt_join, join_two, join_one]
  rfl
theorem b8_eq : line v ++ " 5" = Txt.join " " ["visit", v.name, numS v.m, numS v.l, numS v.w, "5"] := by
  have e := join_snoc " " "5" (ps := wordsOf v) (by unfold wordsOf; simp)
  unfold line
  rw [txt_join, txt_join, show (["visit", v.name, numS v.m, numS v.l, numS v.w, "5"] : List Str) = wordsOf v ++ [("5" : Str)] from rfl, e, Str.append_assoc]
  rfl
theorem b9_eq : "visits " ++ Txt.join " " [v.name, numS v.m, numS v.l, numS v.w] = Txt.join " " ["visits", v.name, numS v.m, numS v.l, numS v.w] := by
  rw [txt_join, txt_join, join_two " " "visits" v.name]
  rfl
end
end DL
namespace DL
open PySem L2
section
variable {vs : List Vis} {v : Vis}
theorem nm (v : Vis) : f_number_in [.val (.str (numS v.m))] = f_number_in [.val (.str (numS v.m))] := rfl
theorem num_m (h : VisOk v) : f_number_in [.val (.str (numS v.m))] = .ok (.int v.m) [.val (.str (numS v.m))] := number_num (by have := h.m; omega)
theorem num_l (h : VisOk v) : f_number_in [.val (.str (numS v.l))] = .ok (.int v.l) [.val (.str (numS v.l))] := number_num (by have := h.l; omega)
theorem num_w (h : VisOk v) : f_number_in [.val (.str (numS v.w))] = .ok (.int v.w) [.val (.str (numS v.w))] := number_num (by have := h.w2; omega)
theorem bad_row {ws : List Str} (hv : VisesOk vs) (h : WsOk ws) (hf : Found (Txt.join " " ws) .non) : BadRow vs (Txt.join " " ws) ∧ 10 ∉ cl (Txt.join " " ws) :=
  ⟨bad_non hv (by have := row_len h; omega) hf, row_free h⟩
theorem badsA_ok (hv : VisesOk vs) (h : VisOk v) : ∀ x ∈ badsA v, BadRow vs x ∧ 10 ∉ cl x := by
  have mem : ∀ p, p ∈ wordsOf v ↔ p = "visit" ∨ p = v.name ∨ p = numS v.m ∨ p = numS v.l ∨ p = numS v.w := fun p => by unfold wordsOf; simp
  intro x hx
  simp only [badsA, List.mem_cons, List.not_mem_nil, or_false] at hx
  rcases hx with rfl | rfl | rfl | rfl | rfl | rfl | rfl | rfl | rfl | rfl
  · have e : ("" : Str) = Txt.join " " [("" : Str)] := by rw [txt_join, join_one]
    have w : WsOk [("" : Str)] := ws_of (by simp) (by simp) fun p hp => by
      simp at hp
      subst hp
      exact pc_empty
    rw [e]
    exact bad_row hv w (found_head w (by decide))
  · rw [b2_eq]
    have w : WsOk ["visit", v.name, numS v.m, numS v.l, numS v.w, ""] := ws_sub h (by simp) (by simp) fun p hp => by
      simp only [List.mem_cons, List.not_mem_nil, or_false] at hp
      rcases hp with q | q | q | q | q | q
      · exact .inl ((mem p).mpr (.inl q))
      · exact .inl ((mem p).mpr (.inr (.inl q)))
      · exact .inl ((mem p).mpr (.inr (.inr (.inl q))))
      · exact .inl ((mem p).mpr (.inr (.inr (.inr (.inl q)))))
      · exact .inl ((mem p).mpr (.inr (.inr (.inr (.inr q)))))
      · subst q; exact .inr (by decide)
    exact bad_row hv w (found_len w (by simp))
  · rw [b3_eq]
    have w : WsOk ["", "visit", v.name, numS v.m, numS v.l, numS v.w] := ws_sub h (by simp) (by simp) fun p hp => by
      simp only [List.mem_cons, List.not_mem_nil, or_false] at hp
      rcases hp with q | q | q | q | q | q
      · subst q; exact .inr (by decide)
      · exact .inl ((mem p).mpr (.inl q))
      · exact .inl ((mem p).mpr (.inr (.inl q)))
      · exact .inl ((mem p).mpr (.inr (.inr (.inl q))))
      · exact .inl ((mem p).mpr (.inr (.inr (.inr (.inl q)))))
      · exact .inl ((mem p).mpr (.inr (.inr (.inr (.inr q)))))
    exact bad_row hv w (found_head w (by decide))
  · rw [rep_line]
    have w : WsOk ["visit", "", v.name, numS v.m, numS v.l, numS v.w] := ws_sub h (by simp) (by simp) fun p hp => by
      simp only [List.mem_cons, List.not_mem_nil, or_false] at hp
      rcases hp with q | q | q | q | q | q
      · exact .inl ((mem p).mpr (.inl q))
      · subst q; exact .inr (by decide)
      · exact .inl ((mem p).mpr (.inr (.inl q)))
      · exact .inl ((mem p).mpr (.inr (.inr (.inl q))))
      · exact .inl ((mem p).mpr (.inr (.inr (.inr (.inl q)))))
      · exact .inl ((mem p).mpr (.inr (.inr (.inr (.inr q)))))
    exact bad_row hv w (found_len w (by simp))
  · have e : ("visit" : Str) = Txt.join " " [("visit" : Str)] := by rw [txt_join, join_one]
    have w : WsOk [("visit" : Str)] := ws_of (by simp) (by simp) fun p hp => by
      simp at hp
      subst hp
      exact pc_of (by decide)
    rw [e]
    exact bad_row hv w (found_len w (by simp))
  · obtain ⟨w, ws, e, hw⟩ := upper_split v
    exact ⟨bad_non hv (by have := upper_len h; omega) ⟨w, ws, e, .inr ⟨hw, rfl⟩⟩, upper_free h⟩
  · rw [b7_eq]
    have w : WsOk ["note", v.name] := ws_sub h (by simp) (by simp) fun p hp => by
      simp only [List.mem_cons, List.not_mem_nil, or_false] at hp
      rcases hp with q | q
      · subst q; exact .inr (by decide)
      · exact .inl ((mem p).mpr (.inr (.inl q)))
    exact bad_row hv w (found_head w (by decide))
  · rw [b8_eq]
    have w : WsOk ["visit", v.name, numS v.m, numS v.l, numS v.w, "5"] := ws_sub h (by simp) (by simp) fun p hp => by
      simp only [List.mem_cons, List.not_mem_nil, or_false] at hp
      rcases hp with q | q | q | q | q | q
      · exact .inl ((mem p).mpr (.inl q))
      · exact .inl ((mem p).mpr (.inr (.inl q)))
      · exact .inl ((mem p).mpr (.inr (.inr (.inl q))))
      · exact .inl ((mem p).mpr (.inr (.inr (.inr (.inl q)))))
      · exact .inl ((mem p).mpr (.inr (.inr (.inr (.inr q)))))
      · subst q; exact .inr (by decide)
    exact bad_row hv w (found_len w (by simp))
  · rw [b9_eq]
    have w : WsOk ["visits", v.name, numS v.m, numS v.l, numS v.w] := ws_sub h (by simp) (by simp) fun p hp => by
      simp only [List.mem_cons, List.not_mem_nil, or_false] at hp
      rcases hp with q | q | q | q | q
      · subst q; exact .inr (by decide)
      · exact .inl ((mem p).mpr (.inr (.inl q)))
      · exact .inl ((mem p).mpr (.inr (.inr (.inl q))))
      · exact .inl ((mem p).mpr (.inr (.inr (.inr (.inl q)))))
      · exact .inl ((mem p).mpr (.inr (.inr (.inr (.inr q)))))
    exact bad_row hv w (found_head w (by decide))
  · have w : WsOk ["visit", v.name, numS v.m, numS v.l] := ws_sub h (by simp) (by simp) fun p hp => by
      simp only [List.mem_cons, List.not_mem_nil, or_false] at hp
      rcases hp with q | q | q | q
      · exact .inl ((mem p).mpr (.inl q))
      · exact .inl ((mem p).mpr (.inr (.inl q)))
      · exact .inl ((mem p).mpr (.inr (.inr (.inl q))))
      · exact .inl ((mem p).mpr (.inr (.inr (.inr (.inl q)))))
    exact bad_row hv w (found_len w (by simp))
theorem ws_five {a b c d : Str} (ha : PcOk a) (hb : PcOk b) (hc : PcOk c) (hd : PcOk d) : WsOk ["visit", a, b, c, d] := ws_of (by simp) (by simp) fun p hp => by
  simp only [List.mem_cons, List.not_mem_nil, or_false] at hp
  rcases hp with rfl | rfl | rfl | rfl | rfl
  · exact pc_of (by decide)
  · exact ha
  · exact hb
  · exact hc
  · exact hd
theorem badsB_ok (hv : VisesOk vs) (h : VisOk v) : ∀ x ∈ badsB v, BadRow vs x ∧ 10 ∉ cl x := by
  intro x hx
  unfold badsB at hx
  obtain ⟨y, hy, rfl⟩ := List.mem_map.mp hx
  have w : WsOk ["visit", v.name, numS v.m, numS v.l, y] := ws_five (pc_name h.name) (pc_num (by have := h.m; omega)) (pc_num (by have := h.l; omega)) (vals_pc y hy)
  obtain ⟨d, h1, h2, h3⟩ := vals_num y hy
  exact ⟨bad_four hv w (num_m h) (num_l h) h1 (.i _) (.i _) h2 (is_name_ok h.name) (by rw [h3]; simp), row_free w⟩
theorem badsC_ok (hv : VisesOk vs) (h : VisOk v) : ∀ x ∈ badsC v, BadRow vs x ∧ 10 ∉ cl x := by
  intro x hx
  simp only [badsC, List.mem_cons, List.not_mem_nil, or_false] at hx
  have pm : PcOk (numS v.m) := pc_num (by have := h.m; omega)
  have pl : PcOk (numS v.l) := pc_num (by have := h.l; omega)
  have pw : PcOk (numS v.w) := pc_num (by have := h.w2; omega)
  rcases hx with rfl | rfl | rfl
  · have w : WsOk ["visit", v.name, "2001", numS v.l, numS v.w] := ws_five (pc_name h.name) (pc_of (by decide)) pl pw
    exact ⟨bad_four hv w (x := .int 2001) (by rw [← two_eq]; exact number_num (by decide)) (num_l h) (num_w h) (.i _) (.i _) (.i _) (is_name_ok h.name) (by simp [inB]), row_free w⟩
  · have w : WsOk ["visit", v.name, numS v.m, "401", numS v.w] := ws_five (pc_name h.name) pm (pc_of (by decide)) pw
    exact ⟨bad_four hv w (y := .int 401) (num_m h) (by rw [← four_eq]; exact number_num (by decide)) (num_w h) (.i _) (.i _) (.i _) (is_name_ok h.name) (by simp [inB]), row_free w⟩
  · have w : WsOk ["visit", "A", numS v.m, numS v.l, numS v.w] := ws_five (pc_of (by decide)) pm pl pw
    exact ⟨bad_four hv w (num_m h) (num_l h) (num_w h) (.i _) (.i _) (.i _) (is_name_cap (c := 65) (r := []) (by first | rfl | decide) (by decide) (by decide)) (by simp), row_free w⟩
theorem bads_ok (hv : VisesOk vs) (h : VisOk v) : ∀ x ∈ (badsA v ++ badsB v) ++ badsC v, BadRow vs x ∧ 10 ∉ cl x := by
  intro x hx
  rcases List.mem_append.mp hx with hx | hx
  · rcases List.mem_append.mp hx with hx | hx
    · exact badsA_ok hv h x hx
    · exact badsB_ok hv h x hx
  · exact badsC_ok hv h x hx
end
/-- a text of rows, its length -/
theorem ended_small {rows : List Str} (h : ∀ r ∈ rows, r.length ≤ 1000) (hn : rows.length ≤ 50) : (ended rows).length ≤ 51000 := by
  rw [ended_len]
  have : ∀ rows : List Str, (∀ r ∈ rows, r.length ≤ 1000) → (rows.map fun r => r.length + 1).sum ≤ 1001 * rows.length := fun rows => by
    induction rows with
    | nil => intro _; simp
    | cons r rows ih =>
      intro h
      have h1 := h r (by simp)
      have h2 := ih fun x hx => h x (List.mem_cons_of_mem _ hx)
      simp only [List.map_cons, List.sum_cons, List.length_cons]
      omega
  have := this rows h
  omega
theorem ended_split {rows : List Str} (h : ∀ r ∈ rows, 10 ∉ cl r) : Txt.split (ended rows) "\n" = rows ++ [("" : Str)] := by
  have e := split_ended (rows := rows) (last := "") h (by rw [empty_eq, cl_empty]; simp)
  rw [empty_eq, Str.append_empty] at e
  rw [e, empty_eq]
/-- a bad row in the place of the one behind vs -/
theorem refused_row {vs : List Vis} {x : Str} {rest : List Str} (hv : VisesOk vs) (hb : BadRow vs x) (hx : 10 ∉ cl x) (hr : ∀ r ∈ rest, 10 ∉ cl r ∧ r.length ≤ 1000) (hn : rest.length ≤ 9) :
    f_ulaw_refused [.val (.str (ended (vs.map line ++ x :: rest)))] = .ok (.int ((vs.length : Int) + 1)) [.val (.str (ended (vs.map line ++ x :: rest)))] := by
  have hl := hv.len
  have h1 : ∀ r ∈ vs.map line ++ x :: rest, 10 ∉ cl r ∧ r.length ≤ 1000 := fun r h => by
    rcases List.mem_append.mp h with q | q
    · obtain ⟨v, hvv, rfl⟩ := List.mem_map.mp q
      exact ⟨line_free (hv.all v hvv), by have := line_len (hv.all v hvv); omega⟩
    · rcases List.mem_cons.mp q with rfl | q
      · exact ⟨hx, hb.1⟩
      · exact hr r q
  refine refused_ok (parse_bad (rest := rest ++ [("" : Str)]) hv ?_ ?_ (by simp) hb)
  · have := ended_small (fun r h => (h1 r h).2) (by simp; omega)
    omega
  · rw [ended_split fun r h => (h1 r h).1]
    simp
end DL
namespace DL
open PySem L2
def SG : Str := "abcdefghijklmnopqrstuvwxyz0123456789"
theorem sg_cl : cl SG = List.range' 97 26 ++ List.range' 48 10 := by first | rfl | decide
theorem sg_ix {r : Int} (h0 : 0 ≤ r) (h1 : r < 36) : ∃ c, D.ix (.str SG) (.int r) = some (.str ⟨#[c]⟩) ∧ ((97 ≤ c ∧ c ≤ 122) ∨ (48 ≤ c ∧ c ≤ 57)) ∧ (r < 26 → 97 ≤ c ∧ c ≤ 122) := by
  obtain ⟨k, rfl⟩ := Int.eq_ofNat_of_zero_le h0
  have hk : k < 36 := by omega
  have hl : SG.length ≤ sizeLine := by rw [sizeLine_eq]; decide
  have hc : cl SG = SG.cps.toList := rfl
  have hlen : (cl SG).length = 36 := by rw [sg_cl]; simp
  have hz : ixN (cl SG).length ((k : Nat) : Int) = some k := by
    rw [hlen]
    simp [ixN]
    omega
  have e : (cl SG)[k]? = some (if k < 26 then 97 + k else 48 + (k - 26)) := by
    rw [sg_cl]
    by_cases h : k < 26
    · rw [List.getElem?_append_left (by simpa using h), if_pos h]
      simp [h]
    · rw [List.getElem?_append_right (by simp; omega), if_neg h]
      have : k - 26 < 10 := by omega
      simp [this]
  refine ⟨if k < 26 then 97 + k else 48 + (k - 26), ?_, ?_, ?_⟩
  · show (if SG.length ≤ sizeLine then (L2.atI (cl SG) (k : Int)).map fun c => D.str ⟨#[c]⟩ else none) = _
    rw [if_pos hl]
    unfold L2.atI
    rw [hz]
    show ((cl SG)[k]?).map _ = _
    rw [e]
    rfl
  · by_cases h : k < 26
    · rw [if_pos h]; left; omega
    · rw [if_neg h]; right; omega
  · intro h
    have : k < 26 := by omega
    rw [if_pos this]
    omega
theorem name_snoc {s : Str} {c : Nat} (h : NameOk s) (hc : (97 ≤ c ∧ c ≤ 122) ∨ (48 ≤ c ∧ c ≤ 57)) (hl : s.length < 12) : NameOk (s ++ ⟨#[c]⟩) := by
  obtain ⟨a, r, e, h1, h2, h3⟩ := h
  rw [cl_len, e] at hl
  refine ⟨a, r ++ [c], ?_, h1, fun x hx => ?_, by simp at hl ⊢; omega⟩
  · rw [cl_app, e]; rfl
  · rcases List.mem_append.mp hx with q | q
    · exact h2 x q
    · simp at q; subst q; exact hc
theorem nl_body {d : List D} {s : Str} {s2 s4 : Slot} (hd : RowOk d) (hl : s.length < 12) : ∃ c d', ((97 ≤ c ∧ c ≤ 122) ∨ (48 ≤ c ∧ c ≤ 57)) ∧ RowOk d' ∧
    b0_ulaw_name [.own d, .val (.str SG), s2, .val (.str s), s4] = .nx [.own d', .val (.str SG), s2, .val (.str (s ++ ⟨#[c]⟩)), s4] := by
  have h1 := tk_eq hd (m := 36) (by decide) (by decide)
  obtain ⟨c, e1, e2, _⟩ := sg_ix (tkV_lo hd (m := 36) (by decide) (by decide)) (tkV_hi hd (m := 36) (by decide) (by decide))
  have hz : s.length + 1 ≤ sizeLine := by rw [sizeLine_eq]; omega
  have e3 : D.add (.str s) (.str ⟨#[c]⟩) = some (.str (s ++ ⟨#[c]⟩)) := by
    show (if s.length + 1 ≤ sizeLine then _ else none) = _
    rw [if_pos hz]
  refine ⟨c, tkN d 36, e2, tkN_ok hd (by decide) (by decide), ?_⟩
  generalize tkV d 36 = r at *
  generalize tkN d 36 = d' at *
  simp [b0_ulaw_name, h1, e1, e3, fnF, sSeq, sIf, asTest, op1, op2, opN, opV, M.bnd, M.ret, M.opt, Arg.ev, rs, rss, Slot.rd, evs, sV, sAsg, sNx, var, gN, gTu, gCo, gNi, so_no, so_val, so_own, so_dic, so_inst, so_ex, sh_no, sh_val, sh_own, sh_dic, sh_inst, sh_ex, sa_no, sa_val, sa_own, sa_dic, sa_inst, sa_ex, vAnd, vOr, vNot, vIf, bAnd, bOr, bNot, chain, chC, chL, callF, callV_1, callV_2, callV_3, callV_4, sz1, sz2, sz3, sz4, sz5, sz6, sz7, sz8, sz9, sz10, sz11, sz12, dvs, D.cmpI, D.toI, D.mod, D.fdiv, add_ii, D.sub, D.mul, D.pow, D.neg, D.len, D.mkL, D.mkT, D.isN, D.notN, isiB, isi2, D.is, D.tn, sPut, callV_o1g]
theorem nl_loop {s2 : Slot} : ∀ {ds : List D} {d : List D} {s : Str} {s4 : Slot}, RowOk d → NameOk s → s4.isOwn = false → s.length + ds.length ≤ 12 → ∃ s' d' t4, NameOk s' ∧ RowOk d' ∧
    forL (gN 4) b0_ulaw_name ds [.own d, .val (.str SG), s2, .val (.str s), s4] = .nx [.own d', .val (.str SG), s2, .val (.str s'), t4]
  | [], d, s, s4, hd, hs, _, _ => ⟨s, d, s4, hs, hd, rfl⟩
  | x :: ds, d, s, s4, hd, hs, h4, hl => by
    have hl' : s.length < 12 := by simp at hl; omega
    obtain ⟨c, d1, hc, hd1, e⟩ := nl_body (s2 := s2) (s4 := .val x) hd hl'
    obtain ⟨s', d', t4, h1, h2, h3⟩ := nl_loop (s2 := s2) (ds := ds) (d := d1) (s := s ++ ⟨#[c]⟩) (s4 := .val x) hd1 (name_snoc hs hc hl') rfl (by
      rw [Str.length_append]
      have : (⟨#[c]⟩ : Str).length = 1 := rfl
      simp at hl
      omega)
    refine ⟨s', d', t4, h1, h2, ?_⟩
    refine (for_cons (ρ1 := [.own d, .val (.str SG), s2, .val (.str s), .val x]) ?_ e).trans h3
    simp [gN, h4]
theorem one_name {c : Nat} (h : 97 ≤ c ∧ c ≤ 122) : NameOk ⟨#[c]⟩ := ⟨c, [], rfl, h, fun _ hx => absurd hx (by simp), by simp⟩
theorem name_ok {d : List D} (hd : RowOk d) : ∃ s d', NameOk s ∧ RowOk d' ∧ f_ulaw_name [.own d] = .ok (.str s) [.own d'] := by
  obtain ⟨x, hx, e1⟩ := pick_eq (ks := [.int 1, .int 1, .int 2, .int 3, .int 5, .int 12]) hd (by simp) (by simp)
  have hx2 : ∃ n : Nat, x = .int n ∧ 1 ≤ n ∧ n ≤ 12 := by
    have hm := List.mem_of_getElem? hx
    simp only [List.mem_cons, List.not_mem_nil, or_false] at hm
    rcases hm with rfl | rfl | rfl | rfl | rfl | rfl
    · exact ⟨1, rfl, by decide, by decide⟩
    · exact ⟨1, rfl, by decide, by decide⟩
    · exact ⟨2, rfl, by decide, by decide⟩
    · exact ⟨3, rfl, by decide, by decide⟩
    · exact ⟨5, rfl, by decide, by decide⟩
    · exact ⟨12, rfl, by decide, by decide⟩
  obtain ⟨n, rfl, hn1, hn2⟩ := hx2
  have hd1 : RowOk (tkN d 6) := tkN_ok hd (by decide) (by decide)
  have e1' : f_ulaw_pick [.own d, .val (.lst [.int 1, .int 1, .int 2, .int 3, .int 5, .int 12])] = .ok (.int n) [.own (tkN d 6), .val (.lst [.int 1, .int 1, .int 2, .int 3, .int 5, .int 12])] := e1
  have h2 := tk_eq hd1 (m := 26) (by decide) (by decide)
  obtain ⟨c, e2, _, e3⟩ := sg_ix (tkV_lo hd1 (m := 26) (by decide) (by decide)) (by have := tkV_hi hd1 (m := 26) (by decide) (by decide); omega)
  have hc := e3 (tkV_hi hd1 (m := 26) (by decide) (by decide))
  have hd2 := tkN_ok hd1 (m := 26) (by decide) (by decide)
  generalize tkN d 6 = d1 at *
  generalize tkV d1 26 = r at *
  generalize tkN d1 26 = d2 at *
  obtain ⟨s', d', t4, h3, h4, h5⟩ := nl_loop (s2 := .val (.int (n : Int))) (ds := (List.range' 0 (n - 1)).map fun x : Nat => D.int x) (d := d2) (s := ⟨#[c]⟩) (s4 := .no) hd2 (one_name hc) rfl (by
    have : (⟨#[c]⟩ : Str).length = 1 := rfl
    simp
    omega)
  refine ⟨s', d', h3, h4, ?_⟩
  have hsrc : srcN D.rng1 [.v (op2 D.sub (.o 2) (.v (M.ret (.int 1))))] [.own d2, .val (.str SG), .val (.int (n : Int)), .val (.str ⟨#[c]⟩), .no] = .ok ((List.range' 0 (n - 1)).map fun x : Nat => D.int x) [.own d2, .val (.str SG), .val (.int (n : Int)), .val (.str ⟨#[c]⟩), .no] := by
    refine src1 (d := .int ((n - 1 : Nat) : Int)) ?_ (rng1_nat (by omega))
    have : ((n : Int) - 1) = ((n - 1 : Nat) : Int) := by omega
    simp [fnF, sSeq, sIf, asTest, op1, op2, opN, opV, M.bnd, M.ret, M.opt, Arg.ev, rs, rss, Slot.rd, evs, sV, sAsg, sNx, var, gN, gTu, gCo, gNi, so_no, so_val, so_own, so_dic, so_inst, so_ex, sh_no, sh_val, sh_own, sh_dic, sh_inst, sh_ex, sa_no, sa_val, sa_own, sa_dic, sa_inst, sa_ex, vAnd, vOr, vNot, vIf, bAnd, bOr, bNot, chain, chC, chL, callF, callV_1, callV_2, callV_3, callV_4, sz1, sz2, sz3, sz4, sz5, sz6, sz7, sz8, sz9, sz10, sz11, sz12, dvs, D.cmpI, D.toI, D.mod, D.fdiv, add_ii, D.sub, D.mul, D.pow, D.neg, D.len, D.mkL, D.mkT, D.isN, D.notN, isiB, isi2, D.is, D.tn, sPut, callV_o1g, this]
  have hloop : l1_ulaw_name [.own d2, .val (.str SG), .val (.int (n : Int)), .val (.str ⟨#[c]⟩), .no] = .nx [.own d', .val (.str SG), .val (.int (n : Int)), .val (.str s'), t4] := (for_ok hsrc).trans h5
  have hS : ("abcdefghijklmnopqrstuvwxyz0123456789" : Str) = SG := rfl
  generalize hW : (⟨#[c]⟩ : Str) = W at e2 hloop
  simp [f_ulaw_name, m_ulaw_name, hS, e1', h2, e2, hloop, fnF, sSeq, sIf, asTest, op1, op2, opN, opV, M.bnd, M.ret, M.opt, Arg.ev, rs, rss, Slot.rd, evs, sV, sAsg, sNx, var, gN, gTu, gCo, gNi, so_no, so_val, so_own, so_dic, so_inst, so_ex, sh_no, sh_val, sh_own, sh_dic, sh_inst, sh_ex, sa_no, sa_val, sa_own, sa_dic, sa_inst, sa_ex, vAnd, vOr, vNot, vIf, bAnd, bOr, bNot, chain, chC, chL, callF, callV_1, callV_2, callV_3, callV_4, sz1, sz2, sz3, sz4, sz5, sz6, sz7, sz8, sz9, sz10, sz11, sz12, dvs, D.cmpI, D.toI, D.mod, D.fdiv, add_ii, D.sub, D.mul, D.pow, D.neg, D.len, D.mkL, D.mkT, D.isN, D.notN, isiB, isi2, D.is, D.tn, sPut, callV_o1g]
end DL
namespace DL
open PySem L2
theorem erase_le : ∀ {l f : List Str}, l.Nodup → (∀ x ∈ l, x ∈ f) → l.length ≤ f.length
  | [], _, _, _ => Nat.zero_le _
  | x :: l, f, hn, h => by
    have hx := h x (by simp)
    have nd := List.nodup_cons.mp hn
    have := erase_le (l := l) (f := f.erase x) nd.2 fun y hy => (List.mem_erase_of_ne (fun e : y = x => nd.1 (e ▸ hy))).mpr (h y (List.mem_cons_of_mem _ hy))
    rw [List.length_erase_of_mem hx] at this
    have : 0 < f.length := List.length_pos_of_mem hx
    simp only [List.length_cons]
    omega
def cut9 (s : Str) : Str := cutS s none (some 9)
theorem cut9_cl (s : Str) : cl (cut9 s) = (cl s).take 9 := by
  unfold cut9 cutS
  rw [cl_mk, HT.sIx_none, show (some (9 : Int)) = some ((9 : Nat) : Int) from rfl, HT.sIx_nat]
  show ((cl s).drop 0).take (min 9 s.length - 0) = _
  rw [List.drop_zero, Nat.sub_zero, cl_len]
  by_cases h : 9 ≤ (cl s).length
  · rw [Nat.min_eq_left h]
  · rw [Nat.min_eq_right (by omega), List.take_length, List.take_of_length_le (by omega)]
def spareS (s : Str) (k : Nat) : Str := cut9 s ++ numS k
theorem spare_name {s : Str} {k : Nat} (h : NameOk s) (hk : k < 100) : NameOk (spareS s k) := by
  obtain ⟨a, r, e, h1, h2, h3⟩ := h
  have hL : (TL.numL k).length ≤ 2 := TL.numL_len (by decide) (by omega)
  refine ⟨a, r.take 8 ++ TL.numL k, ?_, h1, fun x hx => ?_, ?_⟩
  · unfold spareS
    rw [cl_app, cut9_cl, cl_num, e]
    rfl
  · rcases List.mem_append.mp hx with q | q
    · exact h2 x (List.mem_of_mem_take q)
    · exact .inr (TL.numL_digits k x q)
  · rw [List.length_append, List.length_take]
    omega
theorem spare_inj {s : Str} {a b : Nat} (h : spareS s a = spareS s b) : a = b := by
  have e := congrArg cl h
  unfold spareS at e
  rw [cl_app, cl_app, cl_num, cl_num] at e
  exact TL.numL_inj (List.append_cancel_left e)
def spares (s : Str) : List Str := s :: (List.range' 0 100).map (spareS s)
theorem spares_name {s : Str} (h : NameOk s) : ∀ x ∈ spares s, NameOk x := fun x hx => by
  rcases List.mem_cons.mp hx with rfl | hx
  · exact h
  · obtain ⟨k, hk, rfl⟩ := List.mem_map.mp hx
    exact spare_name h (by simpa using hk)
/-- one is not yet found -/
theorem spares_new {s : Str} {f : List Str} (hf : f.length < 100) : ∃ x r, (spares s).filter (fun x => !decide (x ∈ f)) = x :: r := by
  cases h : (spares s).filter (fun x => !decide (x ∈ f)) with
  | cons x r => exact ⟨x, r, rfl⟩
  | nil =>
    exfalso
    have hall : ∀ x ∈ spares s, x ∈ f := fun x hx => by
      have := List.filter_eq_nil_iff.mp h x hx
      simpa using this
    have hn : ((List.range' 0 100).map (spareS s)).Nodup := by
      refine List.pairwise_map.mpr ?_
      exact (List.nodup_range' (step := 1)).imp fun {a b} hab e => hab (spare_inj e)
    have := erase_le hn fun x hx => hall x (List.mem_cons_of_mem _ hx)
    simp at this
    omega
theorem spare_k {d F : List D} {s : Str} {M3 s5 s7 : Slot} (h : NameOk s) : k1_ulaw_names [.own d, M3, .own F, .val (.int 0), .val (.str s), s5, .no, s7] = k1_ulaw_names [.own d, M3, .own F, .val (.int 0), .val (.str s), s5, .no, s7] := rfl
theorem names_spare {d F : List D} {n : D} {s : Str} {M3 s3 s5 s7 : Slot} (h : NameOk s) : k1_ulaw_names [.own d, M3, .own F, s3, .val (.str s), s5, .no, s7] = .ok (.lst (((List.range' 0 100).map (spareS s)).map .str)) [.own d, M3, .own F, s3, .val (.str s), s5, .no, s7] := by
  have hz : s.length ≤ sizeLine := by rw [sizeLine_eq]; have := (name_len h).2; omega
  have e := comp_pure (vs := [6]) (src := srcN D.rng1 [.v (M.ret (.int 100))]) (t := gN 6) (tt := noTest) (te := c0_ulaw_names) (ρ := [.own d, M3, .own F, s3, .val (.str s), s5, .no, s7]) (ρ0 := [.own d, M3, .own F, s3, .val (.str s), s5, .no, s7])
    (ds := (List.range' 0 100).map fun x : Nat => D.int x) (fun _ => true) (fun d => match d with | .int k => .str (spareS s k.toNat) | _ => .non) (src1 (d := .int ((100 : Nat) : Int)) rfl (rng1_nat (by decide))) (by simp [ownAt, Slot.isOwn]) fun x hx => ?_
  · rw [filter_true, List.map_map] at e
    rw [List.map_map]
    exact e
  · obtain ⟨k, hk, rfl⟩ := List.mem_map.mp hx
    have hk' : k < 100 := by simpa using hk
    refine ⟨[.own d, M3, .own F, s3, .val (.str s), s5, .val (.int (k : Int)), s7], by simp [wipeE, fnF, sSeq, sIf, asTest, op1, op2, opN, opV, M.bnd, M.ret, M.opt, Arg.ev, rs, rss, Slot.rd, Slot.arg, Slot.has, evs, sV, sAsg, sNx, var, gN, gTu, gCo, gNi, Slot.isOwn, vAnd, vOr, vNot, vIf, bAnd, bOr, bNot, chain, chC, chL, callF, callV_1, callV_2, callV_3, callV_4, sz1, sz2, sz3, sz4, sz5, sz6, sz7, sz8, sz9, sz10, sz11, sz12, dvs, D.ix, L2.atI, ixN, D.cmpI, D.toI, D.mod, D.fdiv, D.add, D.sub, D.mul, D.pow, D.neg, D.len, D.mkL, D.mkT, D.isN, D.notN, isiB, isi2, D.is, D.tn, D.eq, D.ne, D.sc, D.eqb, sPut, sFor, forL, seqM, srcN, D.rng1, D.rng2, D.enum], rfl, fun _ => ?_, by simp [ownAt, Slot.isOwn], by simp [wipeE]⟩
    have e1 : D.cut none (some 9) (.str s) = some (.str (cut9 s)) := by
      show (if s.length ≤ sizeLine then some (D.str (cutS s none (some 9))) else none) = _
      rw [if_pos hz]
      rfl
    have e2 : D.strI [.int (k : Int)] = some (.str (numS k)) := by
      have : ((k : Int).natAbs.log2 < 1920) := by
        have h1 : (k : Int).natAbs = k := by simp
        rw [h1]
        have := Nat.log2_le_self k
        omega
      show (if (k : Int).natAbs.log2 < 1920 then some (D.str (toString (k : Int))) else none) = _
      rw [if_pos this]
      rfl
    have hl : (cut9 s).length + (numS k).length ≤ sizeLine := by
      have h1 : (cut9 s).length ≤ 9 := by rw [cl_len, cut9_cl]; simp; omega
      have h2 := num_len (n := k) (k := 2) (by decide) (by omega)
      rw [sizeLine_eq]
      omega
    have e3 : D.add (.str (cut9 s)) (.str (numS k)) = some (.str (spareS s k)) := by
      show (if _ then _ else none) = _
      rw [if_pos hl]
      rfl
    simp [c0_ulaw_names, slc, Pt.ev, e1, e2, e3, fnF, sSeq, sIf, asTest, op1, op2, opN, opV, M.bnd, M.ret, M.opt, Arg.ev, rs, rss, Slot.rd, evs, sV, sAsg, sNx, var, gN, gTu, gCo, gNi, so_no, so_val, so_own, so_dic, so_inst, so_ex, sh_no, sh_val, sh_own, sh_dic, sh_inst, sh_ex, sa_no, sa_val, sa_own, sa_dic, sa_inst, sa_ex, vAnd, vOr, vNot, vIf, bAnd, bOr, bNot, chain, chC, chL, callF, callV_1, callV_2, callV_3, callV_4, sz1, sz2, sz3, sz4, sz5, sz6, sz7, sz8, sz9, sz10, sz11, sz12, dvs, D.cmpI, D.toI, D.mod, D.fdiv, add_ii, D.sub, D.mul, D.pow, D.neg, D.len, D.mkL, D.mkT, D.isN, D.notN, isiB, isi2, D.is, D.tn, sPut, callV_o1g]
theorem names_new {d : List D} {f S : List Str} {M3 s3 s4 s6 : Slot} (hS : ∀ x ∈ S, NameOk x) (hf : ∀ x ∈ f, NameOk x) : k2_ulaw_names [.own d, M3, .own (f.map .str), s3, s4, .val (.lst (S.map .str)), s6, .no] = .ok (.lst ((S.filter (fun x => !decide (x ∈ f))).map .str)) [.own d, M3, .own (f.map .str), s3, s4, .val (.lst (S.map .str)), s6, .no] := by
  have e := comp_pure (vs := [7]) (src := seqM (var 5)) (t := gN 7) (tt := asTest (op2 D.nmem (.o 7) (.o 2))) (te := var 7) (ρ := [.own d, M3, .own (f.map .str), s3, s4, .val (.lst (S.map .str)), s6, .no]) (ρ0 := [.own d, M3, .own (f.map .str), s3, s4, .val (.lst (S.map .str)), s6, .no])
    (ds := S.map .str) (fun d => match d with | .str x => !decide (x ∈ f) | _ => false) id (by simp [fnF, sSeq, sIf, asTest, op1, op2, opN, opV, M.bnd, M.ret, M.opt, Arg.ev, rs, rss, Slot.rd, Slot.arg, Slot.has, evs, sV, sAsg, sNx, var, gN, gTu, gCo, gNi, Slot.isOwn, vAnd, vOr, vNot, vIf, bAnd, bOr, bNot, chain, chC, chL, callF, callV_1, callV_2, callV_3, callV_4, sz1, sz2, sz3, sz4, sz5, sz6, sz7, sz8, sz9, sz10, sz11, sz12, dvs, D.ix, L2.atI, ixN, D.cmpI, D.toI, D.mod, D.fdiv, D.add, D.sub, D.mul, D.pow, D.neg, D.len, D.mkL, D.mkT, D.isN, D.notN, isiB, isi2, D.is, D.tn, D.eq, D.ne, D.sc, D.eqb, sPut, sFor, forL, seqM, srcN, D.rng1, D.rng2, D.enum]) (by simp [ownAt, Slot.isOwn]) fun x hx => ?_
  · rw [List.map_id, List.filter_map] at e
    exact e
  · obtain ⟨y, hy, rfl⟩ := List.mem_map.mp hx
    have e1 : D.nmem (.str y) (.lst (f.map .str)) = some (.bl (!decide (y ∈ f))) := by
      unfold D.nmem
      rw [mem_strs (hS y hy) hf]
    refine ⟨[.own d, M3, .own (f.map .str), s3, s4, .val (.lst (S.map .str)), s6, .val (.str y)], by simp [wipeE, fnF, sSeq, sIf, asTest, op1, op2, opN, opV, M.bnd, M.ret, M.opt, Arg.ev, rs, rss, Slot.rd, Slot.arg, Slot.has, evs, sV, sAsg, sNx, var, gN, gTu, gCo, gNi, Slot.isOwn, vAnd, vOr, vNot, vIf, bAnd, bOr, bNot, chain, chC, chL, callF, callV_1, callV_2, callV_3, callV_4, sz1, sz2, sz3, sz4, sz5, sz6, sz7, sz8, sz9, sz10, sz11, sz12, dvs, D.ix, L2.atI, ixN, D.cmpI, D.toI, D.mod, D.fdiv, D.add, D.sub, D.mul, D.pow, D.neg, D.len, D.mkL, D.mkT, D.isN, D.notN, isiB, isi2, D.is, D.tn, D.eq, D.ne, D.sc, D.eqb, sPut, sFor, forL, seqM, srcN, D.rng1, D.rng2, D.enum], ?_, fun _ => by simp [fnF, sSeq, sIf, asTest, op1, op2, opN, opV, M.bnd, M.ret, M.opt, Arg.ev, rs, rss, Slot.rd, Slot.arg, Slot.has, evs, sV, sAsg, sNx, var, gN, gTu, gCo, gNi, Slot.isOwn, vAnd, vOr, vNot, vIf, bAnd, bOr, bNot, chain, chC, chL, callF, callV_1, callV_2, callV_3, callV_4, sz1, sz2, sz3, sz4, sz5, sz6, sz7, sz8, sz9, sz10, sz11, sz12, dvs, D.ix, L2.atI, ixN, D.cmpI, D.toI, D.mod, D.fdiv, D.add, D.sub, D.mul, D.pow, D.neg, D.len, D.mkL, D.mkT, D.isN, D.notN, isiB, isi2, D.is, D.tn, D.eq, D.ne, D.sc, D.eqb, sPut, sFor, forL, seqM, srcN, D.rng1, D.rng2, D.enum], by simp [ownAt, Slot.isOwn], by simp [wipeE]⟩
    generalize S.map D.str = SS
    generalize f.map D.str = FF at e1 ⊢
    simp [e1, fnF, sSeq, sIf, asTest, op1, op2, opN, opV, M.bnd, M.ret, M.opt, Arg.ev, rs, rss, Slot.rd, evs, sV, sAsg, sNx, var, gN, gTu, gCo, gNi, so_no, so_val, so_own, so_dic, so_inst, so_ex, sh_no, sh_val, sh_own, sh_dic, sh_inst, sh_ex, sa_no, sa_val, sa_own, sa_dic, sa_inst, sa_ex, vAnd, vOr, vNot, vIf, bAnd, bOr, bNot, chain, chC, chL, callF, callV_1, callV_2, callV_3, callV_4, sz1, sz2, sz3, sz4, sz5, sz6, sz7, sz8, sz9, sz10, sz11, sz12, dvs, D.cmpI, D.toI, D.mod, D.fdiv, add_ii, D.sub, D.mul, D.pow, D.neg, D.len, D.mkL, D.mkT, D.isN, D.notN, isiB, isi2, D.is, D.tn, sPut, callV_o1g]
/-- one name more -/
theorem nb_body {d : List D} {f : List Str} {n : Int} {s3 s4 s5 : Slot} (hd : RowOk d) (hf : ∀ x ∈ f, NameOk x) (hn : f.Nodup) (hl : f.length < 50) (h4 : s4.isOwn = false) (h5 : s5.isOwn = false) :
    ∃ x d' t4 t5, NameOk x ∧ x ∉ f ∧ RowOk d' ∧ t4.isOwn = false ∧ t5.isOwn = false ∧ b3_ulaw_names [.own d, .val (.int n), .own (f.map .str), s3, s4, s5, .no, .no] = .nx [.own d', .val (.int n), .own ((f ++ [x]).map .str), s3, t4, t5, .no, .no] := by
  obtain ⟨s, d', hs, hd', e1⟩ := name_ok hd
  obtain ⟨x, r, hx⟩ := spares_new (s := s) (f := f) (by omega)
  have hxm : x ∈ (spares s).filter (fun x => !decide (x ∈ f)) := by rw [hx]; simp
  have hx1 := (List.mem_filter.mp hxm).1
  have hx2 := (List.mem_filter.mp hxm).2
  have k1 := names_spare (d := d') (F := f.map .str) (n := .non) (s := s) (M3 := .val (.int n)) (s3 := s3) (s5 := s5) (s7 := .no) hs
  have k2 := names_new (d := d') (f := f) (S := spares s) (M3 := .val (.int n)) (s3 := s3) (s4 := .val (.str s)) (s6 := .no) (spares_name hs) hf
  rw [hx] at k2
  have i0 : D.ix (.lst ((x :: r).map D.str)) (.int 0) = some (.str x) := by
    have h2 : ixN (r.length + 1) 0 = some 0 := by simp [ixN]
    simp [D.ix, L2.atI, h2]
  have e3 : D.add (.lst [.str s]) (.lst (((List.range' 0 100).map (spareS s)).map .str)) = some (.lst ((spares s).map .str)) := by
    show (if 1 + (((List.range' 0 100).map (spareS s)).map D.str).length ≤ sizeLine then _ else none) = _
    rw [if_pos (by rw [sizeLine_eq]; simp)]
    rfl
  have hz : f.length < sizeLine := by rw [sizeLine_eq]; omega
  refine ⟨x, d', .val (.str s), .val (.lst ((spares s).map .str)), spares_name hs x hx1, by simpa using hx2, hd', rfl, rfl, ?_⟩
  rw [List.map_append, List.map_cons, List.map_nil]
  have hzl : (f.map D.str).length < sizeLine := by simpa using hz
  generalize ((List.range' 0 100).map (spareS s)).map D.str = S1 at k1 e3
  generalize (spares s).map D.str = S2 at k2 e3 ⊢
  generalize (x :: r).map D.str = S3 at k2 i0
  generalize f.map D.str = FF at k1 k2 hzl ⊢
  simp [b3_ulaw_names, callV, slotsOf, ownIx, upsOf, updE, sApp, e1, k1, k2, i0, e3, h4, h5, hzl, fnF, sSeq, sIf, asTest, op1, op2, opN, opV, M.bnd, M.ret, M.opt, Arg.ev, rs, rss, Slot.rd, evs, sV, sAsg, sNx, var, gN, gTu, gCo, gNi, so_no, so_val, so_own, so_dic, so_inst, so_ex, sh_no, sh_val, sh_own, sh_dic, sh_inst, sh_ex, sa_no, sa_val, sa_own, sa_dic, sa_inst, sa_ex, vAnd, vOr, vNot, vIf, bAnd, bOr, bNot, chain, chC, chL, callF, callV_1, callV_2, callV_3, callV_4, sz1, sz2, sz3, sz4, sz5, sz6, sz7, sz8, sz9, sz10, sz11, sz12, dvs, D.cmpI, D.toI, D.mod, D.fdiv, add_ii, D.sub, D.mul, D.pow, D.neg, D.len, D.mkL, D.mkT, D.isN, D.notN, isiB, isi2, D.is, D.tn, sPut, callV_o1g]
theorem nb_loop {n : Int} : ∀ {ds d : List D} {f : List Str} {s3 s4 s5 : Slot}, RowOk d → (∀ x ∈ f, NameOk x) → f.Nodup → f.length + ds.length ≤ 50 → s3.isOwn = false → s4.isOwn = false → s5.isOwn = false →
    ∃ (f' : List Str) (d' : List D) (t3 t4 t5 : Slot), (∀ x ∈ f', NameOk x) ∧ f'.Nodup ∧ f'.length = f.length + ds.length ∧ RowOk d' ∧ forL (gN 3) b3_ulaw_names ds [.own d, .val (.int n), .own (f.map .str), s3, s4, s5, .no, .no] = .nx [.own d', .val (.int n), .own (f'.map .str), t3, t4, t5, .no, .no]
  | [], d, f, s3, s4, s5, hd, hf, hn, _, _, _, _ => ⟨f, d, s3, s4, s5, hf, hn, rfl, hd, rfl⟩
  | z :: ds, d, f, s3, s4, s5, hd, hf, hn, hl, h3, h4, h5 => by
    simp only [List.length_cons] at hl
    obtain ⟨x, d1, t4, t5, hx1, hx2, hd1, g4, g5, e⟩ := nb_body (n := n) (s3 := .val z) hd hf hn (by omega) h4 h5
    obtain ⟨f', d', u3, u4, u5, k1, k2, k3, k4, k5⟩ := nb_loop (n := n) (ds := ds) (d := d1) (f := f ++ [x]) (s3 := .val z) hd1 (fun y hy => by
      rcases List.mem_append.mp hy with q | q
      · exact hf y q
      · simp at q; subst q; exact hx1) (by
      rw [List.nodup_append]
      refine ⟨hn, by simp, fun a ha b hb eab => ?_⟩
      simp at hb
      subst hb
      subst eab
      exact hx2 ha) (by simp; omega) rfl g4 g5
    refine ⟨f', d', u3, u4, u5, k1, k2, by rw [k3]; simp; omega, k4, ?_⟩
    refine (for_cons (ρ1 := [.own d, .val (.int n), .own (f.map .str), .val z, s4, s5, .no, .no]) ?_ e).trans k5
    simp [gN, h3]
theorem names_ok {d : List D} (hd : RowOk d) : ∃ (f : List Str) (d' : List D), (∀ x ∈ f, NameOk x) ∧ f.Nodup ∧ f.length = 6 ∧ RowOk d' ∧ f_ulaw_names [.own d, .val (.int 6)] = .ok (.lst (f.map .str)) [.own d', .val (.int 6)] := by
  obtain ⟨f, d', t3, t4, t5, h1, h2, h3, h4, h5⟩ := nb_loop (n := 6) (ds := (List.range' 0 6).map fun x : Nat => D.int x) (d := d) (f := []) (s3 := .no) (s4 := .no) (s5 := .no) hd (fun _ h => absurd h (by simp)) (by simp) (by simp) rfl rfl rfl
  refine ⟨f, d', h1, h2, by rw [h3]; simp, h4, ?_⟩
  have hsrc : srcN D.rng1 [.v (var 1)] [.own d, .val (.int 6), .own [], .no, .no, .no, .no, .no] = .ok ((List.range' 0 6).map fun x : Nat => D.int x) [.own d, .val (.int 6), .own [], .no, .no, .no, .no, .no] := src1 (d := .int ((6 : Nat) : Int)) rfl (rng1_nat (by decide))
  have hloop : l4_ulaw_names [.own d, .val (.int 6), .own [], .no, .no, .no, .no, .no] = .nx [.own d', .val (.int 6), .own (f.map .str), t3, t4, t5, .no, .no] := (for_ok hsrc).trans h5
  generalize f.map D.str = FF at hloop ⊢
  simp [f_ulaw_names, m_ulaw_names, sOwn, sFrz, hloop, fnF, sSeq, sIf, asTest, op1, op2, opN, opV, M.bnd, M.ret, M.opt, Arg.ev, rs, rss, Slot.rd, evs, sV, sAsg, sNx, var, gN, gTu, gCo, gNi, so_no, so_val, so_own, so_dic, so_inst, so_ex, sh_no, sh_val, sh_own, sh_dic, sh_inst, sh_ex, sa_no, sa_val, sa_own, sa_dic, sa_inst, sa_ex, vAnd, vOr, vNot, vIf, bAnd, bOr, bNot, chain, chC, chL, callF, callV_1, callV_2, callV_3, callV_4, sz1, sz2, sz3, sz4, sz5, sz6, sz7, sz8, sz9, sz10, sz11, sz12, dvs, D.cmpI, D.toI, D.mod, D.fdiv, add_ii, D.sub, D.mul, D.pow, D.neg, D.len, D.mkL, D.mkT, D.isN, D.notN, isiB, isi2, D.is, D.tn, sPut, callV_o1g]
end DL
namespace DL
open PySem L2
def RV (F : List Str) (x y : D) : Prop := ∃ (k : Nat) (v : Vis), x = .int (k : Int) ∧ y = VD v ∧ VisOk v ∧ F[k]? = some v.name
theorem rv_list {F : List Str} : ∀ {n a : Nat} {ys : List D}, All2 (RV F) ((List.range' a n).map fun x : Nat => D.int x) ys → ∃ vs : List Vis, ys = vs.map VD ∧ (∀ v ∈ vs, VisOk v) ∧ vs.map (fun v => v.name) = (F.drop a).take n
  | 0, a, ys, h => by
    cases h
    exact ⟨[], rfl, fun _ h => absurd h (by simp), by simp⟩
  | n + 1, a, ys, h => by
    rw [List.range'_succ, List.map_cons] at h
    cases h with
    | cons h1 h2 =>
      obtain ⟨vs, e1, e2, e3⟩ := rv_list (F := F) (n := n) (a := a + 1) h2
      obtain ⟨k, v, g1, g2, g3, g4⟩ := h1
      have hk : a = k := by
        have : (a : Int) = (k : Int) := by simpa using g1
        omega
      subst hk
      refine ⟨v :: vs, by rw [e1, g2]; rfl, fun u hu => ?_, ?_⟩
      · rcases List.mem_cons.mp hu with rfl | hu
        · exact g3
        · exact e2 u hu
      · have hl : a < F.length := (List.getElem?_eq_some_iff.mp g4).1
        have hx : F[a] = v.name := (List.getElem?_eq_some_iff.mp g4).2
        rw [List.map_cons, e3, List.drop_eq_getElem_cons hl, List.take_succ_cons, hx]
theorem vis_elem {d : List D} {F : List Str} {k : Nat} (hd : RowOk d) (hF : ∀ x ∈ F, NameOk x) (hk : k < F.length) : ∃ v d', VisOk v ∧ F[k]? = some v.name ∧ RowOk d' ∧
    c0_ulaw_visits [.own d, .val (.int 6), .val (.int 2001), .val (.int 400), .val (.int 400), .val (.lst (F.map .str)), .val (.int (k : Int))] = .ok (VD v) [.own d', .val (.int 6), .val (.int 2001), .val (.int 400), .val (.int 400), .val (.lst (F.map .str)), .val (.int (k : Int))] := by
  have e1 := tk_eq hd (m := 2001) (by decide) (by decide)
  have l1 := tkV_lo hd (m := 2001) (by decide) (by decide)
  have u1 := tkV_hi hd (m := 2001) (by decide) (by decide)
  have hd1 := tkN_ok hd (m := 2001) (by decide) (by decide)
  generalize tkV d 2001 = r1 at *
  generalize tkN d 2001 = d1 at *
  have e2 := tk_eq hd1 (m := 401) (by decide) (by decide)
  have l2 := tkV_lo hd1 (m := 401) (by decide) (by decide)
  have u2 := tkV_hi hd1 (m := 401) (by decide) (by decide)
  have hd2 := tkN_ok hd1 (m := 401) (by decide) (by decide)
  generalize tkV d1 401 = r2 at *
  generalize tkN d1 401 = d2 at *
  have e3 := tk_eq hd2 (m := 400) (by decide) (by decide)
  have l3 := tkV_lo hd2 (m := 400) (by decide) (by decide)
  have u3 := tkV_hi hd2 (m := 400) (by decide) (by decide)
  have hd3 := tkN_ok hd2 (m := 400) (by decide) (by decide)
  generalize tkV d2 400 = r3 at *
  generalize tkN d2 400 = d3 at *
  obtain ⟨m, rfl⟩ := Int.eq_ofNat_of_zero_le l1
  obtain ⟨l, rfl⟩ := Int.eq_ofNat_of_zero_le l2
  obtain ⟨w, rfl⟩ := Int.eq_ofNat_of_zero_le l3
  refine ⟨⟨F[k], m, l, w + 1⟩, d3, ⟨hF _ (List.getElem_mem hk), show m ≤ 2000 by omega, show l ≤ 400 by omega, show 1 ≤ w + 1 by omega, show w + 1 ≤ 400 by omega⟩, List.getElem?_eq_getElem hk, hd3, ?_⟩
  have i0 : D.ix (.lst (F.map .str)) (.int (k : Int)) = some (.str F[k]) := by
    have hk2 : k < (F.map D.str).length := by simpa using hk
    have hz : ixN (F.map D.str).length (k : Int) = some k := by simp [ixN, hk]
    show L2.atI (F.map D.str) (k : Int) = _
    unfold L2.atI
    rw [hz]
    show (F.map D.str)[k]? = _
    rw [List.getElem?_eq_getElem hk2]
    simp
  have ew : (1 : Int) + (w : Int) = ((w + 1 : Nat) : Int) := by omega
  generalize F[k] = x at i0 ⊢
  generalize F.map D.str = FF at i0 ⊢
  simp [c0_ulaw_visits, e1, e2, e3, i0, ew, VD, fnF, sSeq, sIf, asTest, op1, op2, opN, opV, M.bnd, M.ret, M.opt, Arg.ev, rs, rss, Slot.rd, evs, sV, sAsg, sNx, var, gN, gTu, gCo, gNi, so_no, so_val, so_own, so_dic, so_inst, so_ex, sh_no, sh_val, sh_own, sh_dic, sh_inst, sh_ex, sa_no, sa_val, sa_own, sa_dic, sa_inst, sa_ex, vAnd, vOr, vNot, vIf, bAnd, bOr, bNot, chain, chC, chL, callF, callV_1, callV_2, callV_3, callV_4, sz1, sz2, sz3, sz4, sz5, sz6, sz7, sz8, sz9, sz10, sz11, sz12, dvs, D.cmpI, D.toI, D.mod, D.fdiv, add_ii, D.sub, D.mul, D.pow, D.neg, D.len, D.mkL, D.mkT, D.isN, D.notN, isiB, isi2, D.is, D.tn, sPut, callV_o1g]
theorem src1g {f : List D → Option (List D)} {m : M D} {ρ ρ' : Ev} {d : D} {ds : List D} (hm : m ρ = .ok d ρ') (hf : f [d] = some ds) : srcN f [.v m] ρ = .ok ds ρ' := by
  have he : evs [.v m] ρ = .ok [.d d] ρ' := by
    show M.bnd (M.bnd m fun d => M.ret (AV.d d)) (fun x => M.bnd (M.ret []) fun xs => M.ret (x :: xs)) ρ = _
    rw [bnd_ok (a := AV.d d) (ρ' := ρ') (by rw [bnd_ok hm]; rfl)]
    rfl
  unfold srcN
  rw [bnd_ok he]
  show (match (dvs [AV.d d]).bind f with | some r => _ | none => _) = _
  have : (dvs [AV.d d]).bind f = some ds := hf
  rw [this]
theorem visits_call {d1 d2 : List D} {FF : List D} {r : Int} (e2 : f_ulaw_taken [.own d1, .val (.int 7)] = .ok (.int r) [.own d2, .val (.int 7)]) :
    callF f_ulaw_taken [(.o 0), .v (op2 D.add (.o 1) (.v (M.ret (.int 1))))] [.own d1, .val (.int 6), .val (.int 2001), .val (.int 400), .val (.int 400), .val (.lst FF), .no] = .ok (.int r) [.own d2, .val (.int 6), .val (.int 2001), .val (.int 400), .val (.int 400), .val (.lst FF), .no] := by
  simp [e2, fnF, sSeq, sIf, asTest, op1, op2, opN, opV, M.bnd, M.ret, M.opt, Arg.ev, rs, rss, Slot.rd, evs, sV, sAsg, sNx, var, gN, gTu, gCo, gNi, so_no, so_val, so_own, so_dic, so_inst, so_ex, sh_no, sh_val, sh_own, sh_dic, sh_inst, sh_ex, sa_no, sa_val, sa_own, sa_dic, sa_inst, sa_ex, vAnd, vOr, vNot, vIf, bAnd, bOr, bNot, chain, chC, chL, callF, callV_1, callV_2, callV_3, callV_4, sz1, sz2, sz3, sz4, sz5, sz6, sz7, sz8, sz9, sz10, sz11, sz12, dvs, D.cmpI, D.toI, D.mod, D.fdiv, add_ii, D.sub, D.mul, D.pow, D.neg, D.len, D.mkL, D.mkT, D.isN, D.notN, isiB, isi2, D.is, D.tn, sPut, callV_o1g]
theorem visits_comp {d1 d2 d3 : List D} {FF VV ds : List D} (hsrc : srcN D.rng1 [.v (callF f_ulaw_taken [(.o 0), .v (op2 D.add (.o 1) (.v (M.ret (.int 1))))])] [.own d1, .val (.int 6), .val (.int 2001), .val (.int 400), .val (.int 400), .val (.lst FF), .no] = .ok ds [.own d2, .val (.int 6), .val (.int 2001), .val (.int 400), .val (.int 400), .val (.lst FF), .no])
    (k1 : lcL [6] (gN 6) noTest c0_ulaw_visits ds [.own d2, .val (.int 6), .val (.int 2001), .val (.int 400), .val (.int 400), .val (.lst FF), .no] [] = .ok ([] ++ VV) [.own d3, .val (.int 6), .val (.int 2001), .val (.int 400), .val (.int 400), .val (.lst FF), .no]) :
    k1_ulaw_visits [.own d1, .val (.int 6), .val (.int 2001), .val (.int 400), .val (.int 400), .val (.lst FF), .no] = .ok (.lst VV) [.own d3, .val (.int 6), .val (.int 2001), .val (.int 400), .val (.int 400), .val (.lst FF), .no] := by
  unfold k1_ulaw_visits compM
  rw [bnd_ok hsrc]
  have hw : wipeE [.own d2, .val (.int 6), .val (.int 2001), .val (.int 400), .val (.int 400), .val (.lst FF), .no] [6] = [.own d2, .val (.int 6), .val (.int 2001), .val (.int 400), .val (.int 400), .val (.lst FF), .no] := by simp [wipeE]
  rw [hw, k1]
  simp [ownAt, mergeE, Slot.isOwn]
theorem visits_fn {d d1 d3 : List D} {FF VV : List D} (e1 : f_ulaw_names [.own d, .val (.int 6)] = .ok (.lst FF) [.own d1, .val (.int 6)])
    (hc : k1_ulaw_visits [.own d1, .val (.int 6), .val (.int 2001), .val (.int 400), .val (.int 400), .val (.lst FF), .no] = .ok (.lst VV) [.own d3, .val (.int 6), .val (.int 2001), .val (.int 400), .val (.int 400), .val (.lst FF), .no]) :
    f_ulaw_visits [.own d, .val (.int 6), .val (.int 2001), .val (.int 400), .val (.int 400)] = .ok (.lst VV) [.own d3, .val (.int 6), .val (.int 2001), .val (.int 400), .val (.int 400)] := by
  simp [f_ulaw_visits, m_ulaw_visits, e1, hc, fnF, sSeq, sIf, asTest, op1, op2, opN, opV, M.bnd, M.ret, M.opt, Arg.ev, rs, rss, Slot.rd, evs, sV, sAsg, sNx, var, gN, gTu, gCo, gNi, so_no, so_val, so_own, so_dic, so_inst, so_ex, sh_no, sh_val, sh_own, sh_dic, sh_inst, sh_ex, sa_no, sa_val, sa_own, sa_dic, sa_inst, sa_ex, vAnd, vOr, vNot, vIf, bAnd, bOr, bNot, chain, chC, chL, callF, callV_1, callV_2, callV_3, callV_4, sz1, sz2, sz3, sz4, sz5, sz6, sz7, sz8, sz9, sz10, sz11, sz12, dvs, D.cmpI, D.toI, D.mod, D.fdiv, add_ii, D.sub, D.mul, D.pow, D.neg, D.len, D.mkL, D.mkT, D.isN, D.notN, isiB, isi2, D.is, D.tn, sPut, callV_o1g]
theorem visits_ok {d : List D} (hd : RowOk d) : ∃ vs d', VisesOk vs ∧ vs.length ≤ 6 ∧ RowOk d' ∧
    f_ulaw_visits [.own d, .val (.int 6), .val (.int 2001), .val (.int 400), .val (.int 400)] = .ok (.lst (vs.map VD)) [.own d', .val (.int 6), .val (.int 2001), .val (.int 400), .val (.int 400)] := by
  obtain ⟨F, d1, hF, hn, hl, hd1, e1⟩ := names_ok hd
  have e2 := tk_eq hd1 (m := 7) (by decide) (by decide)
  have l2 := tkV_lo hd1 (m := 7) (by decide) (by decide)
  have u2 := tkV_hi hd1 (m := 7) (by decide) (by decide)
  have hd2 := tkN_ok hd1 (m := 7) (by decide) (by decide)
  generalize tkV d1 7 = r at *
  generalize tkN d1 7 = d2 at *
  obtain ⟨n, rfl⟩ := Int.eq_ofNat_of_zero_le l2
  have hn7 : n < 7 := by omega
  obtain ⟨ys, ρ', k1, ⟨d3, hd3, rfl⟩, k4⟩ := lcL_inv (vs := [6]) (t := gN 6) (tt := noTest) (te := c0_ulaw_visits) (fun ρ => ∃ d, RowOk d ∧ ρ = [.own d, .val (.int 6), .val (.int 2001), .val (.int 400), .val (.int 400), .val (.lst (F.map .str)), .no]) (RV F)
    (ds := (List.range' 0 n).map fun x : Nat => D.int x) (acc := []) (ρ := [.own d2, .val (.int 6), .val (.int 2001), .val (.int 400), .val (.int 400), .val (.lst (F.map .str)), .no]) ⟨d2, hd2, rfl⟩ (fun x hx ρ hρ => by
      obtain ⟨k, hk, rfl⟩ := List.mem_map.mp hx
      have hk' : k < n := by simpa using hk
      obtain ⟨dd, hdd, rfl⟩ := hρ
      obtain ⟨v, d', g1, g2, g3, g4⟩ := vis_elem (k := k) hdd hF (by omega)
      exact ⟨_, _, VD v, _, (by simp [gN]; rfl), rfl, g4, by simp [ownAt, Slot.isOwn], ⟨d', g3, by simp [wipeE]⟩, k, v, rfl, rfl, g1, g2⟩)
  obtain ⟨vs, q1, q2, q3⟩ := rv_list k4
  subst q1
  have hnames : (vs.map fun v => v.name).Nodup := by
    rw [q3, List.drop_zero]
    exact hn.sublist (List.take_sublist _ _)
  have hlen : vs.length ≤ 6 := by
    have := congrArg List.length q3
    rw [List.length_map, List.drop_zero, List.length_take] at this
    omega
  refine ⟨vs, d3, ⟨q2, hnames, by omega⟩, hlen, hd3, ?_⟩
  exact visits_fn e1 (visits_comp (src1g (visits_call e2) (rng1_nat (by omega))) k1)
end DL
namespace DL
open PySem L2
theorem strs_map (l : List Str) : strsOf (l.map D.str) = some l := by
  induction l with
  | nil => rfl
  | cons s l ih =>
    show (strsOf (l.map D.str)).map (fun r => s :: r) = _
    rw [ih]
    rfl
theorem join_D {a : Str} {l : List Str} (h : (l.map (·.length)).sum + l.length * a.length ≤ 16777216) : D.join a (.lst (l.map D.str)) = some (.str (Txt.join a l)) := by
  show (strsOf (l.map D.str)).bind _ = _
  rw [strs_map]
  show (if _ then _ else none) = _
  rw [if_pos h]
theorem sum_len {l : List Str} {k : Nat} (h : ∀ r ∈ l, r.length ≤ k) : (l.map (·.length)).sum ≤ k * l.length := by
  induction l with
  | nil => simp
  | cons r l ih =>
    have h1 := h r (by simp)
    have h2 := ih fun x hx => h x (List.mem_cons_of_mem _ hx)
    rw [List.map_cons, List.sum_cons, List.length_cons, Nat.mul_add]
    omega
theorem feed_ok : f_ulaw_feed [] = .ok (.str "\n") [] := by simp [f_ulaw_feed, m_ulaw_feed, fnF, sSeq, sIf, asTest, op1, op2, opN, opV, M.bnd, M.ret, M.opt, Arg.ev, rs, rss, Slot.rd, evs, sV, sAsg, sNx, var, gN, gTu, gCo, gNi, so_no, so_val, so_own, so_dic, so_inst, so_ex, sh_no, sh_val, sh_own, sh_dic, sh_inst, sh_ex, sa_no, sa_val, sa_own, sa_dic, sa_inst, sa_ex, vAnd, vOr, vNot, vIf, bAnd, bOr, bNot, chain, chC, chL, callF, callV_1, callV_2, callV_3, callV_4, sz1, sz2, sz3, sz4, sz5, sz6, sz7, sz8, sz9, sz10, sz11, sz12, dvs, D.cmpI, D.toI, D.mod, D.fdiv, add_ii, D.sub, D.mul, D.pow, D.neg, D.len, D.mkL, D.mkT, D.isN, D.notN, isiB, isi2, D.is, D.tn, sPut, callV_o1g]
theorem add_SS {a b : Str} (h : a.length + b.length ≤ 1000000) : D.add (.str a) (.str b) = some (.str (a ++ b)) := by
  show (if _ then _ else none) = _
  rw [if_pos (by rw [sizeLine_eq]; omega)]
theorem ended_k {rows : List Str} (h : ∀ r ∈ rows, r.length ≤ 1000) : k1_ulaw_ended [.val (.lst (rows.map .str)), .no] = .ok (.lst ((rows.map fun r : Str => r ++ ("\n" : Str)).map .str)) [.val (.lst (rows.map .str)), .no] := by
  have e := comp_pure (vs := [1]) (src := seqM (var 0)) (t := gN 1) (tt := noTest) (te := c0_ulaw_ended) (ρ := [.val (.lst (rows.map .str)), .no]) (ρ0 := [.val (.lst (rows.map .str)), .no]) (ds := rows.map .str) (fun _ => true)
    (fun d => match d with | .str s => .str (s ++ "\n") | _ => .non) (by simp [fnF, sSeq, sIf, asTest, op1, op2, opN, opV, M.bnd, M.ret, M.opt, Arg.ev, rs, rss, Slot.rd, Slot.arg, Slot.has, evs, sV, sAsg, sNx, var, gN, gTu, gCo, gNi, Slot.isOwn, vAnd, vOr, vNot, vIf, bAnd, bOr, bNot, chain, chC, chL, callF, callV_1, callV_2, callV_3, callV_4, sz1, sz2, sz3, sz4, sz5, sz6, sz7, sz8, sz9, sz10, sz11, sz12, dvs, D.ix, L2.atI, ixN, D.cmpI, D.toI, D.mod, D.fdiv, D.add, D.sub, D.mul, D.pow, D.neg, D.len, D.mkL, D.mkT, D.isN, D.notN, isiB, isi2, D.is, D.tn, D.eq, D.ne, D.sc, D.eqb, sPut, sFor, forL, seqM, srcN, D.rng1, D.rng2, D.enum]) (by simp [ownAt, Slot.isOwn]) fun x hx => ?_
  · rw [filter_true, List.map_map] at e
    rw [List.map_map]
    exact e
  · obtain ⟨r, hr, rfl⟩ := List.mem_map.mp hx
    have e1 := add_SS (a := r) (b := "\n") (by have := h r hr; have : ("\n" : Str).length = 1 := rfl; omega)
    refine ⟨[.val (.lst (rows.map .str)), .val (.str r)], by simp [wipeE, fnF, sSeq, sIf, asTest, op1, op2, opN, opV, M.bnd, M.ret, M.opt, Arg.ev, rs, rss, Slot.rd, Slot.arg, Slot.has, evs, sV, sAsg, sNx, var, gN, gTu, gCo, gNi, Slot.isOwn, vAnd, vOr, vNot, vIf, bAnd, bOr, bNot, chain, chC, chL, callF, callV_1, callV_2, callV_3, callV_4, sz1, sz2, sz3, sz4, sz5, sz6, sz7, sz8, sz9, sz10, sz11, sz12, dvs, D.ix, L2.atI, ixN, D.cmpI, D.toI, D.mod, D.fdiv, D.add, D.sub, D.mul, D.pow, D.neg, D.len, D.mkL, D.mkT, D.isN, D.notN, isiB, isi2, D.is, D.tn, D.eq, D.ne, D.sc, D.eqb, sPut, sFor, forL, seqM, srcN, D.rng1, D.rng2, D.enum], rfl, fun _ => ?_, by simp [ownAt, Slot.isOwn], by simp [wipeE]⟩
    generalize rows.map D.str = RR
    simp [c0_ulaw_ended, callV, slotsOf, ownIx, upsOf, updE, feed_ok, e1, fnF, sSeq, sIf, asTest, op1, op2, opN, opV, M.bnd, M.ret, M.opt, Arg.ev, rs, rss, Slot.rd, evs, sV, sAsg, sNx, var, gN, gTu, gCo, gNi, so_no, so_val, so_own, so_dic, so_inst, so_ex, sh_no, sh_val, sh_own, sh_dic, sh_inst, sh_ex, sa_no, sa_val, sa_own, sa_dic, sa_inst, sa_ex, vAnd, vOr, vNot, vIf, bAnd, bOr, bNot, chain, chC, chL, callF, callV_1, callV_2, callV_3, callV_4, sz1, sz2, sz3, sz4, sz5, sz6, sz7, sz8, sz9, sz10, sz11, sz12, dvs, D.cmpI, D.toI, D.mod, D.fdiv, add_ii, D.sub, D.mul, D.pow, D.neg, D.len, D.mkL, D.mkT, D.isN, D.notN, isiB, isi2, D.is, D.tn, sPut, callV_o1g]
theorem ended_ok {rows : List Str} (h : ∀ r ∈ rows, r.length ≤ 1000) (hn : rows.length ≤ 50) : f_ulaw_ended [.val (.lst (rows.map .str))] = .ok (.str (ended rows)) [.val (.lst (rows.map .str))] := by
  have k := ended_k h
  have hj : D.join "" (.lst ((rows.map fun r : Str => r ++ ("\n" : Str)).map .str)) = some (.str (ended rows)) := by
    refine join_D ?_
    have h1 := sum_len (l := rows.map fun r : Str => r ++ ("\n" : Str)) (k := 1001) fun x hx => by
      obtain ⟨r, hr, rfl⟩ := List.mem_map.mp hx
      rw [Str.length_append]
      have := h r hr
      have : ("\n" : Str).length = 1 := rfl
      omega
    rw [List.length_map] at h1 ⊢
    have : ("" : Str).length = 0 := rfl
    rw [this]
    omega
  generalize (rows.map fun r : Str => r ++ ("\n" : Str)).map D.str = R2 at k hj
  generalize rows.map D.str = R1 at k ⊢
  simp [f_ulaw_ended, m_ulaw_ended, strM1, k, hj, fnF, sSeq, sIf, asTest, op1, op2, opN, opV, M.bnd, M.ret, M.opt, Arg.ev, rs, rss, Slot.rd, evs, sV, sAsg, sNx, var, gN, gTu, gCo, gNi, so_no, so_val, so_own, so_dic, so_inst, so_ex, sh_no, sh_val, sh_own, sh_dic, sh_inst, sh_ex, sa_no, sa_val, sa_own, sa_dic, sa_inst, sa_ex, vAnd, vOr, vNot, vIf, bAnd, bOr, bNot, chain, chC, chL, callF, callV_1, callV_2, callV_3, callV_4, sz1, sz2, sz3, sz4, sz5, sz6, sz7, sz8, sz9, sz10, sz11, sz12, dvs, D.cmpI, D.toI, D.mod, D.fdiv, add_ii, D.sub, D.mul, D.pow, D.neg, D.len, D.mkL, D.mkT, D.isN, D.notN, isiB, isi2, D.is, D.tn, sPut, callV_o1g]
theorem fjoin_ok {ρ : Ev} : ∀ {ms : List (M D)} {ps : List Str} {acc : Str}, All2 (fun m p => m ρ = .ok (.str p) ρ) ms ps → acc.length + (ps.map (·.length)).sum ≤ sizeLine → fjoin ms acc ρ = .ok (.str (ps.foldl (· ++ ·) acc)) ρ
  | _, _, acc, .nil, _ => rfl
  | _, _, acc, .cons (a := m) (b := p) (as := ms) (bs := ps) h1 h2, hl => by
    rw [List.map_cons, List.sum_cons] at hl
    have hz : (acc ++ p).length ≤ sizeLine := by rw [Str.length_append]; omega
    have ih := fjoin_ok (acc := acc ++ p) h2 (by rw [Str.length_append]; omega)
    unfold fjoin
    rw [bnd_ok h1]
    dsimp only
    rw [if_pos hz, ih]
    rfl
theorem fmt_str {m : M D} {ρ : Ev} {s : Str} (h : m ρ = .ok (.str s) ρ) (hz : s.length ≤ sizeLine) : fmtM m ρ = .ok (.str s) ρ := by
  unfold fmtM
  rw [bnd_ok h]
  have e : D.fmt (.str s) = some (.str s) := if_pos hz
  rw [e]
  rfl
theorem fmt_num {m : M D} {ρ : Ev} {n : Nat} (h : m ρ = .ok (.int (n : Int)) ρ) (hn : n < 10000) : fmtM m ρ = .ok (.str (numS n)) ρ := by
  unfold fmtM
  rw [bnd_ok h]
  have : ((n : Int).natAbs.log2 < 1920) := by
    have h1 : (n : Int).natAbs = n := by simp
    rw [h1]
    have := Nat.log2_le_self n
    have h2 : Nat.log2 n < 14 := by
      by_cases h0 : n = 0
      · subst h0; decide
      · exact (Nat.log2_lt h0).mpr (by omega)
    omega
  have e : D.fmt (.int (n : Int)) = some (.str (toString (n : Int))) := if_pos this
  rw [e]
  rfl
theorem strI_num {n : Nat} (hn : n < 10000) : D.strI [.int (n : Int)] = some (.str (numS n)) := by
  have : ((n : Int).natAbs.log2 < 1920) := by
    have h1 : (n : Int).natAbs = n := by simp
    rw [h1]
    have h2 : Nat.log2 n < 14 := by
      by_cases h0 : n = 0
      · subst h0; decide
      · exact (Nat.log2_lt h0).mpr (by omega)
    omega
  show (if (n : Int).natAbs.log2 < 1920 then some (D.str (toString (n : Int))) else none) = _
  rw [if_pos this]
  rfl
theorem format_c {v : Vis} {s0 s1 s6 : Slot} (h : VisOk v) : c0_format_lane [s0, s1, .val (.str v.name), .val (.int v.m), .val (.int v.l), .val (.int v.w), s6] = .ok (.str (line v)) [s0, s1, .val (.str v.name), .val (.int v.m), .val (.int v.l), .val (.int v.w), s6] := by
  have l1 := (name_len h.name).2
  have l2 := num_len (n := v.m) (k := 4) (by decide) (by have := h.m; omega)
  have l3 := num_len (n := v.l) (k := 4) (by decide) (by have := h.l; omega)
  have l4 := num_len (n := v.w) (k := 4) (by decide) (by have := h.w2; omega)
  have l5 : ("visit" : Str).length = 5 := by first | rfl | decide
  have l6 : (" " : Str).length = 1 := by first | rfl | decide
  have e := fjoin_ok (ρ := [s0, s1, .val (.str v.name), .val (.int v.m), .val (.int v.l), .val (.int v.w), s6]) (ms := [fmtM (M.ret (.str "visit")), M.ret (.str " "), fmtM (var 2), M.ret (.str " "), fmtM (var 3), M.ret (.str " "), fmtM (var 4), M.ret (.str " "), fmtM (var 5)])
    (ps := ["visit", " ", v.name, " ", numS v.m, " ", numS v.l, " ", numS v.w]) (acc := Str.empty)
    (.cons (fmt_str rfl (by rw [sizeLine_eq, l5]; decide)) (.cons rfl (.cons (fmt_str rfl (by rw [sizeLine_eq]; omega)) (.cons rfl (.cons (fmt_num rfl (by have := h.m; omega)) (.cons rfl (.cons (fmt_num rfl (by have := h.l; omega)) (.cons rfl (.cons (fmt_num rfl (by have := h.w2; omega)) .nil)))))))))
    (by
      simp only [List.map_cons, List.map_nil, List.sum_cons, List.sum_nil, l5, l6]
      have : Str.empty.length = 0 := rfl
      rw [sizeLine_eq, this]
      omega)
  unfold c0_format_lane
  rw [e]
  simp only [List.foldl_cons, List.foldl_nil, Str.empty_append]
  unfold line wordsOf
  rw [txt_join]
  simp only [join_two, join_one, Str.append_assoc]
theorem vis_length (v : Vis) : ([.str v.name, .int v.m, .int v.l, .int v.w] : List D).length = 4 := rfl
theorem format_k {vs : List Vis} {S : D} {s1 s6 : Slot} (hS : S = .obj "Lane" ["visits"] [.tup (vs.map VD)]) (h : ∀ v ∈ vs, VisOk v) (h1 : s1.isOwn = false) (h6 : s6.isOwn = false) : k1_format_lane [.val S, s1, .no, .no, .no, .no, s6] = .ok (.lst ((vs.map line).map .str)) [.val S, s1, .no, .no, .no, .no, s6] := by
  have e := comp_pure (vs := [2, 3, 4, 5]) (src := seqM (op1 (D.fld "Lane" "visits") (.o 0))) (t := gTu (gCo (gN 2) (gCo (gN 3) (gCo (gN 4) (gCo (gN 5) (gNi))))) 4) (tt := noTest) (te := c0_format_lane) (ρ := [.val S, s1, .no, .no, .no, .no, s6]) (ρ0 := [.val S, s1, .no, .no, .no, .no, s6])
    (ds := vs.map VD) (fun _ => true) (fun d => match d with | .tup [.str a, .int b, .int c, .int e] => .str (line ⟨a, b.toNat, c.toNat, e.toNat⟩) | _ => .non) (by subst hS; simp [D.fld, List.lookup, fnF, sSeq, sIf, asTest, op1, op2, opN, opV, M.bnd, M.ret, M.opt, Arg.ev, rs, rss, Slot.rd, Slot.arg, Slot.has, evs, sV, sAsg, sNx, var, gN, gTu, gCo, gNi, Slot.isOwn, vAnd, vOr, vNot, vIf, bAnd, bOr, bNot, chain, chC, chL, callF, callV_1, callV_2, callV_3, callV_4, sz1, sz2, sz3, sz4, sz5, sz6, sz7, sz8, sz9, sz10, sz11, sz12, dvs, D.ix, L2.atI, ixN, D.cmpI, D.toI, D.mod, D.fdiv, D.add, D.sub, D.mul, D.pow, D.neg, D.len, D.mkL, D.mkT, D.isN, D.notN, isiB, isi2, D.is, D.tn, D.eq, D.ne, D.sc, D.eqb, sPut, sFor, forL, seqM, srcN, D.rng1, D.rng2, D.enum]) (by simp [ownAt, Slot.isOwn]) fun x hx => ?_
  · rw [filter_true, List.map_map] at e
    rw [List.map_map]
    exact e
  · obtain ⟨v, hv, rfl⟩ := List.mem_map.mp hx
    have hc := format_c (s0 := .val S) (s1 := s1) (s6 := s6) (h v hv)
    exact ⟨[.val S, s1, .val (.str v.name), .val (.int v.m), .val (.int v.l), .val (.int v.w), s6], by simp [wipeE, VD, fnF, sSeq, sIf, asTest, op1, op2, opN, opV, M.bnd, M.ret, M.opt, Arg.ev, rs, rss, Slot.rd, Slot.arg, Slot.has, evs, sV, sAsg, sNx, var, gN, gTu, gCo, gNi, Slot.isOwn, vAnd, vOr, vNot, vIf, bAnd, bOr, bNot, chain, chC, chL, callF, callV_1, callV_2, callV_3, callV_4, sz1, sz2, sz3, sz4, sz5, sz6, sz7, sz8, sz9, sz10, sz11, sz12, dvs, D.ix, L2.atI, ixN, D.cmpI, D.toI, D.mod, D.fdiv, D.add, D.sub, D.mul, D.pow, D.neg, D.len, D.mkL, D.mkT, D.isN, D.notN, isiB, isi2, D.is, D.tn, D.eq, D.ne, D.sc, D.eqb, sPut, sFor, forL, seqM, srcN, D.rng1, D.rng2, D.enum], rfl, fun _ => hc, by simp [ownAt, Slot.isOwn], by simp [wipeE]⟩
theorem format_k3 {rows : List Str} {S : Slot} (h : ∀ r ∈ rows, r.length ≤ 1000) : k3_format_lane [S, .val (.lst (rows.map .str)), .no, .no, .no, .no, .no] = .ok (.lst ((rows.map fun r : Str => r ++ ("\n" : Str)).map .str)) [S, .val (.lst (rows.map .str)), .no, .no, .no, .no, .no] := by
  have e := comp_pure (vs := [6]) (src := seqM (var 1)) (t := gN 6) (tt := noTest) (te := c2_format_lane) (ρ := [S, .val (.lst (rows.map .str)), .no, .no, .no, .no, .no]) (ρ0 := [S, .val (.lst (rows.map .str)), .no, .no, .no, .no, .no]) (ds := rows.map .str) (fun _ => true)
    (fun d => match d with | .str s => .str (s ++ "\n") | _ => .non) (by simp [fnF, sSeq, sIf, asTest, op1, op2, opN, opV, M.bnd, M.ret, M.opt, Arg.ev, rs, rss, Slot.rd, Slot.arg, Slot.has, evs, sV, sAsg, sNx, var, gN, gTu, gCo, gNi, Slot.isOwn, vAnd, vOr, vNot, vIf, bAnd, bOr, bNot, chain, chC, chL, callF, callV_1, callV_2, callV_3, callV_4, sz1, sz2, sz3, sz4, sz5, sz6, sz7, sz8, sz9, sz10, sz11, sz12, dvs, D.ix, L2.atI, ixN, D.cmpI, D.toI, D.mod, D.fdiv, D.add, D.sub, D.mul, D.pow, D.neg, D.len, D.mkL, D.mkT, D.isN, D.notN, isiB, isi2, D.is, D.tn, D.eq, D.ne, D.sc, D.eqb, sPut, sFor, forL, seqM, srcN, D.rng1, D.rng2, D.enum]) (by simp [ownAt, Slot.isOwn]) fun x hx => ?_
  · rw [filter_true, List.map_map] at e
    rw [List.map_map]
    exact e
  · obtain ⟨r, hr, rfl⟩ := List.mem_map.mp hx
    have e1 := add_SS (a := r) (b := "\n") (by have := h r hr; have : ("\n" : Str).length = 1 := rfl; omega)
    refine ⟨[S, .val (.lst (rows.map .str)), .no, .no, .no, .no, .val (.str r)], by simp [wipeE, fnF, sSeq, sIf, asTest, op1, op2, opN, opV, M.bnd, M.ret, M.opt, Arg.ev, rs, rss, Slot.rd, Slot.arg, Slot.has, evs, sV, sAsg, sNx, var, gN, gTu, gCo, gNi, Slot.isOwn, vAnd, vOr, vNot, vIf, bAnd, bOr, bNot, chain, chC, chL, callF, callV_1, callV_2, callV_3, callV_4, sz1, sz2, sz3, sz4, sz5, sz6, sz7, sz8, sz9, sz10, sz11, sz12, dvs, D.ix, L2.atI, ixN, D.cmpI, D.toI, D.mod, D.fdiv, D.add, D.sub, D.mul, D.pow, D.neg, D.len, D.mkL, D.mkT, D.isN, D.notN, isiB, isi2, D.is, D.tn, D.eq, D.ne, D.sc, D.eqb, sPut, sFor, forL, seqM, srcN, D.rng1, D.rng2, D.enum], rfl, fun _ => ?_, by simp [ownAt, Slot.isOwn], by simp [wipeE]⟩
    generalize rows.map D.str = RR
    simp [c2_format_lane, e1, fnF, sSeq, sIf, asTest, op1, op2, opN, opV, M.bnd, M.ret, M.opt, Arg.ev, rs, rss, Slot.rd, evs, sV, sAsg, sNx, var, gN, gTu, gCo, gNi, so_no, so_val, so_own, so_dic, so_inst, so_ex, sh_no, sh_val, sh_own, sh_dic, sh_inst, sh_ex, sa_no, sa_val, sa_own, sa_dic, sa_inst, sa_ex, vAnd, vOr, vNot, vIf, bAnd, bOr, bNot, chain, chC, chL, callF, callV_1, callV_2, callV_3, callV_4, sz1, sz2, sz3, sz4, sz5, sz6, sz7, sz8, sz9, sz10, sz11, sz12, dvs, D.cmpI, D.toI, D.mod, D.fdiv, add_ii, D.sub, D.mul, D.pow, D.neg, D.len, D.mkL, D.mkT, D.isN, D.notN, isiB, isi2, D.is, D.tn, sPut, callV_o1g]
theorem format_ok {vs : List Vis} (h : VisesOk vs) : f_format_lane [.val (.obj "Lane" ["visits"] [.tup (vs.map VD)])] = .ok (.str (ended (vs.map line))) [.val (.obj "Lane" ["visits"] [.tup (vs.map VD)])] := by
  have hl : ∀ r ∈ vs.map line, r.length ≤ 1000 := fun r hr => by
    obtain ⟨v, hv, rfl⟩ := List.mem_map.mp hr
    have := line_len (h.all v hv)
    omega
  have k1 := format_k (s1 := .no) (s6 := .no) (S := .obj "Lane" ["visits"] [.tup (vs.map VD)]) rfl h.all rfl rfl
  have k3 := format_k3 (S := .val (.obj "Lane" ["visits"] [.tup (vs.map VD)])) hl
  have hj : D.join "" (.lst (((vs.map line).map fun r : Str => r ++ ("\n" : Str)).map .str)) = some (.str (ended (vs.map line))) := by
    refine join_D ?_
    have h1 := sum_len (l := (vs.map line).map fun r : Str => r ++ ("\n" : Str)) (k := 1001) fun x hx => by
      obtain ⟨r, hr, rfl⟩ := List.mem_map.mp hx
      rw [Str.length_append]
      have := hl r hr
      have : ("\n" : Str).length = 1 := rfl
      omega
    have h2 := h.len
    rw [List.length_map, List.length_map] at h1 ⊢
    have : ("" : Str).length = 0 := rfl
    rw [this]
    omega
  generalize ((vs.map line).map fun r : Str => r ++ ("\n" : Str)).map D.str = R2 at k3 hj
  generalize (vs.map line).map D.str = R1 at k1 k3
  generalize D.obj "Lane" ["visits"] [.tup (vs.map VD)] = O at k1 k3 ⊢
  simp [f_format_lane, m_format_lane, strM1, k1, k3, hj, fnF, sSeq, sIf, asTest, op1, op2, opN, opV, M.bnd, M.ret, M.opt, Arg.ev, rs, rss, Slot.rd, evs, sV, sAsg, sNx, var, gN, gTu, gCo, gNi, so_no, so_val, so_own, so_dic, so_inst, so_ex, sh_no, sh_val, sh_own, sh_dic, sh_inst, sh_ex, sa_no, sa_val, sa_own, sa_dic, sa_inst, sa_ex, vAnd, vOr, vNot, vIf, bAnd, bOr, bNot, chain, chC, chL, callF, callV_1, callV_2, callV_3, callV_4, sz1, sz2, sz3, sz4, sz5, sz6, sz7, sz8, sz9, sz10, sz11, sz12, dvs, D.cmpI, D.toI, D.mod, D.fdiv, add_ii, D.sub, D.mul, D.pow, D.neg, D.len, D.mkL, D.mkT, D.isN, D.notN, isiB, isi2, D.is, D.tn, sPut, callV_o1g]
end DL
namespace DL
open PySem L2
def LO (vs : List Vis) : D := .obj "Lane" ["visits"] [.tup (vs.map VD)]
def LT (vs : List Vis) : Str := ended (vs.map line)
def LR (vs : List Vis) : D := .lst ((vs.map line).map .str)
theorem lines_free {vs : List Vis} (h : VisesOk vs) : ∀ r ∈ vs.map line, 10 ∉ cl r ∧ r.length ≤ 1000 := fun r hr => by
  obtain ⟨v, hv, rfl⟩ := List.mem_map.mp hr
  exact ⟨line_free (h.all v hv), by have := line_len (h.all v hv); omega⟩
theorem LT_len {vs : List Vis} (h : VisesOk vs) : (LT vs).length ≤ 51000 := ended_small (fun r hr => (lines_free h r hr).2) (by have := h.len; simp; omega)
theorem parse_LT {vs : List Vis} (h : VisesOk vs) : f_parse_lane [.val (.str (LT vs))] = .ok (LO vs) [.val (.str (LT vs))] :=
  parse_ok h (by have := LT_len h; omega) (ended_split fun r hr => (lines_free h r hr).1)
theorem vises_nil : VisesOk [] := ⟨fun _ h => absurd h (by simp), by simp, by simp⟩
theorem parse_no {φ : Fn} {a : List Slot} {d : D} {os : List Slot} (h : φ a = .ok d os) : noExc φ a = .ok d os := by
  unfold noExc
  rw [h]
theorem eqb_VD (v : Vis) : D.eqb (VD v) (VD v) = true := by
  show D.eqbs _ _ = true
  simp [D.eqbs, D.eqb]
theorem tup_eq {vs : List Vis} (h : VisesOk vs) : D.eq (.tup (vs.map VD)) (.tup (vs.map VD)) = some (.bl true) := by
  have hs : shd 64 (.tup (vs.map VD)) = true := by
    show (vs.map VD).all (shd 63) = true
    refine shd_map fun v hv => ?_
    show ([.str v.name, .int v.m, .int v.l, .int v.w] : List D).all (shd 62) = true
    have := name_lay (h.all v hv).name
    simp [shd]
    exact this
  rw [eq_sh hs hs]
  have : D.eqb (.tup (vs.map VD)) (.tup (vs.map VD)) = true := by
    show D.eqbs _ _ = true
    refine eqbs_refl fun d hd => ?_
    obtain ⟨v, _, rfl⟩ := List.mem_map.mp hd
    exact eqb_VD v
  rw [this]
theorem lane_eq {vs : List Vis} (h : VisesOk vs) : f_Lane_uueq__ [.val (LO vs), .val (LO vs)] = .ok (.bl true) [.val (LO vs), .val (LO vs)] := by
  have e := tup_eq h
  unfold LO
  generalize D.tup (vs.map VD) = T at e ⊢
  simp [f_Lane_uueq__, m_Lane_uueq__, isiC, D.fld, List.lookup, e, fnF, sSeq, sIf, asTest, op1, op2, opN, opV, M.bnd, M.ret, M.opt, Arg.ev, rs, rss, Slot.rd, evs, sV, sAsg, sNx, var, gN, gTu, gCo, gNi, so_no, so_val, so_own, so_dic, so_inst, so_ex, sh_no, sh_val, sh_own, sh_dic, sh_inst, sh_ex, sa_no, sa_val, sa_own, sa_dic, sa_inst, sa_ex, vAnd, vOr, vNot, vIf, bAnd, bOr, bNot, chain, chC, chL, callF, callV_1, callV_2, callV_3, callV_4, sz1, sz2, sz3, sz4, sz5, sz6, sz7, sz8, sz9, sz10, sz11, sz12, dvs, D.cmpI, D.toI, D.mod, D.fdiv, add_ii, D.sub, D.mul, D.pow, D.neg, D.len, D.mkL, D.mkT, D.isN, D.notN, isiB, isi2, D.is, D.tn, sPut, callV_o1g]
theorem lane_ne {vs : List Vis} (h : VisesOk vs) : cmpO "Lane" f_Lane_uueq__ true (LO vs) (LO vs) = some (.bl false) := by
  have e := lane_eq h
  unfold LO at e ⊢
  show (if ("Lane" : Str) = "Lane" then _ else none) = _
  rw [if_pos rfl, e]
  show (if ("Lane" : Str) = "Lane" then _ else none) = _
  rw [if_pos rfl]
  rfl
theorem make_LO {vs : List Vis} {ρ : Ev} (h : VisesOk vs) : makeV "Lane" f_Lane_uuinit__ [.lst (vs.map VD)] ρ = .ok (LO vs) ρ := make_yes (makes_vis h)
theorem row_c {v : Vis} {s0 s1 s2 s3 s4 s5 s6 s7 s8 s9 : Slot} (h : VisOk v) : c2_law [s0, s1, s2, s3, s4, s5, s6, s7, s8, s9, .val (VD v)] = .ok (.str (line v)) [s0, s1, s2, s3, s4, s5, s6, s7, s8, s9, .val (VD v)] := by
  have i0 : D.ix (VD v) (.int 0) = some (.str v.name) := by simp [VD, D.ix, L2.atI, ixN]
  have i1 : D.ix (VD v) (.int 1) = some (.int v.m) := by simp [VD, D.ix, L2.atI, ixN]
  have i2 : D.ix (VD v) (.int 2) = some (.int v.l) := by simp [VD, D.ix, L2.atI, ixN]
  have i3 : D.ix (VD v) (.int 3) = some (.int v.w) := by simp [VD, D.ix, L2.atI, ixN]
  have n1 := strI_num (n := v.m) (by have := h.m; omega)
  have n2 := strI_num (n := v.l) (by have := h.l; omega)
  have n3 := strI_num (n := v.w) (by have := h.w2; omega)
  have hj : D.join " " (.lst [.str "visit", .str v.name, .str (numS v.m), .str (numS v.l), .str (numS v.w)]) = some (.str (line v)) := by
    refine join_D (l := wordsOf v) ?_
    have h1 := sum_len (l := wordsOf v) (k := 20) fun p hp => ((ws_line h).all p hp).2
    have h2 : (wordsOf v).length = 5 := rfl
    have h3 : (" " : Str).length = 1 := rfl
    rw [h2, h3]
    rw [h2] at h1
    omega
  generalize VD v = V at *
  simp [c2_law, strM1, i0, i1, i2, i3, n1, n2, n3, hj, fnF, sSeq, sIf, asTest, op1, op2, opN, opV, M.bnd, M.ret, M.opt, Arg.ev, rs, rss, Slot.rd, evs, sV, sAsg, sNx, var, gN, gTu, gCo, gNi, so_no, so_val, so_own, so_dic, so_inst, so_ex, sh_no, sh_val, sh_own, sh_dic, sh_inst, sh_ex, sa_no, sa_val, sa_own, sa_dic, sa_inst, sa_ex, vAnd, vOr, vNot, vIf, bAnd, bOr, bNot, chain, chC, chL, callF, callV_1, callV_2, callV_3, callV_4, sz1, sz2, sz3, sz4, sz5, sz6, sz7, sz8, sz9, sz10, sz11, sz12, dvs, D.cmpI, D.toI, D.mod, D.fdiv, add_ii, D.sub, D.mul, D.pow, D.neg, D.len, D.mkL, D.mkT, D.isN, D.notN, isiB, isi2, D.is, D.tn, sPut, callV_o1g]
theorem rows_k {vs : List Vis} {s0 s1 s4 s5 s6 s7 s8 s9 : Slot} (h : ∀ v ∈ vs, VisOk v) : k3_law [s0, s1, .val (.lst (vs.map VD)), .no, s4, s5, s6, s7, s8, s9, .no] = .ok (LR vs) [s0, s1, .val (.lst (vs.map VD)), .no, s4, s5, s6, s7, s8, s9, .no] := by
  have e := comp_pure (vs := [10]) (src := seqM (var 2)) (t := gN 10) (tt := noTest) (te := c2_law) (ρ := [s0, s1, .val (.lst (vs.map VD)), .no, s4, s5, s6, s7, s8, s9, .no]) (ρ0 := [s0, s1, .val (.lst (vs.map VD)), .no, s4, s5, s6, s7, s8, s9, .no])
    (ds := vs.map VD) (fun _ => true) (fun d => match d with | .tup [.str a, .int b, .int c, .int e] => .str (line ⟨a, b.toNat, c.toNat, e.toNat⟩) | _ => .non) (by simp [fnF, sSeq, sIf, asTest, op1, op2, opN, opV, M.bnd, M.ret, M.opt, Arg.ev, rs, rss, Slot.rd, Slot.arg, Slot.has, evs, sV, sAsg, sNx, var, gN, gTu, gCo, gNi, Slot.isOwn, vAnd, vOr, vNot, vIf, bAnd, bOr, bNot, chain, chC, chL, callF, callV_1, callV_2, callV_3, callV_4, sz1, sz2, sz3, sz4, sz5, sz6, sz7, sz8, sz9, sz10, sz11, sz12, dvs, D.ix, L2.atI, ixN, D.cmpI, D.toI, D.mod, D.fdiv, D.add, D.sub, D.mul, D.pow, D.neg, D.len, D.mkL, D.mkT, D.isN, D.notN, isiB, isi2, D.is, D.tn, D.eq, D.ne, D.sc, D.eqb, sPut, sFor, forL, seqM, srcN, D.rng1, D.rng2, D.enum]) (by simp [ownAt, Slot.isOwn]) fun x hx => ?_
  · rw [filter_true, List.map_map] at e
    unfold LR
    rw [List.map_map]
    exact e
  · obtain ⟨v, hv, rfl⟩ := List.mem_map.mp hx
    exact ⟨[s0, s1, .val (.lst (vs.map VD)), .no, s4, s5, s6, s7, s8, s9, .val (VD v)], by simp [wipeE, fnF, sSeq, sIf, asTest, op1, op2, opN, opV, M.bnd, M.ret, M.opt, Arg.ev, rs, rss, Slot.rd, Slot.arg, Slot.has, evs, sV, sAsg, sNx, var, gN, gTu, gCo, gNi, Slot.isOwn, vAnd, vOr, vNot, vIf, bAnd, bOr, bNot, chain, chC, chL, callF, callV_1, callV_2, callV_3, callV_4, sz1, sz2, sz3, sz4, sz5, sz6, sz7, sz8, sz9, sz10, sz11, sz12, dvs, D.ix, L2.atI, ixN, D.cmpI, D.toI, D.mod, D.fdiv, D.add, D.sub, D.mul, D.pow, D.neg, D.len, D.mkL, D.mkT, D.isN, D.notN, isiB, isi2, D.is, D.tn, D.eq, D.ne, D.sc, D.eqb, sPut, sFor, forL, seqM, srcN, D.rng1, D.rng2, D.enum], rfl, fun _ => row_c (h v hv), by simp [ownAt, Slot.isOwn], by simp [wipeE]⟩
abbrev St5 (S : D) (d : List D) (vs : List Vis) : Ev := [.val S, .own d, .val (.lst (vs.map VD)), .val (LR vs), .val (.str (LT vs)), .no, .no, .no, .no, .no, .no]
theorem x0_ok {ns : List Int} : x0_law [.val (.scr (ns.map D.int)), .no, .no, .no, .no, .no, .no, .no, .no, .no, .no] = .nx [.val (.scr (ns.map D.int)), .own (Row ns 0 67 0), .no, .no, .no, .no, .no, .no, .no, .no, .no] := by
  simp [x0_law, sOwn, Row, fnF, sSeq, sIf, asTest, op1, op2, opN, opV, M.bnd, M.ret, M.opt, Arg.ev, rs, rss, Slot.rd, evs, sV, sAsg, sNx, var, gN, gTu, gCo, gNi, so_no, so_val, so_own, so_dic, so_inst, so_ex, sh_no, sh_val, sh_own, sh_dic, sh_inst, sh_ex, sa_no, sa_val, sa_own, sa_dic, sa_inst, sa_ex, vAnd, vOr, vNot, vIf, bAnd, bOr, bNot, chain, chC, chL, callF, callV_1, callV_2, callV_3, callV_4, sz1, sz2, sz3, sz4, sz5, sz6, sz7, sz8, sz9, sz10, sz11, sz12, dvs, D.cmpI, D.toI, D.mod, D.fdiv, add_ii, D.sub, D.mul, D.pow, D.neg, D.len, D.mkL, D.mkT, D.isN, D.notN, isiB, isi2, D.is, D.tn, sPut, callV_o1g]
theorem x1_ok {S : D} {d d' : List D} {vs : List Vis} (e : f_ulaw_visits [.own d, .val (.int 6), .val (.int 2001), .val (.int 400), .val (.int 400)] = .ok (.lst (vs.map VD)) [.own d', .val (.int 6), .val (.int 2001), .val (.int 400), .val (.int 400)]) :
    x1_law [.val S, .own d, .no, .no, .no, .no, .no, .no, .no, .no, .no] = .nx [.val S, .own d', .val (.lst (vs.map VD)), .no, .no, .no, .no, .no, .no, .no, .no] := by
  generalize vs.map VD = VV at e ⊢
  simp [x1_law, callV, slotsOf, ownIx, upsOf, updE, e, fnF, sSeq, sIf, asTest, op1, op2, opN, opV, M.bnd, M.ret, M.opt, Arg.ev, rs, rss, Slot.rd, evs, sV, sAsg, sNx, var, gN, gTu, gCo, gNi, so_no, so_val, so_own, so_dic, so_inst, so_ex, sh_no, sh_val, sh_own, sh_dic, sh_inst, sh_ex, sa_no, sa_val, sa_own, sa_dic, sa_inst, sa_ex, vAnd, vOr, vNot, vIf, bAnd, bOr, bNot, chain, chC, chL, callF, callV_1, callV_2, callV_3, callV_4, sz1, sz2, sz3, sz4, sz5, sz6, sz7, sz8, sz9, sz10, sz11, sz12, dvs, D.cmpI, D.toI, D.mod, D.fdiv, add_ii, D.sub, D.mul, D.pow, D.neg, D.len, D.mkL, D.mkT, D.isN, D.notN, isiB, isi2, D.is, D.tn, sPut, callV_o1g]
theorem x4_ok {S : D} {d : List D} {vs : List Vis} (h : VisesOk vs) : x4_law [.val S, .own d, .val (.lst (vs.map VD)), .no, .no, .no, .no, .no, .no, .no, .no] = .nx [.val S, .own d, .val (.lst (vs.map VD)), .val (LR vs), .no, .no, .no, .no, .no, .no, .no] := by
  have k := rows_k (s0 := .val S) (s1 := .own d) (s4 := .no) (s5 := .no) (s6 := .no) (s7 := .no) (s8 := .no) (s9 := .no) h.all
  generalize LR vs = R at k ⊢
  generalize vs.map VD = VV at k ⊢
  simp [x4_law, k, fnF, sSeq, sIf, asTest, op1, op2, opN, opV, M.bnd, M.ret, M.opt, Arg.ev, rs, rss, Slot.rd, evs, sV, sAsg, sNx, var, gN, gTu, gCo, gNi, so_no, so_val, so_own, so_dic, so_inst, so_ex, sh_no, sh_val, sh_own, sh_dic, sh_inst, sh_ex, sa_no, sa_val, sa_own, sa_dic, sa_inst, sa_ex, vAnd, vOr, vNot, vIf, bAnd, bOr, bNot, chain, chC, chL, callF, callV_1, callV_2, callV_3, callV_4, sz1, sz2, sz3, sz4, sz5, sz6, sz7, sz8, sz9, sz10, sz11, sz12, dvs, D.cmpI, D.toI, D.mod, D.fdiv, add_ii, D.sub, D.mul, D.pow, D.neg, D.len, D.mkL, D.mkT, D.isN, D.notN, isiB, isi2, D.is, D.tn, sPut, callV_o1g]
theorem x5_ok {S : D} {d : List D} {vs : List Vis} (h : VisesOk vs) : x5_law [.val S, .own d, .val (.lst (vs.map VD)), .val (LR vs), .no, .no, .no, .no, .no, .no, .no] = .nx (St5 S d vs) := by
  have k : f_ulaw_ended [.val (LR vs)] = .ok (.str (LT vs)) [.val (LR vs)] := ended_ok (rows := vs.map line) (fun r hr => (lines_free h r hr).2) (by have := h.len; simp; omega)
  show _ = SOut.nx [_, _, _, _, _, _, _, _, _, _, _]
  generalize LR vs = R at k ⊢
  generalize LT vs = T at k ⊢
  generalize vs.map VD = VV at k ⊢
  simp [x5_law, k, fnF, sSeq, sIf, asTest, op1, op2, opN, opV, M.bnd, M.ret, M.opt, Arg.ev, rs, rss, Slot.rd, evs, sV, sAsg, sNx, var, gN, gTu, gCo, gNi, so_no, so_val, so_own, so_dic, so_inst, so_ex, sh_no, sh_val, sh_own, sh_dic, sh_inst, sh_ex, sa_no, sa_val, sa_own, sa_dic, sa_inst, sa_ex, vAnd, vOr, vNot, vIf, bAnd, bOr, bNot, chain, chC, chL, callF, callV_1, callV_2, callV_3, callV_4, sz1, sz2, sz3, sz4, sz5, sz6, sz7, sz8, sz9, sz10, sz11, sz12, dvs, D.cmpI, D.toI, D.mod, D.fdiv, add_ii, D.sub, D.mul, D.pow, D.neg, D.len, D.mkL, D.mkT, D.isN, D.notN, isiB, isi2, D.is, D.tn, sPut, callV_o1g]
theorem x6_ok {S : D} {d : List D} {vs : List Vis} (h : VisesOk vs) : x6_law (St5 S d vs) = .nx (St5 S d vs) := by
  have m1 := fun ρ => make_LO (ρ := ρ) h
  have m2 := fun ρ => make_LO (vs := []) (ρ := ρ) vises_nil
  have f1 : f_format_lane [.val (LO vs)] = .ok (.str (LT vs)) [.val (LO vs)] := format_ok h
  have p1 := parse_no (parse_LT h)
  have p2 : noExc f_parse_lane [.val (.str "")] = .ok (LO []) [.val (.str "")] := by
    have := parse_no (parse_LT vises_nil)
    have e : LT [] = "" := ended_nil
    rw [e] at this
    exact this
  have n1 : D.ne (.str (LT vs)) (.str (LT vs)) = some (.bl false) := by rw [ne_str]; simp
  have c1 := lane_ne h
  have c2 := lane_ne vises_nil
  show x6_law [_, _, _, _, _, _, _, _, _, _, _] = SOut.nx [_, _, _, _, _, _, _, _, _, _, _]
  have z : ([] : List Vis).map VD = [] := rfl
  rw [z] at m2
  generalize LO vs = O at *
  generalize LO [] = O2 at *
  generalize LT vs = T at *
  generalize LR vs = R at *
  generalize vs.map VD = VV at *
  simp [x6_law, makeF, m1, m2, f1, p1, p2, n1, c1, c2, fnF, sSeq, sIf, asTest, op1, op2, opN, opV, M.bnd, M.ret, M.opt, Arg.ev, rs, rss, Slot.rd, evs, sV, sAsg, sNx, var, gN, gTu, gCo, gNi, so_no, so_val, so_own, so_dic, so_inst, so_ex, sh_no, sh_val, sh_own, sh_dic, sh_inst, sh_ex, sa_no, sa_val, sa_own, sa_dic, sa_inst, sa_ex, vAnd, vOr, vNot, vIf, bAnd, bOr, bNot, chain, chC, chL, callF, callV_1, callV_2, callV_3, callV_4, sz1, sz2, sz3, sz4, sz5, sz6, sz7, sz8, sz9, sz10, sz11, sz12, dvs, D.ix, L2.atI, ixN, D.cmpI, D.toI, D.mod, D.fdiv, add_ii, D.sub, D.mul, D.pow, D.neg, D.len, D.mkL, D.mkT, D.isN, D.notN, isiB, isi2, D.is, D.tn, D.eq, D.ne, D.sc, D.eqb, sPut, callV_o1g]
end DL
namespace DL
open PySem L2
theorem ne_int (a : Int) : D.ne (.int a) (.int a) = some (.bl false) := by
  unfold D.ne
  simp [D.sc, D.eqb]
theorem LR_len (vs : List Vis) : D.len [LR vs] = some (.int (vs.length : Int)) := by
  show some (D.int (((vs.map line).map D.str).length : Int)) = _
  simp
theorem ref_x {vs : List Vis} (h : VisesOk vs) : f_ulaw_refused [.val (.str (LT vs ++ "x"))] = .ok (.int ((vs.length : Int) + 1)) [.val (.str (LT vs ++ "x"))] := by
  have hl := LT_len h
  have h1 : ("x" : Str).length = 1 := rfl
  refine refused_ok (parse_last (r := "x") h (by rw [Str.length_append]; omega) ?_ (by decide))
  exact split_ended (fun r hr => (lines_free h r hr).1) (by decide)
theorem bad_empty {vs : List Vis} (h : VisesOk vs) : BadRow vs "" := by
  have e : ("" : Str) = Txt.join " " [("" : Str)] := by rw [txt_join, join_one]
  have w : WsOk [("" : Str)] := ws_of (by simp) (by simp) fun p hp => by
    simp at hp
    subst hp
    exact pc_empty
  have := (bad_row h w (found_head w (by decide))).1
  rw [← e] at this
  exact this
theorem ended_nl (vs : List Vis) : ended (vs.map line ++ [("" : Str)]) = LT vs ++ "\n" := by
  rw [ended_app, ended_one, empty_eq, Str.empty_append]
  rfl
theorem ref_nl {vs : List Vis} (h : VisesOk vs) : f_ulaw_refused [.val (.str (LT vs ++ "\n"))] = .ok (.int ((vs.length : Int) + 1)) [.val (.str (LT vs ++ "\n"))] := by
  have e := refused_row (x := "") (rest := []) h (bad_empty h) (by rw [empty_eq, cl_empty]; simp) (fun r hr => absurd hr (by simp)) (by simp)
  rw [ended_nl] at e
  exact e
theorem ref_one : f_ulaw_refused [.val (.str "\n")] = .ok (.int 1) [.val (.str "\n")] := by
  have e := ref_nl vises_nil
  have e2 : LT [] ++ "\n" = ("\n" : Str) := by
    rw [show LT [] = "" from ended_nil, empty_eq, Str.empty_append]
  rw [e2] at e
  exact e
theorem x7_ok {S : D} {d : List D} {vs : List Vis} (h : VisesOk vs) : x7_law (St5 S d vs) = .nx (St5 S d vs) := by
  have hl := LT_len h
  have l1 : ("x" : Str).length = 1 := rfl
  have l2 : ("\n" : Str).length = 1 := rfl
  have a1 := add_SS (a := LT vs) (b := "x") (by omega)
  have a2 := add_SS (a := LT vs) (b := "\n") (by omega)
  have r1 := ref_x h
  have r2 := ref_nl h
  have r3 := ref_one
  have n1 := ne_int ((vs.length : Int) + 1)
  have n2 := ne_int 1
  have ll := LR_len vs
  show x7_law [_, _, _, _, _, _, _, _, _, _, _] = SOut.nx [_, _, _, _, _, _, _, _, _, _, _]
  generalize LT vs ++ "x" = T1 at *
  generalize LT vs ++ "\n" = T2 at *
  generalize LT vs = T at *
  generalize LR vs = R at *
  generalize vs.map VD = VV at *
  have ai : D.add (.int (vs.length : Int)) (.int 1) = some (.int ((vs.length : Int) + 1)) := rfl
  generalize (vs.length : Int) + 1 = k at *
  generalize (vs.length : Int) = n at *
  have f0 : ∀ ρ, callV f_ulaw_feed [] ρ = .ok (.str "\n") ρ := fun ρ => by simp [callV, slotsOf, ownIx, upsOf, updE, feed_ok]
  simp [x7_law, f0, a1, a2, r1, r2, r3, n1, n2, ll, ai, fnF, sSeq, sIf, asTest, op1, op2, opN, opV, M.bnd, M.ret, M.opt, Arg.ev, rs, rss, Slot.rd, evs, sV, sAsg, sNx, var, gN, gTu, gCo, gNi, so_no, so_val, so_own, so_dic, so_inst, so_ex, sh_no, sh_val, sh_own, sh_dic, sh_inst, sh_ex, sa_no, sa_val, sa_own, sa_dic, sa_inst, sa_ex, vAnd, vOr, vNot, vIf, bAnd, bOr, bNot, chain, chC, chL, callF, callV_1, callV_2, callV_3, callV_4, sz1, sz2, sz3, sz4, sz5, sz6, sz7, sz8, sz9, sz10, sz11, sz12, dvs, D.cmpI, D.toI, D.mod, D.fdiv, add_ii, D.sub, D.mul, D.pow, D.neg, D.mkL, D.mkT, D.isN, D.notN, isiB, isi2, D.is, D.tn, sPut, callV_o1g]
theorem LR_eq {vs : List Vis} (h : VisesOk vs) : D.eq (LR vs) (.lst []) = some (.bl (decide (vs = []))) := by
  have hs : shd 64 (LR vs) = true := by
    show ((vs.map line).map D.str).all (shd 63) = true
    refine shd_map fun r hr => ?_
    obtain ⟨v, hv, rfl⟩ := List.mem_map.mp hr
    show (line v).cps.all (· < 0x110000) = true
    rw [← Array.all_toList, List.all_eq_true]
    intro c hc
    have := line_signs (h.all v hv) c hc
    simp
    omega
  rw [eq_sh hs (by rfl)]
  cases vs with
  | nil => rfl
  | cons v vs => rfl
theorem x8_nil {S : D} {d : List D} : x8_law (St5 S d []) = .rt (.bl true) (St5 S d []) := by
  have e := LR_eq vises_nil
  show x8_law [_, _, _, _, _, _, _, _, _, _, _] = SOut.rt _ [_, _, _, _, _, _, _, _, _, _, _]
  generalize LT [] = T at *
  generalize LR [] = R at *
  simp [x8_law, e, fnF, sSeq, sIf, asTest, op1, op2, opN, opV, M.bnd, M.ret, M.opt, Arg.ev, rs, rss, Slot.rd, evs, sV, sAsg, sNx, var, gN, gTu, gCo, gNi, so_no, so_val, so_own, so_dic, so_inst, so_ex, sh_no, sh_val, sh_own, sh_dic, sh_inst, sh_ex, sa_no, sa_val, sa_own, sa_dic, sa_inst, sa_ex, vAnd, vOr, vNot, vIf, bAnd, bOr, bNot, chain, chC, chL, callF, callV_1, callV_2, callV_3, callV_4, sz1, sz2, sz3, sz4, sz5, sz6, sz7, sz8, sz9, sz10, sz11, sz12, dvs, D.cmpI, D.toI, D.mod, D.fdiv, add_ii, D.sub, D.mul, D.pow, D.neg, D.len, D.mkL, D.mkT, D.isN, D.notN, isiB, isi2, D.is, D.tn, sPut, callV_o1g]
theorem x8_cons {S : D} {d : List D} {vs : List Vis} (h : VisesOk vs) (hn : vs ≠ []) : x8_law (St5 S d vs) = .nx (St5 S d vs) := by
  have e := LR_eq h
  have hd : decide (vs = []) = false := by simpa using hn
  rw [hd] at e
  show x8_law [_, _, _, _, _, _, _, _, _, _, _] = SOut.nx [_, _, _, _, _, _, _, _, _, _, _]
  generalize LT vs = T at *
  generalize LR vs = R at *
  generalize vs.map VD = VV at *
  simp [x8_law, e, fnF, sSeq, sIf, asTest, op1, op2, opN, opV, M.bnd, M.ret, M.opt, Arg.ev, rs, rss, Slot.rd, evs, sV, sAsg, sNx, var, gN, gTu, gCo, gNi, so_no, so_val, so_own, so_dic, so_inst, so_ex, sh_no, sh_val, sh_own, sh_dic, sh_inst, sh_ex, sa_no, sa_val, sa_own, sa_dic, sa_inst, sa_ex, vAnd, vOr, vNot, vIf, bAnd, bOr, bNot, chain, chC, chL, callF, callV_1, callV_2, callV_3, callV_4, sz1, sz2, sz3, sz4, sz5, sz6, sz7, sz8, sz9, sz10, sz11, sz12, dvs, D.cmpI, D.toI, D.mod, D.fdiv, add_ii, D.sub, D.mul, D.pow, D.neg, D.len, D.mkL, D.mkT, D.isN, D.notN, isiB, isi2, D.is, D.tn, sPut, callV_o1g]
/-- a row is chosen -/
theorem x9_ok {S : D} {d : List D} {vs : List Vis} (hd : RowOk d) (h : VisesOk vs) (hn : vs ≠ []) : ∃ k d', k < vs.length ∧ x9_law (St5 S d vs) = .nx [.val S, .own d', .val (.lst (vs.map VD)), .val (LR vs), .val (.str (LT vs)), .val (.int (k : Int)), .no, .no, .no, .no, .no] := by
  have hp : 0 < vs.length := List.length_pos_iff.mpr hn
  have hl := h.len
  have g0 : (0 : Int) < (vs.length : Int) := by omega
  have g1 : (vs.length : Int) < 1073741824 := by omega
  have e := tk_eq hd g0 g1
  have lo := tkV_lo hd g0 g1
  have hi := tkV_hi hd g0 g1
  have ll := LR_len vs
  generalize tkV d (vs.length : Int) = r at *
  generalize tkN d (vs.length : Int) = d' at *
  obtain ⟨k, rfl⟩ := Int.eq_ofNat_of_zero_le lo
  refine ⟨k, d', by omega, ?_⟩
  show x9_law [_, _, _, _, _, _, _, _, _, _, _] = SOut.nx [_, _, _, _, _, _, _, _, _, _, _]
  generalize LT vs = T at *
  generalize LR vs = R at *
  generalize vs.map VD = VV at *
  clear lo hi g0 g1 hl hp
  generalize (vs.length : Int) = n at *
  generalize ((k : Nat) : Int) = kk at *
  simp [x9_law, e, ll, fnF, sSeq, sIf, asTest, op1, op2, opN, opV, M.bnd, M.ret, M.opt, Arg.ev, rs, rss, Slot.rd, evs, sV, sAsg, sNx, var, gN, gTu, gCo, gNi, so_no, so_val, so_own, so_dic, so_inst, so_ex, sh_no, sh_val, sh_own, sh_dic, sh_inst, sh_ex, sa_no, sa_val, sa_own, sa_dic, sa_inst, sa_ex, vAnd, vOr, vNot, vIf, bAnd, bOr, bNot, chain, chC, chL, callF, callV_1, callV_2, callV_3, callV_4, sz1, sz2, sz3, sz4, sz5, sz6, sz7, sz8, sz9, sz10, sz11, sz12, dvs, D.cmpI, D.toI, D.mod, D.fdiv, add_ii, D.sub, D.mul, D.pow, D.neg, D.mkL, D.mkT, D.isN, D.notN, isiB, isi2, D.is, D.tn, sPut, callV_o1g]
/-- the row and its words -/
abbrev St10 (S : D) (d : List D) (vs : List Vis) (k : Nat) (v : Vis) (s6 s7 : Slot) : Ev := [.val S, .own d, .val (.lst (vs.map VD)), .val (LR vs), .val (.str (LT vs)), .val (.int (k : Int)), s6, s7, .val (.str (line v)), .val (.lst ((wordsOf v).map .str)), .no]
theorem LR_ix {vs : List Vis} {k : Nat} {v : Vis} (hk : vs[k]? = some v) : D.ix (LR vs) (.int (k : Int)) = some (.str (line v)) := by
  have hl := (List.getElem?_eq_some_iff.mp hk).1
  have hz : ixN ((vs.map line).map D.str).length (k : Int) = some k := by simp [ixN, hl]
  show L2.atI ((vs.map line).map D.str) (k : Int) = _
  unfold L2.atI
  rw [hz]
  show ((vs.map line).map D.str)[k]? = _
  rw [List.getElem?_map, List.getElem?_map, hk]
  rfl
theorem x10_ok {S : D} {d : List D} {vs : List Vis} {k : Nat} {v : Vis} (h : VisOk v) (hk : vs[k]? = some v) : x10_law [.val S, .own d, .val (.lst (vs.map VD)), .val (LR vs), .val (.str (LT vs)), .val (.int (k : Int)), .no, .no, .no, .no, .no] = .nx (St10 S d vs k v .no .no) := by
  have i0 := LR_ix hk
  have e2 := split_D (r := line v) (by have := line_len h; omega)
  rw [line_split h] at e2
  show _ = SOut.nx [_, _, _, _, _, _, _, _, _, _, _]
  generalize LT vs = T at *
  generalize LR vs = R at *
  generalize vs.map VD = VV at *
  generalize line v = W at *
  generalize (wordsOf v).map D.str = WW at *
  generalize ((k : Nat) : Int) = kk at *
  simp [x10_law, sPar, strM1, i0, e2, fnF, sSeq, sIf, asTest, op1, op2, opN, opV, M.bnd, M.ret, M.opt, Arg.ev, rs, rss, Slot.rd, evs, sV, sAsg, sNx, var, gN, gTu, gCo, gNi, so_no, so_val, so_own, so_dic, so_inst, so_ex, sh_no, sh_val, sh_own, sh_dic, sh_inst, sh_ex, sa_no, sa_val, sa_own, sa_dic, sa_inst, sa_ex, vAnd, vOr, vNot, vIf, bAnd, bOr, bNot, chain, chC, chL, callF, callV_1, callV_2, callV_3, callV_4, sz1, sz2, sz3, sz4, sz5, sz6, sz7, sz8, sz9, sz10, sz11, sz12, dvs, D.cmpI, D.toI, D.mod, D.fdiv, add_ii, D.sub, D.mul, D.pow, D.neg, D.len, D.mkL, D.mkT, D.isN, D.notN, isiB, isi2, D.is, D.tn, sPut, callV_o1g]
end DL
namespace DL
open PySem L2
theorem cut_drop {α : Type} (l : List α) (n : Nat) : cutG l (some (n : Int)) none = l.drop n := by
  unfold cutG
  rw [HT.sIx_none, HT.sIx_nat]
  by_cases h : n ≤ l.length
  · rw [Nat.min_eq_left h, List.take_of_length_le (by simp)]
  · rw [Nat.min_eq_right (by omega), List.drop_of_length_le (Nat.le_refl _), List.drop_of_length_le (by omega)]
    simp
theorem cutD_to (l : List D) (n : Nat) : D.cut none (some (n : Int)) (.lst l) = some (.lst (l.take n)) := by
  show some (D.lst (cutG l none (some (n : Int)))) = _
  rw [cut_take]
theorem cutD_from (l : List D) (n : Nat) : D.cut (some (n : Int)) none (.lst l) = some (.lst (l.drop n)) := by
  show some (D.lst (cutG l (some (n : Int)) none)) = _
  rw [cut_drop]
theorem add_ll {a b : List D} (h : a.length + b.length ≤ 1000000) : D.add (.lst a) (.lst b) = some (.lst (a ++ b)) := by
  show (if _ then _ else none) = _
  rw [if_pos (by rw [sizeLine_eq]; omega)]
theorem cut5_init (a b c d e : D) : D.cut none (some (-1)) (.lst [a, b, c, d, e]) = some (.lst [a, b, c, d]) := rfl
theorem cut5_tail (a b c d e : D) : D.cut (some 1) none (.lst [a, b, c, d, e]) = some (.lst [b, c, d, e]) := rfl
theorem cut5_2 (a b c d e : D) : D.cut none (some 2) (.lst [a, b, c, d, e]) = some (.lst [a, b]) := rfl
theorem cut5_3 (a b c d e : D) : D.cut none (some 3) (.lst [a, b, c, d, e]) = some (.lst [a, b, c]) := rfl
theorem cut5_1 (a b c d e : D) : D.cut none (some 1) (.lst [a, b, c, d, e]) = some (.lst [a]) := rfl
theorem cut5_f3 (a b c d e : D) : D.cut (some 3) none (.lst [a, b, c, d, e]) = some (.lst [d, e]) := rfl
theorem cut5_f4 (a b c d e : D) : D.cut (some 4) none (.lst [a, b, c, d, e]) = some (.lst [e]) := rfl
theorem cut5_f2 (a b c d e : D) : D.cut (some 2) none (.lst [a, b, c, d, e]) = some (.lst [c, d, e]) := rfl
theorem join_ws {ws : List Str} (h : WsOk ws) : D.join " " (.lst (ws.map .str)) = some (.str (Txt.join " " ws)) := by
  refine join_D ?_
  have h1 := sum_len (l := ws) (k := 20) fun p hp => (h.all p hp).2
  have h2 := h.n
  have h3 : (" " : Str).length = 1 := rfl
  rw [h3]
  omega
section
variable {v : Vis}
theorem x11_ok {S : D} {d : List D} {vs : List Vis} {k : Nat} (h : VisOk v) : x11_law (St10 S d vs k v .no .no) = .nx (St10 S d vs k v (.own ((badsA v).map .str)) .no) := by
  have hl := line_len h
  have hn := (name_len h.name).2
  have l1 : (" " : Str).length = 1 := rfl
  have l2 : (" 5" : Str).length = 2 := rfl
  have l3 : ("note " : Str).length = 5 := rfl
  have l4 : ("visits " : Str).length = 7 := rfl
  have w4 : WsOk [v.name, numS v.m, numS v.l, numS v.w] := ws_sub h (by simp) (by simp) fun p hp => .inl (by unfold wordsOf; simp at hp ⊢; exact .inr hp)
  have w5 : WsOk ["visit", v.name, numS v.m, numS v.l] := ws_sub h (by simp) (by simp) fun p hp => .inl (by unfold wordsOf; simp at hp ⊢; rcases hp with q | q | q | q <;> simp [q])
  have a1 := add_SS (a := line v) (b := " ") (by omega)
  have a2 := add_SS (a := " ") (b := line v) (by omega)
  have a3 : D.repl1 " " "  " (line v) = some (.str (replace1 (line v) " " "  ")) := by
    show (if _ then _ else none) = _
    have : ("  " : Str).length = 2 := rfl
    rw [if_pos (by rw [this]; omega)]
  have a4 : D.upper (line v) = some (.str (Txt.upper (line v))) := by
    show (if _ then _ else none) = _
    rw [if_pos (by omega)]
  have a5 := add_SS (a := "note ") (b := v.name) (by omega)
  have a6 := add_SS (a := line v) (b := " 5") (by omega)
  have j1 := join_ws w4
  have j2 := join_ws w5
  have a7 := add_SS (a := "visits ") (b := Txt.join " " [v.name, numS v.m, numS v.l, numS v.w]) (by have := row_len w4; omega)
  have c1 := cut5_tail (.str "visit") (.str v.name) (.str (numS v.m)) (.str (numS v.l)) (.str (numS v.w))
  have c2 := cut5_init (.str "visit") (.str v.name) (.str (numS v.m)) (.str (numS v.l)) (.str (numS v.w))
  have i0 : D.ix (.lst [.str "visit", .str v.name, .str (numS v.m), .str (numS v.l), .str (numS v.w)]) (.int 0) = some (.str "visit") := by simp [D.ix, L2.atI, ixN]
  have i1 : D.ix (.lst [.str "visit", .str v.name, .str (numS v.m), .str (numS v.l), .str (numS v.w)]) (.int 1) = some (.str v.name) := by simp [D.ix, L2.atI, ixN]
  show x11_law [_, _, _, _, _, _, _, _, _, _, _] = SOut.nx [_, _, _, _, _, _, .own [.str "", .str (line v ++ " "), .str (" " ++ line v), .str (replace1 (line v) " " "  "), .str "visit", .str (Txt.upper (line v)), .str ("note " ++ v.name), .str (line v ++ " 5"), .str ("visits " ++ Txt.join " " [v.name, numS v.m, numS v.l, numS v.w]), .str (Txt.join " " ["visit", v.name, numS v.m, numS v.l])], _, _, _, _]
  have hW : (wordsOf v).map D.str = [.str "visit", .str v.name, .str (numS v.m), .str (numS v.l), .str (numS v.w)] := rfl
  rw [hW]
  have m1 : ([v.name, numS v.m, numS v.l, numS v.w] : List Str).map D.str = [.str v.name, .str (numS v.m), .str (numS v.l), .str (numS v.w)] := rfl
  have m2 : (["visit", v.name, numS v.m, numS v.l] : List Str).map D.str = [.str "visit", .str v.name, .str (numS v.m), .str (numS v.l)] := rfl
  rw [m1] at j1
  rw [m2] at j2
  generalize [D.str "visit", .str v.name, .str (numS v.m), .str (numS v.l), .str (numS v.w)] = WW at *
  generalize [D.str v.name, .str (numS v.m), .str (numS v.l), .str (numS v.w)] = WT at *
  generalize [D.str "visit", .str v.name, .str (numS v.m), .str (numS v.l)] = WI at *
  generalize "visits " ++ Txt.join " " [v.name, numS v.m, numS v.l, numS v.w] = Z9 at *
  generalize Txt.join " " [v.name, numS v.m, numS v.l, numS v.w] = Z8 at *
  generalize Txt.join " " ["visit", v.name, numS v.m, numS v.l] = Z10 at *
  generalize replace1 (line v) " " "  " = Z4 at *
  generalize Txt.upper (line v) = Z6 at *
  generalize line v ++ " 5" = Z7 at *
  generalize line v ++ " " = Z2 at *
  generalize " " ++ line v = Z3 at *
  generalize "note " ++ v.name = Z5 at *
  generalize line v = W at *
  generalize LT vs = T at *
  generalize LR vs = R at *
  generalize vs.map VD = VV at *
  generalize ((k : Nat) : Int) = kk at *
  simp [x11_law, sOwn, strM1, strM0, slc, Pt.ev, a1, a2, a3, a4, a5, a6, a7, j1, j2, c1, c2, i0, i1, fnF, sSeq, sIf, asTest, op1, op2, opN, opV, M.bnd, M.ret, M.opt, Arg.ev, rs, rss, Slot.rd, evs, sV, sAsg, sNx, var, gN, gTu, gCo, gNi, so_no, so_val, so_own, so_dic, so_inst, so_ex, sh_no, sh_val, sh_own, sh_dic, sh_inst, sh_ex, sa_no, sa_val, sa_own, sa_dic, sa_inst, sa_ex, vAnd, vOr, vNot, vIf, bAnd, bOr, bNot, chain, chC, chL, callF, callV_1, callV_2, callV_3, callV_4, sz1, sz2, sz3, sz4, sz5, sz6, sz7, sz8, sz9, sz10, sz11, sz12, dvs, D.cmpI, D.toI, D.mod, D.fdiv, add_ii, D.sub, D.mul, D.pow, D.neg, D.len, D.mkL, D.mkT, D.isN, D.notN, isiB, isi2, D.is, D.tn, sPut, callV_o1g]
/-- one value more -/
theorem b12_ok {S : D} {d B : List D} {vs : List Vis} {k : Nat} {x : Str} (h : VisOk v) (hx : PcOk x) (hB : B.length ≤ 100) : b12_law (St10 S d vs k v (.own B) (.val (.str x))) = .nx (St10 S d vs k v (.own (B ++ [.str (Txt.join " " ["visit", v.name, numS v.m, numS v.l, x])])) (.val (.str x))) := by
  have w : WsOk ["visit", v.name, numS v.m, numS v.l, x] := ws_five (pc_name h.name) (pc_num (by have := h.m; omega)) (pc_num (by have := h.l; omega)) hx
  have j := join_ws w
  have c2 := cut5_init (.str "visit") (.str v.name) (.str (numS v.m)) (.str (numS v.l)) (.str (numS v.w))
  have a := add_ll (a := [.str "visit", .str v.name, .str (numS v.m), .str (numS v.l)]) (b := [.str x]) (by simp)
  have hW : (wordsOf v).map D.str = [.str "visit", .str v.name, .str (numS v.m), .str (numS v.l), .str (numS v.w)] := rfl
  have m1 : (["visit", v.name, numS v.m, numS v.l, x] : List Str).map D.str = [D.str "visit", .str v.name, .str (numS v.m), .str (numS v.l)] ++ [.str x] := rfl
  rw [m1] at j
  have hz : B.length < sizeLine := by rw [sizeLine_eq]; omega
  show b12_law [_, _, _, _, _, _, _, _, _, _, _] = SOut.nx [_, _, _, _, _, _, _, _, _, _, _]
  rw [hW]
  generalize [D.str "visit", .str v.name, .str (numS v.m), .str (numS v.l)] ++ [.str x] = WJ at *
  generalize [D.str "visit", .str v.name, .str (numS v.m), .str (numS v.l), .str (numS v.w)] = WW at *
  generalize [D.str "visit", .str v.name, .str (numS v.m), .str (numS v.l)] = WI at *
  generalize Txt.join " " ["visit", v.name, numS v.m, numS v.l, x] = Z at *
  generalize line v = W at *
  generalize LT vs = T at *
  generalize LR vs = R at *
  generalize vs.map VD = VV at *
  generalize ((k : Nat) : Int) = kk at *
  simp [b12_law, sApp, strM1, slc, Pt.ev, a, j, c2, hz, fnF, sSeq, sIf, asTest, op1, op2, opN, opV, M.bnd, M.ret, M.opt, Arg.ev, rs, rss, Slot.rd, evs, sV, sAsg, sNx, var, gN, gTu, gCo, gNi, so_no, so_val, so_own, so_dic, so_inst, so_ex, sh_no, sh_val, sh_own, sh_dic, sh_inst, sh_ex, sa_no, sa_val, sa_own, sa_dic, sa_inst, sa_ex, vAnd, vOr, vNot, vIf, bAnd, bOr, bNot, chain, chC, chL, callF, callV_1, callV_2, callV_3, callV_4, sz1, sz2, sz3, sz4, sz5, sz6, sz7, sz8, sz9, sz10, sz11, sz12, dvs, D.cmpI, D.toI, D.mod, D.fdiv, add_ii, D.sub, D.mul, D.pow, D.neg, D.len, D.mkL, D.mkT, D.isN, D.notN, isiB, isi2, D.is, D.tn, sPut, callV_o1g]
theorem l13_loop {S : D} {d : List D} {vs : List Vis} {k : Nat} (h : VisOk v) : ∀ {xs : List Str} {B : List D} {s7 : Slot}, (∀ x ∈ xs, PcOk x) → B.length + xs.length ≤ 100 → s7.isOwn = false →
    ∃ t7 : Slot, t7.isOwn = false ∧ forL (gN 7) b12_law (xs.map .str) (St10 S d vs k v (.own B) s7) = .nx (St10 S d vs k v (.own (B ++ (xs.map fun x => Txt.join " " ["visit", v.name, numS v.m, numS v.l, x]).map .str)) t7)
  | [], B, s7, _, _, h7 => ⟨s7, h7, by simp [forL]⟩
  | x :: xs, B, s7, hx, hB, h7 => by
    rw [List.length_cons] at hB
    obtain ⟨t7, g7, e⟩ := l13_loop (S := S) (d := d) (vs := vs) (k := k) h (xs := xs) (B := B ++ [.str (Txt.join " " ["visit", v.name, numS v.m, numS v.l, x])]) (s7 := .val (.str x)) (fun y hy => hx y (List.mem_cons_of_mem _ hy)) (by simp; omega) rfl
    refine ⟨t7, g7, ?_⟩
    have hb := b12_ok (S := S) (d := d) (B := B) (vs := vs) (k := k) h (hx x (by simp)) (by omega)
    refine (for_cons (ρ1 := St10 S d vs k v (.own B) (.val (.str x))) ?_ hb).trans ?_
    · simp [gN, h7]
    · rw [e, List.append_assoc]
      rfl
theorem l13_ok {S : D} {d : List D} {vs : List Vis} {k : Nat} (h : VisOk v) : ∃ t7 : Slot, t7.isOwn = false ∧ l13_law (St10 S d vs k v (.own ((badsA v).map .str)) .no) = .nx (St10 S d vs k v (.own ((badsA v ++ badsB v).map .str)) t7) := by
  obtain ⟨t7, g7, e⟩ := l13_loop (S := S) (d := d) (vs := vs) (k := k) h (xs := vals) (B := (badsA v).map .str) (s7 := .no) vals_pc (by simp [badsA, vals]) rfl
  refine ⟨t7, g7, ?_⟩
  have hs : seqM (opV D.mkL [.v (M.ret (.str "-5")), .v (M.ret (.str "05")), .v (M.ret (.str "0")), .v (M.ret (.str "401")), .v (M.ret (.str "x")), .v (M.ret (.str "999999999")), .v (M.ret (.str "1.0")), .v (M.ret (.str "+1"))]) (St10 S d vs k v (.own ((badsA v).map .str)) .no) = .ok (vals.map .str) (St10 S d vs k v (.own ((badsA v).map .str)) .no) := by
    generalize St10 S d vs k v (.own ((badsA v).map .str)) .no = ρ
    simp [seqM, opV, M.bnd, M.ret, evs, Arg.ev, dvs, D.mkL, sz8, vals]
  have e2 := (for_ok hs).trans e
  rw [List.map_append]
  exact e2
theorem x14_ok {S : D} {d : List D} {vs : List Vis} {k : Nat} {t7 : Slot} (h : VisOk v) : x14_law (St10 S d vs k v (.own ((badsA v ++ badsB v).map .str)) t7) = .nx (St10 S d vs k v (.val (.lst (((badsA v ++ badsB v) ++ badsC v).map .str))) t7) := by
  have pm : PcOk (numS v.m) := pc_num (by have := h.m; omega)
  have pl : PcOk (numS v.l) := pc_num (by have := h.l; omega)
  have pw : PcOk (numS v.w) := pc_num (by have := h.w2; omega)
  have pn := pc_name h.name
  have w1 : WsOk ["visit", v.name, "2001", numS v.l, numS v.w] := ws_five pn (pc_of (by decide)) pl pw
  have w2 : WsOk ["visit", v.name, numS v.m, "401", numS v.w] := ws_five pn pm (pc_of (by decide)) pw
  have w3 : WsOk ["visit", "A", numS v.m, numS v.l, numS v.w] := ws_five (pc_of (by decide)) pm pl pw
  have j1 := join_ws w1
  have j2 := join_ws w2
  have j3 := join_ws w3
  have c1 := cut5_2 (.str "visit") (.str v.name) (.str (numS v.m)) (.str (numS v.l)) (.str (numS v.w))
  have c2 := cut5_f3 (.str "visit") (.str v.name) (.str (numS v.m)) (.str (numS v.l)) (.str (numS v.w))
  have c3 := cut5_3 (.str "visit") (.str v.name) (.str (numS v.m)) (.str (numS v.l)) (.str (numS v.w))
  have c4 := cut5_f4 (.str "visit") (.str v.name) (.str (numS v.m)) (.str (numS v.l)) (.str (numS v.w))
  have c5 := cut5_1 (.str "visit") (.str v.name) (.str (numS v.m)) (.str (numS v.l)) (.str (numS v.w))
  have c6 := cut5_f2 (.str "visit") (.str v.name) (.str (numS v.m)) (.str (numS v.l)) (.str (numS v.w))
  have a1 := add_ll (a := [.str "visit", .str v.name]) (b := [.str "2001"]) (by simp)
  have a2 := add_ll (a := [.str "visit", .str v.name] ++ [.str "2001"]) (b := [.str (numS v.l), .str (numS v.w)]) (by simp)
  have a3 := add_ll (a := [.str "visit", .str v.name, .str (numS v.m)]) (b := [.str "401"]) (by simp)
  have a4 := add_ll (a := [.str "visit", .str v.name, .str (numS v.m)] ++ [.str "401"]) (b := [.str (numS v.w)]) (by simp)
  have a5 := add_ll (a := [.str "visit"]) (b := [.str "A"]) (by simp)
  have a6 := add_ll (a := [.str "visit"] ++ [.str "A"]) (b := [.str (numS v.m), .str (numS v.l), .str (numS v.w)]) (by simp)
  have aB := add_ll (a := (badsA v ++ badsB v).map .str) (b := (badsC v).map .str) (by simp [badsA, badsB, badsC, vals])
  have hW : (wordsOf v).map D.str = [.str "visit", .str v.name, .str (numS v.m), .str (numS v.l), .str (numS v.w)] := rfl
  have m1 : (["visit", v.name, "2001", numS v.l, numS v.w] : List Str).map D.str = ([D.str "visit", .str v.name] ++ [.str "2001"]) ++ [.str (numS v.l), .str (numS v.w)] := rfl
  have m2 : (["visit", v.name, numS v.m, "401", numS v.w] : List Str).map D.str = ([D.str "visit", .str v.name, .str (numS v.m)] ++ [.str "401"]) ++ [.str (numS v.w)] := rfl
  have m3 : (["visit", "A", numS v.m, numS v.l, numS v.w] : List Str).map D.str = ([D.str "visit"] ++ [.str "A"]) ++ [.str (numS v.m), .str (numS v.l), .str (numS v.w)] := rfl
  have mC : (badsC v).map D.str = [.str (Txt.join " " ["visit", v.name, "2001", numS v.l, numS v.w]), .str (Txt.join " " ["visit", v.name, numS v.m, "401", numS v.w]), .str (Txt.join " " ["visit", "A", numS v.m, numS v.l, numS v.w])] := rfl
  rw [m1] at j1
  rw [m2] at j2
  rw [m3] at j3
  rw [List.map_append (l₁ := badsA v ++ badsB v)]
  rw [mC] at aB ⊢
  show x14_law [_, _, _, _, _, _, _, _, _, _, _] = SOut.nx [_, _, _, _, _, _, _, _, _, _, _]
  rw [hW]
  generalize ([D.str "visit", .str v.name] ++ [.str "2001"]) ++ [.str (numS v.l), .str (numS v.w)] = J1 at *
  generalize ([D.str "visit", .str v.name, .str (numS v.m)] ++ [.str "401"]) ++ [.str (numS v.w)] = J2 at *
  generalize ([D.str "visit"] ++ [.str "A"]) ++ [.str (numS v.m), .str (numS v.l), .str (numS v.w)] = J3 at *
  generalize [D.str "visit", .str v.name] ++ [.str "2001"] = K1 at *
  generalize [D.str "visit", .str v.name, .str (numS v.m)] ++ [.str "401"] = K2 at *
  generalize [D.str "visit"] ++ [.str "A"] = K3 at *
  generalize [D.str "visit", .str v.name, .str (numS v.m), .str (numS v.l), .str (numS v.w)] = WW at *
  generalize Txt.join " " ["visit", v.name, "2001", numS v.l, numS v.w] = Z1 at *
  generalize Txt.join " " ["visit", v.name, numS v.m, "401", numS v.w] = Z2 at *
  generalize Txt.join " " ["visit", "A", numS v.m, numS v.l, numS v.w] = Z3 at *
  generalize (badsA v ++ badsB v).map D.str = BB at *
  generalize BB ++ [.str Z1, .str Z2, .str Z3] = BC at *
  generalize line v = W at *
  generalize LT vs = T at *
  generalize LR vs = R at *
  generalize vs.map VD = VV at *
  generalize ((k : Nat) : Int) = kk at *
  simp [x14_law, sFrz, strM1, slc, Pt.ev, a1, a2, a3, a4, a5, a6, aB, j1, j2, j3, c1, c2, c3, c4, c5, c6, fnF, sSeq, sIf, asTest, op1, op2, opN, opV, M.bnd, M.ret, M.opt, Arg.ev, rs, rss, Slot.rd, evs, sV, sAsg, sNx, var, gN, gTu, gCo, gNi, so_no, so_val, so_own, so_dic, so_inst, so_ex, sh_no, sh_val, sh_own, sh_dic, sh_inst, sh_ex, sa_no, sa_val, sa_own, sa_dic, sa_inst, sa_ex, vAnd, vOr, vNot, vIf, bAnd, bOr, bNot, chain, chC, chL, callF, callV_1, callV_2, callV_3, callV_4, sz1, sz2, sz3, sz4, sz5, sz6, sz7, sz8, sz9, sz10, sz11, sz12, dvs, D.cmpI, D.toI, D.mod, D.fdiv, add_ii, D.sub, D.mul, D.pow, D.neg, D.len, D.mkL, D.mkT, D.isN, D.notN, isiB, isi2, D.is, D.tn, sPut, callV_o1g]
end
end DL
namespace DL
open PySem L2
theorem VisesOk.left {a b : List Vis} (h : VisesOk (a ++ b)) : VisesOk a := by
  have := h.take a.length
  rw [List.take_left] at this
  exact this
section
variable {a b : List Vis} {v : Vis}
theorem LR_to (a b : List Vis) : D.cut none (some (a.length : Int)) (LR (a ++ b)) = some (LR a) := by
  unfold LR
  rw [cutD_to, ← List.map_take, ← List.map_take, List.take_left]
theorem LR_from (a b : List Vis) : D.cut (some (a.length : Int)) none (LR (a ++ b)) = some (LR b) := by
  unfold LR
  rw [cutD_from, ← List.map_drop, ← List.map_drop, List.drop_left]
theorem ended_tried {x : Str} (hv : VisesOk (a ++ v :: b)) (hl : x.length ≤ 1000) : f_ulaw_ended [.val (.lst ((a.map line ++ x :: b.map line).map .str))] = .ok (.str (ended (a.map line ++ x :: b.map line))) [.val (.lst ((a.map line ++ x :: b.map line).map .str))] := by
  have h39 := hv.len
  refine ended_ok (fun r hr => ?_) (by simp at h39 ⊢; omega)
  rcases List.mem_append.mp hr with q | q
  · obtain ⟨u, hu, rfl⟩ := List.mem_map.mp q
    have := line_len (hv.all u (by simp [hu]))
    omega
  · rcases List.mem_cons.mp q with rfl | q
    · exact hl
    · obtain ⟨u, hu, rfl⟩ := List.mem_map.mp q
      have := line_len (hv.all u (by simp [hu]))
      omega
theorem rest_ok (hv : VisesOk (a ++ v :: b)) : ∀ r ∈ b.map line, 10 ∉ cl r ∧ r.length ≤ 1000 := fun r hr => by
  obtain ⟨u, hu, rfl⟩ := List.mem_map.mp hr
  have hu' := hv.all u (by simp [hu])
  exact ⟨line_free hu', by have := line_len hu'; omega⟩
/-- a tried row -/
theorem b15_ok {S s6 : D} {d : List D} {x : Str} (hv : VisesOk (a ++ v :: b)) (hb6 : b.length ≤ 9) (hb : BadRow a x) (hx : 10 ∉ cl x) :
    b15_law (St10 S d (a ++ v :: b) a.length v (.val s6) (.val (.str x))) = .nx (St10 S d (a ++ v :: b) a.length v (.val s6) (.val (.str x))) := by
  have c1 := LR_to a (v :: b)
  have c2 : D.cut (some ((a.length : Int) + 1)) none (LR (a ++ v :: b)) = some (LR b) := by
    have e := LR_from (a ++ [v]) b
    rw [List.append_assoc] at e
    have e2 : ((a ++ [v]).length : Int) = (a.length : Int) + 1 := by simp
    rw [e2] at e
    exact e
  have h39 := hv.len
  have g1 : a.length + (b.length + 1) ≤ 39 := by simpa using h39
  have p1 : D.add (LR a) (.lst [.str x]) = some (.lst ((a.map line).map .str ++ [.str x])) := add_ll (by simp; omega)
  have p2 : D.add (.lst ((a.map line).map .str ++ [.str x])) (LR b) = some (.lst ((a.map line ++ x :: b.map line).map .str)) := by
    have e := add_ll (a := (a.map line).map D.str ++ [.str x]) (b := (b.map line).map .str) (by simp; omega)
    have e2 : ((a.map line).map D.str ++ [.str x]) ++ (b.map line).map D.str = (a.map line ++ x :: b.map line).map .str := by simp
    rw [e2] at e
    exact e
  have e1 := ended_tried hv hb.1
  have r1 := refused_row (x := x) (rest := b.map line) hv.left hb hx (rest_ok hv) (by simpa using hb6)
  have n1 := ne_int ((a.length : Int) + 1)
  have ai : D.add (.int (a.length : Int)) (.int 1) = some (.int ((a.length : Int) + 1)) := rfl
  show b15_law [_, _, _, _, _, _, _, _, _, _, _] = SOut.nx [_, _, _, _, _, _, _, _, _, _, _]
  generalize ended (a.map line ++ x :: b.map line) = E at *
  generalize (a.map line ++ x :: b.map line).map D.str = L at *
  generalize (a.map line).map D.str ++ [D.str x] = L1 at *
  generalize LR a = R1 at *
  generalize LR b = R2 at *
  generalize LR (a ++ v :: b) = R at *
  generalize LT (a ++ v :: b) = T at *
  generalize (a ++ v :: b).map VD = VV at *
  generalize (wordsOf v).map D.str = WW at *
  generalize line v = W at *
  clear h39 g1 hv hb6
  generalize (a.length : Int) + 1 = k1 at *
  generalize (a.length : Int) = kk at *
  simp [b15_law, slc, Pt.ev, c1, c2, p1, p2, e1, r1, n1, ai, fnF, sSeq, sIf, asTest, op1, op2, opN, opV, M.bnd, M.ret, M.opt, Arg.ev, rs, rss, Slot.rd, evs, sV, sAsg, sNx, var, gN, gTu, gCo, gNi, so_no, so_val, so_own, so_dic, so_inst, so_ex, sh_no, sh_val, sh_own, sh_dic, sh_inst, sh_ex, sa_no, sa_val, sa_own, sa_dic, sa_inst, sa_ex, vAnd, vOr, vNot, vIf, bAnd, bOr, bNot, chain, chC, chL, callF, callV_1, callV_2, callV_3, callV_4, sz1, sz2, sz3, sz4, sz5, sz6, sz7, sz8, sz9, sz10, sz11, sz12, dvs, D.cmpI, D.toI, D.mod, D.fdiv, add_ii, D.sub, D.mul, D.pow, D.neg, D.len, D.mkL, D.mkT, D.isN, D.notN, isiB, isi2, D.is, D.tn, sPut, callV_o1g]
theorem l16_loop {S s6 : D} {d : List D} (hv : VisesOk (a ++ v :: b)) (hb6 : b.length ≤ 9) : ∀ {xs : List Str} {s7 : Slot}, (∀ x ∈ xs, BadRow a x ∧ 10 ∉ cl x) → s7.isOwn = false →
    ∃ t7 : Slot, t7.isOwn = false ∧ forL (gN 7) b15_law (xs.map .str) (St10 S d (a ++ v :: b) a.length v (.val s6) s7) = .nx (St10 S d (a ++ v :: b) a.length v (.val s6) t7)
  | [], s7, _, h7 => ⟨s7, h7, by simp [forL]⟩
  | x :: xs, s7, hx, h7 => by
    obtain ⟨t7, g7, e⟩ := l16_loop (S := S) (s6 := s6) (d := d) hv hb6 (xs := xs) (s7 := .val (.str x)) (fun y hy => hx y (List.mem_cons_of_mem _ hy)) rfl
    have hb := b15_ok (S := S) (s6 := s6) (d := d) hv hb6 (hx x (by simp)).1 (hx x (by simp)).2
    exact ⟨t7, g7, (for_cons (ρ1 := St10 S d (a ++ v :: b) a.length v (.val s6) (.val (.str x))) (by simp [gN, h7]) hb).trans e⟩
theorem x17_ok {S : D} {d : List D} {t7 : Slot} (hv : VisesOk (a ++ v :: b)) (hb6 : b.length ≤ 9) (h7 : t7.isOwn = false) : ∃ u7 : Slot, u7.isOwn = false ∧
    x17_law (St10 S d (a ++ v :: b) a.length v (.val (.lst (((badsA v ++ badsB v) ++ badsC v).map .str))) t7) = .nx (St10 S d (a ++ v :: b) a.length v (.val (.lst (((badsA v ++ badsB v) ++ badsC v).map .str))) u7) := by
  have hvv : VisOk v := hv.all v (by simp)
  obtain ⟨u7, g7, e⟩ := l16_loop (S := S) (s6 := .lst (((badsA v ++ badsB v) ++ badsC v).map .str)) (d := d) hv hb6 (xs := (badsA v ++ badsB v) ++ badsC v) (s7 := t7) (bads_ok hv.left hvv) h7
  refine ⟨u7, g7, ?_⟩
  have hs : seqM (var 6) (St10 S d (a ++ v :: b) a.length v (.val (.lst (((badsA v ++ badsB v) ++ badsC v).map .str))) t7) = .ok (((badsA v ++ badsB v) ++ badsC v).map .str) (St10 S d (a ++ v :: b) a.length v (.val (.lst (((badsA v ++ badsB v) ++ badsC v).map .str))) t7) := by
    show seqM (var 6) [_, _, _, _, _, _, _, _, _, _, _] = Out.ok _ [_, _, _, _, _, _, _, _, _, _, _]
    generalize ((badsA v ++ badsB v) ++ badsC v).map D.str = BB
    simp [seqM, var, M.bnd]
  have hl : l16_law (St10 S d (a ++ v :: b) a.length v (.val (.lst (((badsA v ++ badsB v) ++ badsC v).map .str))) t7) = .nx (St10 S d (a ++ v :: b) a.length v (.val (.lst (((badsA v ++ badsB v) ++ badsC v).map .str))) u7) := (for_ok hs).trans e
  show sSeq (sFrz 6 1) l16_law _ = _
  have hf : sFrz 6 1 (St10 S d (a ++ v :: b) a.length v (.val (.lst (((badsA v ++ badsB v) ++ badsC v).map .str))) t7) = .nx (St10 S d (a ++ v :: b) a.length v (.val (.lst (((badsA v ++ badsB v) ++ badsC v).map .str))) t7) := rfl
  rw [seq_nx hf]
  exact hl
theorem cut_last (x : Str) : cutS (x ++ "\n") none (some (-1)) = x := by
  refine cl_ext ?_
  unfold cutS
  rw [cl_mk, HT.sIx_none]
  have h1 : (x ++ "\n").length = (cl x).length + 1 := by
    rw [Str.length_append, cl_len]
    rfl
  have h2 : HT.sIx (x ++ "\n").length (x ++ "\n").length (some (-1)) = (cl x).length := by
    unfold HT.sIx
    simp only []
    rw [if_pos (by decide), h1]
    omega
  rw [h2]
  show ((cl (x ++ "\n")).drop 0).take ((cl x).length - 0) = _
  rw [cl_app, List.drop_zero, Nat.sub_zero, List.take_left]
theorem line_ne {v : Vis} : line v ≠ "" := fun e => by
  have := congrArg cl e
  rw [line_cl, empty_eq, cl_empty] at this
  cases this
theorem ref_cut {vs : List Vis} (h : VisesOk vs) (hn : vs ≠ []) : ∃ t, D.cut none (some (-1)) (.str (LT vs)) = some (.str t) ∧ f_ulaw_refused [.val (.str t)] = .ok (.int (vs.length : Int)) [.val (.str t)] := by
  obtain ⟨as, u, rfl⟩ : ∃ as u, vs = as ++ [u] := ⟨vs.dropLast, vs.getLast hn, (List.dropLast_concat_getLast hn).symm⟩
  have hu : VisOk u := h.all u (by simp)
  have e : LT (as ++ [u]) = (ended (as.map line) ++ line u) ++ "\n" := by
    unfold LT
    rw [List.map_append, ended_app, Str.append_assoc]
    show _ ++ ended [line u] = _
    rw [ended_one]
  have hz := LT_len h
  refine ⟨ended (as.map line) ++ line u, ?_, ?_⟩
  · show (if (LT (as ++ [u])).length ≤ sizeLine then some (D.str (cutS (LT (as ++ [u])) none (some (-1)))) else none) = _
    rw [if_pos (by rw [sizeLine_eq]; omega), e, cut_last]
  · have e2 := refused_ok (parse_last (r := line u) (t := ended (as.map line) ++ line u) h.left (by
      rw [e, Str.length_append] at hz
      omega) (split_ended (fun r hr => (lines_free h.left r hr).1) (line_free hu)) line_ne)
    have e3 : ((as ++ [u]).length : Int) = (as.length : Int) + 1 := by simp
    rw [e3]
    exact e2
theorem ref_twice (hv : VisesOk (a ++ v :: b)) (hb6 : b.length ≤ 8) : f_ulaw_refused [.val (.str (ended ((a ++ [v]).map line ++ line v :: b.map line)))] = .ok (.int ((a.length : Int) + 2)) [.val (.str (ended ((a ++ [v]).map line ++ line v :: b.map line)))] := by
  have e : a ++ v :: b = (a ++ [v]) ++ b := by simp
  have hvv : VisOk v := hv.all v (by simp)
  have h2 := hv
  rw [e] at h2
  have r := refused_row (x := line v) (rest := b.map line) h2.left (bad_dup h2.left hvv (by simp)) (line_free hvv) (rest_ok hv) (by simp; omega)
  have e3 : (((a ++ [v]).length : Nat) : Int) + 1 = (a.length : Int) + 2 := by simp; omega
  rw [e3] at r
  exact r
theorem x18_ok {S s6 : D} {d : List D} {t7 : Slot} (hv : VisesOk (a ++ v :: b)) (hb6 : b.length ≤ 8) : x18_law (St10 S d (a ++ v :: b) a.length v (.val s6) t7) = .rt (.bl true) (St10 S d (a ++ v :: b) a.length v (.val s6) t7) := by
  obtain ⟨t, c0, r0⟩ := ref_cut hv (by simp)
  have hvv : VisOk v := hv.all v (by simp)
  have h39 := hv.len
  have g1 : a.length + (b.length + 1) ≤ 39 := by simpa using h39
  have c1 : D.cut none (some ((a.length : Int) + 1)) (LR (a ++ v :: b)) = some (LR (a ++ [v])) := by
    have e := LR_to (a ++ [v]) b
    rw [List.append_assoc] at e
    have e2 : ((a ++ [v]).length : Int) = (a.length : Int) + 1 := by simp
    rw [e2] at e
    exact e
  have c2 := LR_from a (v :: b)
  have p1 : D.add (LR (a ++ [v])) (LR (v :: b)) = some (.lst (((a ++ [v]).map line ++ line v :: b.map line).map .str)) := by
    have e := add_ll (a := ((a ++ [v]).map line).map D.str) (b := ((v :: b).map line).map .str) (by simp; omega)
    rw [← List.map_append] at e
    exact e
  have e1 : f_ulaw_ended [.val (.lst (((a ++ [v]).map line ++ line v :: b.map line).map .str))] = .ok (.str (ended ((a ++ [v]).map line ++ line v :: b.map line))) [.val (.lst (((a ++ [v]).map line ++ line v :: b.map line).map .str))] := by
    refine ended_ok (fun r hr => ?_) (by simp; omega)
    rcases List.mem_append.mp hr with q | q
    · obtain ⟨u, hu, rfl⟩ := List.mem_map.mp q
      have := line_len (hv.all u (by simp at hu ⊢; rcases hu with q | q <;> simp [q]))
      omega
    · rcases List.mem_cons.mp q with rfl | q
      · have := line_len hvv
        omega
      · exact (rest_ok hv r q).2
  have r1 := ref_twice hv hb6
  have q1 : D.eq (.int ((a ++ v :: b).length : Int)) (.int ((a ++ v :: b).length : Int)) = some (.bl true) := by rw [eq_at]; simp
  have q2 : D.eq (.int ((a.length : Int) + 2)) (.int ((a.length : Int) + 2)) = some (.bl true) := by rw [eq_at]; simp
  have ll := LR_len (a ++ v :: b)
  have ai : D.add (.int (a.length : Int)) (.int 1) = some (.int ((a.length : Int) + 1)) := rfl
  have ai2 : D.add (.int (a.length : Int)) (.int 2) = some (.int ((a.length : Int) + 2)) := rfl
  show x18_law [_, _, _, _, _, _, _, _, _, _, _] = SOut.rt _ [_, _, _, _, _, _, _, _, _, _, _]
  generalize ended ((a ++ [v]).map line ++ line v :: b.map line) = E at *
  generalize ((a ++ [v]).map line ++ line v :: b.map line).map D.str = L at *
  generalize LR (a ++ [v]) = R1 at *
  generalize LR (v :: b) = R2 at *
  generalize LR (a ++ v :: b) = R at *
  generalize LT (a ++ v :: b) = T at *
  generalize (a ++ v :: b).map VD = VV at *
  generalize (wordsOf v).map D.str = WW at *
  generalize line v = W at *
  clear h39 g1 hv hb6
  generalize ((a ++ v :: b).length : Int) = n at *
  generalize (a.length : Int) + 1 = k1 at *
  generalize (a.length : Int) + 2 = k2 at *
  generalize (a.length : Int) = kk at *
  have ng : D.neg (.int 1) = some (.int (-1)) := rfl
  simp [x18_law, slc, Pt.ev, c0, c1, c2, p1, e1, r0, r1, q1, q2, ll, ai, ai2, fnF, sSeq, sIf, asTest, op1, op2, opN, opV, M.bnd, M.ret, M.opt, Arg.ev, rs, rss, Slot.rd, evs, sV, sAsg, sNx, var, gN, gTu, gCo, gNi, so_no, so_val, so_own, so_dic, so_inst, so_ex, sh_no, sh_val, sh_own, sh_dic, sh_inst, sh_ex, sa_no, sa_val, sa_own, sa_dic, sa_inst, sa_ex, vAnd, vOr, vNot, vIf, bAnd, bOr, bNot, chain, chC, chL, callF, callV_1, callV_2, callV_3, callV_4, sz1, sz2, sz3, sz4, sz5, sz6, sz7, sz8, sz9, sz10, sz11, sz12, dvs, D.cmpI, D.toI, D.mod, D.fdiv, add_ii, D.sub, D.mul, D.pow, D.neg, D.mkL, D.mkT, D.isN, D.notN, isiB, isi2, D.is, D.tn, sPut, callV_o1g]
end
end DL
namespace DL
open PySem L2
theorem law_run (ns : List Int) : ∃ ρ, m_law [.val (.scr (ns.map D.int)), .no, .no, .no, .no, .no, .no, .no, .no, .no, .no] = .rt (.bl true) (.val (.scr (ns.map D.int)) :: ρ) := by
  have hd : RowOk (Row ns 0 67 0) := ⟨ns, 0, 67, 0, rfl, by decide, by decide, by decide⟩
  obtain ⟨vs, d1, hv, h6, hd1, e1⟩ := visits_ok hd
  unfold m_law
  rw [seq_nx x0_ok, seq_nx (x1_ok e1), seq_nx (x4_ok hv), seq_nx (x5_ok hv), seq_nx (x6_ok hv), seq_nx (x7_ok hv)]
  by_cases hn : vs = []
  · subst hn
    unfold sSeq
    rw [x8_nil]
    exact ⟨_, rfl⟩
  · rw [seq_nx (x8_cons hv hn)]
    obtain ⟨k, d2, hk, e2⟩ := x9_ok (S := .scr (ns.map D.int)) hd1 hv hn
    rw [seq_nx e2]
    obtain ⟨a, v, b, rfl, rfl⟩ : ∃ a v b, vs = a ++ v :: b ∧ k = a.length := by
      refine ⟨vs.take k, vs[k], vs.drop (k + 1), ?_, ?_⟩
      · rw [← List.drop_eq_getElem_cons hk, List.take_append_drop]
      · rw [List.length_take]
        omega
    have hvv : VisOk v := hv.all v (by simp)
    have hb6 : b.length ≤ 5 := by
      simp at h6
      omega
    rw [seq_nx (x10_ok hvv (by simp)), seq_nx (x11_ok hvv)]
    obtain ⟨t7, g7, e3⟩ := l13_ok (S := .scr (ns.map D.int)) (d := d2) (vs := a ++ v :: b) (k := a.length) hvv
    rw [seq_nx e3, seq_nx (x14_ok hvv)]
    obtain ⟨u7, _, e4⟩ := x17_ok (S := .scr (ns.map D.int)) (d := d2) hv (by omega) g7
    rw [seq_nx e4, x18_ok hv (by omega)]
    exact ⟨_, rfl⟩
theorem law_plain (ns : List Int) (_ : ns.length ≤ 63) : ∃ os, f_law [.val (.scr (ns.map D.int))] = .ok (.bl true) os := by
  obtain ⟨ρ, e⟩ := law_run ns
  refine ⟨[.val (.scr (ns.map D.int))], ?_⟩
  exact fn_rt (n := 1) (loc := 10) (m := m_law) (as := [.val (.scr (ns.map D.int))]) rfl rfl e rfl
end DL
namespace DL
open PySem L2
abbrev e_BadItem : Stmt := inClass (top 3) 0
abbrev e_BadNote : Stmt := inClass (top 4) 0
abbrev e_Taken : Stmt := inClass (top 7) 0
abbrev e_TooMany : Stmt := inClass (top 5) 0
abbrev e_Unknown : Stmt := inClass (top 6) 0
theorem all_mk {l : PySem.W.OpenLaw} {w : World} {K : PySem.W.Frag} {h : Heap} {mg : Str → Option Value} {fa : Addr} (X : K.In h) (G : h.Ns mainGlobals mg) (hfa : mg "law" = some (.ref fa))
    {C_Lane C_GateError C_BadItem N_BadItem fI_BadItem cda_BadItem cl_BadItem C_BadNote N_BadNote fI_BadNote cda_BadNote cl_BadNote C_Taken N_Taken fI_Taken cda_Taken cl_Taken C_TooMany N_TooMany fI_TooMany cda_TooMany cl_TooMany C_Unknown N_Unknown fI_Unknown cda_Unknown cl_Unknown f0 f1 f2 f3 f4 f5 f6 f7 f8 f9 f10 f11 f12 f13 f14 f15 f16 f17 f18 f19 f20 f21 f22 f23 f24 f25 f26 f27 f28 f29 f30 f31 f32 f33 f34 f35 f36 f37 f38 : Addr} {oc_BadItem kV_BadItem dc_BadItem pm_BadItem ct_BadItem ccl_BadItem ocl_BadItem oc_BadNote kV_BadNote dc_BadNote pm_BadNote ct_BadNote ccl_BadNote ocl_BadNote oc_Taken kV_Taken dc_Taken pm_Taken ct_Taken ccl_Taken ocl_Taken oc_TooMany kV_TooMany dc_TooMany pm_TooMany ct_TooMany ccl_TooMany ocl_TooMany oc_Unknown kV_Unknown dc_Unknown pm_Unknown ct_Unknown ccl_Unknown ocl_Unknown oc0 kV0 dc0 pm0 cd0 ct0 oc1 kV1 dc1 pm1 cd1 ct1 oc2 kV2 dc2 pm2 cd2 ct2 oc3 kV3 dc3 pm3 cd3 ct3 oc4 kV4 dc4 pm4 cd4 ct4 oc5 kV5 dc5 pm5 cd5 ct5 oc6 kV6 dc6 pm6 cd6 ct6 oc7 kV7 dc7 pm7 cd7 ct7 oc8 kV8 dc8 pm8 cd8 ct8 oc9 kV9 dc9 pm9 cd9 ct9 oc10 kV10 dc10 pm10 cd10 ct10 oc11 kV11 dc11 pm11 cd11 ct11 oc12 kV12 dc12 pm12 cd12 ct12 oc13 kV13 dc13 pm13 cd13 ct13 oc14 kV14 dc14 pm14 cd14 ct14 oc15 kV15 dc15 pm15 cd15 ct15 oc16 kV16 dc16 pm16 cd16 ct16 oc17 kV17 dc17 pm17 cd17 ct17 oc18 kV18 dc18 pm18 cd18 ct18 oc19 kV19 dc19 pm19 cd19 ct19 oc20 kV20 dc20 pm20 cd20 ct20 oc21 kV21 dc21 pm21 cd21 ct21 oc22 kV22 dc22 pm22 cd22 ct22 oc23 kV23 dc23 pm23 cd23 ct23 oc24 kV24 dc24 pm24 cd24 ct24 oc25 kV25 dc25 pm25 cd25 ct25 oc26 kV26 dc26 pm26 cd26 ct26 oc27 kV27 dc27 pm27 cd27 ct27 oc28 kV28 dc28 pm28 cd28 ct28 oc29 kV29 dc29 pm29 cd29 ct29 oc30 kV30 dc30 pm30 cd30 ct30 oc31 kV31 dc31 pm31 cd31 ct31 oc32 kV32 dc32 pm32 cd32 ct32 oc33 kV33 dc33 pm33 cd33 ct33 oc34 kV34 dc34 pm34 cd34 ct34 oc35 kV35 dc35 pm35 cd35 ct35 oc36 kV36 dc36 pm36 cd36 ct36 oc37 kV37 dc37 pm37 cd37 ct37 oc38 kV38 dc38 pm38 cd38 ct38 : Value} {dd_BadItem od_BadItem an_BadItem cdd_BadItem cld_BadItem dd_BadNote od_BadNote an_BadNote cdd_BadNote cld_BadNote dd_Taken od_Taken an_Taken cdd_Taken cld_Taken dd_TooMany od_TooMany an_TooMany cdd_TooMany cld_TooMany dd_Unknown od_Unknown an_Unknown cdd_Unknown cld_Unknown od0 an0 od1 an1 od2 an2 od3 an3 od4 an4 od5 an5 od6 an6 od7 an7 od8 an8 od9 an9 od10 an10 od11 an11 od12 an12 od13 an13 od14 an14 od15 an15 od16 an16 od17 an17 od18 an18 od19 an19 od20 an20 od21 an21 od22 an22 od23 an23 od24 an24 od25 an25 od26 an26 od27 an27 od28 an28 od29 an29 od30 an30 od31 an31 od32 an32 od33 an33 od34 an34 od35 an35 od36 an36 od37 an37 od38 an38 : Option Addr} {sl_BadItem ccs_BadItem csl_BadItem sl_BadNote ccs_BadNote csl_BadNote sl_Taken ccs_Taken csl_Taken sl_TooMany ccs_TooMany csl_TooMany sl_Unknown ccs_Unknown csl_Unknown sl0 sl1 sl2 sl3 sl4 sl5 sl6 sl7 sl8 sl9 sl10 sl11 sl12 sl13 sl14 sl15 sl16 sl17 sl18 sl19 sl20 sl21 sl22 sl23 sl24 sl25 sl26 sl27 sl28 sl29 sl30 sl31 sl32 sl33 sl34 sl35 sl36 sl37 sl38 : Array (Option Value)} {nm_BadItem qn_BadItem fil_BadItem nm_BadNote qn_BadNote fil_BadNote nm_Taken qn_Taken fil_Taken nm_TooMany qn_TooMany fil_TooMany nm_Unknown qn_Unknown fil_Unknown : Str} {bs_BadItem bm_BadItem sub_BadItem bs_BadNote bm_BadNote sub_BadNote bs_Taken bm_Taken sub_Taken bs_TooMany bm_TooMany sub_TooMany bs_Unknown bm_Unknown sub_Unknown : List Value} {sn_BadItem sn_BadNote sn_Taken sn_TooMany sn_Unknown : List Str} {ab_BadItem ab_BadNote ab_Taken ab_TooMany ab_Unknown : Bool} {col_BadItem col_BadNote col_Taken col_TooMany col_Unknown : Option Bool} {m0_BadItem m1_BadItem m2_BadItem m3_BadItem m5_BadItem m0_BadNote m1_BadNote m2_BadNote m3_BadNote m5_BadNote m0_Taken m1_Taken m2_Taken m3_Taken m5_Taken m0_TooMany m1_TooMany m2_TooMany m3_TooMany m5_TooMany m0_Unknown m1_Unknown m2_Unknown m3_Unknown m5_Unknown : Option Value} {vs_BadItem vs_BadNote vs_Taken vs_TooMany vs_Unknown : Array Value} {t_LAST_MINUTE t_LONGEST_NAME t_MOST_LATE t_MOST_VISITS t_MOST_WORK t_FIGURES t_LETTERS t_VISIT tf_BadItem tf_BadNote tf_Taken tf_TooMany tf_Unknown : Tok}
    (top0 : (l.prog.main.scope.names.lookup ("super" : Str)).isSome = false)
    (g_Lane : PySem.W.nsIn K mainGlobals "Lane" = some (some (.ref C_Lane)))
    (pg_Lane : PySem.W.plainGet K C_Lane Str.empty = true)
    (hd_Lane : PySem.W.hasDictIn K C_Lane = true)
    (po_Lane : PySem.W.plainOver K C_Lane = true)
    (sa_Lane : PySem.W.findIn K (.ref C_Lane) "__setattr__" = some (some (.builtin "object.__setattr__")))
    (mk_Lane : PySem.W.makesIn K C_Lane = true)
    (kc_Lane : PySem.W.keepIn K (.ref C_Lane) = true)
    (cc_Lane : PySem.W.findIn K (.ref C_Lane) "__class__" = some (some (.builtin "object.__class__")))
    (mo_Lane : PySem.W.mroIn K C_Lane (.type "object") = some true)
    (ne_Lane : PySem.W.findIn K (.ref C_Lane) "__ne__" = some (some (.builtin "object.__ne__")))
    (nf_Lane : tyNames.all (fun n => PySem.W.notFirst K C_Lane (.type n)) = true)
    (ks_Lane : tyNames.all (fun n => decide (PySem.W.kitOne K (.type n) (.ref C_Lane) = some false)) = true)
    (hn0 : PySem.W.specialIn K (.builtin "object.__class__") "__get__" = some (some (.builtin "getset_descriptor.__get__")))
    (ht0 : PySem.W.takesIn K (.builtin "object.__class__") = some true)
    (no_Lane_visits : PySem.W.findIn K (.ref C_Lane) "visits" = some none)
    (z_all : PySem.W.nsIn K mainGlobals "all" = some none)
    (z_bool : PySem.W.nsIn K mainGlobals "bool" = some none)
    (z_enumerate : PySem.W.nsIn K mainGlobals "enumerate" = some none)
    (z_int : PySem.W.nsIn K mainGlobals "int" = some none)
    (z_isinstance : PySem.W.nsIn K mainGlobals "isinstance" = some none)
    (z_len : PySem.W.nsIn K mainGlobals "len" = some none)
    (z_list : PySem.W.nsIn K mainGlobals "list" = some none)
    (z_range : PySem.W.nsIn K mainGlobals "range" = some none)
    (z_str : PySem.W.nsIn K mainGlobals "str" = some none)
    (z_tuple : PySem.W.nsIn K mainGlobals "tuple" = some none)
    (z_super : PySem.W.nsIn K mainGlobals "super" = some none)
    (th : PySem.W.nsIn K cStatics "thirdparty.any" = some none)
    (v_LAST_MINUTE : PySem.W.nsIn K mainGlobals "LAST_MINUTE" = some (some (.int 2000 t_LAST_MINUTE)))
    (v_LONGEST_NAME : PySem.W.nsIn K mainGlobals "LONGEST_NAME" = some (some (.int 12 t_LONGEST_NAME)))
    (v_MOST_LATE : PySem.W.nsIn K mainGlobals "MOST_LATE" = some (some (.int 400 t_MOST_LATE)))
    (v_MOST_VISITS : PySem.W.nsIn K mainGlobals "MOST_VISITS" = some (some (.int 40 t_MOST_VISITS)))
    (v_MOST_WORK : PySem.W.nsIn K mainGlobals "MOST_WORK" = some (some (.int 400 t_MOST_WORK)))
    (v_FIGURES : PySem.W.nsIn K mainGlobals "FIGURES" = some (some (.str "0123456789" t_FIGURES)))
    (v_LETTERS : PySem.W.nsIn K mainGlobals "LETTERS" = some (some (.str "abcdefghijklmnopqrstuvwxyz" t_LETTERS)))
    (v_VISIT : PySem.W.nsIn K mainGlobals "VISIT" = some (some (.str "visit" t_VISIT)))
    (g_GateError : PySem.W.nsIn K mainGlobals "GateError" = some (some (.ref C_GateError)))
    (ga_GateError : PySem.W.findIn K (.ref C_GateError) "__getattribute__" = some (some (.builtin "BaseException.__getattribute__")))
    (gg_GateError : PySem.W.findIn K (.ref C_GateError) "__getattr__" = some none)
    (hd_GateError : PySem.W.hasDictIn K C_GateError = true)
    (eC_GateError : PySem.W.subIn K (.ref C_GateError) (.type "BaseException") = some true)
    (g_BadItem : PySem.W.nsIn K mainGlobals "BadItem" = some (some (.ref C_BadItem)))
    (x_BadItem : K.lookup C_BadItem = some (excClassObj nm_BadItem qn_BadItem C_BadItem N_BadItem bs_BadItem bm_BadItem true sn_BadItem sub_BadItem ab_BadItem col_BadItem dd_BadItem m0_BadItem m1_BadItem m2_BadItem m3_BadItem m5_BadItem "ValueError.__new__"))
    (rv_BadItem : PySem.HandSPX.refsVE bm_BadItem = true)
    (sa_BadItem : PySem.W.findIn K (.ref C_BadItem) "__setattr__" = some (some (.builtin "object.__setattr__")))
    (eC_BadItem : PySem.W.subIn K (.ref C_BadItem) (.type "BaseException") = some true)
    (tC_BadItem : PySem.W.typeIn K (.ref C_BadItem) = some (.type "type"))
    (kC_BadItem : PySem.W.keepIn K (.ref C_BadItem) = true)
    (i_BadItem : PySem.W.findIn K (.ref C_BadItem) "__init__" = some (some (.ref fI_BadItem)))
    (tI_BadItem : PySem.W.typeIn K (.ref fI_BadItem) = some (.type "function"))
    (l_BadItem : K.lookup fI_BadItem = some ⟨oc_BadItem, od_BadItem, .func (PySem.W.ksFn "__init__" "BadItem.__init__" (defArgs e_BadItem) (defBody e_BadItem) (defScope e_BadItem) .none kV_BadItem dc_BadItem pm_BadItem an_BadItem (.ref cda_BadItem) ct_BadItem cl_BadItem), sl_BadItem⟩)
    (c_BadItem : PySem.W.codeIn K (.ref cda_BadItem) "BadItem.__init__" = true)
    (d_BadItem : K.lookup cda_BadItem = some ⟨ccl_BadItem, cdd_BadItem, .fields vs_BadItem, ccs_BadItem⟩)
    (f_BadItem : vs_BadItem[2]? = some (.str fil_BadItem tf_BadItem))
    (h_BadItem : ((l.prog.main.file : Str) == fil_BadItem) = true)
    (w_BadItem : K.lookup cl_BadItem = some ⟨ocl_BadItem, cld_BadItem, .cell (some (.ref C_BadItem)), csl_BadItem⟩)
    (s_BadItem : PySem.W.ks_superIn K C_BadItem C_BadItem "__init__" = some (some (.builtin "ValueError.__init__")))
    (v_BadItem : PySem.W.subIn K (.ref C_BadItem) (.type "ValueError") = some true)
    (r_BadItem : PySem.W.mroIn K C_BadItem (.ref C_BadItem) = some true)
    (n_BadItem_index : PySem.W.findIn K (.ref C_BadItem) "index" = some none)
    (ga_BadItem : PySem.W.findIn K (.ref C_BadItem) "__getattribute__" = some (some (.builtin "BaseException.__getattribute__")))
    (gg_BadItem : PySem.W.findIn K (.ref C_BadItem) "__getattr__" = some none)
    (hd_BadItem : PySem.W.hasDictIn K C_BadItem = true)
    (g_BadNote : PySem.W.nsIn K mainGlobals "BadNote" = some (some (.ref C_BadNote)))
    (x_BadNote : K.lookup C_BadNote = some (excClassObj nm_BadNote qn_BadNote C_BadNote N_BadNote bs_BadNote bm_BadNote true sn_BadNote sub_BadNote ab_BadNote col_BadNote dd_BadNote m0_BadNote m1_BadNote m2_BadNote m3_BadNote m5_BadNote "ValueError.__new__"))
    (rv_BadNote : PySem.HandSPX.refsVE bm_BadNote = true)
    (sa_BadNote : PySem.W.findIn K (.ref C_BadNote) "__setattr__" = some (some (.builtin "object.__setattr__")))
    (eC_BadNote : PySem.W.subIn K (.ref C_BadNote) (.type "BaseException") = some true)
    (tC_BadNote : PySem.W.typeIn K (.ref C_BadNote) = some (.type "type"))
    (kC_BadNote : PySem.W.keepIn K (.ref C_BadNote) = true)
    (i_BadNote : PySem.W.findIn K (.ref C_BadNote) "__init__" = some (some (.ref fI_BadNote)))
    (tI_BadNote : PySem.W.typeIn K (.ref fI_BadNote) = some (.type "function"))
    (l_BadNote : K.lookup fI_BadNote = some ⟨oc_BadNote, od_BadNote, .func (PySem.W.ksFn "__init__" "BadNote.__init__" (defArgs e_BadNote) (defBody e_BadNote) (defScope e_BadNote) .none kV_BadNote dc_BadNote pm_BadNote an_BadNote (.ref cda_BadNote) ct_BadNote cl_BadNote), sl_BadNote⟩)
    (c_BadNote : PySem.W.codeIn K (.ref cda_BadNote) "BadNote.__init__" = true)
    (d_BadNote : K.lookup cda_BadNote = some ⟨ccl_BadNote, cdd_BadNote, .fields vs_BadNote, ccs_BadNote⟩)
    (f_BadNote : vs_BadNote[2]? = some (.str fil_BadNote tf_BadNote))
    (h_BadNote : ((l.prog.main.file : Str) == fil_BadNote) = true)
    (w_BadNote : K.lookup cl_BadNote = some ⟨ocl_BadNote, cld_BadNote, .cell (some (.ref C_BadNote)), csl_BadNote⟩)
    (s_BadNote : PySem.W.ks_superIn K C_BadNote C_BadNote "__init__" = some (some (.builtin "ValueError.__init__")))
    (v_BadNote : PySem.W.subIn K (.ref C_BadNote) (.type "ValueError") = some true)
    (r_BadNote : PySem.W.mroIn K C_BadNote (.ref C_BadNote) = some true)
    (n_BadNote_line : PySem.W.findIn K (.ref C_BadNote) "line" = some none)
    (ga_BadNote : PySem.W.findIn K (.ref C_BadNote) "__getattribute__" = some (some (.builtin "BaseException.__getattribute__")))
    (gg_BadNote : PySem.W.findIn K (.ref C_BadNote) "__getattr__" = some none)
    (hd_BadNote : PySem.W.hasDictIn K C_BadNote = true)
    (g_Taken : PySem.W.nsIn K mainGlobals "Taken" = some (some (.ref C_Taken)))
    (x_Taken : K.lookup C_Taken = some (excClassObj nm_Taken qn_Taken C_Taken N_Taken bs_Taken bm_Taken true sn_Taken sub_Taken ab_Taken col_Taken dd_Taken m0_Taken m1_Taken m2_Taken m3_Taken m5_Taken "ValueError.__new__"))
    (rv_Taken : PySem.HandSPX.refsVE bm_Taken = true)
    (sa_Taken : PySem.W.findIn K (.ref C_Taken) "__setattr__" = some (some (.builtin "object.__setattr__")))
    (eC_Taken : PySem.W.subIn K (.ref C_Taken) (.type "BaseException") = some true)
    (tC_Taken : PySem.W.typeIn K (.ref C_Taken) = some (.type "type"))
    (kC_Taken : PySem.W.keepIn K (.ref C_Taken) = true)
    (i_Taken : PySem.W.findIn K (.ref C_Taken) "__init__" = some (some (.ref fI_Taken)))
    (tI_Taken : PySem.W.typeIn K (.ref fI_Taken) = some (.type "function"))
    (l_Taken : K.lookup fI_Taken = some ⟨oc_Taken, od_Taken, .func (PySem.W.ksFn "__init__" "Taken.__init__" (defArgs e_Taken) (defBody e_Taken) (defScope e_Taken) .none kV_Taken dc_Taken pm_Taken an_Taken (.ref cda_Taken) ct_Taken cl_Taken), sl_Taken⟩)
    (c_Taken : PySem.W.codeIn K (.ref cda_Taken) "Taken.__init__" = true)
    (d_Taken : K.lookup cda_Taken = some ⟨ccl_Taken, cdd_Taken, .fields vs_Taken, ccs_Taken⟩)
    (f_Taken : vs_Taken[2]? = some (.str fil_Taken tf_Taken))
    (h_Taken : ((l.prog.main.file : Str) == fil_Taken) = true)
    (w_Taken : K.lookup cl_Taken = some ⟨ocl_Taken, cld_Taken, .cell (some (.ref C_Taken)), csl_Taken⟩)
    (s_Taken : PySem.W.ks_superIn K C_Taken C_Taken "__init__" = some (some (.builtin "ValueError.__init__")))
    (v_Taken : PySem.W.subIn K (.ref C_Taken) (.type "ValueError") = some true)
    (r_Taken : PySem.W.mroIn K C_Taken (.ref C_Taken) = some true)
    (n_Taken_value : PySem.W.findIn K (.ref C_Taken) "value" = some none)
    (ga_Taken : PySem.W.findIn K (.ref C_Taken) "__getattribute__" = some (some (.builtin "BaseException.__getattribute__")))
    (gg_Taken : PySem.W.findIn K (.ref C_Taken) "__getattr__" = some none)
    (hd_Taken : PySem.W.hasDictIn K C_Taken = true)
    (g_TooMany : PySem.W.nsIn K mainGlobals "TooMany" = some (some (.ref C_TooMany)))
    (x_TooMany : K.lookup C_TooMany = some (excClassObj nm_TooMany qn_TooMany C_TooMany N_TooMany bs_TooMany bm_TooMany true sn_TooMany sub_TooMany ab_TooMany col_TooMany dd_TooMany m0_TooMany m1_TooMany m2_TooMany m3_TooMany m5_TooMany "ValueError.__new__"))
    (rv_TooMany : PySem.HandSPX.refsVE bm_TooMany = true)
    (sa_TooMany : PySem.W.findIn K (.ref C_TooMany) "__setattr__" = some (some (.builtin "object.__setattr__")))
    (eC_TooMany : PySem.W.subIn K (.ref C_TooMany) (.type "BaseException") = some true)
    (tC_TooMany : PySem.W.typeIn K (.ref C_TooMany) = some (.type "type"))
    (kC_TooMany : PySem.W.keepIn K (.ref C_TooMany) = true)
    (i_TooMany : PySem.W.findIn K (.ref C_TooMany) "__init__" = some (some (.ref fI_TooMany)))
    (tI_TooMany : PySem.W.typeIn K (.ref fI_TooMany) = some (.type "function"))
    (l_TooMany : K.lookup fI_TooMany = some ⟨oc_TooMany, od_TooMany, .func (PySem.W.ksFn "__init__" "TooMany.__init__" (defArgs e_TooMany) (defBody e_TooMany) (defScope e_TooMany) .none kV_TooMany dc_TooMany pm_TooMany an_TooMany (.ref cda_TooMany) ct_TooMany cl_TooMany), sl_TooMany⟩)
    (c_TooMany : PySem.W.codeIn K (.ref cda_TooMany) "TooMany.__init__" = true)
    (d_TooMany : K.lookup cda_TooMany = some ⟨ccl_TooMany, cdd_TooMany, .fields vs_TooMany, ccs_TooMany⟩)
    (f_TooMany : vs_TooMany[2]? = some (.str fil_TooMany tf_TooMany))
    (h_TooMany : ((l.prog.main.file : Str) == fil_TooMany) = true)
    (w_TooMany : K.lookup cl_TooMany = some ⟨ocl_TooMany, cld_TooMany, .cell (some (.ref C_TooMany)), csl_TooMany⟩)
    (s_TooMany : PySem.W.ks_superIn K C_TooMany C_TooMany "__init__" = some (some (.builtin "ValueError.__init__")))
    (v_TooMany : PySem.W.subIn K (.ref C_TooMany) (.type "ValueError") = some true)
    (r_TooMany : PySem.W.mroIn K C_TooMany (.ref C_TooMany) = some true)
    (n_TooMany_limit : PySem.W.findIn K (.ref C_TooMany) "limit" = some none)
    (ga_TooMany : PySem.W.findIn K (.ref C_TooMany) "__getattribute__" = some (some (.builtin "BaseException.__getattribute__")))
    (gg_TooMany : PySem.W.findIn K (.ref C_TooMany) "__getattr__" = some none)
    (hd_TooMany : PySem.W.hasDictIn K C_TooMany = true)
    (g_Unknown : PySem.W.nsIn K mainGlobals "Unknown" = some (some (.ref C_Unknown)))
    (x_Unknown : K.lookup C_Unknown = some (excClassObj nm_Unknown qn_Unknown C_Unknown N_Unknown bs_Unknown bm_Unknown true sn_Unknown sub_Unknown ab_Unknown col_Unknown dd_Unknown m0_Unknown m1_Unknown m2_Unknown m3_Unknown m5_Unknown "ValueError.__new__"))
    (rv_Unknown : PySem.HandSPX.refsVE bm_Unknown = true)
    (sa_Unknown : PySem.W.findIn K (.ref C_Unknown) "__setattr__" = some (some (.builtin "object.__setattr__")))
    (eC_Unknown : PySem.W.subIn K (.ref C_Unknown) (.type "BaseException") = some true)
    (tC_Unknown : PySem.W.typeIn K (.ref C_Unknown) = some (.type "type"))
    (kC_Unknown : PySem.W.keepIn K (.ref C_Unknown) = true)
    (i_Unknown : PySem.W.findIn K (.ref C_Unknown) "__init__" = some (some (.ref fI_Unknown)))
    (tI_Unknown : PySem.W.typeIn K (.ref fI_Unknown) = some (.type "function"))
    (l_Unknown : K.lookup fI_Unknown = some ⟨oc_Unknown, od_Unknown, .func (PySem.W.ksFn "__init__" "Unknown.__init__" (defArgs e_Unknown) (defBody e_Unknown) (defScope e_Unknown) .none kV_Unknown dc_Unknown pm_Unknown an_Unknown (.ref cda_Unknown) ct_Unknown cl_Unknown), sl_Unknown⟩)
    (c_Unknown : PySem.W.codeIn K (.ref cda_Unknown) "Unknown.__init__" = true)
    (d_Unknown : K.lookup cda_Unknown = some ⟨ccl_Unknown, cdd_Unknown, .fields vs_Unknown, ccs_Unknown⟩)
    (f_Unknown : vs_Unknown[2]? = some (.str fil_Unknown tf_Unknown))
    (h_Unknown : ((l.prog.main.file : Str) == fil_Unknown) = true)
    (w_Unknown : K.lookup cl_Unknown = some ⟨ocl_Unknown, cld_Unknown, .cell (some (.ref C_Unknown)), csl_Unknown⟩)
    (s_Unknown : PySem.W.ks_superIn K C_Unknown C_Unknown "__init__" = some (some (.builtin "ValueError.__init__")))
    (v_Unknown : PySem.W.subIn K (.ref C_Unknown) (.type "ValueError") = some true)
    (r_Unknown : PySem.W.mroIn K C_Unknown (.ref C_Unknown) = some true)
    (n_Unknown_value : PySem.W.findIn K (.ref C_Unknown) "value" = some none)
    (ga_Unknown : PySem.W.findIn K (.ref C_Unknown) "__getattribute__" = some (some (.builtin "BaseException.__getattribute__")))
    (gg_Unknown : PySem.W.findIn K (.ref C_Unknown) "__getattr__" = some none)
    (hd_Unknown : PySem.W.hasDictIn K C_Unknown = true)
    (ex_BadItem_BadNote : PySem.W.exmOne K (.ref C_BadItem) (.ref C_BadNote) = some false)
    (ex_BadNote_BadNote : PySem.W.exmOne K (.ref C_BadNote) (.ref C_BadNote) = some true)
    (ex_Taken_BadNote : PySem.W.exmOne K (.ref C_Taken) (.ref C_BadNote) = some false)
    (ex_TooMany_BadNote : PySem.W.exmOne K (.ref C_TooMany) (.ref C_BadNote) = some false)
    (ex_Unknown_BadNote : PySem.W.exmOne K (.ref C_Unknown) (.ref C_BadNote) = some false)
    (ex_BadItem_GateError : PySem.W.exmOne K (.ref C_BadItem) (.ref C_GateError) = some true)
    (ex_BadNote_GateError : PySem.W.exmOne K (.ref C_BadNote) (.ref C_GateError) = some true)
    (ex_Taken_GateError : PySem.W.exmOne K (.ref C_Taken) (.ref C_GateError) = some true)
    (ex_TooMany_GateError : PySem.W.exmOne K (.ref C_TooMany) (.ref C_GateError) = some true)
    (ex_Unknown_GateError : PySem.W.exmOne K (.ref C_Unknown) (.ref C_GateError) = some true)
    (a_uwall : PySem.W.nsIn K mainGlobals "_wall" = some (some (.ref f0)))
    (l0 : K.lookup f0 = some ⟨oc0, od0, .func (PySem.W.fnOf "_wall" "_wall" (defArgs s_uwall) (defBody s_uwall) (defScope s_uwall) .none kV0 dc0 pm0 an0 cd0 ct0), sl0⟩)
    (c0 : PySem.W.codeIn K cd0 "_wall" = true)
    (k0 : PySem.W.keepIn K (.ref f0) = true)
    (a_is_whole : PySem.W.nsIn K mainGlobals "is_whole" = some (some (.ref f1)))
    (l1 : K.lookup f1 = some ⟨oc1, od1, .func (PySem.W.fnOf "is_whole" "is_whole" (defArgs s_is_whole) (defBody s_is_whole) (defScope s_is_whole) .none kV1 dc1 pm1 an1 cd1 ct1), sl1⟩)
    (c1 : PySem.W.codeIn K cd1 "is_whole" = true)
    (k1 : PySem.W.keepIn K (.ref f1) = true)
    (a_is_number : PySem.W.nsIn K mainGlobals "is_number" = some (some (.ref f2)))
    (l2 : K.lookup f2 = some ⟨oc2, od2, .func (PySem.W.fnOf "is_number" "is_number" (defArgs s_is_number) (defBody s_is_number) (defScope s_is_number) .none kV2 dc2 pm2 an2 cd2 ct2), sl2⟩)
    (c2 : PySem.W.codeIn K cd2 "is_number" = true)
    (k2 : PySem.W.keepIn K (.ref f2) = true)
    (a_is_row : PySem.W.nsIn K mainGlobals "is_row" = some (some (.ref f3)))
    (l3 : K.lookup f3 = some ⟨oc3, od3, .func (PySem.W.fnOf "is_row" "is_row" (defArgs s_is_row) (defBody s_is_row) (defScope s_is_row) .none kV3 dc3 pm3 an3 cd3 ct3), sl3⟩)
    (c3 : PySem.W.codeIn K cd3 "is_row" = true)
    (k3 : PySem.W.keepIn K (.ref f3) = true)
    (a_is_name : PySem.W.nsIn K mainGlobals "is_name" = some (some (.ref f4)))
    (l4 : K.lookup f4 = some ⟨oc4, od4, .func (PySem.W.fnOf "is_name" "is_name" (defArgs s_is_name) (defBody s_is_name) (defScope s_is_name) .none kV4 dc4 pm4 an4 cd4 ct4), sl4⟩)
    (c4 : PySem.W.codeIn K cd4 "is_name" = true)
    (k4 : PySem.W.keepIn K (.ref f4) = true)
    (a_frozen : PySem.W.nsIn K mainGlobals "frozen" = some (some (.ref f5)))
    (l5 : K.lookup f5 = some ⟨oc5, od5, .func (PySem.W.fnOf "frozen" "frozen" (defArgs s_frozen) (defBody s_frozen) (defScope s_frozen) .none kV5 dc5 pm5 an5 cd5 ct5), sl5⟩)
    (c5 : PySem.W.codeIn K cd5 "frozen" = true)
    (k5 : PySem.W.keepIn K (.ref f5) = true)
    (a_is_visit : PySem.W.nsIn K mainGlobals "is_visit" = some (some (.ref f6)))
    (l6 : K.lookup f6 = some ⟨oc6, od6, .func (PySem.W.fnOf "is_visit" "is_visit" (defArgs s_is_visit) (defBody s_is_visit) (defScope s_is_visit) .none kV6 dc6 pm6 an6 cd6 ct6), sl6⟩)
    (c6 : PySem.W.codeIn K cd6 "is_visit" = true)
    (k6 : PySem.W.keepIn K (.ref f6) = true)
    (a_Lane_uulen__ : PySem.W.findIn K (.ref C_Lane) "__len__" = some (some (.ref f7)))
    (i_Lane_uulen__ : PySem.W.isFn K (.ref f7) = true)
    (l7 : K.lookup f7 = some ⟨oc7, od7, .func (PySem.W.fnOf "__len__" "Lane.__len__" (defArgs s_Lane_uulen__) (defBody s_Lane_uulen__) (defScope s_Lane_uulen__) .none kV7 dc7 pm7 an7 cd7 ct7), sl7⟩)
    (c7 : PySem.W.codeIn K cd7 "Lane.__len__" = true)
    (k7 : PySem.W.keepIn K (.ref f7) = true)
    (a_Lane_uueq__ : PySem.W.findIn K (.ref C_Lane) "__eq__" = some (some (.ref f8)))
    (i_Lane_uueq__ : PySem.W.isFn K (.ref f8) = true)
    (l8 : K.lookup f8 = some ⟨oc8, od8, .func (PySem.W.fnOf "__eq__" "Lane.__eq__" (defArgs s_Lane_uueq__) (defBody s_Lane_uueq__) (defScope s_Lane_uueq__) .none kV8 dc8 pm8 an8 cd8 ct8), sl8⟩)
    (c8 : PySem.W.codeIn K cd8 "Lane.__eq__" = true)
    (k8 : PySem.W.keepIn K (.ref f8) = true)
    (a_Lane_visit : PySem.W.findIn K (.ref C_Lane) "visit" = some (some (.ref f9)))
    (i_Lane_visit : PySem.W.isFn K (.ref f9) = true)
    (l9 : K.lookup f9 = some ⟨oc9, od9, .func (PySem.W.fnOf "visit" "Lane.visit" (defArgs s_Lane_visit) (defBody s_Lane_visit) (defScope s_Lane_visit) .none kV9 dc9 pm9 an9 cd9 ct9), sl9⟩)
    (c9 : PySem.W.codeIn K cd9 "Lane.visit" = true)
    (k9 : PySem.W.keepIn K (.ref f9) = true)
    (a_Lane_work_in : PySem.W.findIn K (.ref C_Lane) "work_in" = some (some (.ref f10)))
    (i_Lane_work_in : PySem.W.isFn K (.ref f10) = true)
    (l10 : K.lookup f10 = some ⟨oc10, od10, .func (PySem.W.fnOf "work_in" "Lane.work_in" (defArgs s_Lane_work_in) (defBody s_Lane_work_in) (defScope s_Lane_work_in) .none kV10 dc10 pm10 an10 cd10 ct10), sl10⟩)
    (c10 : PySem.W.codeIn K cd10 "Lane.work_in" = true)
    (k10 : PySem.W.keepIn K (.ref f10) = true)
    (a_Lane_worst_span : PySem.W.findIn K (.ref C_Lane) "worst_span" = some (some (.ref f11)))
    (i_Lane_worst_span : PySem.W.isFn K (.ref f11) = true)
    (l11 : K.lookup f11 = some ⟨oc11, od11, .func (PySem.W.fnOf "worst_span" "Lane.worst_span" (defArgs s_Lane_worst_span) (defBody s_Lane_worst_span) (defScope s_Lane_worst_span) .none kV11 dc11 pm11 an11 cd11 ct11), sl11⟩)
    (c11 : PySem.W.codeIn K cd11 "Lane.worst_span" = true)
    (k11 : PySem.W.keepIn K (.ref f11) = true)
    (a_Lane_starts : PySem.W.findIn K (.ref C_Lane) "starts" = some (some (.ref f12)))
    (i_Lane_starts : PySem.W.isFn K (.ref f12) = true)
    (l12 : K.lookup f12 = some ⟨oc12, od12, .func (PySem.W.fnOf "starts" "Lane.starts" (defArgs s_Lane_starts) (defBody s_Lane_starts) (defScope s_Lane_starts) .none kV12 dc12 pm12 an12 cd12 ct12), sl12⟩)
    (c12 : PySem.W.codeIn K cd12 "Lane.starts" = true)
    (k12 : PySem.W.keepIn K (.ref f12) = true)
    (a_Lane_worst_wait : PySem.W.findIn K (.ref C_Lane) "worst_wait" = some (some (.ref f13)))
    (i_Lane_worst_wait : PySem.W.isFn K (.ref f13) = true)
    (l13 : K.lookup f13 = some ⟨oc13, od13, .func (PySem.W.fnOf "worst_wait" "Lane.worst_wait" (defArgs s_Lane_worst_wait) (defBody s_Lane_worst_wait) (defScope s_Lane_worst_wait) .none kV13 dc13 pm13 an13 cd13 ct13), sl13⟩)
    (c13 : PySem.W.codeIn K cd13 "Lane.worst_wait" = true)
    (k13 : PySem.W.keepIn K (.ref f13) = true)
    (a_Lane_longest_wait : PySem.W.findIn K (.ref C_Lane) "longest_wait" = some (some (.ref f14)))
    (i_Lane_longest_wait : PySem.W.isFn K (.ref f14) = true)
    (l14 : K.lookup f14 = some ⟨oc14, od14, .func (PySem.W.fnOf "longest_wait" "Lane.longest_wait" (defArgs s_Lane_longest_wait) (defBody s_Lane_longest_wait) (defScope s_Lane_longest_wait) .none kV14 dc14 pm14 an14 cd14 ct14), sl14⟩)
    (c14 : PySem.W.codeIn K cd14 "Lane.longest_wait" = true)
    (k14 : PySem.W.keepIn K (.ref f14) = true)
    (a_Lane_is_kept : PySem.W.findIn K (.ref C_Lane) "is_kept" = some (some (.ref f15)))
    (i_Lane_is_kept : PySem.W.isFn K (.ref f15) = true)
    (l15 : K.lookup f15 = some ⟨oc15, od15, .func (PySem.W.fnOf "is_kept" "Lane.is_kept" (defArgs s_Lane_is_kept) (defBody s_Lane_is_kept) (defScope s_Lane_is_kept) .none kV15 dc15 pm15 an15 cd15 ct15), sl15⟩)
    (c15 : PySem.W.codeIn K cd15 "Lane.is_kept" = true)
    (k15 : PySem.W.keepIn K (.ref f15) = true)
    (a_Lane_breaking : PySem.W.findIn K (.ref C_Lane) "breaking" = some (some (.ref f16)))
    (i_Lane_breaking : PySem.W.isFn K (.ref f16) = true)
    (l16 : K.lookup f16 = some ⟨oc16, od16, .func (PySem.W.fnOf "breaking" "Lane.breaking" (defArgs s_Lane_breaking) (defBody s_Lane_breaking) (defScope s_Lane_breaking) .none kV16 dc16 pm16 an16 cd16 ct16), sl16⟩)
    (c16 : PySem.W.codeIn K cd16 "Lane.breaking" = true)
    (k16 : PySem.W.keepIn K (.ref f16) = true)
    (a_Lane_is_course : PySem.W.findIn K (.ref C_Lane) "is_course" = some (some (.ref f17)))
    (i_Lane_is_course : PySem.W.isFn K (.ref f17) = true)
    (l17 : K.lookup f17 = some ⟨oc17, od17, .func (PySem.W.fnOf "is_course" "Lane.is_course" (defArgs s_Lane_is_course) (defBody s_Lane_is_course) (defScope s_Lane_is_course) .none kV17 dc17 pm17 an17 cd17 ct17), sl17⟩)
    (c17 : PySem.W.codeIn K cd17 "Lane.is_course" = true)
    (k17 : PySem.W.keepIn K (.ref f17) = true)
    (a_Lane_waits : PySem.W.findIn K (.ref C_Lane) "waits" = some (some (.ref f18)))
    (i_Lane_waits : PySem.W.isFn K (.ref f18) = true)
    (l18 : K.lookup f18 = some ⟨oc18, od18, .func (PySem.W.fnOf "waits" "Lane.waits" (defArgs s_Lane_waits) (defBody s_Lane_waits) (defScope s_Lane_waits) .none kV18 dc18 pm18 an18 cd18 ct18), sl18⟩)
    (c18 : PySem.W.codeIn K cd18 "Lane.waits" = true)
    (k18 : PySem.W.keepIn K (.ref f18) = true)
    (a_Lane_last_end : PySem.W.findIn K (.ref C_Lane) "last_end" = some (some (.ref f19)))
    (i_Lane_last_end : PySem.W.isFn K (.ref f19) = true)
    (l19 : K.lookup f19 = some ⟨oc19, od19, .func (PySem.W.fnOf "last_end" "Lane.last_end" (defArgs s_Lane_last_end) (defBody s_Lane_last_end) (defScope s_Lane_last_end) .none kV19 dc19 pm19 an19 cd19 ct19), sl19⟩)
    (c19 : PySem.W.codeIn K cd19 "Lane.last_end" = true)
    (k19 : PySem.W.keepIn K (.ref f19) = true)
    (a_Lane_could_add : PySem.W.findIn K (.ref C_Lane) "could_add" = some (some (.ref f20)))
    (i_Lane_could_add : PySem.W.isFn K (.ref f20) = true)
    (l20 : K.lookup f20 = some ⟨oc20, od20, .func (PySem.W.fnOf "could_add" "Lane.could_add" (defArgs s_Lane_could_add) (defBody s_Lane_could_add) (defScope s_Lane_could_add) .none kV20 dc20 pm20 an20 cd20 ct20), sl20⟩)
    (c20 : PySem.W.codeIn K cd20 "Lane.could_add" = true)
    (k20 : PySem.W.keepIn K (.ref f20) = true)
    (a_Lane_next_free : PySem.W.findIn K (.ref C_Lane) "next_free" = some (some (.ref f21)))
    (i_Lane_next_free : PySem.W.isFn K (.ref f21) = true)
    (l21 : K.lookup f21 = some ⟨oc21, od21, .func (PySem.W.fnOf "next_free" "Lane.next_free" (defArgs s_Lane_next_free) (defBody s_Lane_next_free) (defScope s_Lane_next_free) .none kV21 dc21 pm21 an21 cd21 ct21), sl21⟩)
    (c21 : PySem.W.codeIn K cd21 "Lane.next_free" = true)
    (k21 : PySem.W.keepIn K (.ref f21) = true)
    (a_Lane_most_late : PySem.W.findIn K (.ref C_Lane) "most_late" = some (some (.ref f22)))
    (i_Lane_most_late : PySem.W.isFn K (.ref f22) = true)
    (l22 : K.lookup f22 = some ⟨oc22, od22, .func (PySem.W.fnOf "most_late" "Lane.most_late" (defArgs s_Lane_most_late) (defBody s_Lane_most_late) (defScope s_Lane_most_late) .none kV22 dc22 pm22 an22 cd22 ct22), sl22⟩)
    (c22 : PySem.W.codeIn K cd22 "Lane.most_late" = true)
    (k22 : PySem.W.keepIn K (.ref f22) = true)
    (a_Lane_with_late : PySem.W.findIn K (.ref C_Lane) "with_late" = some (some (.ref f23)))
    (i_Lane_with_late : PySem.W.isFn K (.ref f23) = true)
    (l23 : K.lookup f23 = some ⟨oc23, od23, .func (PySem.W.fnOf "with_late" "Lane.with_late" (defArgs s_Lane_with_late) (defBody s_Lane_with_late) (defScope s_Lane_with_late) .none kV23 dc23 pm23 an23 cd23 ct23), sl23⟩)
    (c23 : PySem.W.codeIn K cd23 "Lane.with_late" = true)
    (k23 : PySem.W.keepIn K (.ref f23) = true)
    (a_number_in : PySem.W.nsIn K mainGlobals "number_in" = some (some (.ref f24)))
    (l24 : K.lookup f24 = some ⟨oc24, od24, .func (PySem.W.fnOf "number_in" "number_in" (defArgs s_number_in) (defBody s_number_in) (defScope s_number_in) .none kV24 dc24 pm24 an24 cd24 ct24), sl24⟩)
    (c24 : PySem.W.codeIn K cd24 "number_in" = true)
    (k24 : PySem.W.keepIn K (.ref f24) = true)
    (a_visit_in : PySem.W.nsIn K mainGlobals "visit_in" = some (some (.ref f25)))
    (l25 : K.lookup f25 = some ⟨oc25, od25, .func (PySem.W.fnOf "visit_in" "visit_in" (defArgs s_visit_in) (defBody s_visit_in) (defScope s_visit_in) .none kV25 dc25 pm25 an25 cd25 ct25), sl25⟩)
    (c25 : PySem.W.codeIn K cd25 "visit_in" = true)
    (k25 : PySem.W.keepIn K (.ref f25) = true)
    (a_format_lane : PySem.W.nsIn K mainGlobals "format_lane" = some (some (.ref f26)))
    (l26 : K.lookup f26 = some ⟨oc26, od26, .func (PySem.W.fnOf "format_lane" "format_lane" (defArgs s_format_lane) (defBody s_format_lane) (defScope s_format_lane) .none kV26 dc26 pm26 an26 cd26 ct26), sl26⟩)
    (c26 : PySem.W.codeIn K cd26 "format_lane" = true)
    (k26 : PySem.W.keepIn K (.ref f26) = true)
    (a_ulaw_taken : PySem.W.nsIn K mainGlobals "_law_taken" = some (some (.ref f27)))
    (l27 : K.lookup f27 = some ⟨oc27, od27, .func (PySem.W.fnOf "_law_taken" "_law_taken" (defArgs s_ulaw_taken) (defBody s_ulaw_taken) (defScope s_ulaw_taken) .none kV27 dc27 pm27 an27 cd27 ct27), sl27⟩)
    (c27 : PySem.W.codeIn K cd27 "_law_taken" = true)
    (k27 : PySem.W.keepIn K (.ref f27) = true)
    (a_ulaw_pick : PySem.W.nsIn K mainGlobals "_law_pick" = some (some (.ref f28)))
    (l28 : K.lookup f28 = some ⟨oc28, od28, .func (PySem.W.fnOf "_law_pick" "_law_pick" (defArgs s_ulaw_pick) (defBody s_ulaw_pick) (defScope s_ulaw_pick) .none kV28 dc28 pm28 an28 cd28 ct28), sl28⟩)
    (c28 : PySem.W.codeIn K cd28 "_law_pick" = true)
    (k28 : PySem.W.keepIn K (.ref f28) = true)
    (a_ulaw_name : PySem.W.nsIn K mainGlobals "_law_name" = some (some (.ref f29)))
    (l29 : K.lookup f29 = some ⟨oc29, od29, .func (PySem.W.fnOf "_law_name" "_law_name" (defArgs s_ulaw_name) (defBody s_ulaw_name) (defScope s_ulaw_name) .none kV29 dc29 pm29 an29 cd29 ct29), sl29⟩)
    (c29 : PySem.W.codeIn K cd29 "_law_name" = true)
    (k29 : PySem.W.keepIn K (.ref f29) = true)
    (a_ulaw_names : PySem.W.nsIn K mainGlobals "_law_names" = some (some (.ref f30)))
    (l30 : K.lookup f30 = some ⟨oc30, od30, .func (PySem.W.fnOf "_law_names" "_law_names" (defArgs s_ulaw_names) (defBody s_ulaw_names) (defScope s_ulaw_names) .none kV30 dc30 pm30 an30 cd30 ct30), sl30⟩)
    (c30 : PySem.W.codeIn K cd30 "_law_names" = true)
    (k30 : PySem.W.keepIn K (.ref f30) = true)
    (a_ulaw_feed : PySem.W.nsIn K mainGlobals "_law_feed" = some (some (.ref f31)))
    (l31 : K.lookup f31 = some ⟨oc31, od31, .func (PySem.W.fnOf "_law_feed" "_law_feed" (defArgs s_ulaw_feed) (defBody s_ulaw_feed) (defScope s_ulaw_feed) .none kV31 dc31 pm31 an31 cd31 ct31), sl31⟩)
    (c31 : PySem.W.codeIn K cd31 "_law_feed" = true)
    (k31 : PySem.W.keepIn K (.ref f31) = true)
    (a_ulaw_visits : PySem.W.nsIn K mainGlobals "_law_visits" = some (some (.ref f32)))
    (l32 : K.lookup f32 = some ⟨oc32, od32, .func (PySem.W.fnOf "_law_visits" "_law_visits" (defArgs s_ulaw_visits) (defBody s_ulaw_visits) (defScope s_ulaw_visits) .none kV32 dc32 pm32 an32 cd32 ct32), sl32⟩)
    (c32 : PySem.W.codeIn K cd32 "_law_visits" = true)
    (k32 : PySem.W.keepIn K (.ref f32) = true)
    (a_want_row : PySem.W.nsIn K mainGlobals "want_row" = some (some (.ref f33)))
    (l33 : K.lookup f33 = some ⟨oc33, od33, .func (PySem.W.fnOf "want_row" "want_row" (defArgs s_want_row) (defBody s_want_row) (defScope s_want_row) .none kV33 dc33 pm33 an33 cd33 ct33), sl33⟩)
    (c33 : PySem.W.codeIn K cd33 "want_row" = true)
    (k33 : PySem.W.keepIn K (.ref f33) = true)
    (a_Lane_uuinit__ : PySem.W.findIn K (.ref C_Lane) "__init__" = some (some (.ref f34)))
    (i_Lane_uuinit__ : PySem.W.isFn K (.ref f34) = true)
    (l34 : K.lookup f34 = some ⟨oc34, od34, .func (PySem.W.fnOf "__init__" "Lane.__init__" (defArgs s_Lane_uuinit__) (defBody s_Lane_uuinit__) (defScope s_Lane_uuinit__) .none kV34 dc34 pm34 an34 cd34 ct34), sl34⟩)
    (c34 : PySem.W.codeIn K cd34 "Lane.__init__" = true)
    (k34 : PySem.W.keepIn K (.ref f34) = true)
    (a_parse_lane : PySem.W.nsIn K mainGlobals "parse_lane" = some (some (.ref f35)))
    (l35 : K.lookup f35 = some ⟨oc35, od35, .func (PySem.W.fnOf "parse_lane" "parse_lane" (defArgs s_parse_lane) (defBody s_parse_lane) (defScope s_parse_lane) .none kV35 dc35 pm35 an35 cd35 ct35), sl35⟩)
    (c35 : PySem.W.codeIn K cd35 "parse_lane" = true)
    (k35 : PySem.W.keepIn K (.ref f35) = true)
    (a_ulaw_ended : PySem.W.nsIn K mainGlobals "_law_ended" = some (some (.ref f36)))
    (l36 : K.lookup f36 = some ⟨oc36, od36, .func (PySem.W.fnOf "_law_ended" "_law_ended" (defArgs s_ulaw_ended) (defBody s_ulaw_ended) (defScope s_ulaw_ended) .none kV36 dc36 pm36 an36 cd36 ct36), sl36⟩)
    (c36 : PySem.W.codeIn K cd36 "_law_ended" = true)
    (k36 : PySem.W.keepIn K (.ref f36) = true)
    (a_ulaw_refused : PySem.W.nsIn K mainGlobals "_law_refused" = some (some (.ref f37)))
    (l37 : K.lookup f37 = some ⟨oc37, od37, .func (PySem.W.fnOf "_law_refused" "_law_refused" (defArgs s_ulaw_refused) (defBody s_ulaw_refused) (defScope s_ulaw_refused) .none kV37 dc37 pm37 an37 cd37 ct37), sl37⟩)
    (c37 : PySem.W.codeIn K cd37 "_law_refused" = true)
    (k37 : PySem.W.keepIn K (.ref f37) = true)
    (a_law : PySem.W.nsIn K mainGlobals "law" = some (some (.ref f38)))
    (l38 : K.lookup f38 = some ⟨oc38, od38, .func (PySem.W.fnOf "law" "law" (defArgs s_law) (defBody s_law) (defScope s_law) .none kV38 dc38 pm38 an38 cd38 ct38), sl38⟩)
    (c38 : PySem.W.codeIn K cd38 "law" = true)
    (k38 : PySem.W.keepIn K (.ref f38) = true)
    (plain : ∀ ns : List Int, ns.length ≤ 63 → ∃ os, f_law [.val (.scr (ns.map D.int))] = .ok (.bl true) os) :
    ∃ fd : FuncData, (∀ (s : Shared) (v : Value), BindsTo s fd ⟨[v], []⟩ [("script", v)]) ∧ ∀ base : Heap, K.In base → base.Ns mainGlobals mg → FnOk l.prog w K mg base (L2N.CX l.prog w) 15 fa fd ["script"] (spScript K) := by
  have e := hfa.symm.trans (PySem.W.mg_of X G a_law)
  cases e
  have m_Lane : mg "Lane" = some (.ref C_Lane) := PySem.W.mg_of X G g_Lane
  have cls_Lane : Cls K C_Lane := ⟨pg_Lane, hd_Lane, po_Lane, sa_Lane⟩
  have ins_Lane : InsF K C_Lane := ⟨cls_Lane, cc_Lane, hn0, ht0, mo_Lane⟩
  have m_GateError : mg "GateError" = some (.ref C_GateError) := PySem.W.mg_of X G g_GateError
  have m_BadItem : mg "BadItem" = some (.ref C_BadItem) := PySem.W.mg_of X G g_BadItem
  have O_BadItem : OexC K C_BadItem := ⟨⟨_, _, _, _, _, _, _, _, _, _, _, _, _, _, _, x_BadItem, rv_BadItem⟩, sa_BadItem, eC_BadItem, tC_BadItem, kC_BadItem⟩
  have m_BadNote : mg "BadNote" = some (.ref C_BadNote) := PySem.W.mg_of X G g_BadNote
  have O_BadNote : OexC K C_BadNote := ⟨⟨_, _, _, _, _, _, _, _, _, _, _, _, _, _, _, x_BadNote, rv_BadNote⟩, sa_BadNote, eC_BadNote, tC_BadNote, kC_BadNote⟩
  have m_Taken : mg "Taken" = some (.ref C_Taken) := PySem.W.mg_of X G g_Taken
  have O_Taken : OexC K C_Taken := ⟨⟨_, _, _, _, _, _, _, _, _, _, _, _, _, _, _, x_Taken, rv_Taken⟩, sa_Taken, eC_Taken, tC_Taken, kC_Taken⟩
  have m_TooMany : mg "TooMany" = some (.ref C_TooMany) := PySem.W.mg_of X G g_TooMany
  have O_TooMany : OexC K C_TooMany := ⟨⟨_, _, _, _, _, _, _, _, _, _, _, _, _, _, _, x_TooMany, rv_TooMany⟩, sa_TooMany, eC_TooMany, tC_TooMany, kC_TooMany⟩
  have m_Unknown : mg "Unknown" = some (.ref C_Unknown) := PySem.W.mg_of X G g_Unknown
  have O_Unknown : OexC K C_Unknown := ⟨⟨_, _, _, _, _, _, _, _, _, _, _, _, _, _, _, x_Unknown, rv_Unknown⟩, sa_Unknown, eC_Unknown, tC_Unknown, kC_Unknown⟩
  have T_BadNote : ExcT K mg known (caught "BadNote") "BadNote" ["line"] := excT_mk m_BadNote ⟨ga_BadNote, gg_BadNote, eC_BadNote, hd_BadNote⟩ (fun f hf => by
    rcases List.mem_cons.mp hf with rfl | hf
    · exact n_BadNote_line
    cases hf) (fun e he => by
    rcases List.mem_cons.mp he with rfl | he
    · exact ⟨C_BadItem, m_BadItem, ex_BadItem_BadNote⟩
    rcases List.mem_cons.mp he with rfl | he
    · exact ⟨C_BadNote, m_BadNote, ex_BadNote_BadNote⟩
    rcases List.mem_cons.mp he with rfl | he
    · exact ⟨C_Taken, m_Taken, ex_Taken_BadNote⟩
    rcases List.mem_cons.mp he with rfl | he
    · exact ⟨C_TooMany, m_TooMany, ex_TooMany_BadNote⟩
    rcases List.mem_cons.mp he with rfl | he
    · exact ⟨C_Unknown, m_Unknown, ex_Unknown_BadNote⟩
    cases he)
  have T_GateError : ExcT K mg known (caught "GateError") "GateError" [] := excT_mk m_GateError ⟨ga_GateError, gg_GateError, eC_GateError, hd_GateError⟩ (fun f hf => by
    cases hf) (fun e he => by
    rcases List.mem_cons.mp he with rfl | he
    · exact ⟨C_BadItem, m_BadItem, ex_BadItem_GateError⟩
    rcases List.mem_cons.mp he with rfl | he
    · exact ⟨C_BadNote, m_BadNote, ex_BadNote_GateError⟩
    rcases List.mem_cons.mp he with rfl | he
    · exact ⟨C_Taken, m_Taken, ex_Taken_GateError⟩
    rcases List.mem_cons.mp he with rfl | he
    · exact ⟨C_TooMany, m_TooMany, ex_TooMany_GateError⟩
    rcases List.mem_cons.mp he with rfl | he
    · exact ⟨C_Unknown, m_Unknown, ex_Unknown_GateError⟩
    cases he)
  refine ⟨PySem.W.fnOf "law" "law" (defArgs s_law) (defBody s_law) (defScope s_law) .none kV38 dc38 pm38 an38 cd38 ct38, fun s v => .of_eq rfl, fun base _ _ => ?_⟩
  have E_BadItem : ErrC l.prog w K mg base "BadItem" ["index"] := errC1 m_BadItem O_BadItem i_BadItem tI_BadItem l_BadItem c_BadItem (sup_by (by decide +kernel)) rfl rfl d_BadItem f_BadItem h_BadItem w_BadItem (PySem.W.mg_none_of X G z_super) top0 th s_BadItem v_BadItem r_BadItem n_BadItem_index (by decide) (by decide) (fun us hl => match us, hl with | [_, _], _ => rfl) (fun L => rfl)
  have E_BadNote : ErrC l.prog w K mg base "BadNote" ["line"] := errC1 m_BadNote O_BadNote i_BadNote tI_BadNote l_BadNote c_BadNote (sup_by (by decide +kernel)) rfl rfl d_BadNote f_BadNote h_BadNote w_BadNote (PySem.W.mg_none_of X G z_super) top0 th s_BadNote v_BadNote r_BadNote n_BadNote_line (by decide) (by decide) (fun us hl => match us, hl with | [_, _], _ => rfl) (fun L => rfl)
  have E_Taken : ErrC l.prog w K mg base "Taken" ["value"] := errC1 m_Taken O_Taken i_Taken tI_Taken l_Taken c_Taken (sup_by (by decide +kernel)) rfl rfl d_Taken f_Taken h_Taken w_Taken (PySem.W.mg_none_of X G z_super) top0 th s_Taken v_Taken r_Taken n_Taken_value (by decide) (by decide) (fun us hl => match us, hl with | [_, _], _ => rfl) (fun L => rfl)
  have E_TooMany : ErrC l.prog w K mg base "TooMany" ["limit"] := errC1 m_TooMany O_TooMany i_TooMany tI_TooMany l_TooMany c_TooMany (sup_by (by decide +kernel)) rfl rfl d_TooMany f_TooMany h_TooMany w_TooMany (PySem.W.mg_none_of X G z_super) top0 th s_TooMany v_TooMany r_TooMany n_TooMany_limit (by decide) (by decide) (fun us hl => match us, hl with | [_, _], _ => rfl) (fun L => rfl)
  have E_Unknown : ErrC l.prog w K mg base "Unknown" ["value"] := errC1 m_Unknown O_Unknown i_Unknown tI_Unknown l_Unknown c_Unknown (sup_by (by decide +kernel)) rfl rfl d_Unknown f_Unknown h_Unknown w_Unknown (PySem.W.mg_none_of X G z_super) top0 th s_Unknown v_Unknown r_Unknown n_Unknown_value (by decide) (by decide) (fun us hl => match us, hl with | [_, _], _ => rfl) (fun L => rfl)
  have EH_BadNote : ErrH l.prog w K mg base "BadNote" ["line"] := errC1H m_BadNote O_BadNote i_BadNote tI_BadNote l_BadNote c_BadNote (sup_by (by decide +kernel)) rfl rfl d_BadNote f_BadNote h_BadNote w_BadNote (PySem.W.mg_none_of X G z_super) top0 th s_BadNote v_BadNote r_BadNote n_BadNote_line (by decide) (by decide) (fun us hl => match us, hl with | [_, _], _ => rfl) (fun L => rfl)
  have T : Txt l.prog w K mg base := { c_LAST_MINUTE := ⟨t_LAST_MINUTE, PySem.W.mg_of X G v_LAST_MINUTE⟩, c_LONGEST_NAME := ⟨t_LONGEST_NAME, PySem.W.mg_of X G v_LONGEST_NAME⟩, c_MOST_LATE := ⟨t_MOST_LATE, PySem.W.mg_of X G v_MOST_LATE⟩, c_MOST_VISITS := ⟨t_MOST_VISITS, PySem.W.mg_of X G v_MOST_VISITS⟩, c_MOST_WORK := ⟨t_MOST_WORK, PySem.W.mg_of X G v_MOST_WORK⟩, c_FIGURES := ⟨t_FIGURES, PySem.W.mg_of X G v_FIGURES⟩, c_LETTERS := ⟨t_LETTERS, PySem.W.mg_of X G v_LETTERS⟩, c_VISIT := ⟨t_VISIT, PySem.W.mg_of X G v_VISIT⟩, e_BadItem := E_BadItem, e_BadNote := E_BadNote, e_Taken := E_Taken, e_TooMany := E_TooMany, e_Unknown := E_Unknown, h_BadNote := EH_BadNote, f_Lane_visits := fld_ok m_Lane cls_Lane no_Lane_visits, i_Lane := ⟨C_Lane, m_Lane, ins_Lane, ks_Lane⟩, n_all := PySem.W.mg_none_of X G z_all, n_bool := PySem.W.mg_none_of X G z_bool, n_enumerate := PySem.W.mg_none_of X G z_enumerate, n_int := PySem.W.mg_none_of X G z_int, n_isinstance := PySem.W.mg_none_of X G z_isinstance, n_len := PySem.W.mg_none_of X G z_len, n_list := PySem.W.mg_none_of X G z_list, n_range := PySem.W.mg_none_of X G z_range, n_str := PySem.W.mg_none_of X G z_str, n_tuple := PySem.W.mg_none_of X G z_tuple, x_BadNote := T_BadNote, x_GateError := T_GateError, ok := trivial }
  have A_uwall := ok_uwall T (fun_mk (st := s_uwall) l0 c0 k0) (PySem.W.mg_of X G a_uwall)
  have A_is_whole := ok_is_whole T (fun_mk (st := s_is_whole) l1 c1 k1) (PySem.W.mg_of X G a_is_whole)
  have A_is_number := ok_is_number T (fun_mk (st := s_is_number) l2 c2 k2) (PySem.W.mg_of X G a_is_number) A_is_whole
  have A_is_row := ok_is_row T (fun_mk (st := s_is_row) l3 c3 k3) (PySem.W.mg_of X G a_is_row)
  have A_is_name := ok_is_name T (fun_mk (st := s_is_name) l4 c4 k4) (PySem.W.mg_of X G a_is_name)
  have A_frozen := ok_frozen T (fun_mk (st := s_frozen) l5 c5 k5) (PySem.W.mg_of X G a_frozen)
  have A_is_visit := ok_is_visit T (fun_mk (st := s_is_visit) l6 c6 k6) (PySem.W.mg_of X G a_is_visit) A_is_row A_is_name A_is_number
  have A_Lane_uulen__ := ok_Lane_uulen__ T (fun_mk (st := s_Lane_uulen__) l7 c7 k7) m_Lane cls_Lane ⟨a_Lane_uulen__, i_Lane_uulen__, k7⟩
  have A_Lane_uueq__ := ok_Lane_uueq__ T (fun_mk (st := s_Lane_uueq__) l8 c8 k8) m_Lane cls_Lane ⟨a_Lane_uueq__, i_Lane_uueq__, k8⟩
  have Q_Lane : EqOk l.prog w K mg base "Lane" 1 f_Lane_uueq__ := ⟨C_Lane, f8, _, ["self", "other"], m_Lane, ins_Lane, a_Lane_uueq__, i_Lane_uueq__, ne_Lane, nf_Lane, (fun_mk (st := s_Lane_uueq__) l8 c8 k8).binds (ps := ["self", "other"]) (fun _ _ _ _ _ _ us hl => match us, hl with | [_, _], _ => rfl), fnk_Lane_uueq__ T (fun_mk (st := s_Lane_uueq__) l8 c8 k8)⟩
  have A_Lane_visit := ok_Lane_visit T (fun_mk (st := s_Lane_visit) l9 c9 k9) m_Lane cls_Lane ⟨a_Lane_visit, i_Lane_visit, k9⟩
  have A_Lane_work_in := ok_Lane_work_in T (fun_mk (st := s_Lane_work_in) l10 c10 k10) m_Lane cls_Lane ⟨a_Lane_work_in, i_Lane_work_in, k10⟩ A_uwall
  have A_Lane_worst_span := ok_Lane_worst_span T (fun_mk (st := s_Lane_worst_span) l11 c11 k11) m_Lane cls_Lane ⟨a_Lane_worst_span, i_Lane_worst_span, k11⟩ A_uwall
  have A_Lane_starts := ok_Lane_starts T (fun_mk (st := s_Lane_starts) l12 c12 k12) m_Lane cls_Lane ⟨a_Lane_starts, i_Lane_starts, k12⟩ A_uwall
  have A_Lane_worst_wait := ok_Lane_worst_wait T (fun_mk (st := s_Lane_worst_wait) l13 c13 k13) m_Lane cls_Lane ⟨a_Lane_worst_wait, i_Lane_worst_wait, k13⟩ A_uwall
  have A_Lane_longest_wait := ok_Lane_longest_wait T (fun_mk (st := s_Lane_longest_wait) l14 c14 k14) m_Lane cls_Lane ⟨a_Lane_longest_wait, i_Lane_longest_wait, k14⟩ A_uwall
  have A_Lane_is_kept := ok_Lane_is_kept T (fun_mk (st := s_Lane_is_kept) l15 c15 k15) m_Lane cls_Lane ⟨a_Lane_is_kept, i_Lane_is_kept, k15⟩ A_uwall
  have A_Lane_breaking := ok_Lane_breaking T (fun_mk (st := s_Lane_breaking) l16 c16 k16) m_Lane cls_Lane ⟨a_Lane_breaking, i_Lane_breaking, k16⟩ A_uwall
  have A_Lane_is_course := ok_Lane_is_course T (fun_mk (st := s_Lane_is_course) l17 c17 k17) m_Lane cls_Lane ⟨a_Lane_is_course, i_Lane_is_course, k17⟩ A_uwall
  have A_Lane_waits := ok_Lane_waits T (fun_mk (st := s_Lane_waits) l18 c18 k18) m_Lane cls_Lane ⟨a_Lane_waits, i_Lane_waits, k18⟩ A_uwall
  have A_Lane_last_end := ok_Lane_last_end T (fun_mk (st := s_Lane_last_end) l19 c19 k19) m_Lane cls_Lane ⟨a_Lane_last_end, i_Lane_last_end, k19⟩ A_uwall
  have A_Lane_could_add := ok_Lane_could_add T (fun_mk (st := s_Lane_could_add) l20 c20 k20) m_Lane cls_Lane ⟨a_Lane_could_add, i_Lane_could_add, k20⟩ A_uwall
  have A_Lane_next_free := ok_Lane_next_free T (fun_mk (st := s_Lane_next_free) l21 c21 k21) m_Lane cls_Lane ⟨a_Lane_next_free, i_Lane_next_free, k21⟩ A_uwall
  have A_Lane_most_late := ok_Lane_most_late T (fun_mk (st := s_Lane_most_late) l22 c22 k22) m_Lane cls_Lane ⟨a_Lane_most_late, i_Lane_most_late, k22⟩ A_uwall
  have A_Lane_with_late := ok_Lane_with_late T (fun_mk (st := s_Lane_with_late) l23 c23 k23) m_Lane cls_Lane ⟨a_Lane_with_late, i_Lane_with_late, k23⟩ A_uwall
  have A_number_in := ok_number_in T (fun_mk (st := s_number_in) l24 c24 k24) (PySem.W.mg_of X G a_number_in)
  have A_visit_in := ok_visit_in T (fun_mk (st := s_visit_in) l25 c25 k25) (PySem.W.mg_of X G a_visit_in) A_number_in
  have A_format_lane := ok_format_lane T (fun_mk (st := s_format_lane) l26 c26 k26) (PySem.W.mg_of X G a_format_lane)
  have A_ulaw_taken := ok_ulaw_taken T (fun_mk (st := s_ulaw_taken) l27 c27 k27) (PySem.W.mg_of X G a_ulaw_taken)
  have A_ulaw_pick := ok_ulaw_pick T (fun_mk (st := s_ulaw_pick) l28 c28 k28) (PySem.W.mg_of X G a_ulaw_pick) A_ulaw_taken
  have A_ulaw_name := ok_ulaw_name T (fun_mk (st := s_ulaw_name) l29 c29 k29) (PySem.W.mg_of X G a_ulaw_name) A_ulaw_pick A_ulaw_taken
  have A_ulaw_names := ok_ulaw_names T (fun_mk (st := s_ulaw_names) l30 c30 k30) (PySem.W.mg_of X G a_ulaw_names) A_ulaw_name
  have A_ulaw_feed := ok_ulaw_feed T (fun_mk (st := s_ulaw_feed) l31 c31 k31) (PySem.W.mg_of X G a_ulaw_feed)
  have A_ulaw_visits := ok_ulaw_visits T (fun_mk (st := s_ulaw_visits) l32 c32 k32) (PySem.W.mg_of X G a_ulaw_visits) A_ulaw_names A_ulaw_taken
  have A_want_row := ok_want_row T (fun_mk (st := s_want_row) l33 c33 k33) (PySem.W.mg_of X G a_want_row) A_is_row A_is_visit (A_frozen 8)
  have A_Lane := ok_Lane_uuinit__ T (fun_mk (st := s_Lane_uuinit__) l34 c34 k34) m_Lane ⟨mk_Lane, a_Lane_uuinit__, i_Lane_uuinit__, kc_Lane⟩ A_is_visit A_want_row
  have A_parse_lane := ok_parse_lane T (fun_mk (st := s_parse_lane) l35 c35 k35) (PySem.W.mg_of X G a_parse_lane) A_visit_in A_Lane
  have A_ulaw_ended := ok_ulaw_ended T (fun_mk (st := s_ulaw_ended) l36 c36 k36) (PySem.W.mg_of X G a_ulaw_ended) A_ulaw_feed
  have A_ulaw_refused := ok_ulaw_refused T (fun_mk (st := s_ulaw_refused) l37 c37 k37) (PySem.W.mg_of X G a_ulaw_refused) A_parse_lane
  exact (ok_law T (fun_mk (st := s_law) l38 c38 k38) A_ulaw_visits A_ulaw_ended A_Lane A_format_lane A_parse_lane Q_Lane A_ulaw_refused A_ulaw_feed A_ulaw_taken).imp (script_sp plain)
end DL
open PySem PySem.W PyProof.Rows in
set_option maxRecDepth 100000 in
set_option maxHeartbeats 0 in
theorem PySem.Challenge.cw_gateskept_k12_whole_notes_holds : PySem.Challenge.rw_gateskept_k12_whole_notes.Holds := by
  w_on; o_law; k_head; (case hw => w_witness2)
  k_fill
  refine DL.walk_script (l := PySem.Challenge.rw_gateskept_k12_whole_notes) (k := 15) rfl rfl ⟨rfl, by decide, by decide⟩ (fun w h Y => PySem.W.kIn_of Y) ?F
  case F =>
    intro w mg fa h KX G hmg
    replace hmg : mg "law" = some (.ref fa) := hmg
    refine' DL.all_mk KX G hmg ?top0 ?p_g_Lane ?p_pg_Lane ?p_hd_Lane ?p_po_Lane ?p_sa_Lane ?p_mk_Lane ?p_kc_Lane ?p_cc_Lane ?p_mo_Lane ?p_ne_Lane ?p_nf_Lane ?p_ks_Lane ?p_hn0 ?p_ht0 ?p_no_Lane_visits ?p_z_all ?p_z_bool ?p_z_enumerate ?p_z_int ?p_z_isinstance ?p_z_len ?p_z_list ?p_z_range ?p_z_str ?p_z_tuple ?p_z_super ?p_th ?p_v_LAST_MINUTE ?p_v_LONGEST_NAME ?p_v_MOST_LATE ?p_v_MOST_VISITS ?p_v_MOST_WORK ?p_v_FIGURES ?p_v_LETTERS ?p_v_VISIT ?p_g_GateError ?p_ga_GateError ?p_gg_GateError ?p_hd_GateError ?p_eC_GateError ?p_g_BadItem ?p_x_BadItem ?p_rv_BadItem ?p_sa_BadItem ?p_eC_BadItem ?p_tC_BadItem ?p_kC_BadItem ?p_i_BadItem ?p_tI_BadItem ?p_l_BadItem ?p_c_BadItem ?p_d_BadItem ?p_f_BadItem ?p_h_BadItem ?p_w_BadItem ?p_s_BadItem ?p_v_BadItem ?p_r_BadItem ?p_n_BadItem_index ?p_ga_BadItem ?p_gg_BadItem ?p_hd_BadItem ?p_g_BadNote ?p_x_BadNote ?p_rv_BadNote ?p_sa_BadNote ?p_eC_BadNote ?p_tC_BadNote ?p_kC_BadNote ?p_i_BadNote ?p_tI_BadNote ?p_l_BadNote ?p_c_BadNote ?p_d_BadNote ?p_f_BadNote ?p_h_BadNote ?p_w_BadNote ?p_s_BadNote ?p_v_BadNote ?p_r_BadNote ?p_n_BadNote_line ?p_ga_BadNote ?p_gg_BadNote ?p_hd_BadNote ?p_g_Taken ?p_x_Taken ?p_rv_Taken ?p_sa_Taken ?p_eC_Taken ?p_tC_Taken ?p_kC_Taken ?p_i_Taken ?p_tI_Taken ?p_l_Taken ?p_c_Taken ?p_d_Taken ?p_f_Taken ?p_h_Taken ?p_w_Taken ?p_s_Taken ?p_v_Taken ?p_r_Taken ?p_n_Taken_value ?p_ga_Taken ?p_gg_Taken ?p_hd_Taken ?p_g_TooMany ?p_x_TooMany ?p_rv_TooMany ?p_sa_TooMany ?p_eC_TooMany ?p_tC_TooMany ?p_kC_TooMany ?p_i_TooMany ?p_tI_TooMany ?p_l_TooMany ?p_c_TooMany ?p_d_TooMany ?p_f_TooMany ?p_h_TooMany ?p_w_TooMany ?p_s_TooMany ?p_v_TooMany ?p_r_TooMany ?p_n_TooMany_limit ?p_ga_TooMany ?p_gg_TooMany ?p_hd_TooMany ?p_g_Unknown ?p_x_Unknown ?p_rv_Unknown ?p_sa_Unknown ?p_eC_Unknown ?p_tC_Unknown ?p_kC_Unknown ?p_i_Unknown ?p_tI_Unknown ?p_l_Unknown ?p_c_Unknown ?p_d_Unknown ?p_f_Unknown ?p_h_Unknown ?p_w_Unknown ?p_s_Unknown ?p_v_Unknown ?p_r_Unknown ?p_n_Unknown_value ?p_ga_Unknown ?p_gg_Unknown ?p_hd_Unknown ?p_ex_BadItem_BadNote ?p_ex_BadNote_BadNote ?p_ex_Taken_BadNote ?p_ex_TooMany_BadNote ?p_ex_Unknown_BadNote ?p_ex_BadItem_GateError ?p_ex_BadNote_GateError ?p_ex_Taken_GateError ?p_ex_TooMany_GateError ?p_ex_Unknown_GateError ?p_a_uwall ?p_l0 ?p_c0 ?p_k0 ?p_a_is_whole ?p_l1 ?p_c1 ?p_k1 ?p_a_is_number ?p_l2 ?p_c2 ?p_k2 ?p_a_is_row ?p_l3 ?p_c3 ?p_k3 ?p_a_is_name ?p_l4 ?p_c4 ?p_k4 ?p_a_frozen ?p_l5 ?p_c5 ?p_k5 ?p_a_is_visit ?p_l6 ?p_c6 ?p_k6 ?p_a_Lane_uulen__ ?p_i_Lane_uulen__ ?p_l7 ?p_c7 ?p_k7 ?p_a_Lane_uueq__ ?p_i_Lane_uueq__ ?p_l8 ?p_c8 ?p_k8 ?p_a_Lane_visit ?p_i_Lane_visit ?p_l9 ?p_c9 ?p_k9 ?p_a_Lane_work_in ?p_i_Lane_work_in ?p_l10 ?p_c10 ?p_k10 ?p_a_Lane_worst_span ?p_i_Lane_worst_span ?p_l11 ?p_c11 ?p_k11 ?p_a_Lane_starts ?p_i_Lane_starts ?p_l12 ?p_c12 ?p_k12 ?p_a_Lane_worst_wait ?p_i_Lane_worst_wait ?p_l13 ?p_c13 ?p_k13 ?p_a_Lane_longest_wait ?p_i_Lane_longest_wait ?p_l14 ?p_c14 ?p_k14 ?p_a_Lane_is_kept ?p_i_Lane_is_kept ?p_l15 ?p_c15 ?p_k15 ?p_a_Lane_breaking ?p_i_Lane_breaking ?p_l16 ?p_c16 ?p_k16 ?p_a_Lane_is_course ?p_i_Lane_is_course ?p_l17 ?p_c17 ?p_k17 ?p_a_Lane_waits ?p_i_Lane_waits ?p_l18 ?p_c18 ?p_k18 ?p_a_Lane_last_end ?p_i_Lane_last_end ?p_l19 ?p_c19 ?p_k19 ?p_a_Lane_could_add ?p_i_Lane_could_add ?p_l20 ?p_c20 ?p_k20 ?p_a_Lane_next_free ?p_i_Lane_next_free ?p_l21 ?p_c21 ?p_k21 ?p_a_Lane_most_late ?p_i_Lane_most_late ?p_l22 ?p_c22 ?p_k22 ?p_a_Lane_with_late ?p_i_Lane_with_late ?p_l23 ?p_c23 ?p_k23 ?p_a_number_in ?p_l24 ?p_c24 ?p_k24 ?p_a_visit_in ?p_l25 ?p_c25 ?p_k25 ?p_a_format_lane ?p_l26 ?p_c26 ?p_k26 ?p_a_ulaw_taken ?p_l27 ?p_c27 ?p_k27 ?p_a_ulaw_pick ?p_l28 ?p_c28 ?p_k28 ?p_a_ulaw_name ?p_l29 ?p_c29 ?p_k29 ?p_a_ulaw_names ?p_l30 ?p_c30 ?p_k30 ?p_a_ulaw_feed ?p_l31 ?p_c31 ?p_k31 ?p_a_ulaw_visits ?p_l32 ?p_c32 ?p_k32 ?p_a_want_row ?p_l33 ?p_c33 ?p_k33 ?p_a_Lane_uuinit__ ?p_i_Lane_uuinit__ ?p_l34 ?p_c34 ?p_k34 ?p_a_parse_lane ?p_l35 ?p_c35 ?p_k35 ?p_a_ulaw_ended ?p_l36 ?p_c36 ?p_k36 ?p_a_ulaw_refused ?p_l37 ?p_c37 ?p_k37 ?p_a_law ?p_l38 ?p_c38 ?p_k38 ?plain
    (case top0 => first | rfl | decide +kernel)
    (case p_g_Lane => k_is)
    (case p_pg_Lane => k_is)
    (case p_hd_Lane => k_is)
    (case p_po_Lane => k_is)
    (case p_sa_Lane => k_is)
    (case p_mk_Lane => k_is)
    (case p_kc_Lane => k_is)
    (case p_cc_Lane => k_is)
    (case p_mo_Lane => k_is)
    (case p_ne_Lane => k_is)
    (case p_nf_Lane => first | rfl | kernel_rfl | decide +kernel)
    (case p_ks_Lane => first | rfl | kernel_rfl | decide +kernel)
    (case p_hn0 => k_is)
    (case p_ht0 => k_is)
    (case p_no_Lane_visits => k_is)
    (case p_z_all => k_is)
    (case p_z_bool => k_is)
    (case p_z_enumerate => k_is)
    (case p_z_int => k_is)
    (case p_z_isinstance => k_is)
    (case p_z_len => k_is)
    (case p_z_list => k_is)
    (case p_z_range => k_is)
    (case p_z_str => k_is)
    (case p_z_tuple => k_is)
    (case p_z_super => k_is)
    (case p_th => k_is)
    (case p_v_LAST_MINUTE => k_is)
    (case p_v_LONGEST_NAME => k_is)
    (case p_v_MOST_LATE => k_is)
    (case p_v_MOST_VISITS => k_is)
    (case p_v_MOST_WORK => k_is)
    (case p_v_FIGURES => k_is)
    (case p_v_LETTERS => k_is)
    (case p_v_VISIT => k_is)
    (case p_g_GateError => k_is)
    (case p_ga_GateError => k_is)
    (case p_gg_GateError => k_is)
    (case p_hd_GateError => k_is)
    (case p_eC_GateError => k_is)
    (case p_g_BadItem => k_is)
    (case p_x_BadItem => k_is)
    (case p_rv_BadItem => first | rfl | decide +kernel)
    (case p_sa_BadItem => k_is)
    (case p_eC_BadItem => k_is)
    (case p_tC_BadItem => k_is)
    (case p_kC_BadItem => k_is)
    (case p_i_BadItem => k_is)
    (case p_tI_BadItem => k_is)
    (case p_l_BadItem => k_is)
    (case p_c_BadItem => k_is)
    (case p_d_BadItem => k_is)
    (case p_f_BadItem => rfl)
    (case p_h_BadItem => first | rfl | decide +kernel)
    (case p_w_BadItem => k_is)
    (case p_s_BadItem => first | ks_is | kernel_rfl | rfl)
    (case p_v_BadItem => k_is)
    (case p_r_BadItem => k_is)
    (case p_n_BadItem_index => k_is)
    (case p_ga_BadItem => k_is)
    (case p_gg_BadItem => k_is)
    (case p_hd_BadItem => k_is)
    (case p_g_BadNote => k_is)
    (case p_x_BadNote => k_is)
    (case p_rv_BadNote => first | rfl | decide +kernel)
    (case p_sa_BadNote => k_is)
    (case p_eC_BadNote => k_is)
    (case p_tC_BadNote => k_is)
    (case p_kC_BadNote => k_is)
    (case p_i_BadNote => k_is)
    (case p_tI_BadNote => k_is)
    (case p_l_BadNote => k_is)
    (case p_c_BadNote => k_is)
    (case p_d_BadNote => k_is)
    (case p_f_BadNote => rfl)
    (case p_h_BadNote => first | rfl | decide +kernel)
    (case p_w_BadNote => k_is)
    (case p_s_BadNote => first | ks_is | kernel_rfl | rfl)
    (case p_v_BadNote => k_is)
    (case p_r_BadNote => k_is)
    (case p_n_BadNote_line => k_is)
    (case p_ga_BadNote => k_is)
    (case p_gg_BadNote => k_is)
    (case p_hd_BadNote => k_is)
    (case p_g_Taken => k_is)
    (case p_x_Taken => k_is)
    (case p_rv_Taken => first | rfl | decide +kernel)
    (case p_sa_Taken => k_is)
    (case p_eC_Taken => k_is)
    (case p_tC_Taken => k_is)
    (case p_kC_Taken => k_is)
    (case p_i_Taken => k_is)
    (case p_tI_Taken => k_is)
    (case p_l_Taken => k_is)
    (case p_c_Taken => k_is)
    (case p_d_Taken => k_is)
    (case p_f_Taken => rfl)
    (case p_h_Taken => first | rfl | decide +kernel)
    (case p_w_Taken => k_is)
    (case p_s_Taken => first | ks_is | kernel_rfl | rfl)
    (case p_v_Taken => k_is)
    (case p_r_Taken => k_is)
    (case p_n_Taken_value => k_is)
    (case p_ga_Taken => k_is)
    (case p_gg_Taken => k_is)
    (case p_hd_Taken => k_is)
    (case p_g_TooMany => k_is)
    (case p_x_TooMany => k_is)
    (case p_rv_TooMany => first | rfl | decide +kernel)
    (case p_sa_TooMany => k_is)
    (case p_eC_TooMany => k_is)
    (case p_tC_TooMany => k_is)
    (case p_kC_TooMany => k_is)
    (case p_i_TooMany => k_is)
    (case p_tI_TooMany => k_is)
    (case p_l_TooMany => k_is)
    (case p_c_TooMany => k_is)
    (case p_d_TooMany => k_is)
    (case p_f_TooMany => rfl)
    (case p_h_TooMany => first | rfl | decide +kernel)
    (case p_w_TooMany => k_is)
    (case p_s_TooMany => first | ks_is | kernel_rfl | rfl)
    (case p_v_TooMany => k_is)
    (case p_r_TooMany => k_is)
    (case p_n_TooMany_limit => k_is)
    (case p_ga_TooMany => k_is)
    (case p_gg_TooMany => k_is)
    (case p_hd_TooMany => k_is)
    (case p_g_Unknown => k_is)
    (case p_x_Unknown => k_is)
    (case p_rv_Unknown => first | rfl | decide +kernel)
    (case p_sa_Unknown => k_is)
    (case p_eC_Unknown => k_is)
    (case p_tC_Unknown => k_is)
    (case p_kC_Unknown => k_is)
    (case p_i_Unknown => k_is)
    (case p_tI_Unknown => k_is)
    (case p_l_Unknown => k_is)
    (case p_c_Unknown => k_is)
    (case p_d_Unknown => k_is)
    (case p_f_Unknown => rfl)
    (case p_h_Unknown => first | rfl | decide +kernel)
    (case p_w_Unknown => k_is)
    (case p_s_Unknown => first | ks_is | kernel_rfl | rfl)
    (case p_v_Unknown => k_is)
    (case p_r_Unknown => k_is)
    (case p_n_Unknown_value => k_is)
    (case p_ga_Unknown => k_is)
    (case p_gg_Unknown => k_is)
    (case p_hd_Unknown => k_is)
    (case p_ex_BadItem_BadNote => first | k_is | rfl | kernel_rfl)
    (case p_ex_BadNote_BadNote => first | k_is | rfl | kernel_rfl)
    (case p_ex_Taken_BadNote => first | k_is | rfl | kernel_rfl)
    (case p_ex_TooMany_BadNote => first | k_is | rfl | kernel_rfl)
    (case p_ex_Unknown_BadNote => first | k_is | rfl | kernel_rfl)
    (case p_ex_BadItem_GateError => first | k_is | rfl | kernel_rfl)
    (case p_ex_BadNote_GateError => first | k_is | rfl | kernel_rfl)
    (case p_ex_Taken_GateError => first | k_is | rfl | kernel_rfl)
    (case p_ex_TooMany_GateError => first | k_is | rfl | kernel_rfl)
    (case p_ex_Unknown_GateError => first | k_is | rfl | kernel_rfl)
    (case p_a_uwall => k_is)
    (case p_l0 => k_is)
    (case p_c0 => k_is)
    (case p_k0 => k_is)
    (case p_a_is_whole => k_is)
    (case p_l1 => k_is)
    (case p_c1 => k_is)
    (case p_k1 => k_is)
    (case p_a_is_number => k_is)
    (case p_l2 => k_is)
    (case p_c2 => k_is)
    (case p_k2 => k_is)
    (case p_a_is_row => k_is)
    (case p_l3 => k_is)
    (case p_c3 => k_is)
    (case p_k3 => k_is)
    (case p_a_is_name => k_is)
    (case p_l4 => k_is)
    (case p_c4 => k_is)
    (case p_k4 => k_is)
    (case p_a_frozen => k_is)
    (case p_l5 => k_is)
    (case p_c5 => k_is)
    (case p_k5 => k_is)
    (case p_a_is_visit => k_is)
    (case p_l6 => k_is)
    (case p_c6 => k_is)
    (case p_k6 => k_is)
    (case p_a_Lane_uulen__ => k_is)
    (case p_i_Lane_uulen__ => k_is)
    (case p_l7 => k_is)
    (case p_c7 => k_is)
    (case p_k7 => k_is)
    (case p_a_Lane_uueq__ => k_is)
    (case p_i_Lane_uueq__ => k_is)
    (case p_l8 => k_is)
    (case p_c8 => k_is)
    (case p_k8 => k_is)
    (case p_a_Lane_visit => k_is)
    (case p_i_Lane_visit => k_is)
    (case p_l9 => k_is)
    (case p_c9 => k_is)
    (case p_k9 => k_is)
    (case p_a_Lane_work_in => k_is)
    (case p_i_Lane_work_in => k_is)
    (case p_l10 => k_is)
    (case p_c10 => k_is)
    (case p_k10 => k_is)
    (case p_a_Lane_worst_span => k_is)
    (case p_i_Lane_worst_span => k_is)
    (case p_l11 => k_is)
    (case p_c11 => k_is)
    (case p_k11 => k_is)
    (case p_a_Lane_starts => k_is)
    (case p_i_Lane_starts => k_is)
    (case p_l12 => k_is)
    (case p_c12 => k_is)
    (case p_k12 => k_is)
    (case p_a_Lane_worst_wait => k_is)
    (case p_i_Lane_worst_wait => k_is)
    (case p_l13 => k_is)
    (case p_c13 => k_is)
    (case p_k13 => k_is)
    (case p_a_Lane_longest_wait => k_is)
    (case p_i_Lane_longest_wait => k_is)
    (case p_l14 => k_is)
    (case p_c14 => k_is)
    (case p_k14 => k_is)
    (case p_a_Lane_is_kept => k_is)
    (case p_i_Lane_is_kept => k_is)
    (case p_l15 => k_is)
    (case p_c15 => k_is)
    (case p_k15 => k_is)
    (case p_a_Lane_breaking => k_is)
    (case p_i_Lane_breaking => k_is)
    (case p_l16 => k_is)
    (case p_c16 => k_is)
    (case p_k16 => k_is)
    (case p_a_Lane_is_course => k_is)
    (case p_i_Lane_is_course => k_is)
    (case p_l17 => k_is)
    (case p_c17 => k_is)
    (case p_k17 => k_is)
    (case p_a_Lane_waits => k_is)
    (case p_i_Lane_waits => k_is)
    (case p_l18 => k_is)
    (case p_c18 => k_is)
    (case p_k18 => k_is)
    (case p_a_Lane_last_end => k_is)
    (case p_i_Lane_last_end => k_is)
    (case p_l19 => k_is)
    (case p_c19 => k_is)
    (case p_k19 => k_is)
    (case p_a_Lane_could_add => k_is)
    (case p_i_Lane_could_add => k_is)
    (case p_l20 => k_is)
    (case p_c20 => k_is)
    (case p_k20 => k_is)
    (case p_a_Lane_next_free => k_is)
    (case p_i_Lane_next_free => k_is)
    (case p_l21 => k_is)
    (case p_c21 => k_is)
    (case p_k21 => k_is)
    (case p_a_Lane_most_late => k_is)
    (case p_i_Lane_most_late => k_is)
    (case p_l22 => k_is)
    (case p_c22 => k_is)
    (case p_k22 => k_is)
    (case p_a_Lane_with_late => k_is)
    (case p_i_Lane_with_late => k_is)
    (case p_l23 => k_is)
    (case p_c23 => k_is)
    (case p_k23 => k_is)
    (case p_a_number_in => k_is)
    (case p_l24 => k_is)
    (case p_c24 => k_is)
    (case p_k24 => k_is)
    (case p_a_visit_in => k_is)
    (case p_l25 => k_is)
    (case p_c25 => k_is)
    (case p_k25 => k_is)
    (case p_a_format_lane => k_is)
    (case p_l26 => k_is)
    (case p_c26 => k_is)
    (case p_k26 => k_is)
    (case p_a_ulaw_taken => k_is)
    (case p_l27 => k_is)
    (case p_c27 => k_is)
    (case p_k27 => k_is)
    (case p_a_ulaw_pick => k_is)
    (case p_l28 => k_is)
    (case p_c28 => k_is)
    (case p_k28 => k_is)
    (case p_a_ulaw_name => k_is)
    (case p_l29 => k_is)
    (case p_c29 => k_is)
    (case p_k29 => k_is)
    (case p_a_ulaw_names => k_is)
    (case p_l30 => k_is)
    (case p_c30 => k_is)
    (case p_k30 => k_is)
    (case p_a_ulaw_feed => k_is)
    (case p_l31 => k_is)
    (case p_c31 => k_is)
    (case p_k31 => k_is)
    (case p_a_ulaw_visits => k_is)
    (case p_l32 => k_is)
    (case p_c32 => k_is)
    (case p_k32 => k_is)
    (case p_a_want_row => k_is)
    (case p_l33 => k_is)
    (case p_c33 => k_is)
    (case p_k33 => k_is)
    (case p_a_Lane_uuinit__ => k_is)
    (case p_i_Lane_uuinit__ => k_is)
    (case p_l34 => k_is)
    (case p_c34 => k_is)
    (case p_k34 => k_is)
    (case p_a_parse_lane => k_is)
    (case p_l35 => k_is)
    (case p_c35 => k_is)
    (case p_k35 => k_is)
    (case p_a_ulaw_ended => k_is)
    (case p_l36 => k_is)
    (case p_c36 => k_is)
    (case p_k36 => k_is)
    (case p_a_ulaw_refused => k_is)
    (case p_l37 => k_is)
    (case p_c37 => k_is)
    (case p_k37 => k_is)
    (case p_a_law => k_is)
    (case p_l38 => k_is)
    (case p_c38 => k_is)
    (case p_k38 => k_is)
    (case plain => exact DL.law_plain)
