import PyProof.Rows.All
import Wide.All
import OpenK.AllK
import Wide.FinOn
import HandS.ForMost
import HandS.ForExc
import HandS.IsInst
import HandS.Flow
import HandS.Style
import HandS.Conv
import HandS.Wide
import HandS.SortInts
import HandS.Defaults
import HandS.HeadHook1
import HandS.Lambda
import HandS.ExcOwn
import HandS.WordsExc
import HandS.Deep
import HandS.TupAny
import HandS.NoneIn
import HandS.Text
import HandS.HeadHook2
import HandS.HeadEnd
import HandS.More
import HandS.SetKeys
import HandS.DictComp
import HandS.Zip
import KE.SortKeyHeap
import HandS.SortKw
import HandS.Head2
import HandS.HeadWalk
import HandS.Head0
import HandS.Head1
import PySem.Challenge.RW_truceroll_k26_shortest_clauses
set_option Elab.async false
set_option linter.all false
set_option maxRecDepth 100000
set_option maxHeartbeats 4000000
/-! Dl: values as data trees over the hand layer: what is told is frozen, what a name holds alone may be changed. -/
namespace Dl
open PySem PySem.Spec L2
set_option autoImplicit false
abbrev Sg := L2.St

abbrev D := PyData

mutual
/-- v stands for the tree d, read in F alone -/
inductive Rp (K : PySem.W.Frag) (F : Hp) : V → D → Prop
  | non : Rp K F .non .none
  | bl (b : Bool) : Rp K F (.bl b) (.bool b)
  | int (i : Int) : Rp K F (.int i) (.int i)
  | str (x : Str) : Rp K F (.str x) (.str x)
  | lst {a : Addr} {xs : List V} {ds : List D} : F a = some (.lst xs) → RpA K F xs ds → Rp K F (.ref a) (.list ds)
  | tup {a : Addr} {xs : List V} {ds : List D} : F a = some (.tup xs) → RpA K F xs ds → Rp K F (.ref a) (.tuple ds)
  | dct {a : Addr} {kvs : List (Key × V)} {ps : List (D × D)} : F a = some (.dK kvs) → RpD K F kvs ps → Rp K F (.ref a) (.dict ps)
inductive RpA (K : PySem.W.Frag) (F : Hp) : List V → List D → Prop
  | nil : RpA K F [] []
  | cons {v : V} {vs : List V} {d : D} {ds : List D} : Rp K F v d → RpA K F vs ds → RpA K F (v :: vs) (d :: ds)
inductive RpD (K : PySem.W.Frag) (F : Hp) : List (Key × V) → List (D × D) → Prop
  | nil : RpD K F [] []
  | cons {k : Key} {v : V} {kvs : List (Key × V)} {c d : D} {ps : List (D × D)} : c = (match k with | .inl i => .int i | .inr x => .str x) → Rp K F v d → RpD K F kvs ps → RpD K F ((k, v) :: kvs) ((c, d) :: ps)
end

def Ext (F F' : Hp) : Prop := ∀ a o, F a = some o → F' a = some o
theorem Ext.refl (F : Hp) : Ext F F := fun _ _ h => h
theorem Ext.trans {F G H : Hp} (a : Ext F G) (b : Ext G H) : Ext F H := fun x o h => b x o (a x o h)
mutual
theorem Rp.mono {K : PySem.W.Frag} {F F' : Hp} (e : Ext F F') : ∀ {v : V} {d : D}, Rp K F v d → Rp K F' v d
  | _, _, .non => .non
  | _, _, .bl b => .bl b
  | _, _, .int i => .int i
  | _, _, .str x => .str x
  | _, _, .lst h r => .lst (e _ _ h) (RpA.mono e r)
  | _, _, .tup h r => .tup (e _ _ h) (RpA.mono e r)
  | _, _, .dct h r => .dct (e _ _ h) (RpD.mono e r)
theorem RpA.mono {K : PySem.W.Frag} {F F' : Hp} (e : Ext F F') : ∀ {vs : List V} {ds : List D}, RpA K F vs ds → RpA K F' vs ds
  | _, _, .nil => .nil
  | _, _, .cons h r => .cons (Rp.mono e h) (RpA.mono e r)
theorem RpD.mono {K : PySem.W.Frag} {F F' : Hp} (e : Ext F F') : ∀ {vs : List (Key × V)} {ds : List (D × D)}, RpD K F vs ds → RpD K F' vs ds
  | _, _, .nil => .nil
  | _, _, .cons c h r => .cons c (Rp.mono e h) (RpD.mono e r)
end
theorem RpA.length {K : PySem.W.Frag} {F : Hp} : ∀ {vs : List V} {ds : List D}, RpA K F vs ds → vs.length = ds.length
  | _, _, .nil => rfl
  | _, _, .cons _ r => congrArg Nat.succ (RpA.length r)
theorem RpD.length {K : PySem.W.Frag} {F : Hp} : ∀ {vs : List (Key × V)} {ds : List (D × D)}, RpD K F vs ds → vs.length = ds.length
  | _, _, .nil => rfl
  | _, _, .cons _ _ r => congrArg Nat.succ (RpD.length r)
theorem RpA.get {K : PySem.W.Frag} {F : Hp} : ∀ {vs : List V} {ds : List D} {i : Nat} {d : D}, RpA K F vs ds → ds[i]? = some d → ∃ v, vs[i]? = some v ∧ Rp K F v d
  | _, _, _, _, .nil, h => by simp at h
  | _, _, 0, _, .cons h _, e => by simp at e; subst e; exact ⟨_, rfl, h⟩
  | _, _, i + 1, _, .cons _ r, e => by
    obtain ⟨v, h1, h2⟩ := RpA.get (i := i) r (by simpa using e)
    exact ⟨v, by simpa using h1, h2⟩
theorem RpA.getv {K : PySem.W.Frag} {F : Hp} : ∀ {vs : List V} {ds : List D} {i : Nat} {v : V}, RpA K F vs ds → vs[i]? = some v → ∃ d, ds[i]? = some d ∧ Rp K F v d
  | _, _, _, _, .nil, h => by simp at h
  | _, _, 0, _, .cons h _, e => by simp at e; subst e; exact ⟨_, rfl, h⟩
  | _, _, i + 1, _, .cons _ r, e => by
    obtain ⟨v, h1, h2⟩ := RpA.getv (i := i) r (by simpa using e)
    exact ⟨v, by simpa using h1, h2⟩
theorem RpA.append {K : PySem.W.Frag} {F : Hp} : ∀ {vs ws : List V} {ds es : List D}, RpA K F vs ds → RpA K F ws es → RpA K F (vs ++ ws) (ds ++ es)
  | _, _, _, _, .nil, s => s
  | _, _, _, _, .cons h r, s => .cons h (RpA.append r s)
theorem RpA.take {K : PySem.W.Frag} {F : Hp} : ∀ {vs : List V} {ds : List D} (n : Nat), RpA K F vs ds → RpA K F (vs.take n) (ds.take n)
  | _, _, 0, _ => .nil
  | _, _, _ + 1, .nil => .nil
  | _, _, n + 1, .cons h r => .cons h (RpA.take n r)
theorem RpA.drop {K : PySem.W.Frag} {F : Hp} : ∀ {vs : List V} {ds : List D} (n : Nat), RpA K F vs ds → RpA K F (vs.drop n) (ds.drop n)
  | _, _, 0, r => r
  | _, _, _ + 1, .nil => .nil
  | _, _, n + 1, .cons _ r => RpA.drop n r
theorem RpA.set {K : PySem.W.Frag} {F : Hp} {v : V} {d : D} (h : Rp K F v d) : ∀ {vs : List V} {ds : List D} (n : Nat), RpA K F vs ds → RpA K F (vs.set n v) (ds.set n d)
  | _, _, _, .nil => .nil
  | _, _, 0, .cons _ r => .cons h r
  | _, _, n + 1, .cons g r => .cons g (RpA.set h n r)
theorem RpA.reverse {K : PySem.W.Frag} {F : Hp} : ∀ {vs : List V} {ds : List D}, RpA K F vs ds → RpA K F vs.reverse ds.reverse
  | _, _, .nil => .nil
  | _, _, .cons h r => by rw [List.reverse_cons, List.reverse_cons]; exact RpA.append (RpA.reverse r) (.cons h .nil)
/-! ### tables of code objects: the defs that make lambdas -/
def lamNames : List Str := ["clauses_in_order", "in_order", "least_masks"]
def tabAt : Option Obj → Option Addr
  | some o => (match o.data with
    | .fields vs => (match (vs[11]? : Option Value) with
      | some (.ref P) => some P
      | _ => none)
    | _ => none)
  | none => none
def codeAt : Option Obj → Option Addr
  | some o => (match o.data with
    | .func fd => (match fd.code with
      | .ref c => some c
      | _ => none)
    | _ => none)
  | none => none
/-- the code object of the def x, its table -/
def codeTab (K : PySem.W.Frag) (x : Str) : Option (Addr × Addr) := match PySem.W.nsIn K mainGlobals x with
  | some (some (.ref a)) => (codeAt (K.lookup a)).bind fun c => (tabAt (K.lookup c)).map fun P => (c, P)
  | _ => none
def tabsOf (K : PySem.W.Frag) : List (Addr × Str) := lamNames.filterMap fun x => (codeTab K x).map fun p => (p.2, (x ++ ".<locals>.") ++ "<lambda>")
def isTE : HO → Prop
  | .tbl _ => True
  | .ext _ => True
  | _ => False
theorem tabS_keep {H H' : Hp} {P : Addr} {q : Str} (e : ∀ b o, H b = some o → isTE o → H' b = some o) (t : LamX.TabS H P q) : LamX.TabS H' P q := by
  obtain ⟨ps, h1, h2, h3⟩ := t
  refine ⟨ps, e _ _ h1 trivial, h2, fun pos cv hc => ?_⟩
  obtain ⟨c, e1, e2⟩ := h3 pos cv hc
  exact ⟨c, e1, e _ _ e2 trivial⟩
theorem tabs_keep {T : List (Addr × Str)} {H H' : Hp} (e : ∀ b o, H b = some o → isTE o → H' b = some o) (t : LamX.Tabs T H) : LamX.Tabs T H' := fun p hp => tabS_keep e (t p hp)
theorem tabs_ext {T : List (Addr × Str)} {H H' : Hp} (e : ∀ b o, H b = some o → H' b = some o) (t : LamX.Tabs T H) : LamX.Tabs T H' := tabs_keep (fun b o h _ => e b o h) t
theorem tabs_upd {T : List (Addr × Str)} {H : Hp} {a : Addr} {o : HO} (h : ∀ u, H a = some u → ¬ isTE u) (t : LamX.Tabs T H) : LamX.Tabs T (upd H a o) := tabs_keep (fun b v e q => by
  by_cases hb : b = a
  · subst hb
    exact absurd q (h v e)
  · rw [upd_ne hb]
    exact e) t
/-- a name's place -/
inductive Slot where
  | un | dat (d : D) | own (d : D) | par (d : D) | lck (d : D)
abbrev Rho := List Slot
def Slot.data? : Slot → Option D
  | .un => none
  | .dat d => some d
  | .own d => some d
  | .par d => some d
  | .lck d => some d
def Slot.mine : Slot → Bool
  | .own _ => true
  | .par _ => true
  | .lck _ => true
  | _ => false
/-- an object that a name holds alone -/
def OwnAt (K : PySem.W.Frag) (F H : Hp) (a : Addr) : D → Prop
  | .list ds => ∃ vs, H a = some (.lst vs) ∧ RpA K F vs ds
  | .dict ps => ∃ kvs, H a = some (.dK kvs) ∧ RpD K F kvs ps
  | _ => False
theorem OwnAt.mono {K : PySem.W.Frag} {F F' H H' : Hp} {a : Addr} (e : Ext F F') (k : ∀ o, H a = some o → H' a = some o) : ∀ {d : D}, OwnAt K F H a d → OwnAt K F' H' a d
  | .list _, ⟨vs, h, r⟩ => ⟨vs, k _ h, r.mono e⟩
  | .dict _, ⟨vs, h, r⟩ => ⟨vs, k _ h, r.mono e⟩
def nt : HO → Prop
  | .tbl _ => False
  | _ => True
theorem OwnAt.some {K : PySem.W.Frag} {F H : Hp} {a : Addr} : ∀ {d : D}, OwnAt K F H a d → ∃ o, H a = Option.some o ∧ nt o
  | .list _, ⟨_, h, _⟩ => ⟨_, h, trivial⟩
  | .dict _, ⟨_, h, _⟩ => ⟨_, h, trivial⟩
theorem OwnAt.notTE {K : PySem.W.Frag} {F H : Hp} {a : Addr} : ∀ {d : D}, OwnAt K F H a d → ∀ u, H a = Option.some u → ¬ isTE u
  | .list _, ⟨_, h, _⟩, u, e => by rw [h] at e; cases e; exact fun z => z
  | .dict _, ⟨_, h, _⟩, u, e => by rw [h] at e; cases e; exact fun z => z
/-- the name at i holds the object at a alone -/
def Mine (σ : Sg) (ρ : Rho) (i : Nat) (a : Addr) : Prop := (∃ s, ρ[i]? = some s ∧ s.mine = true) ∧ σ[i]? = some (some (.ref a))
def Own (σ : Sg) (ρ : Rho) (a : Addr) : Prop := ∃ i, Mine σ ρ i a
def isDc : HO → Prop
  | .dK _ => True
  | .dT _ => True
  | _ => False
/-- u stands at a, or it is a dict that is walked there -/
def Rdn (H : Hp) (a : Addr) (u : HO) : Prop := H a = some u ∨ ∃ o, H a = some (.frz o u) ∧ isDc u
theorem Rdn.rd {H : Hp} {a : Addr} {u : HO} (h : Rdn H a u) : Rd H a u := h.elim .inl fun ⟨o, z, _⟩ => .inr ⟨o, z⟩
def Sub (F H : Hp) : Prop := ∀ a o, F a = some o → Rdn H a o ∧ nt o
theorem Sub.lst {F H : Hp} (s : Sub F H) {a : Addr} {xs : List V} (h : F a = some (.lst xs)) : H a = some (.lst xs) := (s _ _ h).1.elim id fun ⟨_, _, n⟩ => False.elim n
theorem Sub.tup {F H : Hp} (s : Sub F H) {a : Addr} {xs : List V} (h : F a = some (.tup xs)) : H a = some (.tup xs) := (s _ _ h).1.elim id fun ⟨_, _, n⟩ => False.elim n
theorem Sub.dct {F H : Hp} (s : Sub F H) {a : Addr} {xs : List (Key × V)} (h : F a = some (.dK xs)) : Rd H a (.dK xs) := (s _ _ h).1.rd
structure Rel (K : PySem.W.Frag) (F : Hp) (σ : Sg) (H : Hp) (ρ : Rho) : Prop where
  sub : Sub F H
  len : σ.length = ρ.length
  dat : ∀ (i : Nat) (d : D), ρ[i]? = some (.dat d) → ∃ v, σ[i]? = some (some v) ∧ Rp K F v d
  own : ∀ (i : Nat) (s : Slot) (d : D), ρ[i]? = some s → s.mine = true → s.data? = some d → ∃ a, σ[i]? = some (some (.ref a)) ∧ F a = none ∧ OwnAt K F H a d
  sep : ∀ (i j : Nat) (a : Addr), Mine σ ρ i a → Mine σ ρ j a → i = j
  tab : LamX.Tabs (tabsOf K) H
/-- what a slot may turn into while an expression is evaluated -/
def KpS : Slot → Slot → Prop
  | .un, .un => True
  | .dat d, .dat e => d = e
  | .own _, .own _ => True
  | .own _, .dat _ => True
  | .par _, .par _ => True
  | .lck d, .lck e => d = e
  | _, _ => False
theorem KpS.refl : ∀ s, KpS s s
  | .un => trivial
  | .dat _ => rfl
  | .own _ => trivial
  | .par _ => trivial
  | .lck _ => rfl
theorem KpS.trans : ∀ {a b c}, KpS a b → KpS b c → KpS a c
  | .un, .un, .un, _, _ => trivial
  | .dat _, .dat _, .dat _, h, g => Eq.trans (show _ = _ from h) g
  | .own _, .own _, .own _, _, _ => trivial
  | .own _, .own _, .dat _, _, _ => trivial
  | .own _, .dat _, .dat _, _, _ => trivial
  | .par _, .par _, .par _, _, _ => trivial
  | .lck _, .lck _, .lck _, h, g => Eq.trans (show _ = _ from h) g
def Kp (ρ ρ' : Rho) : Prop := ρ.length = ρ'.length ∧ ∀ (i : Nat) (s : Slot), ρ[i]? = some s → ∃ s', ρ'[i]? = some s' ∧ KpS s s'
theorem Kp.refl (ρ : Rho) : Kp ρ ρ := ⟨rfl, fun _ s h => ⟨s, h, KpS.refl s⟩⟩
theorem Kp.trans {a b c : Rho} (h : Kp a b) (g : Kp b c) : Kp a c := ⟨h.1.trans g.1, fun i s e => by
  obtain ⟨s1, e1, k1⟩ := h.2 i s e
  obtain ⟨s2, e2, k2⟩ := g.2 i s1 e1
  exact ⟨s2, e2, k1.trans k2⟩⟩
/-- a step: what is not ours stays -/
structure Fr (F H : Hp) (σ : Sg) (ρ : Rho) (F' H' : Hp) (σ' : Sg) (ρ' : Rho) : Prop where
  ext : Ext F F'
  keep : ∀ a o, H a = some o → nt o → F a = none → ¬ Own σ ρ a → H' a = some o ∧ F' a = none ∧ ¬ Own σ' ρ' a
theorem Fr.refl {F H : Hp} {σ : Sg} {ρ : Rho} : Fr F H σ ρ F H σ ρ := ⟨Ext.refl _, fun _ _ h _ f n => ⟨h, f, n⟩⟩
theorem Fr.trans {F H F1 H1 F2 H2 : Hp} {σ σ1 σ2 : Sg} {ρ ρ1 ρ2 : Rho} (a : Fr F H σ ρ F1 H1 σ1 ρ1) (b : Fr F1 H1 σ1 ρ1 F2 H2 σ2 ρ2) : Fr F H σ ρ F2 H2 σ2 ρ2 := ⟨a.ext.trans b.ext, fun x o h t f n => by
  obtain ⟨h1, f1, n1⟩ := a.keep x o h t f n
  exact b.keep x o h1 t f1 n1⟩
structure Step (F H : Hp) (σ : Sg) (ρ : Rho) (F' H' : Hp) (ρ' : Rho) : Prop where
  fr : Fr F H σ ρ F' H' σ ρ'
  kp : Kp ρ ρ'
theorem Step.refl {F H : Hp} {σ : Sg} {ρ : Rho} : Step F H σ ρ F H ρ := ⟨Fr.refl, Kp.refl _⟩
theorem Step.trans {F H F1 H1 F2 H2 : Hp} {σ : Sg} {ρ ρ1 ρ2 : Rho} (a : Step F H σ ρ F1 H1 ρ1) (b : Step F1 H1 σ ρ1 F2 H2 ρ2) : Step F H σ ρ F2 H2 ρ2 := ⟨a.fr.trans b.fr, a.kp.trans b.kp⟩

/-- what an expression gives: a value that is frozen, a name's own object, a new object -/
inductive Opd where
  | val (d : D) | loc (i : Nat) | new (d : D)
def RO (K : PySem.W.Frag) (F H : Hp) (σ : Sg) (ρ : Rho) (v : V) : Opd → Prop
  | .val d => Rp K F v d
  | .loc i => σ[i]? = some (some v) ∧ ∃ s d, ρ[i]? = some s ∧ s.data? = some d
  | .new d => ∃ a, v = .ref a ∧ F a = none ∧ OwnAt K F H a d ∧ ¬ Own σ ρ a
def Opd.isNew : Opd → Bool
  | .new _ => true
  | _ => false
/-- a new object is none of those that are not ours -/
def NewSep (F H : Hp) (σ : Sg) (ρ : Rho) (v : V) (o : Opd) : Prop := o.isNew = true → ∀ a u, v = .ref a → H a = some u → nt u → F a = none → Own σ ρ a
def deref (ρ : Rho) : Opd → Option D
  | .val d => some d
  | .new d => some d
  | .loc i => (ρ[i]?).bind Slot.data?
/-- the tree that v stands for now -/
def Ct (K : PySem.W.Frag) (F H : Hp) (v : V) (d : D) : Prop := Rp K F v d ∨ ∃ a, v = .ref a ∧ F a = none ∧ OwnAt K F H a d
theorem Kp.data {ρ ρ' : Rho} (h : Kp ρ ρ') {i : Nat} {s : Slot} {d : D} (e : ρ[i]? = some s) (q : s.data? = some d) : ∃ s' d', ρ'[i]? = some s' ∧ s'.data? = some d' := by
  obtain ⟨s', e', k⟩ := h.2 i s e
  refine ⟨s', ?_⟩
  cases s <;> cases s' <;> first | (exact False.elim k) | (exact ⟨_, e', rfl⟩) | (cases q)
theorem RO.step {K : PySem.W.Frag} {F H F1 H1 : Hp} {σ : Sg} {ρ ρ1 : Rho} {v : V} (st : Step F H σ ρ F1 H1 ρ1) : ∀ {o : Opd}, RO K F H σ ρ v o → RO K F1 H1 σ ρ1 v o
  | .val d, h => Rp.mono st.fr.ext h
  | .loc i, ⟨h, s, d, e, q⟩ => ⟨h, st.kp.data e q⟩
  | .new d, ⟨a, e, f, h, n⟩ => by
    obtain ⟨o, ho, t⟩ := h.some
    obtain ⟨h1, f1, n1⟩ := st.fr.keep a o ho t f n
    exact ⟨a, e, f1, h.mono st.fr.ext fun u q => by rw [ho] at q; cases q; exact h1, n1⟩
theorem RO.ct {K : PySem.W.Frag} {F H : Hp} {σ : Sg} {ρ : Rho} {v : V} {d : D} (R : Rel K F σ H ρ) : ∀ {o : Opd}, RO K F H σ ρ v o → deref ρ o = some d → Ct K F H v d
  | .val d', h, e => by cases e; exact .inl h
  | .new d', ⟨a, e1, f, h, n⟩, e => by cases e; exact .inr ⟨a, e1, f, h⟩
  | .loc i, ⟨h, s, d', e1, q⟩, e => by
    have e2 : deref ρ (.loc i) = s.data? := by show (ρ[i]?).bind Slot.data? = _; rw [e1]; rfl
    rw [e2] at e
    cases s with
    | un => cases e
    | dat d2 =>
      cases e
      obtain ⟨w, h1, h2⟩ := R.dat i d e1
      rw [h] at h1; cases h1
      exact .inl h2
    | own d2 =>
      obtain ⟨a, h1, h2, h3⟩ := R.own i _ d e1 rfl e
      rw [h] at h1; cases h1
      exact .inr ⟨a, rfl, h2, h3⟩
    | par d2 =>
      obtain ⟨a, h1, h2, h3⟩ := R.own i _ d e1 rfl e
      rw [h] at h1; cases h1
      exact .inr ⟨a, rfl, h2, h3⟩
    | lck d2 =>
      obtain ⟨a, h1, h2, h3⟩ := R.own i _ d e1 rfl e
      rw [h] at h1; cases h1
      exact .inr ⟨a, rfl, h2, h3⟩
theorem NewSep.back {F H F1 H1 : Hp} {σ : Sg} {ρ ρ1 : Rho} {v : V} {o : Opd} (st : Fr F H σ ρ F1 H1 σ ρ1) (h : NewSep F1 H1 σ ρ1 v o) : NewSep F H σ ρ v o := fun hn a u e ha t f => Classical.byContradiction fun n => by
  obtain ⟨h1, f1, n1⟩ := st.keep a u ha t f n
  exact n1 (h hn a u e h1 t f1)

/-- an error: its class's name, its fields -/
structure Ex where
  cls : Str
  fs : List (Str × D)
def XAt (K : PySem.W.Frag) (F H : Hp) (x : Ex) (cls : Value) (dx : Option Addr) : Prop :=
  cls = .ref (He.ga K x.cls) ∧ (x.fs = [] ∨ ∃ (a : Addr) (vs : List V), dx = some a ∧ H a = some (.xd ((x.fs.map (·.1)).zip vs)) ∧ F a = none ∧ RpA K F vs (x.fs.map (·.2)))
inductive Rs (α : Type) where
  | ok (a : α) (ρ : Rho) | ex (x : Ex) (ρ : Rho) | fail
def Rs.bind {α β : Type} (r : Rs α) (f : α → Rho → Rs β) : Rs β := match r with
  | .ok a ρ => f a ρ
  | .ex x ρ => .ex x ρ
  | .fail => .fail
@[simp] theorem Rs.bind_ok {α β : Type} (a : α) (ρ : Rho) (f : α → Rho → Rs β) : (Rs.ok a ρ).bind f = f a ρ := rfl
@[simp] theorem Rs.bind_ex {α β : Type} (x : Ex) (ρ : Rho) (f : α → Rho → Rs β) : (Rs.ex x ρ : Rs α).bind f = .ex x ρ := rfl
@[simp] theorem Rs.bind_fail {α β : Type} (f : α → Rho → Rs β) : (Rs.fail : Rs α).bind f = .fail := rfl
abbrev ME := Rho → Rs Opd
abbrev MT := Rho → Rs Bool
abbrev MA := Rho → Rs (List Opd)

section
variable (K : PySem.W.Frag) (W : WX)
def XPost (F H : Hp) (σ : Sg) (ρ : Rho) (x : Ex) (ρ' : Rho) : Prop := ∀ cls dx F' H', Step F H σ ρ F' H' ρ' → Rel K F' σ H' ρ' → XAt K F' H' x cls dx → W cls dx σ H'
def EPost (F H : Hp) (σ : Sg) (ρ : Rho) (Q : VK) : Rs Opd → Prop
  | .ok o ρ' => ∀ v F' H', Step F H σ ρ F' H' ρ' → Rel K F' σ H' ρ' → RO K F' H' σ ρ' v o → NewSep F H σ ρ v o → Q v H'
  | .ex x ρ' => XPost K W F H σ ρ x ρ'
  | .fail => False
def TPost (F H : Hp) (σ : Sg) (ρ : Rho) (Q : Bool → Hp → Prop) : Rs Bool → Prop
  | .ok b ρ' => ∀ F' H', Step F H σ ρ F' H' ρ' → Rel K F' σ H' ρ' → Q b H'
  | .ex x ρ' => XPost K W F H σ ρ x ρ'
  | .fail => False
def news : List V → List Opd → List Addr
  | .ref a :: vs, .new _ :: os => a :: news vs os
  | _ :: vs, _ :: os => news vs os
  | _, _ => []
structure ROs (F H : Hp) (σ : Sg) (ρ : Rho) (vs : List V) (os : List Opd) : Prop where
  all : Paired (RO K F H σ ρ) vs os
  nd : (news vs os).Nodup
def NewSeps (F H : Hp) (σ : Sg) (ρ : Rho) (vs : List V) (os : List Opd) : Prop := ∀ a ∈ news vs os, ∀ u, H a = some u → nt u → F a = none → Own σ ρ a
def APost (F H : Hp) (σ : Sg) (ρ : Rho) (Q : List V → Hp → Prop) : Rs (List Opd) → Prop
  | .ok os ρ' => ∀ vs F' H', Step F H σ ρ F' H' ρ' → Rel K F' σ H' ρ' → ROs K F' H' σ ρ' vs os → NewSeps F H σ ρ vs os → Q vs H'
  | .ex x ρ' => XPost K W F H σ ρ x ρ'
  | .fail => False
end
section
variable {K : PySem.W.Frag} {W : WX} {F H F1 H1 : Hp} {σ : Sg} {ρ ρ1 : Rho}
theorem XPost.step {x : Ex} {ρ' : Rho} (st : Step F H σ ρ F1 H1 ρ1) (h : XPost K W F H σ ρ x ρ') : XPost K W F1 H1 σ ρ1 x ρ' := fun cls dx F' H' s R q => h cls dx F' H' (st.trans s) R q
theorem EPost.step {Q : VK} (st : Step F H σ ρ F1 H1 ρ1) : ∀ {r : Rs Opd}, EPost K W F H σ ρ Q r → EPost K W F1 H1 σ ρ1 Q r
  | .ok o ρ', h => fun v F' H' s R ro ns => h v F' H' (st.trans s) R ro (ns.back st.fr)
  | .ex x ρ', h => XPost.step st h
  | .fail, h => h
theorem TPost.step {Q : Bool → Hp → Prop} (st : Step F H σ ρ F1 H1 ρ1) : ∀ {r : Rs Bool}, TPost K W F H σ ρ Q r → TPost K W F1 H1 σ ρ1 Q r
  | .ok o ρ', h => fun F' H' s R => h F' H' (st.trans s) R
  | .ex x ρ', h => XPost.step st h
  | .fail, h => h
theorem NewSeps.back {vs : List V} {os : List Opd} (st : Fr F H σ ρ F1 H1 σ ρ1) (h : NewSeps F1 H1 σ ρ1 vs os) : NewSeps F H σ ρ vs os := fun a hm u ha t f => Classical.byContradiction fun n => by
  obtain ⟨h1, f1, n1⟩ := st.keep a u ha t f n
  exact n1 (h a hm u h1 t f1)
theorem APost.step {Q : List V → Hp → Prop} (st : Step F H σ ρ F1 H1 ρ1) : ∀ {r : Rs (List Opd)}, APost K W F H σ ρ Q r → APost K W F1 H1 σ ρ1 Q r
  | .ok o ρ', h => fun v F' H' s R ro ns => h v F' H' (st.trans s) R ro (ns.back st.fr)
  | .ex x ρ', h => XPost.step st h
  | .fail, h => h
end

/-! ### the judgements -/
/-- e is evaluated as m says -/
def DE (X : Cx) (W : WX) (e : Expr) (m : ME) : Prop := ∃ t, PE X e t ∧ ∀ F σ H ρ Q, Rel X.K F σ H ρ → EPost X.K W F H σ ρ Q (m ρ) → t σ H Q
def DT (X : Cx) (W : WX) (e : Expr) (m : MT) : Prop := ∃ t, PT X e t ∧ ∀ F σ H ρ Q, Rel X.K F σ H ρ → TPost X.K W F H σ ρ Q (m ρ) → t σ H Q
def DA (X : Cx) (W : WX) (es : List Expr) (m : MA) : Prop := ∃ t, PA X es t ∧ ∀ F σ H ρ Q, Rel X.K F σ H ρ → APost X.K W F H σ ρ Q (m ρ) → t σ H Q

section
variable {X : Cx} {W : WX}
def eC (d : D) : ME := fun ρ => .ok (.val d) ρ
theorem de_int {i j pos} : DE X W (.Constant (.int i) j pos) (eC (.int i)) := ⟨_, pe_int, fun F σ H ρ Q R h => h (.int i) F H Step.refl R (.int i) (fun z => nomatch z)⟩
theorem de_bl {b j pos} : DE X W (.Constant (.bool b) j pos) (eC (.bool b)) := ⟨_, pe_bl, fun F σ H ρ Q R h => h (.bl b) F H Step.refl R (.bl b) (fun z => nomatch z)⟩
theorem de_non {j pos} : DE X W (.Constant .none j pos) (eC .none) := ⟨_, pe_non, fun F σ H ρ Q R h => h .non F H Step.refl R .non (fun z => nomatch z)⟩
theorem de_str {x j pos} : DE X W (.Constant (.str x) j pos) (eC (.str x)) := ⟨_, pe_str, fun F σ H ρ Q R h => h (.str x) F H Step.refl R (.str x) (fun z => nomatch z)⟩
def eVar (i : Nat) : ME := fun ρ => match ρ[i]? with
  | some (.dat d) => .ok (.val d) ρ
  | some (.own _) => .ok (.loc i) ρ
  | some (.par _) => .ok (.loc i) ρ
  | some (.lck _) => .ok (.loc i) ρ
  | _ => .fail
theorem de_var {i : Nat} {x : Str} {pos : Pos} (hp : PE X (.Name x pos) (tVar i)) : DE X W (.Name x pos) (eVar i) := by
  refine ⟨_, hp, fun F σ H ρ Q R h => ?_⟩
  have mine : ∀ (s : Slot) (d : D), ρ[i]? = some s → s.mine = true → s.data? = some d → (∀ v F' H', Step F H σ ρ F' H' ρ → Rel X.K F' σ H' ρ → RO X.K F' H' σ ρ v (.loc i) → NewSep F H σ ρ v (.loc i) → Q v H') → tVar i σ H Q := fun s d e m q k => by
    obtain ⟨a, h1, h2, h3⟩ := R.own i s d e m q
    exact ⟨_, h1, k _ F H Step.refl R ⟨h1, s, d, e, q⟩ (fun z => nomatch z)⟩
  unfold eVar at h
  cases e : ρ[i]? with
  | none => rw [e] at h; exact False.elim h
  | some s =>
    rw [e] at h
    cases s with
    | un => exact False.elim h
    | dat d =>
      obtain ⟨v, h1, h2⟩ := R.dat i d e
      exact ⟨v, h1, h v F H Step.refl R h2 (fun z => nomatch z)⟩
    | own d => exact mine _ d e rfl rfl h
    | par d => exact mine _ d e rfl rfl h
    | lck d => exact mine _ d e rfl rfl h

/-! ### pure operations -/
structure Grow (F H F' H' : Hp) : Prop where
  ext : Ext F F'
  sub : Sub F' H'
  keep : ∀ a o, H a = some o → H' a = some o
  fresh : ∀ a o, H a = some o → F a = none → F' a = none
theorem Grow.refl {F H : Hp} (s : Sub F H) : Grow F H F H := ⟨Ext.refl _, s, fun _ _ h => h, fun _ _ _ h => h⟩
theorem Grow.step {F H F' H' : Hp} {σ : Sg} {ρ : Rho} (g : Grow F H F' H') : Step F H σ ρ F' H' ρ := ⟨⟨g.ext, fun a o h t f n => ⟨g.keep a o h, g.fresh a o h f, n⟩⟩, Kp.refl _⟩
theorem Grow.rel {K : PySem.W.Frag} {F H F' H' : Hp} {σ : Sg} {ρ : Rho} (g : Grow F H F' H') (R : Rel K F σ H ρ) : Rel K F' σ H' ρ :=
  ⟨g.sub, R.len, fun i d e => let ⟨v, h, r⟩ := R.dat i d e; ⟨v, h, r.mono g.ext⟩, fun i s d e m q => by
    obtain ⟨a, h, f, o⟩ := R.own i s d e m q
    obtain ⟨u, hu, _⟩ := o.some
    exact ⟨a, h, g.fresh a u hu f, o.mono g.ext (g.keep a)⟩, R.sep, tabs_ext g.keep R.tab⟩
/-- what an operation hands back: a frozen value, a new object -/
def RN (K : PySem.W.Frag) (H0 F H : Hp) (v : V) : Opd → Prop
  | .val d => Rp K F v d
  | .new d => ∃ a, v = .ref a ∧ H0 a = none ∧ F a = none ∧ OwnAt K F H a d
  | .loc _ => False
theorem RN.ro {K : PySem.W.Frag} {F H F' H' : Hp} {σ : Sg} {ρ : Rho} {v : V} (R : Rel K F σ H ρ) : ∀ {o : Opd}, RN K H F' H' v o → RO K F' H' σ ρ v o ∧ NewSep F H σ ρ v o
  | .val d, h => ⟨h, fun z => nomatch z⟩
  | .new d, ⟨a, e, h0, f, h⟩ => ⟨⟨a, e, f, h, fun ⟨i, ⟨s, e1, m⟩, e2⟩ => by
      obtain ⟨d', hd⟩ : ∃ d', s.data? = some d' := by cases s <;> first | (cases m; done) | exact ⟨_, rfl⟩
      obtain ⟨b, h1, _, h3⟩ := R.own i s d' e1 m hd
      obtain ⟨u, hu, _⟩ := h3.some
      rw [e2] at h1; cases h1
      rw [h0] at hu; cases hu⟩, fun _ b u e1 hb _ _ => by
      rw [e] at e1; cases e1
      rw [h0] at hb; cases hb⟩
abbrev NK := V → Hp → Hp → Prop
/-- the reading r does what f says -/
def Snd2 (K : PySem.W.Frag) (r : R2) (f : D → D → Option Opd) : Prop := ∀ F H v w d e o Q, Sub F H → Ct K F H v d → Ct K F H w e → f d e = some o → (∀ u F' H', Grow F H F' H' → RN K H F' H' u o → Q u H') → r v w H Q
def Snd1 (K : PySem.W.Frag) (r : V → Hp → VK → Prop) (f : D → Option Opd) : Prop := ∀ F H v d o Q, Sub F H → Ct K F H v d → f d = some o → (∀ u F' H', Grow F H F' H' → RN K H F' H' u o → Q u H') → r v H Q
def run2 (f : D → D → Option Opd) (ρ : Rho) (a b : Opd) : Rs Opd := match deref ρ a, deref ρ b with
  | some d, some e => (match f d e with
    | some o => .ok o ρ
    | none => .fail)
  | _, _ => .fail
def run1 (f : D → Option Opd) (ρ : Rho) (a : Opd) : Rs Opd := match deref ρ a with
  | some d => (match f d with
    | some o => .ok o ρ
    | none => .fail)
  | _ => .fail
def eOp2 (f : D → D → Option Opd) (a b : ME) : ME := fun ρ => (a ρ).bind fun x ρ1 => (b ρ1).bind fun y ρ2 => run2 f ρ2 x y
def eOp1 (f : D → Option Opd) (a : ME) : ME := fun ρ => (a ρ).bind fun x ρ1 => run1 f ρ1 x
theorem op2_ok {r : R2} {f : D → D → Option Opd} {a b : ME} {ta tb : TE} (hs : Snd2 X.K r f) (ha : ∀ F σ H ρ Q, Rel X.K F σ H ρ → EPost X.K W F H σ ρ Q (a ρ) → ta σ H Q) (hb : ∀ F σ H ρ Q, Rel X.K F σ H ρ → EPost X.K W F H σ ρ Q (b ρ) → tb σ H Q) :
    ∀ F σ H ρ Q, Rel X.K F σ H ρ → EPost X.K W F H σ ρ Q (eOp2 f a b ρ) → tOp r ta tb σ H Q := by
  intro F σ H ρ Q R h
  refine ha F σ H ρ _ R ?_
  unfold eOp2 at h
  cases ea : a ρ with
  | fail => rw [ea] at h; exact h
  | ex x ρ' => rw [ea] at h; exact h
  | ok x ρ1 =>
    rw [ea] at h
    intro v F1 H1 s1 R1 ro1 ns1
    refine hb F1 σ H1 ρ1 _ R1 ?_
    have h1 := EPost.step s1 h
    dsimp only [Rs.bind] at h1
    cases eb : b ρ1 with
    | fail => rw [eb] at h1; exact h1
    | ex x ρ' => rw [eb] at h1; exact h1
    | ok y ρ2 =>
      rw [eb] at h1
      intro w F2 H2 s2 R2' ro2 ns2
      have h2 := EPost.step s2 h1
      have ro1' := ro1.step s2
      unfold run2 at h2
      dsimp only at h2
      cases dx : deref ρ2 x with
      | none => rw [dx] at h2; exact False.elim h2
      | some d =>
        cases dy : deref ρ2 y with
        | none => rw [dx, dy] at h2; exact False.elim h2
        | some e =>
          rw [dx, dy] at h2
          dsimp only at h2
          cases ef : f d e with
          | none => rw [ef] at h2; exact False.elim h2
          | some o =>
            rw [ef] at h2
            refine hs F2 H2 v w d e o Q R2'.sub (ro1'.ct R2' dx) (ro2.ct R2' dy) ef fun u F' H' g rn => ?_
            obtain ⟨q1, q2⟩ := rn.ro R2'
            exact h2 u F' H' g.step (g.rel R2') q1 q2
theorem op1_ok {r : V → Hp → VK → Prop} {f : D → Option Opd} {a : ME} {ta : TE} (hs : Snd1 X.K r f) (ha : ∀ F σ H ρ Q, Rel X.K F σ H ρ → EPost X.K W F H σ ρ Q (a ρ) → ta σ H Q) :
    ∀ F σ H ρ Q, Rel X.K F σ H ρ → EPost X.K W F H σ ρ Q (eOp1 f a ρ) → tUn r ta σ H Q := by
  intro F σ H ρ Q R h
  refine ha F σ H ρ _ R ?_
  unfold eOp1 at h
  cases ea : a ρ with
  | fail => rw [ea] at h; exact h
  | ex x ρ' => rw [ea] at h; exact h
  | ok x ρ1 =>
    rw [ea] at h
    intro v F1 H1 s1 R1 ro1 ns1
    have h1 := EPost.step s1 h
    dsimp only [Rs.bind] at h1
    unfold run1 at h1
    cases dx : deref ρ1 x with
    | none => rw [dx] at h1; exact False.elim h1
    | some d =>
      rw [dx] at h1
      dsimp only at h1
      cases ef : f d with
      | none => rw [ef] at h1; exact False.elim h1
      | some o =>
        rw [ef] at h1
        refine hs F1 H1 v d o Q R1.sub (ro1.ct R1 dx) ef fun u F' H' g rn => ?_
        obtain ⟨q1, q2⟩ := rn.ro R1
        exact h1 u F' H' g.step (g.rel R1) q1 q2
theorem de_op {e1 e2 : Expr} {op : Operator} {r : R2} {f : D → D → Option Opd} {a b : ME} {pos : Pos} (ho : OpR X (binaryOp op) r) (hs : Snd2 X.K r f) (ha : DE X W e1 a) (hb : DE X W e2 b) : DE X W (.BinOp e1 op e2 pos) (eOp2 f a b) := by
  obtain ⟨ta, pa, qa⟩ := ha
  obtain ⟨tb, pb, qb⟩ := hb
  exact ⟨_, pe_op ho pa pb, op2_ok hs qa qb⟩
theorem de_cmp {e1 e2 : Expr} {op : CmpOp} {r : R2} {f : D → D → Option Opd} {a b : ME} {pos : Pos} (ho : OpR X (compareOp op) r) (hs : Snd2 X.K r f) (ha : DE X W e1 a) (hb : DE X W e2 b) (hm : behindInMarks op e2 = false) : DE X W (.Compare e1 [op] [e2] pos) (eOp2 f a b) := by
  obtain ⟨ta, pa, qa⟩ := ha
  obtain ⟨tb, pb, qb⟩ := hb
  exact ⟨_, pe_cmpR ho pa pb hm, op2_ok hs qa qb⟩
end
end Dl

set_option maxRecDepth 100000
set_option maxHeartbeats 4000000
namespace Dl
open PySem PySem.Spec L2
set_option autoImplicit false

/-! ### statements -/
inductive Flow where
  | nx | rt (o : Opd) | bk | ct
abbrev MS := Rho → Rs Flow
/-- a name that was lent keeps its object -/
def Par (σ : Sg) (ρ : Rho) (σ' : Sg) (ρ' : Rho) : Prop := (∀ (i : Nat) (d : D), ρ[i]? = some (.par d) → (∃ d', ρ'[i]? = some (.par d')) ∧ σ'[i]? = σ[i]?) ∧ ∀ (i : Nat) (d : D), ρ[i]? = some (.lck d) → ρ'[i]? = some (.lck d) ∧ σ'[i]? = σ[i]?
structure StepS (F H : Hp) (σ : Sg) (ρ : Rho) (F' H' : Hp) (σ' : Sg) (ρ' : Rho) : Prop where
  fr : Fr F H σ ρ F' H' σ' ρ'
  par : Par σ ρ σ' ρ'
theorem Step.s {F H F1 H1 : Hp} {σ : Sg} {ρ ρ1 : Rho} (s : Step F H σ ρ F1 H1 ρ1) : StepS F H σ ρ F1 H1 σ ρ1 := ⟨s.fr, fun i d e => by
  obtain ⟨s', e', k⟩ := s.kp.2 i _ e
  cases s' <;> first | exact ⟨⟨_, e'⟩, rfl⟩ | exact False.elim k, fun i d e => by
  obtain ⟨s', e', k⟩ := s.kp.2 i _ e
  cases s' <;> first | (cases (show _ = _ from k); exact ⟨e', rfl⟩) | exact False.elim k⟩
theorem StepS.refl {F H : Hp} {σ : Sg} {ρ : Rho} : StepS F H σ ρ F H σ ρ := Step.refl.s
theorem StepS.trans {F H F1 H1 F2 H2 : Hp} {σ σ1 σ2 : Sg} {ρ ρ1 ρ2 : Rho} (a : StepS F H σ ρ F1 H1 σ1 ρ1) (b : StepS F1 H1 σ1 ρ1 F2 H2 σ2 ρ2) : StepS F H σ ρ F2 H2 σ2 ρ2 := ⟨a.fr.trans b.fr, fun i d e => by
  obtain ⟨⟨d1, e1⟩, q1⟩ := a.par.1 i d e
  obtain ⟨x, q2⟩ := b.par.1 i d1 e1
  exact ⟨x, q2.trans q1⟩, fun i d e => by
  obtain ⟨e1, q1⟩ := a.par.2 i d e
  obtain ⟨x, q2⟩ := b.par.2 i d e1
  exact ⟨x, q2.trans q1⟩⟩
section
variable (K : PySem.W.Frag) (W : WX)
def XPostS (F H : Hp) (σ : Sg) (ρ : Rho) (x : Ex) (ρ' : Rho) : Prop := ∀ cls dx σ' F' H', StepS F H σ ρ F' H' σ' ρ' → Rel K F' σ' H' ρ' → XAt K F' H' x cls dx → W cls dx σ' H'
def NewSepS (F H : Hp) (σ : Sg) (ρ : Rho) (v : V) (o : Opd) : Prop := NewSep F H σ ρ v o
def SPost (F H : Hp) (σ : Sg) (ρ : Rho) (Z : Ends) : Rs Flow → Prop
  | .ok .nx ρ' => ∀ σ' F' H', StepS F H σ ρ F' H' σ' ρ' → Rel K F' σ' H' ρ' → Z.nx σ' H'
  | .ok .bk ρ' => ∀ σ' F' H', StepS F H σ ρ F' H' σ' ρ' → Rel K F' σ' H' ρ' → Z.bk σ' H'
  | .ok .ct ρ' => ∀ σ' F' H', StepS F H σ ρ F' H' σ' ρ' → Rel K F' σ' H' ρ' → Z.ct σ' H'
  | .ok (.rt o) ρ' => ∀ v σ' F' H', StepS F H σ ρ F' H' σ' ρ' → Rel K F' σ' H' ρ' → RO K F' H' σ' ρ' v o → NewSep F H σ ρ v o → Z.rt v H'
  | .ex x ρ' => XPostS K W F H σ ρ x ρ'
  | .fail => False
end
section
variable {K : PySem.W.Frag} {W : WX} {F H F1 H1 : Hp} {σ σ1 : Sg} {ρ ρ1 : Rho}
theorem NewSep.backS {F H F1 H1 : Hp} {σ σ1 : Sg} {ρ ρ1 : Rho} {v : V} {o : Opd} (st : Fr F H σ ρ F1 H1 σ1 ρ1) (h : NewSep F1 H1 σ1 ρ1 v o) : NewSep F H σ ρ v o := fun hn a u e ha t f => Classical.byContradiction fun n => by
  obtain ⟨h1, f1, n1⟩ := st.keep a u ha t f n
  exact n1 (h hn a u e h1 t f1)
theorem SPost.step {Z : Ends} (st : StepS F H σ ρ F1 H1 σ1 ρ1) : ∀ {r : Rs Flow}, SPost K W F H σ ρ Z r → SPost K W F1 H1 σ1 ρ1 Z r
  | .ok .nx ρ', h => fun σ' F' H' s R => h σ' F' H' (st.trans s) R
  | .ok .bk ρ', h => fun σ' F' H' s R => h σ' F' H' (st.trans s) R
  | .ok .ct ρ', h => fun σ' F' H' s R => h σ' F' H' (st.trans s) R
  | .ok (.rt o) ρ', h => fun v σ' F' H' s R ro ns => h v σ' F' H' (st.trans s) R ro (ns.backS st.fr)
  | .ex x ρ', h => fun cls dx σ' F' H' s R q => h cls dx σ' F' H' (st.trans s) R q
  | .fail, h => h
theorem XPostS.x {x : Ex} {ρ' : Rho} (h : XPostS K W F H σ ρ x ρ') : XPost K W F H σ ρ x ρ' := fun cls dx F' H' s R q => h cls dx σ F' H' s.s R q
end
section
variable {K : PySem.W.Frag} {W : WX} {F H : Hp} {σ : Sg} {ρ : Rho}
theorem bindEE {Q : VK} {Q' : VK} {r : Rs (Opd)} {f : Opd → Rho → Rs (Opd)} (h : EPost K W F H σ ρ Q (r.bind f)) (k : ∀ o ρ1 v F1 H1, Step F H σ ρ F1 H1 ρ1 → Rel K F1 σ H1 ρ1 → RO K F1 H1 σ ρ1 v o → NewSep F H σ ρ v o → EPost K W F1 H1 σ ρ1 Q (f o ρ1) → Q' v H1) : EPost K W F H σ ρ Q' r := by
  cases r with
  | fail => exact h
  | ex x ρ' => exact h
  | ok o ρ1 => exact fun v F1 H1 s1 R1 ro ns => k o ρ1 v F1 H1 s1 R1 ro ns (EPost.step s1 h)
theorem bindET {Q : Bool → Hp → Prop} {Q' : VK} {r : Rs (Opd)} {f : Opd → Rho → Rs (Bool)} (h : TPost K W F H σ ρ Q (r.bind f)) (k : ∀ o ρ1 v F1 H1, Step F H σ ρ F1 H1 ρ1 → Rel K F1 σ H1 ρ1 → RO K F1 H1 σ ρ1 v o → NewSep F H σ ρ v o → TPost K W F1 H1 σ ρ1 Q (f o ρ1) → Q' v H1) : EPost K W F H σ ρ Q' r := by
  cases r with
  | fail => exact h
  | ex x ρ' => exact h
  | ok o ρ1 => exact fun v F1 H1 s1 R1 ro ns => k o ρ1 v F1 H1 s1 R1 ro ns (TPost.step s1 h)
theorem bindEA {Q : List V → Hp → Prop} {Q' : VK} {r : Rs (Opd)} {f : Opd → Rho → Rs (List Opd)} (h : APost K W F H σ ρ Q (r.bind f)) (k : ∀ o ρ1 v F1 H1, Step F H σ ρ F1 H1 ρ1 → Rel K F1 σ H1 ρ1 → RO K F1 H1 σ ρ1 v o → NewSep F H σ ρ v o → APost K W F1 H1 σ ρ1 Q (f o ρ1) → Q' v H1) : EPost K W F H σ ρ Q' r := by
  cases r with
  | fail => exact h
  | ex x ρ' => exact h
  | ok o ρ1 => exact fun v F1 H1 s1 R1 ro ns => k o ρ1 v F1 H1 s1 R1 ro ns (APost.step s1 h)
theorem bindES {Q : Ends} {Q' : VK} {r : Rs (Opd)} {f : Opd → Rho → Rs (Flow)} (h : SPost K W F H σ ρ Q (r.bind f)) (k : ∀ o ρ1 v F1 H1, Step F H σ ρ F1 H1 ρ1 → Rel K F1 σ H1 ρ1 → RO K F1 H1 σ ρ1 v o → NewSep F H σ ρ v o → SPost K W F1 H1 σ ρ1 Q (f o ρ1) → Q' v H1) : EPost K W F H σ ρ Q' r := by
  cases r with
  | fail => exact h
  | ex x ρ' => exact XPostS.x h
  | ok o ρ1 => exact fun v F1 H1 s1 R1 ro ns => k o ρ1 v F1 H1 s1 R1 ro ns (SPost.step s1.s h)
theorem bindTE {Q : VK} {Q' : Bool → Hp → Prop} {r : Rs (Bool)} {f : Bool → Rho → Rs (Opd)} (h : EPost K W F H σ ρ Q (r.bind f)) (k : ∀ o ρ1 F1 H1, Step F H σ ρ F1 H1 ρ1 → Rel K F1 σ H1 ρ1 → EPost K W F1 H1 σ ρ1 Q (f o ρ1) → Q' o H1) : TPost K W F H σ ρ Q' r := by
  cases r with
  | fail => exact h
  | ex x ρ' => exact h
  | ok o ρ1 => exact fun F1 H1 s1 R1 => k o ρ1 F1 H1 s1 R1 (EPost.step s1 h)
theorem bindTT {Q : Bool → Hp → Prop} {Q' : Bool → Hp → Prop} {r : Rs (Bool)} {f : Bool → Rho → Rs (Bool)} (h : TPost K W F H σ ρ Q (r.bind f)) (k : ∀ o ρ1 F1 H1, Step F H σ ρ F1 H1 ρ1 → Rel K F1 σ H1 ρ1 → TPost K W F1 H1 σ ρ1 Q (f o ρ1) → Q' o H1) : TPost K W F H σ ρ Q' r := by
  cases r with
  | fail => exact h
  | ex x ρ' => exact h
  | ok o ρ1 => exact fun F1 H1 s1 R1 => k o ρ1 F1 H1 s1 R1 (TPost.step s1 h)
theorem bindTA {Q : List V → Hp → Prop} {Q' : Bool → Hp → Prop} {r : Rs (Bool)} {f : Bool → Rho → Rs (List Opd)} (h : APost K W F H σ ρ Q (r.bind f)) (k : ∀ o ρ1 F1 H1, Step F H σ ρ F1 H1 ρ1 → Rel K F1 σ H1 ρ1 → APost K W F1 H1 σ ρ1 Q (f o ρ1) → Q' o H1) : TPost K W F H σ ρ Q' r := by
  cases r with
  | fail => exact h
  | ex x ρ' => exact h
  | ok o ρ1 => exact fun F1 H1 s1 R1 => k o ρ1 F1 H1 s1 R1 (APost.step s1 h)
theorem bindTS {Q : Ends} {Q' : Bool → Hp → Prop} {r : Rs (Bool)} {f : Bool → Rho → Rs (Flow)} (h : SPost K W F H σ ρ Q (r.bind f)) (k : ∀ o ρ1 F1 H1, Step F H σ ρ F1 H1 ρ1 → Rel K F1 σ H1 ρ1 → SPost K W F1 H1 σ ρ1 Q (f o ρ1) → Q' o H1) : TPost K W F H σ ρ Q' r := by
  cases r with
  | fail => exact h
  | ex x ρ' => exact XPostS.x h
  | ok o ρ1 => exact fun F1 H1 s1 R1 => k o ρ1 F1 H1 s1 R1 (SPost.step s1.s h)
theorem bindAE {Q : VK} {Q' : List V → Hp → Prop} {r : Rs (List Opd)} {f : List Opd → Rho → Rs (Opd)} (h : EPost K W F H σ ρ Q (r.bind f)) (k : ∀ o ρ1 v F1 H1, Step F H σ ρ F1 H1 ρ1 → Rel K F1 σ H1 ρ1 → ROs K F1 H1 σ ρ1 v o → NewSeps F H σ ρ v o → EPost K W F1 H1 σ ρ1 Q (f o ρ1) → Q' v H1) : APost K W F H σ ρ Q' r := by
  cases r with
  | fail => exact h
  | ex x ρ' => exact h
  | ok o ρ1 => exact fun v F1 H1 s1 R1 ro ns => k o ρ1 v F1 H1 s1 R1 ro ns (EPost.step s1 h)
theorem bindAT {Q : Bool → Hp → Prop} {Q' : List V → Hp → Prop} {r : Rs (List Opd)} {f : List Opd → Rho → Rs (Bool)} (h : TPost K W F H σ ρ Q (r.bind f)) (k : ∀ o ρ1 v F1 H1, Step F H σ ρ F1 H1 ρ1 → Rel K F1 σ H1 ρ1 → ROs K F1 H1 σ ρ1 v o → NewSeps F H σ ρ v o → TPost K W F1 H1 σ ρ1 Q (f o ρ1) → Q' v H1) : APost K W F H σ ρ Q' r := by
  cases r with
  | fail => exact h
  | ex x ρ' => exact h
  | ok o ρ1 => exact fun v F1 H1 s1 R1 ro ns => k o ρ1 v F1 H1 s1 R1 ro ns (TPost.step s1 h)
theorem bindAA {Q : List V → Hp → Prop} {Q' : List V → Hp → Prop} {r : Rs (List Opd)} {f : List Opd → Rho → Rs (List Opd)} (h : APost K W F H σ ρ Q (r.bind f)) (k : ∀ o ρ1 v F1 H1, Step F H σ ρ F1 H1 ρ1 → Rel K F1 σ H1 ρ1 → ROs K F1 H1 σ ρ1 v o → NewSeps F H σ ρ v o → APost K W F1 H1 σ ρ1 Q (f o ρ1) → Q' v H1) : APost K W F H σ ρ Q' r := by
  cases r with
  | fail => exact h
  | ex x ρ' => exact h
  | ok o ρ1 => exact fun v F1 H1 s1 R1 ro ns => k o ρ1 v F1 H1 s1 R1 ro ns (APost.step s1 h)
theorem bindAS {Q : Ends} {Q' : List V → Hp → Prop} {r : Rs (List Opd)} {f : List Opd → Rho → Rs (Flow)} (h : SPost K W F H σ ρ Q (r.bind f)) (k : ∀ o ρ1 v F1 H1, Step F H σ ρ F1 H1 ρ1 → Rel K F1 σ H1 ρ1 → ROs K F1 H1 σ ρ1 v o → NewSeps F H σ ρ v o → SPost K W F1 H1 σ ρ1 Q (f o ρ1) → Q' v H1) : APost K W F H σ ρ Q' r := by
  cases r with
  | fail => exact h
  | ex x ρ' => exact XPostS.x h
  | ok o ρ1 => exact fun v F1 H1 s1 R1 ro ns => k o ρ1 v F1 H1 s1 R1 ro ns (SPost.step s1.s h)
end
/-! ### tests -/
def DW (X : Cx) (W : WX) (e : Expr) (m : MT) : Prop := ∃ t, PW X e t ∧ ∀ F σ H ρ Q, Rel X.K F σ H ρ → TPost X.K W F H σ ρ Q (m ρ) → t σ H Q
section
variable {X : Cx} {W : WX} {a b : Expr} {rest : List Expr} {pos : Pos}
theorem DW.t {e : Expr} {m : MT} (h : DW X W e m) : DT X W e m := let ⟨t, p, q⟩ := h; ⟨t, p.pt, q⟩
def boolOf (ρ : Rho) (o : Opd) : Rs Bool := match deref ρ o with
  | some (.bool b) => .ok b ρ
  | _ => .fail
def tVal (m : ME) : MT := fun ρ => (m ρ).bind fun o ρ1 => boolOf ρ1 o
def toB (m : MT) : ME := fun ρ => (m ρ).bind fun b ρ1 => .ok (.val (.bool b)) ρ1
theorem Ct.bool {K : PySem.W.Frag} {F H : Hp} {v : V} {b : Bool} (h : Ct K F H v (.bool b)) : v = .bl b := by
  rcases h with h | ⟨a, e, f, o⟩
  · cases h; rfl
  · exact False.elim o
theorem boolOf_ok {F H : Hp} {σ : Sg} {ρ : Rho} {v : V} {o : Opd} {Q : Bool → Hp → Prop} (R : Rel X.K F σ H ρ) (ro : RO X.K F H σ ρ v o) (h : TPost X.K W F H σ ρ Q (boolOf ρ o)) : ∃ b, v = .bl b ∧ Q b H := by
  unfold boolOf at h
  cases e : deref ρ o with
  | none => rw [e] at h; exact False.elim h
  | some d =>
    rw [e] at h
    cases d with
    | bool b => exact ⟨b, (ro.ct R e).bool, h F H Step.refl R⟩
    | none => exact False.elim h
    | int i => exact False.elim h
    | str i => exact False.elim h
    | list i => exact False.elim h
    | tuple i => exact False.elim h
    | dict i => exact False.elim h
theorem dt_val {e : Expr} {m : ME} (h : DE X W e m) (he : ∀ whole, isTrue e X.env whole = (do let v ← whole; standAt e.pos; holding [v] (truthy v)) := by intro _; rfl) : DT X W e (tVal m) := by
  obtain ⟨t, p, q⟩ := h
  refine ⟨_, pt_val p he, fun F σ H ρ Q R h => ?_⟩
  exact q F σ H ρ _ R (bindET h fun o ρ1 v F1 H1 s1 R1 ro ns hp => boolOf_ok R1 ro hp)
theorem dt_cmp {e1 e2 : Expr} {op : CmpOp} {r : R2} {f : D → D → Option Opd} {a b : ME} {pos : Pos} (ho : OpR X (compareOp op) r) (hs : Snd2 X.K r f) (ha : DE X W e1 a) (hb : DE X W e2 b) (hm : behindInMarks op e2 = false) : DT X W (.Compare e1 [op] [e2] pos) (tVal (eOp2 f a b)) := by
  obtain ⟨ta, pa, qa⟩ := ha
  obtain ⟨tb, pb, qb⟩ := hb
  refine ⟨_, pt_cmpR ho pa pb hm, fun F σ H ρ Q R h => ?_⟩
  refine op2_ok hs qa qb F σ H ρ _ R ?_
  exact bindET h fun o ρ1 v F1 H1 s1 R1 ro ns hp => boolOf_ok R1 ro hp
def tAndM (a b : MT) : MT := fun ρ => (a ρ).bind fun x ρ1 => if x = true then b ρ1 else .ok false ρ1
def tOrM (a b : MT) : MT := fun ρ => (a ρ).bind fun x ρ1 => if x = true then .ok true ρ1 else b ρ1
def tNotM (a : MT) : MT := fun ρ => (a ρ).bind fun x ρ1 => .ok (!x) ρ1
theorem dw_and1 {m : MT} (h : DT X W a m) : DW X W (.BoolOp .And [a] pos) m := let ⟨t, p, q⟩ := h; ⟨t, pw_and1 p, q⟩
theorem dw_or1 {m : MT} (h : DT X W a m) : DW X W (.BoolOp .Or [a] pos) m := let ⟨t, p, q⟩ := h; ⟨t, pw_or1 p, q⟩
theorem dw_and {m n : MT} (ha : DT X W a m) (hb : DW X W (.BoolOp .And (b :: rest) pos) n) : DW X W (.BoolOp .And (a :: b :: rest) pos) (tAndM m n) := by
  obtain ⟨t, p, q⟩ := ha
  obtain ⟨u, p2, q2⟩ := hb
  refine ⟨_, pw_and p p2, fun F σ H ρ Q R h => q F σ H ρ _ R (bindTT h fun x ρ1 F1 H1 s1 R1 hp => ?_)⟩
  cases x with
  | true => exact q2 F1 σ H1 ρ1 Q R1 hp
  | false => exact hp F1 H1 Step.refl R1
theorem dw_or {m n : MT} (ha : DT X W a m) (hb : DW X W (.BoolOp .Or (b :: rest) pos) n) : DW X W (.BoolOp .Or (a :: b :: rest) pos) (tOrM m n) := by
  obtain ⟨t, p, q⟩ := ha
  obtain ⟨u, p2, q2⟩ := hb
  refine ⟨_, pw_or p p2, fun F σ H ρ Q R h => q F σ H ρ _ R (bindTT h fun x ρ1 F1 H1 s1 R1 hp => ?_)⟩
  cases x with
  | true => exact hp F1 H1 Step.refl R1
  | false => exact q2 F1 σ H1 ρ1 Q R1 hp
theorem dt_not {m : MT} (ha : DT X W a m) : DT X W (.UnaryOp .Not a pos) (tNotM m) := by
  obtain ⟨t, p, q⟩ := ha
  exact ⟨_, pt_not p, fun F σ H ρ Q R h => q F σ H ρ _ R (bindTT h fun x ρ1 F1 H1 s1 R1 hp => hp F1 H1 Step.refl R1)⟩
/-- as values -/
def eAnd (a b : ME) : ME := fun ρ => (tVal a ρ).bind fun x ρ1 => if x = true then b ρ1 else .ok (.val (.bool false)) ρ1
def eOr (a b : ME) : ME := fun ρ => (tVal a ρ).bind fun x ρ1 => if x = true then .ok (.val (.bool true)) ρ1 else b ρ1
theorem val_bind {F H : Hp} {σ : Sg} {ρ : Rho} {m : ME} {Q : VK} {f : Bool → Rho → Rs Opd} {Q' : VK} (h : EPost X.K W F H σ ρ Q ((tVal m ρ).bind f)) (k : ∀ b ρ1 F1 H1, Step F H σ ρ F1 H1 ρ1 → Rel X.K F1 σ H1 ρ1 → EPost X.K W F1 H1 σ ρ1 Q (f b ρ1) → Q' (.bl b) H1) : EPost X.K W F H σ ρ Q' (m ρ) := by
  unfold tVal at h
  cases e : m ρ with
  | fail => rw [e] at h; exact h
  | ex x ρ' => rw [e] at h; exact h
  | ok o ρ1 =>
    rw [e] at h
    intro v F1 H1 s1 R1 ro ns
    have h1 := EPost.step s1 h
    have h2 : EPost X.K W F1 H1 σ ρ1 Q ((boolOf ρ1 o).bind f) := h1
    unfold boolOf at h2
    cases e2 : deref ρ1 o with
    | none => rw [e2] at h2; exact False.elim h2
    | some d =>
      rw [e2] at h2
      cases d with
      | bool b =>
        have := (ro.ct R1 e2).bool
        subst this
        exact k b ρ1 F1 H1 s1 R1 h2
      | none => exact False.elim h2
      | int i => exact False.elim h2
      | str i => exact False.elim h2
      | list i => exact False.elim h2
      | tuple i => exact False.elim h2
      | dict i => exact False.elim h2
theorem de_one {op} {m : ME} (h : DE X W a m) : DE X W (.BoolOp op [a] pos) m := let ⟨t, p, q⟩ := h; ⟨t, pe_one p, q⟩
theorem de_and {m n : ME} (ha : DE X W a m) (hb : DE X W (.BoolOp .And (b :: rest) pos) n) : DE X W (.BoolOp .And (a :: b :: rest) pos) (eAnd m n) := by
  obtain ⟨t, p, q⟩ := ha
  obtain ⟨u, p2, q2⟩ := hb
  refine ⟨_, pe_and p p2, fun F σ H ρ Q R h => q F σ H ρ _ R (val_bind h fun x ρ1 F1 H1 s1 R1 hp => ⟨x, rfl, ?_⟩)⟩
  cases x with
  | true => exact q2 F1 σ H1 ρ1 Q R1 hp
  | false => exact hp (.bl false) F1 H1 Step.refl R1 (.bl false) (fun z => nomatch z)
theorem de_or {m n : ME} (ha : DE X W a m) (hb : DE X W (.BoolOp .Or (b :: rest) pos) n) : DE X W (.BoolOp .Or (a :: b :: rest) pos) (eOr m n) := by
  obtain ⟨t, p, q⟩ := ha
  obtain ⟨u, p2, q2⟩ := hb
  refine ⟨_, pe_or p p2, fun F σ H ρ Q R h => q F σ H ρ _ R (val_bind h fun x ρ1 F1 H1 s1 R1 hp => ⟨x, rfl, ?_⟩)⟩
  cases x with
  | true => exact hp (.bl true) F1 H1 Step.refl R1 (.bl true) (fun z => nomatch z)
  | false => exact q2 F1 σ H1 ρ1 Q R1 hp
def eNot (a : ME) : ME := fun ρ => (tVal a ρ).bind fun x ρ1 => .ok (.val (.bool !x)) ρ1
theorem de_not {m : ME} (ha : DE X W a m) : DE X W (.UnaryOp .Not a pos) (eNot m) := by
  obtain ⟨t, p, q⟩ := ha
  exact ⟨_, pe_not p, fun F σ H ρ Q R h => q F σ H ρ _ R (val_bind h fun x ρ1 F1 H1 s1 R1 hp => ⟨x, rfl, hp (.bl !x) F1 H1 Step.refl R1 (.bl _) (fun z => nomatch z)⟩)⟩
def eIf (c : MT) (a b : ME) : ME := fun ρ => (c ρ).bind fun x ρ1 => if x = true then a ρ1 else b ρ1
theorem de_if {c a b : Expr} {mc : MT} {ma mb : ME} (hc : DT X W c mc) (ha : DE X W a ma) (hb : DE X W b mb) : DE X W (.IfExp c a b pos) (eIf mc ma mb) := by
  obtain ⟨t, p, q⟩ := hc
  obtain ⟨t1, p1, q1⟩ := ha
  obtain ⟨t2, p2, q2⟩ := hb
  refine ⟨_, pe_ifExp p p1 p2, fun F σ H ρ Q R h => q F σ H ρ _ R (bindTE h fun x ρ1 F1 H1 s1 R1 hp => ?_)⟩
  cases x with
  | true => exact q1 F1 σ H1 ρ1 Q R1 hp
  | false => exact q2 F1 σ H1 ρ1 Q R1 hp

/-! ### argument lists -/
def aNil : MA := fun ρ => .ok [] ρ
def aCons (a : ME) (r : MA) : MA := fun ρ => (a ρ).bind fun x ρ1 => (r ρ1).bind fun xs ρ2 => .ok (x :: xs) ρ2
theorem da_nil : DA X W [] aNil := ⟨_, pa_nil, fun F σ H ρ Q R h => h [] F H Step.refl R ⟨.nil, List.nodup_nil⟩ (fun a hm => by cases hm)⟩
theorem news_cons {v : V} {o : Opd} {vs : List V} {os : List Opd} {a : Addr} : a ∈ news (v :: vs) (o :: os) → (v = .ref a ∧ o.isNew = true) ∨ a ∈ news vs os := by
  intro h
  cases v <;> cases o <;> try exact .inr h
  rcases List.mem_cons.mp h with e | e
  · exact .inl ⟨by rw [e], rfl⟩
  · exact .inr e
theorem ROs.step {K : PySem.W.Frag} {F H F1 H1 : Hp} {σ : Sg} {ρ ρ1 : Rho} {vs : List V} {os : List Opd} (st : Step F H σ ρ F1 H1 ρ1) (h : ROs K F H σ ρ vs os) : ROs K F1 H1 σ ρ1 vs os := ⟨Paired.mapP h.all fun _ _ r => r.step st, h.nd⟩
theorem RO.prot {K : PySem.W.Frag} {F H : Hp} {σ : Sg} {ρ : Rho} {a : Addr} {o : Opd} (h : RO K F H σ ρ (.ref a) o) (hn : o.isNew = true) : ∃ u, H a = some u ∧ nt u ∧ F a = none ∧ ¬ Own σ ρ a := by
  cases o with
  | new d =>
    obtain ⟨b, e, f, ho, n⟩ := h
    cases e
    obtain ⟨u, hu, t⟩ := ho.some
    exact ⟨u, hu, t, f, n⟩
  | val d => cases hn
  | loc i => cases hn
theorem ROs.cons {K : PySem.W.Frag} {F0 H0 F H : Hp} {σ : Sg} {ρ0 ρ : Rho} {v : V} {o : Opd} {vs : List V} {os : List Opd} (r0 : RO K F0 H0 σ ρ0 v o) (r : RO K F H σ ρ v o) (h : ROs K F H σ ρ vs os) (ns : NewSeps F0 H0 σ ρ0 vs os) : ROs K F H σ ρ (v :: vs) (o :: os) := by
  refine ⟨.cons r h.all, ?_⟩
  cases v <;> cases o <;> try exact h.nd
  case ref.new a d =>
    refine List.nodup_cons.mpr ⟨fun hm => ?_, h.nd⟩
    obtain ⟨u, hu, t, f, n⟩ := r0.prot rfl
    exact n (ns a hm u hu t f)
theorem da_cons {e : Expr} {es : List Expr} {m : ME} {r : MA} (ha : DE X W e m) (hr : DA X W es r) (hs : starEach (e :: es) X.env = (false, eval e X.env) :: starEach es X.env := by rfl) : DA X W (e :: es) (aCons m r) := by
  obtain ⟨t, p, q⟩ := ha
  obtain ⟨u, p2, q2⟩ := hr
  refine ⟨_, pa_cons p p2 hs, fun F σ H ρ Q R h => q F σ H ρ _ R ?_⟩
  unfold aCons at h
  cases em : m ρ with
  | fail => rw [em] at h; exact h
  | ex x ρ' => rw [em] at h; exact h
  | ok o ρ1 =>
    rw [em] at h
    intro v F1 H1 s1 R1 ro ns
    refine q2 F1 σ H1 ρ1 _ R1 ?_
    dsimp only [Rs.bind] at h
    cases er : r ρ1 with
    | fail => rw [er] at h; exact h
    | ex x ρ' => rw [er] at h; exact XPost.step s1 h
    | ok os ρ2 =>
      rw [er] at h
      intro vs F2 H2 s2 R2 ros nss
      refine h (v :: vs) F2 H2 (s1.trans s2) R2 (ROs.cons ro (ro.step s2) ros nss) fun a hm u ha t f => ?_
      rcases news_cons hm with ⟨e1, e2⟩ | hm
      · exact ns e2 a u e1 ha t f
      · exact NewSeps.back s1.fr nss a hm u ha t f
end
end Dl

set_option maxRecDepth 100000
set_option maxHeartbeats 4000000
namespace Dl
open PySem PySem.Spec L2
set_option autoImplicit false

/-! ### what is handed on is frozen -/
def frz1 (F H : Hp) (a : Addr) : Hp := fun b => if b = a then H a else F b
theorem frz_at {F H : Hp} {a : Addr} : frz1 F H a a = H a := if_pos rfl
theorem frz_ne {F H : Hp} {a b : Addr} (h : b ≠ a) : frz1 F H a b = F b := if_neg h
theorem frz_ext {F H : Hp} {a : Addr} (f : F a = none) : Ext F (frz1 F H a) := fun b o h => by
  rw [frz_ne]
  · exact h
  · rintro rfl; rw [f] at h; cases h
theorem frz_sub {K : PySem.W.Frag} {F H : Hp} {a : Addr} {d : D} (s : Sub F H) (o : OwnAt K F H a d) : Sub (frz1 F H a) H := fun b u h => by
  by_cases e : b = a
  · subst e
    rw [frz_at] at h
    obtain ⟨w, hw, t⟩ := o.some
    rw [hw] at h; cases h
    exact ⟨.inl hw, t⟩
  · rw [frz_ne e] at h; exact s b u h
theorem frz_rp {K : PySem.W.Frag} {F H : Hp} {a : Addr} (f : F a = none) : ∀ {d : D}, OwnAt K F H a d → Rp K (frz1 F H a) (.ref a) d
  | .list _, ⟨vs, h, r⟩ => .lst (by rw [frz_at]; exact h) (r.mono (frz_ext f))
  | .dict _, ⟨vs, h, r⟩ => .dct (by rw [frz_at]; exact h) (r.mono (frz_ext f))
def useO (ρ : Rho) : Opd → Option (D × Rho)
  | .val d => some (d, ρ)
  | .new d => some (d, ρ)
  | .loc i => match ρ[i]? with
    | some (.own d) => some (d, ρ.set i (.dat d))
    | some (.dat d) => some (d, ρ)
    | _ => none
def useAll (ρ : Rho) : List Opd → Option (List D × Rho)
  | [] => some ([], ρ)
  | o :: os => match useO ρ o with
    | some (d, ρ1) => (match useAll ρ1 os with
      | some (ds, ρ2) => some (d :: ds, ρ2)
      | none => none)
    | none => none
theorem mine_set {σ : Sg} {ρ : Rho} {i j : Nat} {a : Addr} {s : Slot} (hs : s.mine = false) (h : Mine σ (ρ.set i s) j a) : j ≠ i ∧ Mine σ ρ j a := by
  obtain ⟨⟨t, e, m⟩, e2⟩ := h
  have ne : j ≠ i := by
    rintro rfl
    by_cases hl : j < ρ.length
    · rw [List.getElem?_set_self hl] at e; cases e; rw [hs] at m; cases m
    · rw [List.getElem?_eq_none (by simpa using hl)] at e; cases e
  refine ⟨ne, ⟨t, ?_, m⟩, e2⟩
  rw [List.getElem?_set_ne (Ne.symm ne)] at e; exact e
section
variable {K : PySem.W.Frag} {F0 H0 F H : Hp} {σ : Sg} {ρ0 ρ : Rho}
theorem kp_set {i : Nat} {s t : Slot} (e : ρ[i]? = some s) (k : KpS s t) : Kp ρ (ρ.set i t) := ⟨by simp, fun j u h => by
  by_cases hj : j = i
  · subst hj
    rw [e] at h; cases h
    exact ⟨t, List.getElem?_set_self (List.getElem?_eq_some_iff.mp e).1, k⟩
  · exact ⟨u, by rw [List.getElem?_set_ne (Ne.symm hj)]; exact h, KpS.refl u⟩⟩
theorem use_ok {v : V} {o : Opd} {d : D} {ρ1 : Rho} (R : Rel K F σ H ρ) (st : Step F0 H0 σ ρ0 F H ρ) (ro : RO K F H σ ρ v o) (ns : NewSep F0 H0 σ ρ0 v o) (h : useO ρ o = some (d, ρ1)) :
    ∃ F1, Step F0 H0 σ ρ0 F1 H ρ1 ∧ Rel K F1 σ H ρ1 ∧ Rp K F1 v d ∧ Ext F F1 ∧ (∀ b, F b = none → F1 b ≠ none → v = .ref b ∧ (o.isNew = true ∨ Own σ ρ b)) ∧ Kp ρ ρ1 ∧ ∀ b, Own σ ρ1 b → Own σ ρ b := by
  cases o with
  | val d' =>
    cases h
    exact ⟨F, st, R, ro, Ext.refl _, fun b h1 h2 => absurd h1 h2, Kp.refl _, fun b h => h⟩
  | new d' =>
    cases h
    obtain ⟨a, e, f, ow, n⟩ := ro
    subst e
    have ne : ∀ b o, H0 b = some o → nt o → F0 b = none → ¬ Own σ ρ0 b → b ≠ a := fun b o h1 t f1 n1 z => by
      subst z; exact n1 (ns rfl b o rfl h1 t f1)
    refine ⟨frz1 F H a, ⟨⟨st.fr.ext.trans (frz_ext f), fun b o h1 t f1 n1 => ?_⟩, st.kp⟩, ⟨frz_sub R.sub ow, R.len, fun i d e => ?_, fun i s d e m q => ?_, R.sep, R.tab⟩, frz_rp f ow, frz_ext f, fun b h1 h2 => ?_, Kp.refl _, fun b h => h⟩
    · obtain ⟨x, y, z⟩ := st.fr.keep b o h1 t f1 n1
      exact ⟨x, by rw [frz_ne (ne b o h1 t f1 n1)]; exact y, z⟩
    · obtain ⟨v, h1, h2⟩ := R.dat i d e
      exact ⟨v, h1, h2.mono (frz_ext f)⟩
    · obtain ⟨b, h1, h2, h3⟩ := R.own i s d e m q
      have : b ≠ a := by rintro rfl; exact n ⟨i, ⟨s, e, m⟩, h1⟩
      exact ⟨b, h1, by rw [frz_ne this]; exact h2, h3.mono (frz_ext f) fun _ z => z⟩
    · by_cases e : b = a
      · subst e; exact ⟨rfl, .inl rfl⟩
      · rw [frz_ne e] at h2; exact absurd h1 h2
  | loc i =>
    obtain ⟨hv, s, d', e, q⟩ := ro
    unfold useO at h
    dsimp only at h
    rw [e] at h
    cases s with
    | un => cases h
    | par _ => cases h
    | lck _ => cases h
    | dat d2 =>
      cases h
      obtain ⟨w, h1, h2⟩ := R.dat i _ e
      rw [hv] at h1; cases h1
      exact ⟨F, st, R, h2, Ext.refl _, fun b h1 h2 => absurd h1 h2, Kp.refl _, fun b h => h⟩
    | own d2 =>
      cases h
      obtain ⟨a, h1, f, ow⟩ := R.own i _ _ e rfl rfl
      rw [hv] at h1; cases h1
      have mi : Mine σ ρ i a := ⟨⟨_, e, rfl⟩, hv⟩
      refine ⟨frz1 F H a, ⟨⟨st.fr.ext.trans (frz_ext f), fun b o h1 t f1 n1 => ?_⟩, st.kp.trans (kp_set e trivial)⟩, ⟨frz_sub R.sub ow, by rw [List.length_set]; exact R.len, fun j d e2 => ?_, fun j s d e2 m q => ?_, fun j k b m1 m2 => ?_, R.tab⟩, frz_rp f ow, frz_ext f, fun b h1 h2 => ?_, kp_set e trivial, fun b ⟨j, m⟩ => ⟨j, (mine_set rfl m).2⟩⟩
      · obtain ⟨x, y, z⟩ := st.fr.keep b o h1 t f1 n1
        have : b ≠ a := by rintro rfl; exact z ⟨i, mi⟩
        exact ⟨x, by rw [frz_ne this]; exact y, fun ⟨j, m⟩ => z ⟨j, (mine_set rfl m).2⟩⟩
      · by_cases hj : j = i
        · subst hj
          rw [List.getElem?_set_self (List.getElem?_eq_some_iff.mp e).1] at e2; cases e2
          exact ⟨_, hv, frz_rp f ow⟩
        · rw [List.getElem?_set_ne (Ne.symm hj)] at e2
          obtain ⟨v, h1, h2⟩ := R.dat j d e2
          exact ⟨v, h1, h2.mono (frz_ext f)⟩
      · have hj : j ≠ i := by
          rintro rfl
          rw [List.getElem?_set_self (List.getElem?_eq_some_iff.mp e).1] at e2; cases e2; cases m
        rw [List.getElem?_set_ne (Ne.symm hj)] at e2
        obtain ⟨b, h1, h2, h3⟩ := R.own j s d e2 m q
        have : b ≠ a := by rintro rfl; exact hj (R.sep j i b ⟨⟨s, e2, m⟩, h1⟩ mi)
        exact ⟨b, h1, by rw [frz_ne this]; exact h2, h3.mono (frz_ext f) fun _ z => z⟩
      · exact R.sep j k b (mine_set rfl m1).2 (mine_set rfl m2).2
      · by_cases e : b = a
        · subst e; exact ⟨rfl, .inr ⟨i, mi⟩⟩
        · rw [frz_ne e] at h2; exact absurd h1 h2
theorem useAll_ok : ∀ {os : List Opd} {F : Hp} {ρ : Rho} {vs : List V} {ds : List D} {ρ1 : Rho}, Rel K F σ H ρ → Step F0 H0 σ ρ0 F H ρ → ROs K F H σ ρ vs os → NewSeps F0 H0 σ ρ0 vs os → useAll ρ os = some (ds, ρ1) →
    ∃ F1, Step F0 H0 σ ρ0 F1 H ρ1 ∧ Rel K F1 σ H ρ1 ∧ RpA K F1 vs ds ∧ Ext F F1
  | [], F, ρ, vs, ds, ρ1, R, st, ro, ns, h => by
    cases h
    cases ro.all
    exact ⟨F, st, R, .nil, Ext.refl _⟩
  | o :: os, F, ρ, vs, ds, ρ1, R, st, ro, ns, h => by
    obtain ⟨all, nd⟩ := ro
    cases all with
    | @cons v _ vs _ r rs =>
    unfold useAll at h
    cases e1 : useO ρ o with
    | none => rw [e1] at h; cases h
    | some p =>
      obtain ⟨d, ρ2⟩ := p
      rw [e1] at h
      dsimp only at h
      cases e2 : useAll ρ2 os with
      | none => rw [e2] at h; cases h
      | some p2 =>
        obtain ⟨ds', ρ3⟩ := p2
        rw [e2] at h
        cases h
        have ns1 : NewSep F0 H0 σ ρ0 v o := fun hn a u e ha t f => by
          subst e
          cases o with
          | new d => exact ns a List.mem_cons_self u ha t f
          | val d => cases hn
          | loc i => cases hn
        have tail : ∀ a, a ∈ news vs os → a ∈ news (v :: vs) (o :: os) := fun a h => by
          cases v <;> cases o <;> first | exact h | exact List.mem_cons_of_mem _ h
        obtain ⟨F2, st2, R2, rp, ex2, only, kp2, sb⟩ := use_ok R st r ns1 e1
        have ros : ROs K F2 H σ ρ2 vs os := by
          refine ⟨?_, ?_⟩
          · have pr : ∀ {ws : List V} {ps : List Opd}, (∀ a ∈ news ws ps, a ∈ news vs os) → Paired (RO K F H σ ρ) ws ps → Paired (RO K F2 H σ ρ2) ws ps := by
              intro ws ps sub p
              induction p with
              | nil => exact .nil
              | @cons w p' ws ps' r' _ ih =>
                refine .cons ?_ (ih fun a h => sub a (by cases w <;> cases p' <;> first | exact h | exact List.mem_cons_of_mem _ h))
                cases p' with
                | val d => exact Rp.mono ex2 r'
                | loc i =>
                  obtain ⟨x, s, d, y, z⟩ := r'
                  exact ⟨x, kp2.data y z⟩
                | new d =>
                  obtain ⟨a, x, f, ow, n⟩ := r'
                  subst x
                  have ha : a ∈ news vs os := sub a List.mem_cons_self
                  refine ⟨a, rfl, ?_, ow.mono ex2 fun _ z => z, fun z => n (sb a z)⟩
                  cases q : F2 a with
                  | none => rfl
                  | some u =>
                    obtain ⟨y1, y2⟩ := only a f (by rw [q]; intro z; cases z)
                    rcases y2 with y2 | y2
                    · subst y1
                      cases o with
                      | new d2 => exact absurd ha (List.nodup_cons.mp nd).1
                      | val d2 => cases y2
                      | loc j => cases y2
                    · exact absurd y2 n
            exact pr (fun a h => h) rs
          · cases v <;> cases o <;> first | exact nd | exact (List.nodup_cons.mp nd).2
        obtain ⟨F3, st3, R3, rp3, ex3⟩ := useAll_ok (os := os) R2 st2 ros (fun a hm => ns a (tail a hm)) e2
        exact ⟨F3, st3, R3, .cons (rp.mono ex3) rp3, ex2.trans ex3⟩
end
section
variable {X : Cx} {W : WX} {pos : Pos}
def withAll (f : List D → Option Opd) (ρ : Rho) (os : List Opd) : Rs Opd := match useAll ρ os with
  | some (ds, ρ1) => (match f ds with
    | some o => .ok o ρ1
    | none => .fail)
  | none => .fail
def eUse (f : List D → Option Opd) (a : MA) : ME := fun ρ => (a ρ).bind fun os ρ1 => withAll f ρ1 os
theorem use_bind {F H : Hp} {σ : Sg} {ρ : Rho} {Q : VK} {a : MA} {f : List D → Option Opd} {Q' : List V → Hp → Prop} (h : EPost X.K W F H σ ρ Q (eUse f a ρ))
    (k : ∀ vs ds o F1 H1 ρ1, Step F H σ ρ F1 H1 ρ1 → Rel X.K F1 σ H1 ρ1 → RpA X.K F1 vs ds → f ds = some o → EPost X.K W F H σ ρ Q (.ok o ρ1) → Q' vs H1) : APost X.K W F H σ ρ Q' (a ρ) := by
  unfold eUse at h
  cases e : a ρ with
  | fail => rw [e] at h; exact h
  | ex x ρ' => rw [e] at h; exact h
  | ok os ρ1 =>
    rw [e] at h
    intro vs F1 H1 s1 R1 ro ns
    dsimp only [Rs.bind] at h
    unfold withAll at h
    cases e1 : useAll ρ1 os with
    | none => rw [e1] at h; exact False.elim h
    | some p =>
      obtain ⟨ds, ρ2⟩ := p
      rw [e1] at h
      dsimp only at h
      cases e2 : f ds with
      | none => rw [e2] at h; exact False.elim h
      | some o =>
        rw [e2] at h
        obtain ⟨F2, s2, R2, rp, ex⟩ := useAll_ok R1 s1 ro ns e1
        exact k vs ds o F2 H1 ρ2 s2 R2 rp e2 h
def mkTup (ds : List D) : Option Opd := if ds.length ≤ sizeLine then some (.val (.tuple ds)) else none
def mkLst (ds : List D) : Option Opd := if ds.length ≤ sizeLine then some (.new (.list ds)) else none
theorem upd_fresh {K : PySem.W.Frag} {F H : Hp} {p : Addr} {o : HO} (s : Sub F H) (hp : H p = none) (t : nt o) : F p = none ∧ Grow F H F (upd H p o) ∧ Grow F H (upd F p o) (upd H p o) := by
  have fp : F p = none := by
    cases q : F p with
    | none => rfl
    | some u =>
      obtain ⟨r, _⟩ := s p u q
      rcases r with r | ⟨x, r, _⟩ <;> (rw [hp] at r; cases r)
  have up : ∀ b u, H b = some u → upd H p o b = some u := fun b u h => by rw [upd_ne (ne_of_none h hp)]; exact h
  have rd : ∀ b u, Rdn H b u → Rdn (upd H p o) b u := fun b u r => r.elim (fun z => .inl (up _ _ z)) fun ⟨x, z, n⟩ => .inr ⟨x, up _ _ z, n⟩
  refine ⟨fp, ⟨Ext.refl _, fun b u h => ⟨rd _ _ (s b u h).1, (s b u h).2⟩, up, fun _ _ _ h => h⟩, ⟨fun b u h => by rw [upd_ne (ne_of_none h fp)]; exact h, fun b u h => ?_, up, fun b u h f => by rw [upd_ne (ne_of_none h hp)]; exact f⟩⟩
  by_cases e : b = p
  · subst e; rw [upd_same] at h; cases h; exact ⟨.inl upd_same, t⟩
  · rw [upd_ne e] at h; exact ⟨rd _ _ (s b u h).1, (s b u h).2⟩
theorem Grow.then {F0 H0 F H F' H' : Hp} {σ : Sg} {ρ0 ρ : Rho} (st : Step F0 H0 σ ρ0 F H ρ) (g : Grow F H F' H') : Step F0 H0 σ ρ0 F' H' ρ := st.trans g.step
theorem new_sep {F0 H0 H : Hp} {σ : Sg} {ρ0 ρ F} {p : Addr} {o : Opd} (st : Step F0 H0 σ ρ0 F H ρ) (hp : H p = none) : NewSep F0 H0 σ ρ0 (.ref p) o := fun _ a u e ha t f => Classical.byContradiction fun n => by
  cases e
  obtain ⟨h1, _⟩ := st.fr.keep _ u ha t f n
  rw [hp] at h1; cases h1
theorem not_own {K : PySem.W.Frag} {F H : Hp} {σ : Sg} {ρ : Rho} {p : Addr} (R : Rel K F σ H ρ) (hp : H p = none) : ¬ Own σ ρ p := fun ⟨i, ⟨s, e, m⟩, h⟩ => by
  obtain ⟨d, hd⟩ : ∃ d, s.data? = some d := by cases s <;> first | (cases m; done) | exact ⟨_, rfl⟩
  obtain ⟨a, h1, _, h3⟩ := R.own i s d e m hd
  rw [h] at h1; cases h1
  obtain ⟨u, hu, _⟩ := h3.some
  rw [hp] at hu; cases hu
theorem de_tup {es : List Expr} {m : MA} {x1} (h : DA X W es m) : DE X W (.Tuple es x1 pos) (eUse mkTup m) := by
  obtain ⟨t, p, q⟩ := h
  refine ⟨_, pe_tup p, fun F σ H ρ Q R h => q F σ H ρ _ R (use_bind h fun vs ds o F1 H1 ρ1 s1 R1 rp e hp => ?_)⟩
  unfold mkTup at e
  split at e
  · rename_i hz
    cases e
    refine ⟨by rw [rp.length]; exact hz, fun p np => ?_⟩
    obtain ⟨fp, _, g⟩ := upd_fresh (K := X.K) (o := .tup vs) R1.sub np trivial
    exact hp (.ref p) _ _ (s1.trans g.step) (g.rel R1) (.tup upd_same (rp.mono g.ext)) (fun z => nomatch z)
  · cases e
theorem de_lst {es : List Expr} {m : MA} (h : DA X W es m) : DE X W (.List es pos) (eUse mkLst m) := by
  obtain ⟨t, p, q⟩ := h
  refine ⟨_, pe_lst p, fun F σ H ρ Q R h => q F σ H ρ _ R (use_bind h fun vs ds o F1 H1 ρ1 s1 R1 rp e hp => ?_)⟩
  unfold mkLst at e
  split at e
  · rename_i hz
    cases e
    refine ⟨by rw [rp.length]; exact hz, fun p np => ?_⟩
    obtain ⟨fp, g, _⟩ := upd_fresh (K := X.K) (o := .lst vs) R1.sub np trivial
    exact hp (.ref p) _ _ (s1.trans g.step) (g.rel R1) ⟨p, rfl, fp, ⟨vs, upd_same, rp⟩, not_own R1 np⟩ (new_sep s1 np)
  · cases e
end
end Dl

set_option maxRecDepth 100000
set_option maxHeartbeats 4000000
namespace Dl
open PySem PySem.Spec L2
set_option autoImplicit false

def DS (X : Cx) (W : WX) (s : Stmt) (m : MS) : Prop := ∃ t, PS X s t ∧ ∀ F σ H ρ Z, Rel X.K F σ H ρ → SPost X.K W F H σ ρ Z (m ρ) → t Z σ H
def DSs (X : Cx) (W : WX) (s : List Stmt) (m : MS) : Prop := ∃ t, PSs X s t ∧ ∀ F σ H ρ Z, Rel X.K F σ H ρ → SPost X.K W F H σ ρ Z (m ρ) → t Z σ H
section
variable {K : PySem.W.Frag} {W : WX} {F H F0 H0 : Hp} {σ σ0 : Sg} {ρ ρ0 : Rho}
/-- a name may be stored -/
def free (ρ : Rho) (i : Nat) : Bool := match ρ[i]? with
  | some (.par _) => false
  | some (.lck _) => false
  | _ => true
theorem mine_put {i j : Nat} {a : Addr} {w : Option V} {s : Slot} (hs : s.mine = false) (h : Mine (σ.set i w) (ρ.set i s) j a) : j ≠ i ∧ Mine σ ρ j a := by
  obtain ⟨ne, h1, h2⟩ := mine_set hs h
  refine ⟨ne, h1, ?_⟩
  rw [List.getElem?_set_ne (Ne.symm ne)] at h2; exact h2
theorem par_put {i : Nat} {w : Option V} {s : Slot} (hf : free ρ i = true) : Par σ ρ (σ.set i w) (ρ.set i s) := by
  have h : ∀ j t, ρ[j]? = some t → (t = .par (t.data?.getD .none) ∨ t = .lck (t.data?.getD .none)) → j ≠ i := fun j t e q z => by
    subst z
    unfold free at hf
    rw [e] at hf
    rcases q with q | q <;> (rw [q] at hf; cases hf)
  exact ⟨fun j d e => by
    have ne := h j _ e (.inl rfl)
    rw [List.getElem?_set_ne (Ne.symm ne), List.getElem?_set_ne (Ne.symm ne)]
    exact ⟨⟨d, e⟩, rfl⟩, fun j d e => by
    have ne := h j _ e (.inr rfl)
    rw [List.getElem?_set_ne (Ne.symm ne), List.getElem?_set_ne (Ne.symm ne)]
    exact ⟨e, rfl⟩⟩
theorem set_dat {i : Nat} {v : V} {d : D} (R : Rel K F σ H ρ) (rp : Rp K F v d) (hf : free ρ i = true) : Rel K F (σ.set i (some v)) H (ρ.set i (.dat d)) ∧ StepS F H σ ρ F H (σ.set i (some v)) (ρ.set i (.dat d)) := by
  refine ⟨⟨R.sub, by rw [List.length_set, List.length_set]; exact R.len, fun j d' e => ?_, fun j s d' e m q => ?_, fun j k a h1 h2 => ?_, R.tab⟩, ⟨Ext.refl _, fun a o h t f n => ⟨h, f, fun ⟨j, m⟩ => n ⟨j, (mine_put rfl m).2⟩⟩⟩, par_put hf⟩
  · by_cases hj : j = i
    · subst hj
      by_cases hl : j < ρ.length
      · rw [List.getElem?_set_self hl] at e; cases e
        exact ⟨v, List.getElem?_set_self (by rw [R.len]; exact hl), rp⟩
      · rw [List.getElem?_eq_none (by simpa using hl)] at e; cases e
    · rw [List.getElem?_set_ne (Ne.symm hj)] at e ⊢
      exact R.dat j d' e
  · have hj : j ≠ i := by
      rintro rfl
      by_cases hl : j < ρ.length
      · rw [List.getElem?_set_self hl] at e; cases e; cases m
      · rw [List.getElem?_eq_none (by simpa using hl)] at e; cases e
    rw [List.getElem?_set_ne (Ne.symm hj)] at e ⊢
    exact R.own j s d' e m q
  · exact R.sep j k a (mine_put rfl h1).2 (mine_put rfl h2).2
theorem set_own {i : Nat} {a : Addr} {d : D} (R : Rel K F σ H ρ) (f : F a = none) (ow : OwnAt K F H a d) (no : ¬ Own σ ρ a) (hf : free ρ i = true) (st : StepS F0 H0 σ0 ρ0 F H σ ρ) (ns : NewSep F0 H0 σ0 ρ0 (.ref a) (.new d)) :
    Rel K F (σ.set i (some (.ref a))) H (ρ.set i (.own d)) ∧ StepS F0 H0 σ0 ρ0 F H (σ.set i (some (.ref a))) (ρ.set i (.own d)) := by
  have mine : ∀ {j b}, Mine (σ.set i (some (.ref a))) (ρ.set i (.own d)) j b → (j = i ∧ b = a) ∨ (j ≠ i ∧ Mine σ ρ j b) := fun {j b} ⟨⟨s, e, m⟩, e2⟩ => by
    by_cases hj : j = i
    · subst hj
      by_cases hl : j < σ.length
      · rw [List.getElem?_set_self hl] at e2; cases e2; exact .inl ⟨rfl, rfl⟩
      · rw [List.getElem?_eq_none (by simpa using hl)] at e2; cases e2
    · rw [List.getElem?_set_ne (Ne.symm hj)] at e e2
      exact .inr ⟨hj, ⟨s, e, m⟩, e2⟩
  refine ⟨⟨R.sub, by rw [List.length_set, List.length_set]; exact R.len, fun j d' e => ?_, fun j s d' e m q => ?_, fun j k b h1 h2 => ?_, R.tab⟩, ⟨⟨st.fr.ext, fun b o h t f1 n1 => ?_⟩, ?_⟩⟩
  · have hj : j ≠ i := by
      rintro rfl
      by_cases hl : j < ρ.length
      · rw [List.getElem?_set_self hl] at e; cases e
      · rw [List.getElem?_eq_none (by simpa using hl)] at e; cases e
    rw [List.getElem?_set_ne (Ne.symm hj)] at e ⊢
    exact R.dat j d' e
  · by_cases hj : j = i
    · subst hj
      by_cases hl : j < ρ.length
      · rw [List.getElem?_set_self hl] at e; cases e; cases q
        exact ⟨a, List.getElem?_set_self (by rw [R.len]; exact hl), f, ow⟩
      · rw [List.getElem?_eq_none (by simpa using hl)] at e; cases e
    · rw [List.getElem?_set_ne (Ne.symm hj)] at e ⊢
      exact R.own j s d' e m q
  · rcases mine h1 with ⟨e1, e2⟩ | ⟨n1, m1⟩ <;> rcases mine h2 with ⟨e3, e4⟩ | ⟨n2, m2⟩
    · rw [e1, e3]
    · subst e2; exact absurd ⟨k, m2⟩ no
    · subst e4; exact absurd ⟨j, m1⟩ no
    · exact R.sep j k b m1 m2
  · obtain ⟨x, y, z⟩ := st.fr.keep b o h t f1 n1
    refine ⟨x, y, fun ⟨j, m⟩ => ?_⟩
    rcases mine m with ⟨_, e2⟩ | ⟨_, m2⟩
    · subst e2; exact n1 (ns rfl b o rfl h t f1)
    · exact z ⟨j, m2⟩
  · have p := par_put (σ := σ) (w := some (.ref a)) (s := .own d) hf
    exact ⟨fun j d' e => by
      obtain ⟨⟨d1, e1⟩, q1⟩ := st.par.1 j d' e
      obtain ⟨x, q2⟩ := p.1 j d1 e1
      exact ⟨x, q2.trans q1⟩, fun j d' e => by
      obtain ⟨e1, q1⟩ := st.par.2 j d' e
      obtain ⟨x, q2⟩ := p.2 j d' e1
      exact ⟨x, q2.trans q1⟩⟩

/-! ### a name is stored -/
def putO (i : Nat) (o : Opd) (ρ : Rho) : Rs Flow := if free ρ i = true then (match o with
  | .new d => .ok .nx (ρ.set i (.own d))
  | .val d => .ok .nx (ρ.set i (.dat d))
  | .loc j => (match useO ρ (.loc j) with
    | some (d, ρ1) => if free ρ1 i = true then .ok .nx (ρ1.set i (.dat d)) else .fail
    | none => .fail)) else .fail
theorem putO_ok {i : Nat} {v : V} {o : Opd} {Z : Ends} (R : Rel K F σ H ρ) (st : Step F0 H0 σ ρ0 F H ρ) (ro : RO K F H σ ρ v o) (ns : NewSep F0 H0 σ ρ0 v o) (h : SPost K W F0 H0 σ ρ0 Z (putO i o ρ)) : Z.nx (σ.set i (some v)) H := by
  unfold putO at h
  cases hf : free ρ i with
  | false => rw [hf] at h; exact False.elim h
  | true =>
    rw [hf] at h
    cases o with
    | new d =>
      obtain ⟨a, e, f, ow, n⟩ := ro
      subst e
      obtain ⟨R', s'⟩ := set_own R f ow n hf st.s ns
      exact h _ F H s' R'
    | val d =>
      obtain ⟨R', s'⟩ := set_dat R ro hf
      exact h _ F H (st.s.trans s') R'
    | loc j =>
      dsimp only at h
      cases e : useO ρ (.loc j) with
      | none => rw [e] at h; exact False.elim h
      | some p =>
        obtain ⟨d, ρ1⟩ := p
        rw [e] at h
        obtain ⟨F1, s1, R1, rp, _⟩ := use_ok R st ro ns e
        cases hf1 : free ρ1 i with
        | false => dsimp only at h; rw [hf1] at h; exact False.elim h
        | true =>
          dsimp only at h
          rw [hf1] at h
          obtain ⟨R', s'⟩ := set_dat R1 rp hf1
          exact h _ F1 H (s1.s.trans s') R'
end
section
variable {X : Cx} {W : WX} {pos : Pos}
def sSet (i : Nat) (m : ME) : MS := fun ρ => (m ρ).bind fun o ρ1 => putO i o ρ1
theorem ES {F H : Hp} {σ : Sg} {ρ : Rho} {Z : Ends} {r : Rs Opd} {f : Opd → Rho → Rs Flow} {Q' : VK} (h : SPost X.K W F H σ ρ Z (r.bind f)) (k : ∀ o ρ1 v F1 H1, Step F H σ ρ F1 H1 ρ1 → Rel X.K F1 σ H1 ρ1 → RO X.K F1 H1 σ ρ1 v o → NewSep F H σ ρ v o → SPost X.K W F H σ ρ Z (f o ρ1) → Q' v H1) : EPost X.K W F H σ ρ Q' r := by
  cases r with
  | fail => exact h
  | ex x ρ' => exact XPostS.x h
  | ok o ρ1 => exact fun v F1 H1 s1 R1 ro ns => k o ρ1 v F1 H1 s1 R1 ro ns h
theorem ds_set {i : Nat} {e : Expr} {m : ME} {x : Str} {pos' : Pos} (hN : X.N.Nodup) (hi : X.N[i]? = some x) (hx : Loc X.env.scope x) (he : DE X W e m) (hs : swapsWith e (some (.Name x pos')) pos.line X.env = pure false := by rfl)
    (hf : X.fn x = true ∨ X.env.scope.names.lookup x = some .local := by first | exact .inl rfl | exact .inr rfl | assumption) : DS X W (.Assign [.Name x pos'] e pos) (sSet i m) := by
  obtain ⟨t, p, q⟩ := he
  exact ⟨_, ps_set hN hi hx p hs hf, fun F σ H ρ Z R h => q F σ H ρ _ R (ES h fun o ρ1 v F1 H1 s1 R1 ro ns hp => putO_ok R1 s1 ro ns hp)⟩
/-! ### blocks -/
def sNil : MS := fun ρ => .ok .nx ρ
def sSeq (a b : MS) : MS := fun ρ => match a ρ with
  | .ok .nx ρ1 => b ρ1
  | r => r
theorem dss_nil : DSs X W [] sNil := ⟨_, pss_nil, fun F σ H ρ Z R h => h σ F H StepS.refl R⟩
theorem seq_post {F H : Hp} {σ : Sg} {ρ : Rho} {Z : Ends} {r : Rs Flow} {b : MS} {N : St → Hp → Prop} (h : SPost X.K W F H σ ρ Z (match r with
  | .ok .nx ρ1 => b ρ1
  | r => r)) (k : ∀ ρ1 σ1 F1 H1, StepS F H σ ρ F1 H1 σ1 ρ1 → Rel X.K F1 σ1 H1 ρ1 → SPost X.K W F1 H1 σ1 ρ1 Z (b ρ1) → N σ1 H1) : SPost X.K W F H σ ρ { Z with nx := N } r := by
  cases r with
  | fail => exact h
  | ex x ρ' => exact h
  | ok f ρ1 =>
    cases f with
    | nx => exact fun σ1 F1 H1 s1 R1 => k ρ1 σ1 F1 H1 s1 R1 (SPost.step s1 h)
    | rt o => exact h
    | bk => exact h
    | ct => exact h
theorem dss_cons {s : Stmt} {r : List Stmt} {a b : MS} (h1 : DS X W s a) (h2 : DSs X W r b) : DSs X W (s :: r) (sSeq a b) := by
  obtain ⟨t, p, q⟩ := h1
  obtain ⟨u, p2, q2⟩ := h2
  exact ⟨_, pss_cons p p2, fun F σ H ρ Z R h => q F σ H ρ _ R (seq_post h fun ρ1 σ1 F1 H1 s1 R1 hp => q2 F1 σ1 H1 ρ1 Z R1 hp)⟩
theorem dss_one {s : Stmt} {a : MS} (h1 : DS X W s a) : DSs X W [s] a := by
  obtain ⟨t, p, q⟩ := h1
  exact ⟨_, pss_one p, q⟩
theorem ds_pass : DS X W (.Pass pos) sNil := ⟨_, ps_pass, fun F σ H ρ Z R h => h σ F H StepS.refl R⟩
def sBrk : MS := fun ρ => .ok .bk ρ
def sCnt : MS := fun ρ => .ok .ct ρ
theorem ds_break : DS X W (.Break pos) sBrk := ⟨_, ps_break, fun F σ H ρ Z R h => h σ F H StepS.refl R⟩
theorem ds_continue : DS X W (.Continue pos) sCnt := ⟨_, ps_continue, fun F σ H ρ Z R h => h σ F H StepS.refl R⟩
def sExp (m : ME) : MS := fun ρ => (m ρ).bind fun _ ρ1 => .ok .nx ρ1
theorem ds_expr {e : Expr} {m : ME} (he : DE X W e m) (hs : swapsWith e none pos.line X.env = pure false := by rfl) : DS X W (.Expr e pos) (sExp m) := by
  obtain ⟨t, p, q⟩ := he
  exact ⟨_, ps_expr p hs, fun F σ H ρ Z R h => q F σ H ρ _ R (ES h fun o ρ1 v F1 H1 s1 R1 ro ns hp => hp σ F1 H1 s1.s R1)⟩
/-- what is handed back: a name's own object goes out -/
def outO (o : Opd) (ρ : Rho) : Rs Flow := match o with
  | .loc i => (match ρ[i]? with
    | some (.own d) => .ok (.rt (.new d)) (ρ.set i .un)
    | some (.dat d) => .ok (.rt (.val d)) ρ
    | _ => .fail)
  | o => .ok (.rt o) ρ
def sRet (m : ME) : MS := fun ρ => (m ρ).bind outO
theorem set_un {K : PySem.W.Frag} {F H : Hp} {σ : Sg} {ρ : Rho} {i : Nat} (R : Rel K F σ H ρ) (hf : free ρ i = true) : Rel K F σ H (ρ.set i .un) ∧ StepS F H σ ρ F H σ (ρ.set i .un) := by
  have nu : ∀ {j t}, (ρ.set i .un)[j]? = some t → t ≠ .un → j ≠ i ∧ ρ[j]? = some t := fun {j t} e n => by
    by_cases hj : j = i
    · subst hj
      by_cases hl : j < ρ.length
      · rw [List.getElem?_set_self hl] at e; cases e; exact absurd rfl n
      · rw [List.getElem?_eq_none (by simpa using hl)] at e; cases e
    · rw [List.getElem?_set_ne (Ne.symm hj)] at e; exact ⟨hj, e⟩
  refine ⟨⟨R.sub, by rw [List.length_set]; exact R.len, fun j d e => R.dat j d (nu e (by simp)).2, fun j s d e m q => R.own j s d (nu e (by rintro rfl; cases m)).2 m q, fun j k a h1 h2 => R.sep j k a (mine_set rfl h1).2 (mine_set rfl h2).2, R.tab⟩,
    ⟨⟨Ext.refl _, fun a o h t f n => ⟨h, f, fun ⟨j, m⟩ => n ⟨j, (mine_set rfl m).2⟩⟩⟩, ?_⟩⟩
  have p := par_put (σ := σ) (w := none) (s := .un) hf
  exact ⟨fun j d e => ⟨(p.1 j d e).1, rfl⟩, fun j d e => ⟨(p.2 j d e).1, rfl⟩⟩
theorem ds_ret {e : Expr} {m : ME} (he : DE X W e m) (p : ∀ {t}, PE X e t → PS X (.Return (some e) pos) (tRet t) := by intro t h; exact ps_ret h) : DS X W (.Return (some e) pos) (sRet m) := by
  obtain ⟨t, pe, q⟩ := he
  refine ⟨_, p pe, fun F σ H ρ Z R h => q F σ H ρ _ R (ES h fun o ρ1 v F1 H1 s1 R1 ro ns hp => ?_)⟩
  unfold outO at hp
  cases o with
  | val d => exact hp v σ F1 H1 s1.s R1 ro ns
  | new d => exact hp v σ F1 H1 s1.s R1 ro ns
  | loc i =>
    obtain ⟨hv, _⟩ := ro
    dsimp only at hp
    cases e : ρ1[i]? with
    | none => rw [e] at hp; exact False.elim hp
    | some s =>
      rw [e] at hp
      cases s with
      | un => exact False.elim hp
      | par d => exact False.elim hp
      | lck d => exact False.elim hp
      | dat d =>
        obtain ⟨w, h1, h2⟩ := R1.dat i d e
        rw [hv] at h1; cases h1
        exact hp v σ F1 H1 s1.s R1 h2 (fun z => nomatch z)
      | own d =>
        obtain ⟨a, h1, f, ow⟩ := R1.own i _ d e rfl rfl
        rw [hv] at h1; cases h1
        have hf : free ρ1 i = true := by unfold free; rw [e]
        obtain ⟨R2, s2⟩ := set_un R1 hf
        have mi : Mine σ ρ1 i a := ⟨⟨_, e, rfl⟩, hv⟩
        refine hp (.ref a) σ F1 H1 (s1.s.trans s2) R2 ⟨a, rfl, f, ow, fun ⟨j, m⟩ => ?_⟩ fun _ b u e1 hb t f0 => Classical.byContradiction fun n => ?_
        · obtain ⟨ne, m'⟩ := mine_set rfl m
          exact ne (R1.sep j i a m' mi)
        · cases e1
          obtain ⟨_, _, z⟩ := s1.fr.keep _ u hb t f0 n
          exact z ⟨i, mi⟩
def sRetN : MS := fun ρ => .ok (.rt (.val .none)) ρ
theorem ds_retN : DS X W (.Return none pos) sRetN := ⟨_, ps_retN, fun F σ H ρ Z R h => h .non σ F H StepS.refl R .non (fun z => nomatch z)⟩
def sIf (c : MT) (a b : MS) : MS := fun ρ => (c ρ).bind fun x ρ1 => if x = true then a ρ1 else b ρ1
theorem ds_if {c : Expr} {a b : List Stmt} {mc : MT} {ma mb : MS} (hc : DT X W c mc) (ha : DSs X W a ma) (hb : DSs X W b mb) : DS X W (.If c a b pos) (sIf mc ma mb) := by
  obtain ⟨t, p, q⟩ := hc
  obtain ⟨t1, p1, q1⟩ := ha
  obtain ⟨t2, p2, q2⟩ := hb
  refine ⟨_, ps_if p p1 p2, fun F σ H ρ Z R h => q F σ H ρ _ R (bindTS h fun x ρ1 F1 H1 s1 R1 hp => ?_)⟩
  cases x with
  | true => exact q1 F1 σ H1 ρ1 Z R1 hp
  | false => exact q2 F1 σ H1 ρ1 Z R1 hp
/-! ### while -/
def sWhile (c : MT) (b : MS) : Nat → MS
  | 0 => fun _ => .fail
  | n + 1 => fun ρ => (c ρ).bind fun x ρ1 => if x = true then (match b ρ1 with
    | .ok .nx ρ2 => sWhile c b n ρ2
    | .ok .ct ρ2 => sWhile c b n ρ2
    | .ok .bk ρ2 => .ok .nx ρ2
    | r => r) else .ok .nx ρ1
theorem ds_while {c : Expr} {body : List Stmt} {mc : MT} {mb : MS} (n : Nat) (hp : PassesOwn (model X.prog X.w) X.A X.env X.xe) (hc : DT X W c mc) (hb : DSs X W body mb) : DS X W (.While c body [] pos) (sWhile mc mb n) := by
  obtain ⟨t, p, q⟩ := hc
  obtain ⟨t1, p1, q1⟩ := hb
  refine ⟨_, ps_while hp p p1, fun F σ H ρ Z R h => ?_⟩
  refine ⟨fun m σ H => ∃ F ρ, Rel X.K F σ H ρ ∧ SPost X.K W F H σ ρ Z (sWhile mc mb m ρ), ⟨n, F, ρ, R, h⟩, ?_⟩
  rintro m σ H ⟨F, ρ, R, h⟩
  cases m with
  | zero => exact False.elim h
  | succ m =>
    refine q F σ H ρ _ R (bindTS (f := fun x ρ1 => if x = true then (match mb ρ1 with
    | .ok .nx ρ2 => sWhile mc mb m ρ2
    | .ok .ct ρ2 => sWhile mc mb m ρ2
    | .ok .bk ρ2 => .ok .nx ρ2
    | r => r) else .ok .nx ρ1) h fun x ρ1 F1 H1 s1 R1 hp => ?_)
    cases x with
    | false => exact hp σ F1 H1 StepS.refl R1
    | true =>
      refine ⟨fun σ' H' => ∃ F' ρ', Rel X.K F' σ' H' ρ' ∧ SPost X.K W F' H' σ' ρ' Z (sWhile mc mb m ρ'), fun σ' H' ⟨F', ρ', R', h'⟩ => ⟨m, Nat.lt_succ_self m, F', ρ', R', h'⟩, q1 F1 σ H1 ρ1 _ R1 ?_⟩
      have hp : SPost X.K W F1 H1 σ ρ1 Z (match mb ρ1 with
        | .ok .nx ρ2 => sWhile mc mb m ρ2
        | .ok .ct ρ2 => sWhile mc mb m ρ2
        | .ok .bk ρ2 => .ok .nx ρ2
        | r => r) := hp
      cases e : mb ρ1 with
      | fail => rw [e] at hp; exact hp
      | ex x ρ' => rw [e] at hp; exact hp
      | ok f ρ2 =>
        rw [e] at hp
        cases f with
        | nx => exact fun σ2 F2 H2 s2 R2 => ⟨F2, ρ2, R2, SPost.step s2 hp⟩
        | ct => exact fun σ2 F2 H2 s2 R2 => ⟨F2, ρ2, R2, SPost.step s2 hp⟩
        | bk => exact hp
        | rt o => exact hp
end
end Dl

set_option maxRecDepth 100000
set_option maxHeartbeats 4000000
namespace Dl
open PySem PySem.Spec L2
set_option autoImplicit false

/-! ### targets -/
abbrev MG := D → Rho → Option Rho
def Agree (ts : List Nat) (σ σ' : Sg) : Prop := σ'.length = σ.length ∧ ∀ j, j ∉ ts → σ'[j]? = σ[j]?
def OnlyG (ts : List Nat) (mg : MG) : Prop := ∀ d ρ ρ', mg d ρ = some ρ' → ρ'.length = ρ.length ∧ ∀ j, j ∉ ts → ρ'[j]? = ρ[j]?
def DG (X : Cx) (tg : Expr) (ts : List Nat) (mg : MG) : Prop := OnlyG ts mg ∧ ∃ g, PG X tg g ∧ ∀ F σ H ρ v d ρ' Q, Rel X.K F σ H ρ → Rp X.K F v d → mg d ρ = some ρ' → (∀ σ', Agree ts σ σ' → StepS F H σ ρ F H σ' ρ' → Rel X.K F σ' H ρ' → Q σ' H) → g v σ H Q
abbrev MGs := List D → Rho → Option Rho
def OnlyGs (ts : List Nat) (mg : MGs) : Prop := ∀ d ρ ρ', mg d ρ = some ρ' → ρ'.length = ρ.length ∧ ∀ j, j ∉ ts → ρ'[j]? = ρ[j]?
def DGs (X : Cx) (tg : List Expr) (ts : List Nat) (mg : MGs) : Prop := OnlyGs ts mg ∧ ∃ g, PGs X tg g ∧ ∀ F σ H ρ v d ρ' Q, Rel X.K F σ H ρ → RpA X.K F v d → mg d ρ = some ρ' → (∀ σ', Agree ts σ σ' → StepS F H σ ρ F H σ' ρ' → Rel X.K F σ' H ρ' → Q σ' H) → g v σ H Q
section
variable {X : Cx} {W : WX} {pos : Pos}
def gN (i : Nat) : MG := fun d ρ => if free ρ i = true then some (ρ.set i (.dat d)) else none
theorem gN_only (i : Nat) : OnlyG [i] (gN i) := fun d ρ ρ' e => by
  unfold gN at e
  split at e
  · cases e
    exact ⟨by simp, fun j hj => List.getElem?_set_ne (by intro z; exact hj (by simp [z]))⟩
  · cases e
theorem gN_ok {i : Nat} : ∀ (F : Hp) (σ : Sg) (H : Hp) (ρ : Rho) (v : V) (d : D) (ρ' : Rho) (Q : Sg → Hp → Prop), Rel X.K F σ H ρ → Rp X.K F v d → gN i d ρ = some ρ' → (∀ σ', Agree [i] σ σ' → StepS F H σ ρ F H σ' ρ' → Rel X.K F σ' H ρ' → Q σ' H) → gName i v σ H Q := fun F σ H ρ v d ρ' Q R rp e k => by
  unfold gN at e
  cases hf : free ρ i with
  | false => rw [hf] at e; cases e
  | true =>
    rw [hf] at e
    cases e
    obtain ⟨R', s'⟩ := set_dat R rp hf
    exact k _ ⟨by simp, fun j hj => List.getElem?_set_ne (by intro z; exact hj (by simp [z]))⟩ s' R'
theorem dg_name {i : Nat} {x : Str} (h : PG X (.Name x pos) (gName i)) : DG X (.Name x pos) [i] (gN i) := ⟨gN_only i, _, h, gN_ok⟩
def gsNil : MGs := fun ds ρ => match ds with
  | [] => some ρ
  | _ => none
def gsCons (a : MG) (b : MGs) : MGs := fun ds ρ => match ds with
  | d :: ds => (match a d ρ with
    | some ρ1 => b ds ρ1
    | none => none)
  | _ => none
theorem gsNil_only : OnlyGs [] gsNil := fun d ρ ρ' e => by
  cases d with
  | nil => cases e; exact ⟨rfl, fun _ _ => rfl⟩
  | cons a b => cases e
theorem dgs_nil : DGs X [] [] gsNil := ⟨gsNil_only, _, pgs_nil, fun F σ H ρ v d ρ' Q R rp e k => by
  cases rp with
  | nil => cases e; exact ⟨rfl, k σ ⟨rfl, fun _ _ => rfl⟩ StepS.refl R⟩
  | cons a b => cases e⟩
theorem dgs_cons {e : Expr} {es : List Expr} {a : MG} {b : MGs} {ts us : List Nat} (h1 : DG X e ts a) (h2 : DGs X es us b) (hs : (assignEach (e :: es) X.env).map (·.2) = assign e X.env :: (assignEach es X.env).map (·.2) := by rfl) : DGs X (e :: es) (ts ++ us) (gsCons a b) := by
  obtain ⟨o1, g, p, q⟩ := h1
  obtain ⟨o2, g2, p2, q2⟩ := h2
  refine ⟨fun d ρ ρ' e => ?_, _, pgs_cons p p2 hs, fun F σ H ρ v d ρ' Q R rp e k => ?_⟩
  · cases d with
    | nil => cases e
    | cons d ds =>
      unfold gsCons at e
      dsimp only at e
      cases e1 : a d ρ with
      | none => rw [e1] at e; cases e
      | some ρ1 =>
        rw [e1] at e
        obtain ⟨l1, k1⟩ := o1 _ _ _ e1
        obtain ⟨l2, k2⟩ := o2 _ _ _ e
        exact ⟨l2.trans l1, fun j hj => by
          rw [List.mem_append, not_or] at hj
          exact (k2 j hj.2).trans (k1 j hj.1)⟩
  cases rp with
  | nil => cases e
  | @cons v vs d ds r rs =>
    unfold gsCons at e
    dsimp only at e
    cases e1 : a d ρ with
    | none => rw [e1] at e; cases e
    | some ρ1 =>
      rw [e1] at e
      exact ⟨v, vs, rfl, q F σ H ρ v d ρ1 _ R r e1 fun σ1 g1 s1 R1 => q2 F σ1 H ρ1 vs ds ρ' Q R1 rs e fun σ2 g2 s2 R2 => k σ2 ⟨g2.1.trans g1.1, fun j hj => by
        rw [List.mem_append, not_or] at hj
        exact (g2.2 j hj.2).trans (g1.2 j hj.1)⟩ (s1.trans s2) R2⟩
def gT (n : Nat) (b : MGs) : MG := fun d ρ => match d with
  | .tuple ds => if ds.length = n then b ds ρ else none
  | _ => none
theorem Rp.tuple {K : PySem.W.Frag} {F : Hp} {v : V} {ds : List D} (h : Rp K F v (.tuple ds)) : ∃ a vs, v = .ref a ∧ F a = some (.tup vs) ∧ RpA K F vs ds := by
  cases h with
  | tup h r => exact ⟨_, _, rfl, h, r⟩
theorem Rp.list {K : PySem.W.Frag} {F : Hp} {v : V} {ds : List D} (h : Rp K F v (.list ds)) : ∃ a vs, v = .ref a ∧ F a = some (.lst vs) ∧ RpA K F vs ds := by
  cases h with
  | lst h r => exact ⟨_, _, rfl, h, r⟩
theorem dg_tup {es : List Expr} {k : Nat} {b : MGs} {n : Nat} {ts : List Nat} (hc : X.calm = true) (h : DGs X es ts b) (hn : (assignEach es X.env).length = n := by rfl) (hst : (assignEach es X.env).findIdx? (·.1) = none := by rfl) :
    DG X (.Tuple es k pos) ts (gT n b) := by
  obtain ⟨o1, g, p, q⟩ := h
  refine ⟨fun d ρ ρ' e => ?_, _, pg_tup hc p hn hst, fun F σ H ρ v d ρ' Q R rp e k => ?_⟩
  · cases d with
    | tuple ds =>
      unfold gT at e
      dsimp only at e
      split at e
      · exact o1 _ _ _ e
      · cases e
    | none => cases e
    | bool b => cases e
    | int b => cases e
    | str b => cases e
    | list b => cases e
    | dict b => cases e
  cases d with
  | tuple ds =>
    unfold gT at e
    dsimp only at e
    split at e
    · rename_i hl
      obtain ⟨a, vs, e1, h1, r⟩ := rp.tuple
      exact ⟨a, vs, e1, SqT.of (R.sub.tup h1), by rw [r.length]; exact hl, q F σ H ρ vs ds ρ' Q R r e k⟩
    · cases e
  | none => cases e
  | bool b => cases e
  | int b => cases e
  | str b => cases e
  | list b => cases e
  | dict b => cases e
/-- a, b = e -/
def sAsg (mg : MG) (m : ME) : MS := fun ρ => (m ρ).bind fun o ρ1 => match useO ρ1 o with
  | some (d, ρ2) => (match mg d ρ2 with
    | some ρ3 => .ok .nx ρ3
    | none => .fail)
  | none => .fail
theorem ds_asg {tg e : Expr} {m : ME} {mg : MG} {ts : List Nat} (he : DE X W e m) (hg : DG X tg ts mg) (hs : swapsWithSole [tg] e pos.line X.env = pure false := by rfl) (hw : swappedStores [tg] e X.env = pure none := by rfl) (h1 : (assignEach [tg] X.env).map (·.2) = [assign tg X.env] := by rfl) : DS X W (.Assign [tg] e pos) (sAsg mg m) := by
  obtain ⟨t, p, q⟩ := he
  obtain ⟨_, g, pg, qg⟩ := hg
  refine ⟨_, ps_asg p pg hs hw h1, fun F σ H ρ Z R h => q F σ H ρ _ R (ES h fun o ρ1 v F1 H1 s1 R1 ro ns hp => ?_)⟩
  cases e1 : useO ρ1 o with
  | none => rw [e1] at hp; exact False.elim hp
  | some r =>
    obtain ⟨d, ρ2⟩ := r
    rw [e1] at hp
    dsimp only at hp
    obtain ⟨F2, s2, R2, rp, _⟩ := use_ok R1 s1 ro ns e1
    cases e2 : mg d ρ2 with
    | none => rw [e2] at hp; exact False.elim hp
    | some ρ3 =>
      rw [e2] at hp
      exact qg F2 σ H1 ρ2 v d ρ3 _ R2 rp e2 fun σ' _ s' R' => hp σ' F2 H1 (s2.s.trans s') R'

/-! ### what is walked -/
structure Src where
  ds : List D
  lk : Option (Nat × D)
structure Good (K : PySem.W.Frag) (J : It) (F1 : Hp) (C : Hp → Hp → Prop) (ds : List D) : Prop where
  go : ∀ (i : Nat) (F H : Hp), Ext F1 F → Sub F H → C F H → i < ds.length → J.go i H ∧ ∀ x H', J.yld i H x H' → ∃ F' d, ds[i]? = some d ∧ Grow F H F' H' ∧ Rp K F' x d
  stop : ∀ (i : Nat) (F H : Hp), Ext F1 F → Sub F H → C F H → ds.length ≤ i → J.stop i H
def lockC (K : PySem.W.Frag) (σ : Sg) : Option (Nat × D) → Hp → Hp → Prop
  | none => fun _ _ => True
  | some (j, d) => fun F H => ∃ a, σ[j]? = some (some (.ref a)) ∧ OwnAt K F H a d
def Locked (ρ : Rho) (lk : Option (Nat × D)) : Prop := ∀ j d, lk = some (j, d) → ρ[j]? = some (.lck d)
def IPost (K : PySem.W.Frag) (W : WX) (F H : Hp) (σ : Sg) (ρ : Rho) (R : It → Hp → Prop) : Rs Src → Prop
  | .ok s ρ' => ∀ J F' H', Step F H σ ρ F' H' ρ' → Rel K F' σ H' ρ' → Good K J F' (lockC K σ s.lk) s.ds → Locked ρ' s.lk → R J H'
  | .ex x ρ' => XPost K W F H σ ρ x ρ'
  | .fail => False
abbrev MI := Rho → Rs Src
def DI (X : Cx) (W : WX) (tg e : Expr) (mi : MI) : Prop := ∃ wi, PI X tg e wi ∧ ∀ F σ H ρ R, Rel X.K F σ H ρ → IPost X.K W F H σ ρ R (mi ρ) → wi σ H R
theorem EI {K : PySem.W.Frag} {F H : Hp} {σ : Sg} {ρ : Rho} {Z : It → Hp → Prop} {r : Rs Opd} {f : Opd → Rho → Rs Src} {Q' : VK} (h : IPost K W F H σ ρ Z (r.bind f)) (k : ∀ o ρ1 v F1 H1, Step F H σ ρ F1 H1 ρ1 → Rel K F1 σ H1 ρ1 → RO K F1 H1 σ ρ1 v o → NewSep F H σ ρ v o → IPost K W F H σ ρ Z (f o ρ1) → Q' v H1) : EPost K W F H σ ρ Q' r := by
  cases r with
  | fail => exact h
  | ex x ρ' => exact h
  | ok o ρ1 => exact fun v F1 H1 s1 R1 ro ns => k o ρ1 v F1 H1 s1 R1 ro ns h
theorem AI {K : PySem.W.Frag} {F H : Hp} {σ : Sg} {ρ : Rho} {Z : It → Hp → Prop} {r : Rs (List Opd)} {f : List Opd → Rho → Rs Src} {Q' : List V → Hp → Prop} (h : IPost K W F H σ ρ Z (r.bind f)) (k : ∀ o ρ1 v F1 H1, Step F H σ ρ F1 H1 ρ1 → Rel K F1 σ H1 ρ1 → ROs K F1 H1 σ ρ1 v o → NewSeps F H σ ρ v o → IPost K W F H σ ρ Z (f o ρ1) → Q' v H1) : APost K W F H σ ρ Q' r := by
  cases r with
  | fail => exact h
  | ex x ρ' => exact h
  | ok o ρ1 => exact fun v F1 H1 s1 R1 ro ns => k o ρ1 v F1 H1 s1 R1 ro ns h
theorem good_list {K : PySem.W.Frag} {F1 : Hp} {a : Addr} {vs : List V} {ds : List D} (h : F1 a = some (.lst vs)) (r : RpA K F1 vs ds) : Good K (Itl K a) F1 (fun _ _ => True) ds where
  go := fun i F H e s _ hi => by
    have hl : i < vs.length := by rw [r.length]; exact hi
    have q : SqL K H a vs := SqL.of (s.lst (e _ _ h))
    refine ⟨⟨vs, vs[i], q, List.getElem?_eq_getElem hl⟩, fun x H' y => ?_⟩
    obtain ⟨e1, y⟩ := y
    subst e1
    have hx := y vs q
    obtain ⟨d, h1, h2⟩ := (r.mono e).getv hx
    exact ⟨F, d, h1, Grow.refl s, h2⟩
  stop := fun i F H e s _ hi => ⟨vs, SqL.of (s.lst (e _ _ h)), by rw [r.length]; exact hi⟩
theorem good_tup {K : PySem.W.Frag} {F1 : Hp} {a : Addr} {vs : List V} {ds : List D} (h : F1 a = some (.tup vs)) (r : RpA K F1 vs ds) : Good K (Itt K a) F1 (fun _ _ => True) ds where
  go := fun i F H e s _ hi => by
    have hl : i < vs.length := by rw [r.length]; exact hi
    have q : SqT K H a vs := SqT.of (s.tup (e _ _ h))
    refine ⟨⟨vs, vs[i], q, List.getElem?_eq_getElem hl⟩, fun x H' y => ?_⟩
    obtain ⟨e1, y⟩ := y
    subst e1
    have hx := y vs q
    obtain ⟨d, h1, h2⟩ := (r.mono e).getv hx
    exact ⟨F, d, h1, Grow.refl s, h2⟩
  stop := fun i F H e s _ hi => ⟨vs, SqT.of (s.tup (e _ _ h)), by rw [r.length]; exact hi⟩
theorem good_lock {K : PySem.W.Frag} {F1 : Hp} {σ : Sg} {j : Nat} {a : Addr} {ds : List D} (h : σ[j]? = some (some (.ref a))) : Good K (Itl K a) F1 (lockC K σ (some (j, .list ds))) ds where
  go := fun i F H e s ⟨b, hb, vs, hv, r⟩ hi => by
    rw [h] at hb; cases hb
    have hl : i < vs.length := by rw [r.length]; exact hi
    refine ⟨⟨vs, vs[i], SqL.of hv, List.getElem?_eq_getElem hl⟩, fun x H' y => ?_⟩
    obtain ⟨e1, y⟩ := y
    subst e1
    have hx := y vs (SqL.of hv)
    obtain ⟨d, h1, h2⟩ := r.getv hx
    exact ⟨F, d, h1, Grow.refl s, h2⟩
  stop := fun i F H e s ⟨b, hb, vs, hv, r⟩ hi => by
    rw [h] at hb; cases hb
    exact ⟨vs, SqL.of hv, by rw [r.length]; exact hi⟩
theorem good_range {K : PySem.W.Frag} {F1 : Hp} {lo : Int} {n : Nat} : Good K (Itr lo n) F1 (fun _ _ => True) ((List.range n).map fun k : Nat => .int (lo + (k : Int))) where
  go := fun i F H e s _ hi => by
    have hi : i < n := by simpa using hi
    refine ⟨hi, fun x H' y => ?_⟩
    obtain ⟨e1, e2⟩ := y
    subst e1 e2
    exact ⟨F, .int (lo + i), by simp [hi], Grow.refl s, .int _⟩
  stop := fun i F H e s _ hi => by
    have hi : n ≤ i := by simpa using hi
    exact hi
def srcL (o : Opd) (ρ : Rho) : Rs Src := match o with
  | .val (.list ds) => .ok ⟨ds, none⟩ ρ
  | .new (.list ds) => .ok ⟨ds, none⟩ ρ
  | .loc j => (match ρ[j]? with
    | some (.dat (.list ds)) => .ok ⟨ds, none⟩ ρ
    | some (.lck (.list ds)) => .ok ⟨ds, some (j, .list ds)⟩ ρ
    | some (.own (.list ds)) => .ok ⟨ds, none⟩ (ρ.set j (.dat (.list ds)))
    | _ => .fail)
  | _ => .fail
def iLst (m : ME) : MI := fun ρ => (m ρ).bind srcL
theorem di_list {tg e : Expr} {m : ME} (h : DE X W e m) : DI X W tg e (iLst m) := by
  obtain ⟨t, p, q⟩ := h
  refine ⟨_, pi_list p, fun F σ H ρ Z R h => q F σ H ρ _ R (EI h fun o ρ1 v F1 H1 s1 R1 ro ns hp => ?_)⟩
  have frozen : ∀ ds F2 {ρ2 : Rho}, Rp X.K F2 v (.list ds) → Step F H σ ρ F2 H1 ρ2 → Rel X.K F2 σ H1 ρ2 → IPost X.K W F H σ ρ Z (.ok ⟨ds, none⟩ ρ2) → ∃ a, v = .ref a ∧ (∃ xs, SqL X.K H1 a xs) ∧ Z (Itl X.K a) H1 := fun ds F2 {ρ2} rp s2 R2 hq => by
    obtain ⟨a, vs, e1, h1, r⟩ := rp.list
    exact ⟨a, e1, ⟨vs, SqL.of (R2.sub.lst h1)⟩, hq _ F2 H1 s2 R2 (good_list h1 r) (fun j d z => nomatch z)⟩
  cases o with
  | val d =>
    cases d with
    | list ds => exact frozen ds F1 ro s1 R1 hp
    | none => exact False.elim hp
    | bool b => exact False.elim hp
    | int b => exact False.elim hp
    | str b => exact False.elim hp
    | tuple b => exact False.elim hp
    | dict b => exact False.elim hp
  | new d =>
    cases d with
    | list ds =>
      obtain ⟨F2, s2, R2, rp, _⟩ := use_ok (d := .list ds) (ρ1 := ρ1) R1 s1 ro ns rfl
      exact frozen ds F2 rp s2 R2 hp
    | none => exact False.elim hp
    | bool b => exact False.elim hp
    | int b => exact False.elim hp
    | str b => exact False.elim hp
    | tuple b => exact False.elim hp
    | dict b => exact False.elim hp
  | loc j =>
    obtain ⟨hv, _⟩ := ro
    unfold srcL at hp
    dsimp only at hp
    cases e : ρ1[j]? with
    | none => rw [e] at hp; exact False.elim hp
    | some s =>
      rw [e] at hp
      cases s with
      | un => exact False.elim hp
      | own d =>
        cases d with
        | list ds =>
          obtain ⟨F2, s2, R2, rp, _⟩ := use_ok (o := .loc j) (d := .list ds) (ρ1 := ρ1.set j (.dat (.list ds))) R1 s1 ⟨hv, _, _, e, rfl⟩ (fun z => nomatch z) (by simp [useO, e])
          exact frozen ds F2 rp s2 R2 hp
        | none => exact False.elim hp
        | bool b => exact False.elim hp
        | int b => exact False.elim hp
        | str b => exact False.elim hp
        | tuple b => exact False.elim hp
        | dict b => exact False.elim hp
      | par d => exact False.elim hp
      | dat d =>
        obtain ⟨w, h1, h2⟩ := R1.dat j d e
        rw [hv] at h1; cases h1
        cases d with
        | list ds => exact frozen ds F1 h2 s1 R1 hp
        | none => exact False.elim hp
        | bool b => exact False.elim hp
        | int b => exact False.elim hp
        | str b => exact False.elim hp
        | tuple b => exact False.elim hp
        | dict b => exact False.elim hp
      | lck d =>
        obtain ⟨a, h1, f, ow⟩ := R1.own j _ d e rfl rfl
        rw [hv] at h1; cases h1
        cases d with
        | list ds =>
          obtain ⟨vs, hh, r⟩ := id ow
          exact ⟨a, rfl, ⟨vs, SqL.of hh⟩, hp _ F1 H1 s1 R1 (good_lock hv) (fun j' d' z => by cases z; exact e)⟩
        | none => exact False.elim hp
        | bool b => exact False.elim hp
        | int b => exact False.elim hp
        | str b => exact False.elim hp
        | tuple b => exact False.elim hp
        | dict b => exact False.elim hp
def srcT (o : Opd) (ρ : Rho) : Rs Src := match deref ρ o with
  | some (.tuple ds) => .ok ⟨ds, none⟩ ρ
  | _ => .fail
def iTpl (m : ME) : MI := fun ρ => (m ρ).bind srcT
theorem Ct.tuple {K : PySem.W.Frag} {F H : Hp} {v : V} {ds : List D} (h : Ct K F H v (.tuple ds)) : Rp K F v (.tuple ds) := h.elim (fun z => z) fun ⟨a, e, f, o⟩ => False.elim o
theorem di_tup {tg e : Expr} {m : ME} (h : DE X W e m) : DI X W tg e (iTpl m) := by
  obtain ⟨t, p, q⟩ := h
  refine ⟨_, pi_tup p, fun F σ H ρ Z R h => q F σ H ρ _ R (EI h fun o ρ1 v F1 H1 s1 R1 ro ns hp => ?_)⟩
  unfold srcT at hp
  cases e : deref ρ1 o with
  | none => rw [e] at hp; exact False.elim hp
  | some d =>
    rw [e] at hp
    cases d with
    | tuple ds =>
      obtain ⟨a, vs, e1, h1, r⟩ := (ro.ct R1 e).tuple.tuple
      exact ⟨a, e1, ⟨vs, SqT.of (R1.sub.tup h1)⟩, hp _ F1 H1 s1 R1 (good_tup h1 r) (fun j d z => nomatch z)⟩
    | none => exact False.elim hp
    | bool b => exact False.elim hp
    | int b => exact False.elim hp
    | str b => exact False.elim hp
    | list b => exact False.elim hp
    | dict b => exact False.elim hp
def srcR1 (os : List Opd) (ρ : Rho) : Rs Src := match os with
  | [o] => (match deref ρ o with
    | some (.int j) => if -(2 ^ 62) ≤ j ∧ j < 2 ^ 62 then .ok ⟨(List.range j.toNat).map fun k : Nat => .int (0 + (k : Int)), none⟩ ρ else .fail
    | _ => .fail)
  | _ => .fail
def iRng (a : MA) : MI := fun ρ => (a ρ).bind srcR1
theorem Ct.int {K : PySem.W.Frag} {F H : Hp} {v : V} {i : Int} (h : Ct K F H v (.int i)) : v = .int i := by
  rcases h with h | ⟨a, e, f, o⟩
  · cases h; rfl
  · exact False.elim o
theorem di_range {tg a : Expr} {m : MA} {p : Pos} (hg : Gl X "range") (hm : X.mg "range" = none) (ha : DA X W [a] m) (hs : starEach [a] X.env = [(false, eval a X.env)] := by rfl) : DI X W tg (.Call (.Name "range" p) [a] [] pos) (iRng m) := by
  obtain ⟨t, pa, q⟩ := ha
  refine ⟨_, pi_range1 hg hm pa hs, fun F σ H ρ Z R h => q F σ H ρ _ R (AI h fun os ρ1 vs F1 H1 s1 R1 ro ns hp => ?_)⟩
  obtain ⟨all, _⟩ := ro
  unfold srcR1 at hp
  cases all with
  | nil => exact False.elim hp
  | @cons v o vs os r rs =>
    cases rs with
    | cons r2 rs => exact False.elim hp
    | nil =>
      dsimp only at hp
      cases e : deref ρ1 o with
      | none => rw [e] at hp; exact False.elim hp
      | some d =>
        rw [e] at hp
        cases d with
        | int j =>
          dsimp only at hp
          split at hp
          · rename_i hz
            have := (r.ct R1 e).int
            subst this
            exact ⟨j, rfl, hz.1, hz.2, hp _ F1 H1 s1 R1 good_range (fun j d z => nomatch z)⟩
          · exact False.elim hp
        | none => exact False.elim hp
        | bool b => exact False.elim hp
        | str b => exact False.elim hp
        | list b => exact False.elim hp
        | tuple b => exact False.elim hp
        | dict b => exact False.elim hp
/-! ### for -/
def sLoop (mg : MG) (b : MS) : List D → MS
  | [] => fun ρ => .ok .nx ρ
  | d :: ds => fun ρ => match mg d ρ with
    | some ρ1 => (match b ρ1 with
      | .ok .nx ρ2 => sLoop mg b ds ρ2
      | .ok .ct ρ2 => sLoop mg b ds ρ2
      | .ok .bk ρ2 => .ok .nx ρ2
      | r => r)
    | none => .fail
def sFor (mi : MI) (mg : MG) (b : MS) : MS := fun ρ => (mi ρ).bind fun s ρ1 => sLoop mg b s.ds ρ1
theorem IS {F H : Hp} {σ : Sg} {ρ : Rho} {Z : Ends} {r : Rs Src} {f : Src → Rho → Rs Flow} {R' : It → Hp → Prop} (h : SPost X.K W F H σ ρ Z (r.bind f)) (k : ∀ s ρ1 J F1 H1, Step F H σ ρ F1 H1 ρ1 → Rel X.K F1 σ H1 ρ1 → Good X.K J F1 (lockC X.K σ s.lk) s.ds → Locked ρ1 s.lk → SPost X.K W F1 H1 σ ρ1 Z (f s ρ1) → R' J H1) : IPost X.K W F H σ ρ R' r := by
  cases r with
  | fail => exact h
  | ex x ρ' => exact XPostS.x h
  | ok s ρ1 => exact fun J F1 H1 s1 R1 g l => k s ρ1 J F1 H1 s1 R1 g l (SPost.step s1.s h)
theorem ds_for {tg iter : Expr} {body : List Stmt} {mi : MI} {mg : MG} {mb : MS} {ts : List Nat} (hp : PassesOwn (model X.prog X.w) X.A X.env X.xe) (hc : X.calm = true) (hi : DI X W tg iter mi) (hg : DG X tg ts mg) (hb : DSs X W body mb)
    (hs : ∀ x, foldedSetIterable iter X.env x = pure x := by intro _; rfl) : DS X W (.For tg iter body [] pos) (sFor mi mg mb) := by
  obtain ⟨wi, p, q⟩ := hi
  obtain ⟨_, g, pg, qg⟩ := hg
  obtain ⟨t, pb, qb⟩ := hb
  refine ⟨_, ps_for hp hc p pg pb hs, fun F σ H ρ Z R h => q F σ H ρ _ R (IS h fun s ρ1 J F1 H1 s1 R1 G L hq => ?_)⟩
  have lk : ∀ {F' H' : Hp} {σ' : Sg} {ρ' : Rho}, Rel X.K F' σ' H' ρ' → Locked ρ' s.lk → (∀ j d, s.lk = some (j, d) → σ'[j]? = σ[j]?) → lockC X.K σ s.lk F' H' := fun {F' H' σ' ρ'} R' L' e' => by
    cases e : s.lk with
    | none => exact True.intro
    | some z =>
      obtain ⟨j, d⟩ := z
      obtain ⟨a, h1, f, ow⟩ := R'.own j _ d (L' j d e) rfl rfl
      exact ⟨a, (e' j d e).symm.trans h1, ow⟩
  refine ⟨fun i m σ' H' => m = s.ds.length - i ∧ i ≤ s.ds.length ∧ ∃ F' ρ', Rel X.K F' σ' H' ρ' ∧ Ext F1 F' ∧ Locked ρ' s.lk ∧ (∀ j d, s.lk = some (j, d) → σ'[j]? = σ[j]?) ∧ SPost X.K W F' H' σ' ρ' Z (sLoop mg mb (s.ds.drop i) ρ'), ⟨s.ds.length, by simp, Nat.zero_le _, F1, ρ1, R1, Ext.refl _, L, fun _ _ _ => rfl, hq⟩, ?_⟩
  rintro i m σ' H' ⟨rfl, hi, F', ρ', R', ex, L', e', hq'⟩
  have C := lk R' L' e'
  by_cases hlt : i < s.ds.length
  · obtain ⟨go, yl⟩ := G.go i F' H' ex R'.sub C hlt
    refine .inr ⟨go, fun σ2 H2 => i + 1 ≤ s.ds.length ∧ ∃ F' ρ', Rel X.K F' σ2 H2 ρ' ∧ Ext F1 F' ∧ Locked ρ' s.lk ∧ (∀ j d, s.lk = some (j, d) → σ2[j]? = σ[j]?) ∧ SPost X.K W F' H2 σ2 ρ' Z (sLoop mg mb (s.ds.drop (i + 1)) ρ'), fun σ2 H2 ⟨h1, h2⟩ => ⟨s.ds.length - (i + 1), by omega, rfl, h1, h2⟩, fun x H2 y => ?_⟩
    obtain ⟨F2, d, hd, gr, rp⟩ := yl x H2 y
    have ed : s.ds.drop i = d :: s.ds.drop (i + 1) := by
      rw [List.drop_eq_getElem_cons hlt]
      congr 1
      rw [List.getElem?_eq_getElem hlt] at hd
      exact Option.some.inj hd
    rw [ed] at hq'
    have hq2 := SPost.step gr.step.s hq'
    have R2 := gr.rel R'
    unfold sLoop at hq2
    cases em : mg d ρ' with
    | none => rw [em] at hq2; exact False.elim hq2
    | some ρ2 =>
      rw [em] at hq2
      refine qg F2 σ' H2 ρ' x d ρ2 _ R2 rp em fun σ3 ag s3 R3 => ?_
      have hq3 := SPost.step s3 hq2
      refine qb F2 σ3 H2 ρ2 _ R3 ?_
      dsimp only at hq3
      have stay : ∀ {F4 H4 : Hp} {σ4 : Sg} {ρ4 : Rho}, StepS F2 H2 σ3 ρ2 F4 H4 σ4 ρ4 → Ext F1 F4 ∧ Locked ρ4 s.lk ∧ ∀ j d, s.lk = some (j, d) → σ4[j]? = σ[j]? := fun {F4 H4 σ4 ρ4} s4 => by
        have st := s3.trans s4
        refine ⟨ex.trans (gr.ext.trans st.fr.ext), fun j d z => (st.par.2 j d (L' j d z)).1, fun j d z => ((st.par.2 j d (L' j d z)).2).trans (e' j d z)⟩
      cases er : mb ρ2 with
      | fail => rw [er] at hq3; exact hq3
      | ex x ρ' => rw [er] at hq3; exact hq3
      | ok f ρ4 =>
        rw [er] at hq3
        cases f with
        | nx => exact fun σ4 F4 H4 s4 R4 => ⟨hlt, F4, ρ4, R4, (stay s4).1, (stay s4).2.1, (stay s4).2.2, SPost.step s4 hq3⟩
        | ct => exact fun σ4 F4 H4 s4 R4 => ⟨hlt, F4, ρ4, R4, (stay s4).1, (stay s4).2.1, (stay s4).2.2, SPost.step s4 hq3⟩
        | bk => exact hq3
        | rt o => exact hq3
  · have e : i = s.ds.length := by omega
    subst e
    rw [List.drop_length] at hq'
    exact .inl ⟨G.stop _ F' H' ex R'.sub C (Nat.le_refl _), hq' σ' F' H' StepS.refl R'⟩
end
end Dl

set_option maxRecDepth 100000
set_option maxHeartbeats 4000000
namespace Dl
open PySem PySem.Spec L2
set_option autoImplicit false

/-! ### comprehensions -/
def hide (vs : List Nat) (ρ : Rho) : Rho := match vs with
  | [] => ρ
  | v :: vs => (hide vs ρ).set v .un
def restore (vs : List Nat) (ρ ρ' : Rho) : Rho := match vs with
  | [] => ρ'
  | v :: vs => (restore vs ρ ρ').set v (ρ.getD v .un)
theorem hide_len (vs : List Nat) (ρ : Rho) : (hide vs ρ).length = ρ.length := by
  induction vs with
  | nil => rfl
  | cons v vs ih => unfold hide; rw [List.length_set, ih]
theorem restore_len (vs : List Nat) (ρ ρ' : Rho) : (restore vs ρ ρ').length = ρ'.length := by
  induction vs with
  | nil => rfl
  | cons v vs ih => unfold restore; rw [List.length_set, ih]
theorem hide_out {vs : List Nat} {ρ : Rho} {j : Nat} (h : j ∉ vs) : (hide vs ρ)[j]? = ρ[j]? := by
  induction vs with
  | nil => rfl
  | cons v vs ih =>
    rw [List.mem_cons, not_or] at h
    unfold hide
    rw [List.getElem?_set_ne (Ne.symm h.1), ih h.2]
theorem hide_in {vs : List Nat} {ρ : Rho} {j : Nat} {s : Slot} (h : j ∈ vs) (e : (hide vs ρ)[j]? = some s) : s = .un := by
  induction vs with
  | nil => cases h
  | cons v vs ih =>
    unfold hide at e
    by_cases hj : v = j
    · subst hj
      by_cases hl : v < (hide vs ρ).length
      · rw [List.getElem?_set_self hl] at e; cases e; rfl
      · rw [List.getElem?_eq_none (by simpa using hl)] at e; cases e
    · rw [List.getElem?_set_ne hj] at e
      exact ih ((List.mem_cons.mp h).resolve_left (Ne.symm hj)) e
theorem restore_out {vs : List Nat} {ρ ρ' : Rho} {j : Nat} (h : j ∉ vs) : (restore vs ρ ρ')[j]? = ρ'[j]? := by
  induction vs with
  | nil => rfl
  | cons v vs ih =>
    rw [List.mem_cons, not_or] at h
    unfold restore
    rw [List.getElem?_set_ne (Ne.symm h.1), ih h.2]
theorem restore_in {vs : List Nat} {ρ ρ' : Rho} {j : Nat} (hl : ρ.length = ρ'.length) (h : j ∈ vs) : (restore vs ρ ρ')[j]? = ρ[j]? := by
  induction vs with
  | nil => cases h
  | cons v vs ih =>
    unfold restore
    by_cases hj : v = j
    · subst hj
      by_cases hv : v < ρ.length
      · rw [List.getElem?_set_self (by rw [restore_len, ← hl]; exact hv), List.getElem?_eq_getElem hv, List.getD_eq_getElem?_getD, List.getElem?_eq_getElem hv]; rfl
      · rw [List.getElem?_eq_none (by rw [List.length_set, restore_len, ← hl]; omega), List.getElem?_eq_none (by omega)]
    · rw [List.getElem?_set_ne hj]
      exact ih ((List.mem_cons.mp h).resolve_left (Ne.symm hj))
theorem wipe_in {σ : Sg} {vs : List Nat} {j : Nat} (h : j ∉ vs) : (wipe σ vs)[j]? = σ[j]? := wipe_out h
theorem wipe_eq {σ σ' : Sg} : ∀ {vs : List Nat}, Agree vs σ σ' → wipe σ' vs = wipe σ vs := fun {vs} h => by
  refine List.ext_getElem? fun j => ?_
  by_cases hj : j ∈ vs
  · have gen : ∀ (τ : Sg) (vs : List Nat), j ∈ vs → (wipe τ vs)[j]? = if j < τ.length then some none else none := by
      intro τ vs
      induction vs with
      | nil => intro h; cases h
      | cons v vs ih =>
        intro h
        unfold wipe
        by_cases hv : v = j
        · subst hv
          by_cases hl : v < τ.length
          · rw [List.getElem?_set_self (by rw [wipe_length]; exact hl), if_pos hl]
          · rw [List.getElem?_eq_none (by rw [List.length_set, wipe_length]; omega), if_neg hl]
        · rw [List.getElem?_set_ne hv]
          exact ih ((List.mem_cons.mp h).resolve_left (Ne.symm hv))
    rw [gen _ _ hj, gen _ _ hj, h.1]
  · rw [wipe_out hj, wipe_out hj]; exact h.2 j hj
section
variable {K : PySem.W.Frag} {W : WX} {F H F' H' : Hp} {σ σ' : Sg} {ρ ρ' : Rho} {vs : List Nat}
theorem hide_mine {j : Nat} {a : Addr} (h : Mine (wipe σ vs) (hide vs ρ) j a) : j ∉ vs ∧ Mine σ ρ j a := by
  obtain ⟨⟨s, e, m⟩, e2⟩ := h
  have hj : j ∉ vs := fun hj => by
    have := hide_in hj e
    subst this; cases m
  rw [hide_out hj] at e
  rw [wipe_out hj] at e2
  exact ⟨hj, ⟨s, e, m⟩, e2⟩
theorem hide_rel (R : Rel K F σ H ρ) : Rel K F (wipe σ vs) H (hide vs ρ) := by
  have out : ∀ {j : Nat} {s : Slot}, (hide vs ρ)[j]? = some s → s ≠ .un → j ∉ vs ∧ ρ[j]? = some s := fun {j s} e n => by
    have hj : j ∉ vs := fun hj => n (hide_in hj e)
    rw [hide_out hj] at e
    exact ⟨hj, e⟩
  refine ⟨R.sub, by rw [wipe_length, hide_len]; exact R.len, fun j d e => ?_, fun j s d e m q => ?_, fun j k a h1 h2 => R.sep j k a (hide_mine h1).2 (hide_mine h2).2, R.tab⟩
  · obtain ⟨hj, e'⟩ := out e (by simp)
    rw [wipe_out hj]
    exact R.dat j d e'
  · obtain ⟨hj, e'⟩ := out e (by rintro rfl; cases m)
    rw [wipe_out hj]
    exact R.own j s d e' m q
/-- back from a turn -/
theorem restore_rel (R : Rel K F σ H ρ) (ag : Agree vs (wipe σ vs) σ') (fr : Fr F H (wipe σ vs) (hide vs ρ) F' H' σ' ρ') (hl : ρ.length = ρ'.length) (R' : Rel K F' σ' H' ρ')
    (keep : ∀ j, j ∉ vs → ∀ s, ρ[j]? = some s → ∃ s', ρ'[j]? = some s' ∧ KpS s s') : Rel K F' σ H' (restore vs ρ ρ') ∧ Step F H σ ρ F' H' (restore vs ρ ρ') := by
  have sg : ∀ {j}, j ∉ vs → σ'[j]? = σ[j]? := fun {j} hj => by rw [ag.2 j hj, wipe_out hj]
  have prot : ∀ {j : Nat} {s : Slot} {d : D}, j ∈ vs → ρ[j]? = some s → s.mine = true → s.data? = some d → ∃ a, σ[j]? = some (some (.ref a)) ∧ F' a = none ∧ OwnAt K F' H' a d ∧ ¬ Own σ' ρ' a := fun {j s d} hj e m q => by
    obtain ⟨a, h1, f, ow⟩ := R.own j s d e m q
    obtain ⟨o, ho, t⟩ := ow.some
    obtain ⟨x, y, z⟩ := fr.keep a o ho t f fun ⟨k, mk⟩ => by
      obtain ⟨hk, mk'⟩ := hide_mine mk
      have := R.sep j k a ⟨⟨s, e, m⟩, h1⟩ mk'
      subst this; exact hk hj
    exact ⟨a, h1, y, ow.mono fr.ext fun u hu => by rw [ho] at hu; cases hu; exact x, z⟩
  have mine : ∀ {j : Nat} {a : Addr}, Mine σ (restore vs ρ ρ') j a → (j ∈ vs ∧ Mine σ ρ j a) ∨ (j ∉ vs ∧ Mine σ' ρ' j a) := fun {j a} ⟨⟨s, e, m⟩, e2⟩ => by
    by_cases hj : j ∈ vs
    · rw [restore_in hl hj] at e; exact .inl ⟨hj, ⟨s, e, m⟩, e2⟩
    · rw [restore_out hj] at e; exact .inr ⟨hj, ⟨s, e, m⟩, by rw [sg hj]; exact e2⟩
  have data : ∀ {s : Slot}, s.mine = true → ∃ d, s.data? = some d := fun {s} m => by cases s <;> first | (cases m; done) | exact ⟨_, rfl⟩
  refine ⟨⟨R'.sub, by rw [restore_len, ← hl]; exact R.len, fun j d e => ?_, fun j s d e m q => ?_, fun j k a h1 h2 => ?_, R'.tab⟩, ⟨⟨fr.ext, fun a o h t f n => ?_⟩, ?_⟩⟩
  · by_cases hj : j ∈ vs
    · rw [restore_in hl hj] at e
      obtain ⟨v, h1, h2⟩ := R.dat j d e
      exact ⟨v, h1, h2.mono fr.ext⟩
    · rw [restore_out hj] at e
      rw [← sg hj]
      exact R'.dat j d e
  · by_cases hj : j ∈ vs
    · rw [restore_in hl hj] at e
      obtain ⟨a, h1, f, ow, _⟩ := prot hj e m q
      exact ⟨a, h1, f, ow⟩
    · rw [restore_out hj] at e
      rw [← sg hj]
      exact R'.own j s d e m q
  · have cross : ∀ {j k a}, j ∈ vs → Mine σ ρ j a → Mine σ' ρ' k a → False := fun {j k a} hj ⟨⟨s, e, m⟩, e2⟩ mk => by
      obtain ⟨d, hd⟩ := data m
      obtain ⟨b, h1, _, _, z⟩ := prot hj e m hd
      rw [e2] at h1; cases h1
      exact z ⟨k, mk⟩
    rcases mine h1 with ⟨a1, m1⟩ | ⟨a1, m1⟩ <;> rcases mine h2 with ⟨a2, m2⟩ | ⟨a2, m2⟩
    · exact R.sep j k a m1 m2
    · exact False.elim (cross a1 m1 m2)
    · exact False.elim (cross a2 m2 m1)
    · exact R'.sep j k a m1 m2
  · obtain ⟨x, y, z⟩ := fr.keep a o h t f fun ⟨k, mk⟩ => n ⟨k, (hide_mine mk).2⟩
    refine ⟨x, y, fun ⟨k, mk⟩ => ?_⟩
    rcases mine mk with ⟨_, m1⟩ | ⟨_, m1⟩
    · exact n ⟨k, m1⟩
    · exact z ⟨k, m1⟩
  · refine ⟨by rw [restore_len]; exact hl, fun j s e => ?_⟩
    by_cases hj : j ∈ vs
    · exact ⟨s, by rw [restore_in hl hj]; exact e, KpS.refl s⟩
    · rw [restore_out hj]; exact keep j hj s e
end
def noEx {α : Type} (r : Rs α) : Rs α := match r with
  | .ex _ _ => .fail
  | r => r
def compL (vs : List Nat) (mg : MG) (mt : MT) (me : ME) : List D → List D → ME
  | [], acc => fun ρ => .ok (.new (.list acc)) ρ
  | d :: ds, acc => fun ρ => match mg d (hide vs ρ) with
    | some ρ2 => (noEx (mt ρ2)).bind fun b ρ3 => if b = true then (noEx (me ρ3)).bind fun o ρ4 => (match useO ρ4 o with
      | some (x, ρ5) => if acc.length < sizeLine then compL vs mg mt me ds (acc ++ [x]) (restore vs ρ ρ5) else .fail
      | none => .fail) else compL vs mg mt me ds acc (restore vs ρ ρ3)
    | none => .fail
def eComp (vs : List Nat) (mi : MI) (mg : MG) (mt : MT) (me : ME) : ME := fun ρ => (mi ρ).bind fun s ρ1 => compL vs mg mt me s.ds [] ρ1
def tTrue : MT := fun ρ => .ok true ρ
abbrev W0 : WX := fun _ _ _ _ => False
def DTs (X : Cx) (W : WX) (es : List Expr) (m : MT) : Prop := ∃ t, PTs X es t ∧ ∀ F σ H ρ Q, Rel X.K F σ H ρ → TPost X.K W F H σ ρ Q (m ρ) → t σ H Q
section
variable {X : Cx} {W : WX} {pos : Pos}
theorem dts_nil : DTs X W [] tTrue := ⟨_, pts_nil, fun F σ H ρ Q R h => h F H Step.refl R⟩
theorem dts_one {c : Expr} {m : MT} (h : DT X W c m) : DTs X W [c] m := let ⟨t, p, q⟩ := h; ⟨_, pts_one p, q⟩
theorem IE {F H : Hp} {σ : Sg} {ρ : Rho} {Q : VK} {r : Rs Src} {f : Src → Rho → Rs Opd} {R' : It → Hp → Prop} (h : EPost X.K W F H σ ρ Q (r.bind f)) (k : ∀ s ρ1 J F1 H1, Step F H σ ρ F1 H1 ρ1 → Rel X.K F1 σ H1 ρ1 → Good X.K J F1 (lockC X.K σ s.lk) s.ds → Locked ρ1 s.lk → EPost X.K W F1 H1 σ ρ1 Q (f s ρ1) → R' J H1) : IPost X.K W F H σ ρ R' r := by
  cases r with
  | fail => exact h
  | ex x ρ' => exact h
  | ok s ρ1 => exact fun J F1 H1 s1 R1 g l => k s ρ1 J F1 H1 s1 R1 g l (EPost.step s1 h)
theorem rel_upd {K : PySem.W.Frag} {F H : Hp} {σ : Sg} {ρ : Rho} {D : Addr} {o : HO} (R : Rel K F σ H ρ) (f : F D = none) (n : ¬ Own σ ρ D) (ht : ∀ u, H D = some u → ¬ isTE u) : Rel K F σ (upd H D o) ρ := by
  have ne : ∀ b u, F b = some u → b ≠ D := fun b u h z => by subst z; rw [f] at h; cases h
  refine ⟨fun b u h => ?_, R.len, R.dat, fun i s d e m q => ?_, R.sep, tabs_upd ht R.tab⟩
  · obtain ⟨r, t⟩ := R.sub b u h
    refine ⟨?_, t⟩
    rcases r with r | ⟨x, r, y⟩
    · exact .inl (by rw [upd_ne (ne b u h)]; exact r)
    · exact .inr ⟨x, by rw [upd_ne (ne b u h)]; exact r, y⟩
  · obtain ⟨a, h1, h2, h3⟩ := R.own i s d e m q
    have : a ≠ D := by rintro rfl; exact n ⟨i, ⟨s, e, m⟩, h1⟩
    exact ⟨a, h1, h2, h3.mono (Ext.refl _) fun u hu => by rw [upd_ne this]; exact hu⟩
theorem Step.upd {F H F' H' : Hp} {σ : Sg} {ρ ρ' : Rho} {D : Addr} {o : HO} (s : Step F H σ ρ F' H' ρ') (hD : H D = none) : Step F H σ ρ F' (upd H' D o) ρ' := ⟨⟨s.fr.ext, fun a u h t f n => by
  obtain ⟨x, y, z⟩ := s.fr.keep a u h t f n
  exact ⟨by rw [upd_ne (ne_of_none h hD)]; exact x, y, z⟩⟩, s.kp⟩
theorem lc_sem {wi : TI} {g : TG} {tt : TT} {te : TE} {vs ts : List Nat} {mi : MI} {mg : MG} {mt : MT} {me : ME} (q : ∀ F σ H ρ R, Rel X.K F σ H ρ → IPost X.K W F H σ ρ R (mi ρ) → wi σ H R)
    (pgn : ∀ j ∈ ts, j ∈ vs) (om : OnlyG ts mg)
    (qg : ∀ F σ H ρ v d ρ' Q, Rel X.K F σ H ρ → Rp X.K F v d → mg d ρ = some ρ' → (∀ σ', Agree ts σ σ' → StepS F H σ ρ F H σ' ρ' → Rel X.K F σ' H ρ' → Q σ' H) → g v σ H Q)
    (qt : ∀ F σ H ρ Q, Rel X.K F σ H ρ → TPost X.K W0 F H σ ρ Q (mt ρ) → tt σ H Q)
    (qe : ∀ F σ H ρ Q, Rel X.K F σ H ρ → EPost X.K W0 F H σ ρ Q (me ρ) → te σ H Q) :
    ∀ F σ H ρ Q, Rel X.K F σ H ρ → EPost X.K W F H σ ρ Q (eComp vs mi mg mt me ρ) → tLc wi g tt te vs σ H Q := by
  intro F σ H ρ Q R h
  refine q F σ H ρ _ R (IE h fun s ρ1 J F1 H1 s1 R1 G L hq L0 hL0 => ?_)
  have lk : ∀ {F' H' : Hp} {ρ' : Rho}, Rel X.K F' σ H' ρ' → Locked ρ' s.lk → lockC X.K σ s.lk F' H' := fun {F' H' ρ'} R' L' => by
    cases e : s.lk with
    | none => exact True.intro
    | some z =>
      obtain ⟨j, d⟩ := z
      obtain ⟨a, h1, f, ow⟩ := R'.own j _ d (L' j d e) rfl rfl
      exact ⟨a, h1, ow⟩
  obtain ⟨fD, gr0, _⟩ := upd_fresh (K := X.K) (o := .lst []) R1.sub hL0 trivial
  have st0 : Step F1 H1 σ ρ1 F1 (upd H1 L0 (.lst [])) ρ1 := gr0.step
  let Inv' : Nat → Hp → Prop := fun i H' => i ≤ s.ds.length ∧ ∃ F' ρ' acc accv, Rel X.K F' σ H' ρ' ∧ Step F1 H1 σ ρ1 F' H' ρ' ∧ Locked ρ' s.lk ∧ H' L0 = some (.lst accv) ∧ F' L0 = none ∧ ¬ Own σ ρ' L0 ∧ RpA X.K F' accv acc ∧ EPost X.K W F1 H1 σ ρ1 Q (compL vs mg mt me (s.ds.drop i) acc ρ')
  refine ⟨fun i m H' => m = s.ds.length - i ∧ Inv' i H', ⟨s.ds.length, by simp, Nat.zero_le _, F1, ρ1, [], [], gr0.rel R1, st0, L, upd_same, fD, not_own R1 hL0, .nil, hq⟩, ?_⟩
  rintro i m H' ⟨rfl, hi, F', ρ', acc, accv, R', st, L', hD, fD', nD, racc, hq'⟩
  have C := lk R' L'
  by_cases hlt : i < s.ds.length
  · obtain ⟨go, yl⟩ := G.go i F' H' st.fr.ext R'.sub C hlt
    refine .inr ⟨go, Inv' (i + 1), fun H2 h => ⟨s.ds.length - (i + 1), by omega, rfl, h⟩, fun x H2 y => ?_⟩
    obtain ⟨F2, d, hd, gr, rp⟩ := yl x H2 y
    have ed : s.ds.drop i = d :: s.ds.drop (i + 1) := by
      rw [List.drop_eq_getElem_cons hlt]
      congr 1
      rw [List.getElem?_eq_getElem hlt] at hd
      exact Option.some.inj hd
    rw [ed] at hq'
    unfold compL at hq'
    have R2 := gr.rel R'
    have hD2 := gr.keep _ _ hD
    have fD2 := gr.fresh _ _ hD fD'
    have st2 : Step F1 H1 σ ρ1 F2 H2 ρ' := st.trans gr.step
    have racc2 := racc.mono gr.ext
    have Rw : Rel X.K F2 (wipe σ vs) H2 (hide vs ρ') := hide_rel R2
    have nDw : ¬ Own (wipe σ vs) (hide vs ρ') L0 := fun ⟨k, mk⟩ => nD ⟨k, (hide_mine mk).2⟩
    cases em : mg d (hide vs ρ') with
    | none => rw [em] at hq'; exact False.elim hq'
    | some ρ2 =>
      rw [em] at hq'
      dsimp only at hq'
      refine qg F2 (wipe σ vs) H2 (hide vs ρ') x d ρ2 _ Rw rp em fun σ3 ag s3 R3 => ?_
      have ag' : Agree vs (wipe σ vs) σ3 := ⟨ag.1, fun j hj => ag.2 j fun hm => hj (pgn j hm)⟩
      have eqw : wipe σ3 vs = wipe σ vs := by
        rw [wipe_eq ag']
        exact wipe_eq (σ := σ) (σ' := wipe σ vs) ⟨wipe_length σ vs, fun j hj => wipe_out hj⟩
      obtain ⟨om1, om2⟩ := om _ _ _ em
      have back : ∀ {F4 H4 : Hp} {ρ4 : Rho}, Step F2 H2 σ3 ρ2 F4 H4 ρ4 → Rel X.K F4 σ3 H4 ρ4 → Rel X.K F4 σ H4 (restore vs ρ' ρ4) ∧ Step F2 H2 σ ρ' F4 H4 (restore vs ρ' ρ4) ∧ H4 L0 = some (.lst accv) ∧ F4 L0 = none ∧ ¬ Own σ3 ρ4 L0 := fun {F4 H4 ρ4} s4 R4 => by
        have fr := s3.fr.trans s4.fr
        obtain ⟨x1, x2, x3⟩ := fr.keep L0 _ hD2 trivial fD2 nDw
        have hl : ρ'.length = ρ4.length := by rw [← s4.kp.1, om1, hide_len]
        obtain ⟨y1, y2⟩ := restore_rel R2 ag' fr hl R4 fun j hj t e => by
          have e1 : ρ2[j]? = some t := by rw [om2 j fun hm => hj (pgn j hm), hide_out hj]; exact e
          exact s4.kp.2 j t e1
        exact ⟨y1, y2, x1, x2, x3⟩
      have lock' : ∀ {F4 H4 : Hp} {ρ4 : Rho}, Step F2 H2 σ ρ' F4 H4 ρ4 → Locked ρ4 s.lk := fun {F4 H4 ρ4} s4 j d z => by
        obtain ⟨s', e', k⟩ := s4.kp.2 j _ (L' j d z)
        cases s' <;> first | (cases (show _ = _ from k); exact e') | exact False.elim k
      have nown : ∀ {F4 H4 : Hp} {ρ4 : Rho}, Step F2 H2 σ ρ' F4 H4 ρ4 → ¬ Own σ ρ4 L0 := fun {F4 H4 ρ4} s4 => (s4.fr.keep L0 _ hD2 trivial fD2 nD).2.2
      refine ⟨eqw, qt F2 σ3 H2 ρ2 _ R3 ?_⟩
      cases et : mt ρ2 with
      | fail => rw [et] at hq'; exact False.elim hq'
      | ex x ρ' => rw [et] at hq'; exact False.elim hq'
      | ok b ρ3 =>
        rw [et] at hq'
        intro F3 H3 s4 R4
        cases b with
        | false =>
          obtain ⟨y1, y2, x1, x2, x3⟩ := back s4 R4
          exact ⟨hlt, F3, _, acc, accv, y1, st2.trans y2, lock' y2, x1, x2, nown y2, racc2.mono s4.fr.ext, hq'⟩
        | true =>
          refine qe F3 σ3 H3 ρ3 _ R4 ?_
          have hq' : EPost X.K W F1 H1 σ ρ1 Q ((noEx (me ρ3)).bind fun o ρ4 => (match useO ρ4 o with
            | some (x, ρ5) => if acc.length < sizeLine then compL vs mg mt me (s.ds.drop (i + 1)) (acc ++ [x]) (restore vs ρ' ρ5) else .fail
            | none => .fail)) := hq'
          cases ee : me ρ3 with
          | fail => rw [ee] at hq'; exact False.elim hq'
          | ex x ρ' => rw [ee] at hq'; exact False.elim hq'
          | ok o ρ4 =>
            rw [ee] at hq'
            intro v F4 H4 s5 R5 ro ns
            dsimp only [noEx, Rs.bind] at hq'
            cases eu : useO ρ4 o with
            | none => rw [eu] at hq'; exact False.elim hq'
            | some z =>
              obtain ⟨d5, ρ5⟩ := z
              rw [eu] at hq'
              dsimp only at hq'
              split at hq'
              · rename_i hz
                obtain ⟨F5, s6, R6, rp5, ex5, _⟩ := use_ok R5 s5 ro ns eu
                obtain ⟨y1, y2, x1, x2, x3⟩ := back (s4.trans s6) R6
                have st6 := st2.trans y2
                have racc6 : RpA X.K F5 accv acc := racc2.mono (s4.trans s6).fr.ext
                refine ⟨accv, x1, by rw [racc.length]; exact hz, hlt, F5, _, acc ++ [d5], accv ++ [v], rel_upd y1 x2 (nown y2) (fun u hu => by rw [x1] at hu; cases hu; exact fun z => z), Step.upd st6 hL0, lock' y2, upd_same, x2, nown y2, racc6.append (.cons rp5 .nil), hq'⟩
              · exact False.elim hq'
  · have e : i = s.ds.length := by omega
    subst e
    rw [List.drop_length] at hq'
    refine .inl ⟨G.stop _ F' H' st.fr.ext R'.sub C (Nat.le_refl _), ?_⟩
    exact hq' (.ref L0) F' H' st R' ⟨L0, rfl, fD', ⟨accv, hD, racc⟩, nD⟩ fun _ a u e ha t f => by
      cases e
      rw [hL0] at ha; cases ha
theorem de_comp {elt tg iter : Expr} {ifs : List Expr} {scope : Scope} {own : List (Str × Nat)} {mi : MI} {mg : MG} {mt : MT} {me : ME} (hc : X.calm = true) (hN : X.N.Nodup) (hi : DI X W tg iter mi) (ok : BlkOk X.N X.env.scope scope own) {ts : List Nat}
    (pgn : ∀ j ∈ ts, j ∈ own.map (·.2)) (om : OnlyG ts mg) {g : TG} {tt : TT} {te : TE}
    (hg : ∀ (s : Shared) (H : Hp) (C : Addr) (cl : List (Str × Addr)) (fp : List Addr), PG (X.blk s H scope (compEnvC scope cl C X.env) fp) tg g)
    (qg : ∀ F σ H ρ v d ρ' Q, Rel X.K F σ H ρ → Rp X.K F v d → mg d ρ = some ρ' → (∀ σ', Agree ts σ σ' → StepS F H σ ρ F H σ' ρ' → Rel X.K F σ' H ρ' → Q σ' H) → g v σ H Q)
    (ht : ∀ (s : Shared) (H : Hp) (C : Addr) (cl : List (Str × Addr)) (fp : List Addr), PTs (X.blk s H scope (compEnvC scope cl C X.env) fp) ifs tt)
    (qt : ∀ F σ H ρ Q, Rel X.K F σ H ρ → TPost X.K W0 F H σ ρ Q (mt ρ) → tt σ H Q)
    (he : ∀ (s : Shared) (H : Hp) (C : Addr) (cl : List (Str × Addr)) (fp : List Addr), PE (X.blk s H scope (compEnvC scope cl C X.env) fp) elt te)
    (qe : ∀ F σ H ρ Q, Rel X.K F σ H ρ → EPost X.K W0 F H σ ρ Q (me ρ) → te σ H Q)
    (hs : ∀ x, foldedSetIterable iter X.env x = pure x := by intro _; rfl) : DE X W (.ListComp elt [⟨tg, iter, ifs, 0⟩] scope pos) (eComp (own.map (·.2)) mi mg mt me) := by
  obtain ⟨wi, p, q⟩ := hi
  exact ⟨_, pe_lc hc hN p ok hg ht he hs, lc_sem q pgn om qg qt qe⟩
end
end Dl
namespace Dl
open PySem PySem.Spec L2
/-! ### the same by one reading -/
def canE (K : PySem.W.Frag) (W : WX) (m : ME) : TE := fun σ H Q => ∃ F ρ, Rel K F σ H ρ ∧ EPost K W F H σ ρ Q (m ρ)
def canT (K : PySem.W.Frag) (W : WX) (m : MT) : TT := fun σ H Q => ∃ F ρ, Rel K F σ H ρ ∧ TPost K W F H σ ρ Q (m ρ)
def canG (K : PySem.W.Frag) (ts : List Nat) (mg : MG) : TG := fun v σ H Q => ∃ F ρ d ρ', Rel K F σ H ρ ∧ Rp K F v d ∧ mg d ρ = some ρ' ∧ ∀ σ', Agree ts σ σ' → StepS F H σ ρ F H σ' ρ' → Rel K F σ' H ρ' → Q σ' H
theorem DE.can {X : Cx} {W : WX} {e : Expr} {m : ME} (h : DE X W e m) : PE X e (canE X.K W m) := let ⟨_, p, q⟩ := h; ⟨fun pins s σ H Q I ⟨F, ρ, R, hp⟩ => p.run pins s σ H Q I (q F σ H ρ Q R hp)⟩
theorem DTs.can {X : Cx} {W : WX} {e : List Expr} {m : MT} (h : DTs X W e m) : PTs X e (canT X.K W m) := let ⟨_, p, q⟩ := h; ⟨fun pins s σ H Q I ⟨F, ρ, R, hp⟩ => p.run pins s σ H Q I (q F σ H ρ Q R hp)⟩
theorem DG.can {X : Cx} {tg : Expr} {ts : List Nat} {mg : MG} (h : DG X tg ts mg) : PG X tg (canG X.K ts mg) := let ⟨_, _, p, q⟩ := h; ⟨fun pins s σ H v u Q I r ⟨F, ρ, d, ρ', R, rp, e, k⟩ => p.run pins s σ H v u Q I r (q F σ H ρ v d ρ' Q R rp e k)⟩
theorem de_lc {X : Cx} {W : WX} {pos : Pos} {elt tg iter : Expr} {ifs : List Expr} {scope : Scope} (own : List (Str × Nat)) {mi : MI} {mg : MG} {mt : MT} {me : ME} (hc : X.calm = true) (hN : X.N.Nodup) (hi : DI X W tg iter mi) (ok : BlkOk X.N X.env.scope scope own) {ts : List Nat}
    (pgn : ∀ j ∈ ts, j ∈ own.map (·.2)) (om : OnlyG ts mg)
    (hg : ∀ (s : Shared) (H : Hp) (C : Addr) (cl : List (Str × Addr)) (fp : List Addr), DG (X.blk s H scope (compEnvC scope cl C X.env) fp) tg ts mg)
    (ht : ∀ (s : Shared) (H : Hp) (C : Addr) (cl : List (Str × Addr)) (fp : List Addr), DTs (X.blk s H scope (compEnvC scope cl C X.env) fp) W0 ifs mt)
    (he : ∀ (s : Shared) (H : Hp) (C : Addr) (cl : List (Str × Addr)) (fp : List Addr), DE (X.blk s H scope (compEnvC scope cl C X.env) fp) W0 elt me)
    (hs : ∀ x, foldedSetIterable iter X.env x = pure x := by intro _; rfl) : DE X W (.ListComp elt [⟨tg, iter, ifs, 0⟩] scope pos) (eComp (own.map (·.2)) mi mg mt me) :=
  de_comp (g := canG X.K ts mg) (tt := canT X.K W0 mt) (te := canE X.K W0 me) hc hN hi ok pgn om (fun s H C cl fp => (hg s H C cl fp).can) (fun F σ H ρ v d ρ' Q R rp e k => ⟨F, ρ, d, ρ', R, rp, e, k⟩) (fun s H C cl fp => (ht s H C cl fp).can) (fun F σ H ρ Q R h => ⟨F, ρ, R, h⟩) (fun s H C cl fp => (he s H C cl fp).can) (fun F σ H ρ Q R h => ⟨F, ρ, R, h⟩) hs
/-- y = [..] on one line -/
theorem ds_setLc {X : Cx} {W : WX} {pos spos py : Pos} {i : Nat} {y : Str} {elt tg iter : Expr} {ifs : List Expr} {scope : Scope} (own : List (Str × Nat)) {mi : MI} {mg : MG} {mt : MT} {me : ME} (hc : X.calm = true) (hN : X.N.Nodup) (hy : X.N[i]? = some y) (hyl : X.env.scope.names.lookup y = some .local)
    (hsw : swapsWith (.ListComp elt [⟨tg, iter, ifs, 0⟩] scope pos) (some (.Name y py)) spos.line X.env = pure true) (hi : DI X W tg iter mi) (ok : BlkOk X.N X.env.scope scope own) {ts : List Nat}
    (pgn : ∀ j ∈ ts, j ∈ own.map (·.2)) (om : OnlyG ts mg)
    (hg : ∀ (s : Shared) (H : Hp) (C : Addr) (cl : List (Str × Addr)) (fp : List Addr), DG (X.blk s H scope (compEnvC scope cl C X.env) fp) tg ts mg)
    (ht : ∀ (s : Shared) (H : Hp) (C : Addr) (cl : List (Str × Addr)) (fp : List Addr), DTs (X.blk s H scope (compEnvC scope cl C X.env) fp) W0 ifs mt)
    (he : ∀ (s : Shared) (H : Hp) (C : Addr) (cl : List (Str × Addr)) (fp : List Addr), DE (X.blk s H scope (compEnvC scope cl C X.env) fp) W0 elt me)
    (hs : ∀ x, foldedSetIterable iter X.env x = pure x := by intro _; rfl) : DS X W (.Assign [.Name y py] (.ListComp elt [⟨tg, iter, ifs, 0⟩] scope pos) spos) (sSet i (eComp (own.map (·.2)) mi mg mt me)) := by
  obtain ⟨wi, p, q⟩ := hi
  refine ⟨_, ps_setLc (g := canG X.K ts mg) (tt := canT X.K W0 mt) (te := canE X.K W0 me) hc hN hy hyl hsw p ok (fun s H C cl fp => (hg s H C cl fp).can) (fun s H C cl fp => (ht s H C cl fp).can) (fun s H C cl fp => (he s H C cl fp).can) hs, fun F σ H ρ Z R h => ?_⟩
  exact lc_sem (W := W) q pgn om (fun F σ H ρ v d ρ' Q R rp e k => ⟨F, ρ, d, ρ', R, rp, e, k⟩) (fun F σ H ρ Q R h => ⟨F, ρ, R, h⟩) (fun F σ H ρ Q R h => ⟨F, ρ, R, h⟩) F σ H ρ _ R (ES h fun o ρ1 v F1 H1 s1 R1 ro ns hp => putO_ok R1 s1 ro ns hp)
end Dl

set_option maxRecDepth 100000
set_option maxHeartbeats 4000000
namespace Dl
open PySem PySem.Spec L2
set_option autoImplicit false

/-! ### arguments: some are lent, the others frozen -/
def useSel (ρ : Rho) : List Bool → List Opd → Option (List Opd × Rho)
  | _, [] => some ([], ρ)
  | b :: bs, o :: os => if b = true then (match useSel ρ bs os with
      | some (ps, ρ2) => some (o :: ps, ρ2)
      | none => none) else (match useO ρ o with
      | some (d, ρ1) => (match useSel ρ1 bs os with
        | some (ps, ρ2) => some (.val d :: ps, ρ2)
        | none => none)
      | none => none)
  | [], _ :: _ => none
section
variable {K : PySem.W.Frag} {F0 H0 F H : Hp} {σ : Sg} {ρ0 ρ : Rho}
theorem RO.froz {F1 : Hp} {ρ1 : Rho} {v : V} {o : Opd} (h : RO K F H σ ρ v o) (ex : Ext F F1) (kp : Kp ρ ρ1) (sb : ∀ b, Own σ ρ1 b → Own σ ρ b) (fz : ∀ a, v = .ref a → o.isNew = true → F a = none → ¬ Own σ ρ a → F1 a = none) : RO K F1 H σ ρ1 v o := by
  cases o with
  | val d => exact Rp.mono ex h
  | loc i =>
    obtain ⟨x, s, d, y, z⟩ := h
    exact ⟨x, kp.data y z⟩
  | new d =>
    obtain ⟨a, x, f, ow, n⟩ := h
    exact ⟨a, x, fz a x rfl f n, ow.mono ex fun _ z => z, fun z => n (sb a z)⟩
theorem news_mem {v : V} {o : Opd} {vs : List V} {os : List Opd} {a : Addr} (h : a ∈ news vs os) : a ∈ news (v :: vs) (o :: os) := by
  cases v <;> cases o <;> first | exact h | exact List.mem_cons_of_mem _ h
theorem news_head {v : V} {o : Opd} {vs : List V} {os : List Opd} {a : Addr} (e : v = .ref a) (h : o.isNew = true) : a ∈ news (v :: vs) (o :: os) := by
  subst e
  cases o <;> first | (cases h; done) | exact List.mem_cons_self
theorem news_nd {v : V} {o : Opd} {vs : List V} {os : List Opd} (h : (news (v :: vs) (o :: os)).Nodup) : (news vs os).Nodup ∧ ∀ a, v = .ref a → o.isNew = true → a ∉ news vs os := by
  cases v <;> cases o <;> first | exact ⟨h, fun a e q => by first | (cases e; done) | (cases q; done)⟩ | exact ⟨(List.nodup_cons.mp h).2, fun a e q => by cases e; exact (List.nodup_cons.mp h).1⟩
theorem news_cons_nd {v : V} {o : Opd} {vs : List V} {os : List Opd} (h : (news vs os).Nodup) (k : ∀ a, v = .ref a → o.isNew = true → a ∉ news vs os) : (news (v :: vs) (o :: os)).Nodup := by
  cases v <;> cases o <;> first | exact h | exact List.nodup_cons.mpr ⟨k _ rfl rfl, h⟩
theorem useSel_ok : ∀ {bs : List Bool} {os : List Opd} {F : Hp} {ρ : Rho} {vs : List V} {ps : List Opd} {ρ1 : Rho}, Rel K F σ H ρ → Step F0 H0 σ ρ0 F H ρ → ROs K F H σ ρ vs os → NewSeps F0 H0 σ ρ0 vs os → useSel ρ bs os = some (ps, ρ1) →
    ∃ F1, Step F0 H0 σ ρ0 F1 H ρ1 ∧ Rel K F1 σ H ρ1 ∧ ROs K F1 H σ ρ1 vs ps ∧ Ext F F1 ∧ Kp ρ ρ1 ∧ (∀ b, Own σ ρ1 b → Own σ ρ b) ∧ (∀ b, F b = none → F1 b ≠ none → b ∈ news vs os ∨ Own σ ρ b) ∧ (∀ a ∈ news vs ps, a ∈ news vs os)
  | bs, [], F, ρ, vs, ps, ρ1, R, st, ro, ns, h => by
    have hh : some (([] : List Opd), ρ) = some (ps, ρ1) := by cases bs <;> exact h
    cases hh
    cases ro.all
    exact ⟨F, st, R, ⟨.nil, List.nodup_nil⟩, Ext.refl _, Kp.refl _, fun _ h => h, fun _ h1 h2 => absurd h1 h2, fun _ h => h⟩
  | [], o :: os, F, ρ, vs, ps, ρ1, R, st, ro, ns, h => by cases h
  | b :: bs, o :: os, F, ρ, vs, ps, ρ1, R, st, ro, ns, h => by
    obtain ⟨all, nd⟩ := ro
    cases all with
    | @cons v _ vs _ r rs =>
    obtain ⟨nd2, nd1⟩ := news_nd nd
    have nst : NewSeps F0 H0 σ ρ0 vs os := fun a hm => ns a (news_mem hm)
    unfold useSel at h
    cases b with
    | true =>
      rw [if_pos rfl] at h
      cases e2 : useSel ρ bs os with
      | none => rw [e2] at h; cases h
      | some p2 =>
        obtain ⟨ps', ρ3⟩ := p2
        rw [e2] at h
        cases h
        obtain ⟨F3, st3, R3, ro3, ex3, kp3, sb3, on3, sub3⟩ := useSel_ok (os := os) R st ⟨rs, nd2⟩ nst e2
        have r3 : RO K F3 H σ ρ1 v o := r.froz ex3 kp3 sb3 fun a e q f n => by
          cases z : F3 a with
          | none => rfl
          | some u => exact ((on3 a f (by rw [z]; intro y; cases y)).elim (fun y => absurd y (nd1 a e q)) fun y => absurd y n)
        refine ⟨F3, st3, R3, ⟨.cons r3 ro3.all, news_cons_nd ro3.nd fun a e q hm => nd1 a e q (sub3 a hm)⟩, ex3, kp3, sb3, fun b h1 h2 => (on3 b h1 h2).imp news_mem id, fun a hm => ?_⟩
        rcases news_cons hm with ⟨e, q⟩ | hm
        · exact news_head e q
        · exact news_mem (sub3 a hm)
    | false =>
      rw [if_neg Bool.false_ne_true] at h
      cases e1 : useO ρ o with
      | none => rw [e1] at h; cases h
      | some p =>
        obtain ⟨d, ρ2⟩ := p
        rw [e1] at h
        dsimp only at h
        cases e2 : useSel ρ2 bs os with
        | none => rw [e2] at h; cases h
        | some p2 =>
          obtain ⟨ps', ρ3⟩ := p2
          rw [e2] at h
          cases h
          have ns1 : NewSep F0 H0 σ ρ0 v o := fun hn a u e ha t f => ns a (news_head e hn) u ha t f
          obtain ⟨F2, st2, R2, rp, ex2, only, kp2, sb⟩ := use_ok R st r ns1 e1
          have ros : ROs K F2 H σ ρ2 vs os := by
            refine ⟨?_, nd2⟩
            have pr : ∀ {ws : List V} {qs : List Opd}, (∀ a ∈ news ws qs, a ∈ news vs os) → Paired (RO K F H σ ρ) ws qs → Paired (RO K F2 H σ ρ2) ws qs := by
              intro ws qs sub p
              induction p with
              | nil => exact .nil
              | @cons w p' ws qs' r' _ ih =>
                refine .cons (r'.froz ex2 kp2 sb fun a e q f n => ?_) (ih fun a h => sub a (news_mem h))
                have ha : a ∈ news vs os := sub a (news_head e q)
                cases z : F2 a with
                | none => rfl
                | some u =>
                  obtain ⟨y1, y2⟩ := only a f (by rw [z]; intro y; cases y)
                  rcases y2 with y2 | y2
                  · exact absurd ha (nd1 a y1 y2)
                  · exact absurd y2 n
            exact pr (fun a h => h) rs
          obtain ⟨F3, st3, R3, ro3, ex3, kp3, sb3, on3, sub3⟩ := useSel_ok (os := os) R2 st2 ros nst e2
          have nx : ∀ a, a ∈ news (v :: vs) (.val d :: ps') → a ∈ news vs ps' := fun a h => by cases v <;> exact h
          refine ⟨F3, st3, R3, ⟨.cons (rp.mono ex3) ro3.all, by cases v <;> exact ro3.nd⟩, ex2.trans ex3, kp2.trans kp3, fun b h => sb b (sb3 b h), fun b h1 h2 => ?_, fun a hm => news_mem (sub3 a (nx a hm))⟩
          cases z : F2 b with
          | none => exact (on3 b z h2).imp news_mem (sb b)
          | some u =>
            obtain ⟨y1, y2⟩ := only b h1 (by rw [z]; intro y; cases y)
            exact y2.imp (fun y => news_head y1 y) id
/-- what a callee is handed -/
def slotOf (ρ : Rho) : Opd → Option Slot
  | .val d => some (.dat d)
  | .new d => some (.par d)
  | .loc i => match ρ[i]? with
    | some (.own d) => some (.par d)
    | some (.par d) => some (.par d)
    | some (.lck d) => some (.lck d)
    | some (.dat d) => some (.dat d)
    | _ => none
def slotsOf (ρ : Rho) : List Opd → Option (List Slot)
  | [] => some []
  | o :: os => match slotOf ρ o, slotsOf ρ os with
    | some s, some ss => some (s :: ss)
    | _, _ => none
def lents (ρ : Rho) : List Opd → List Nat
  | [] => []
  | .loc i :: os => (match ρ[i]? with
    | some (.dat _) => lents ρ os
    | _ => i :: lents ρ os)
  | _ :: os => lents ρ os
/-- what comes back -/
def backS : Slot → Slot → Slot
  | .own _, .par d => .own d
  | .par _, .par d => .par d
  | s, _ => s
def takeB (ρ : Rho) : List Opd → List Slot → Rho
  | .loc i :: os, c :: cs => (match ρ[i]? with
    | some (.dat _) => takeB ρ os cs
    | some s => (takeB ρ os cs).set i (backS s c)
    | none => takeB ρ os cs)
  | _ :: os, _ :: cs => takeB ρ os cs
  | _, _ => ρ
def argB : Slot → Bool
  | .dat _ => true
  | .par _ => true
  | .lck _ => true
  | _ => false
def ArgOk (cs : List Slot) : Prop := ∀ s ∈ cs, argB s = true
theorem data_of {s : Slot} (m : s.mine = true) : ∃ d, s.data? = some d := by cases s <;> first | (cases m; done) | exact ⟨_, rfl⟩
theorem news_free {vs : List V} {os : List Opd} {a : Addr} (h : Paired (RO K F H σ ρ) vs os) (hm : a ∈ news vs os) : ∃ u, H a = some u ∧ nt u ∧ F a = none ∧ ¬ Own σ ρ a := by
  induction h with
  | nil => cases hm
  | @cons v o vs os r _ ih =>
    rcases news_cons hm with ⟨e, q⟩ | hm
    · subst e; exact r.prot q
    · exact ih hm
/-- a lent name's slot -/
theorem slotOf_loc {i : Nat} {s : Slot} (h : slotOf ρ (.loc i) = some s) : ∃ t, ρ[i]? = some t ∧ argB s = true ∧ ((∃ d, t = .dat d ∧ s = .dat d) ∨ (t.mine = true ∧ s.mine = true ∧ t.data? = s.data? ∧ ((∃ d, t = .lck d ∧ s = .lck d) ∨ ∃ d, s = .par d ∧ (t = .own d ∨ t = .par d)))) := by
  unfold slotOf at h
  dsimp only at h
  cases e : ρ[i]? with
  | none => rw [e] at h; cases h
  | some t =>
    rw [e] at h
    cases t with
    | un => cases h
    | dat d => cases h; exact ⟨_, rfl, rfl, .inl ⟨d, rfl, rfl⟩⟩
    | own d => cases h; exact ⟨_, rfl, rfl, .inr ⟨rfl, rfl, rfl, .inr ⟨d, rfl, .inl rfl⟩⟩⟩
    | par d => cases h; exact ⟨_, rfl, rfl, .inr ⟨rfl, rfl, rfl, .inr ⟨d, rfl, .inr rfl⟩⟩⟩
    | lck d => cases h; exact ⟨_, rfl, rfl, .inr ⟨rfl, rfl, rfl, .inl ⟨d, rfl, rfl⟩⟩⟩
theorem lents_loc {i : Nat} {t : Slot} {os : List Opd} (e : ρ[i]? = some t) (m : t.mine = true) : lents ρ (.loc i :: os) = i :: lents ρ os := by
  rw [lents, e]
  cases t <;> first | (cases m; done) | rfl
theorem lents_tail {o : Opd} {os : List Opd} {i : Nat} (h : i ∈ lents ρ os) : i ∈ lents ρ (o :: os) := by
  cases o with
  | val d => exact h
  | new d => exact h
  | loc j =>
    unfold lents
    split
    · exact h
    · exact List.mem_cons_of_mem _ h
theorem lents_nd {o : Opd} {os : List Opd} (h : (lents ρ (o :: os)).Nodup) : (lents ρ os).Nodup := by
  cases o with
  | val d => exact h
  | new d => exact h
  | loc j =>
    unfold lents at h
    split at h
    · exact h
    · exact (List.nodup_cons.mp h).2
theorem slots_rel (R : Rel K F σ H ρ) : ∀ {os : List Opd} {vs : List V} {cs : List Slot}, ROs K F H σ ρ vs os → slotsOf ρ os = some cs → (lents ρ os).Nodup →
    Rel K F (vs.map some) H cs ∧ ArgOk cs ∧ ∀ a, Own (vs.map some) cs a → a ∈ news vs os ∨ ∃ i ∈ lents ρ os, Mine σ ρ i a
  | [], vs, cs, ro, h, nd => by
    cases h
    cases ro.all
    exact ⟨⟨R.sub, rfl, fun i d e => by simp at e, fun i s d e => by simp at e, fun i j a h => by obtain ⟨⟨s, e, _⟩, _⟩ := h; simp at e, R.tab⟩, (fun s h => by cases h), fun a ⟨i, ⟨s, e, _⟩, _⟩ => by simp at e⟩
  | o :: os, vs, cs, ro, h, nd => by
    obtain ⟨all, ndn⟩ := ro
    cases all with
    | @cons v _ vs _ r rs =>
    obtain ⟨nd2, nd1⟩ := news_nd ndn
    unfold slotsOf at h
    cases e1 : slotOf ρ o with
    | none => rw [e1] at h; cases h
    | some s =>
      cases e2 : slotsOf ρ os with
      | none => rw [e1, e2] at h; cases h
      | some ss =>
        rw [e1, e2] at h
        cases h
        obtain ⟨Rt, At, Ot⟩ := slots_rel R (os := os) ⟨rs, nd2⟩ e2 (lents_nd nd)
        -- the head
        have head : argB s = true ∧ (∀ d, s = .dat d → Rp K F v d) ∧ (∀ d, s.mine = true → s.data? = some d → ∃ a, v = .ref a ∧ F a = none ∧ OwnAt K F H a d ∧ ((o.isNew = true ∧ ¬ Own σ ρ a) ∨ ∃ i, o = .loc i ∧ Mine σ ρ i a ∧ lents ρ (o :: os) = i :: lents ρ os)) := by
          cases o with
          | val d => cases e1; exact ⟨rfl, (fun d' e => by cases e; exact r), fun d' m => by cases m⟩
          | new d =>
            cases e1
            obtain ⟨a, x, f, ow, n⟩ := r
            exact ⟨rfl, (fun d' e => by cases e), fun d' _ q => by cases q; exact ⟨a, x, f, ow, .inl ⟨rfl, n⟩⟩⟩
          | loc i =>
            obtain ⟨t, et, ab, q⟩ := slotOf_loc e1
            obtain ⟨hv, _⟩ := r
            refine ⟨ab, fun d e => ?_, fun d m qd => ?_⟩
            · subst e
              rcases q with ⟨d', e', e2⟩ | ⟨_, m, _⟩
              · cases e2; subst e'
                obtain ⟨w, h1, h2⟩ := R.dat i d et
                rw [hv] at h1; cases h1; exact h2
              · cases m
            · rcases q with ⟨d', _, e2⟩ | ⟨mt, _, dd, _⟩
              · subst e2; cases m
              · obtain ⟨a, h1, f, ow⟩ := R.own i t d et mt (dd.trans qd)
                rw [hv] at h1; cases h1
                exact ⟨a, rfl, f, ow, .inr ⟨i, rfl, ⟨⟨t, et, mt⟩, hv⟩, lents_loc et mt⟩⟩
        obtain ⟨ab, hd, hm⟩ := head
        have apart : ∀ a, s.mine = true → v = .ref a → Own (vs.map some) ss a → False := fun a m ev hown => by
          obtain ⟨d, qd⟩ := data_of m
          obtain ⟨b, x, f, ow, z⟩ := hm d m qd
          rw [ev] at x; cases x
          rcases Ot a hown with y | ⟨i', hi', mi'⟩
          · rcases z with ⟨q, n⟩ | ⟨i, _, mi, _⟩
            · exact nd1 a ev q y
            · obtain ⟨_, _, _, _, n⟩ := news_free rs y
              exact n ⟨i, mi⟩
          · rcases z with ⟨q, n⟩ | ⟨i, _, mi, hl⟩
            · exact n ⟨i', mi'⟩
            · have := R.sep i i' a mi mi'
              subst this
              rw [hl] at nd
              exact (List.nodup_cons.mp nd).1 hi'
        have mineC : ∀ {j : Nat} {a : Addr}, Mine ((v :: vs).map some) (s :: ss) j a → (j = 0 ∧ s.mine = true ∧ v = .ref a) ∨ ∃ j', j = j' + 1 ∧ Mine (vs.map some) ss j' a := fun {j a} ⟨⟨t, e, m⟩, e2⟩ => by
          cases j with
          | zero => exact .inl ⟨rfl, by cases e; exact m, by simpa using e2⟩
          | succ j => exact .inr ⟨j, rfl, ⟨t, by simpa using e, m⟩, by simpa using e2⟩
        refine ⟨⟨R.sub, by simpa using Rt.len, fun j d e => ?_, fun j t d e m q => ?_, fun j k a h1 h2 => ?_, R.tab⟩, fun t ht => ?_, fun a ⟨j, mj⟩ => ?_⟩
        · cases j with
          | zero => exact ⟨v, rfl, hd d (by simpa using e)⟩
          | succ j =>
            obtain ⟨w, h1, h2⟩ := Rt.dat j d (by simpa using e)
            exact ⟨w, by simpa using h1, h2⟩
        · cases j with
          | zero =>
            have e : s = t := by simpa using e
            subst e
            obtain ⟨a, x, f, ow, _⟩ := hm d m q
            exact ⟨a, by rw [x]; rfl, f, ow⟩
          | succ j =>
            obtain ⟨a, h1, h2⟩ := Rt.own j t d (by simpa using e) m q
            exact ⟨a, by simpa using h1, h2⟩
        · rcases mineC h1 with ⟨rfl, m1, v1⟩ | ⟨j', rfl, m1⟩ <;> rcases mineC h2 with ⟨rfl, m2, v2⟩ | ⟨k', rfl, m2⟩
          · rfl
          · exact False.elim (apart a m1 v1 ⟨k', m2⟩)
          · exact False.elim (apart a m2 v2 ⟨j', m1⟩)
          · rw [Rt.sep j' k' a m1 m2]
        · rcases List.mem_cons.mp ht with e | ht
          · subst e; exact ab
          · exact At t ht
        · rcases mineC mj with ⟨rfl, m1, v1⟩ | ⟨j', rfl, m1⟩
          · obtain ⟨d, qd⟩ := data_of m1
            obtain ⟨b, x, _, _, z⟩ := hm d m1 qd
            rw [v1] at x; cases x
            rcases z with ⟨q, _⟩ | ⟨i, _, mi, hl⟩
            · exact .inl (news_head v1 q)
            · exact .inr ⟨i, by rw [hl]; exact List.mem_cons_self, mi⟩
          · rcases Ot a ⟨j', m1⟩ with y | ⟨i, hi, mi⟩
            · exact .inl (news_mem y)
            · exact .inr ⟨i, lents_tail hi, mi⟩
theorem takeB_len (ρ : Rho) : ∀ (os : List Opd) (cs : List Slot), (takeB ρ os cs).length = ρ.length
  | [], _ => by unfold takeB; rfl
  | .val _ :: os, [] => rfl
  | .new _ :: os, [] => rfl
  | .loc _ :: os, [] => rfl
  | .val _ :: os, c :: cs => takeB_len ρ os cs
  | .new _ :: os, c :: cs => takeB_len ρ os cs
  | .loc i :: os, c :: cs => by
    unfold takeB
    split
    · exact takeB_len ρ os cs
    · rw [List.length_set]; exact takeB_len ρ os cs
    · exact takeB_len ρ os cs
/-- a slot behind a call: it was not lent, or it comes back -/
theorem takeB_at : ∀ {os : List Opd} {vs : List V} {cs cs' : List Slot} {j : Nat} {s' : Slot}, Paired (RO K F H σ ρ) vs os → slotsOf ρ os = some cs → cs.length = cs'.length → (takeB ρ os cs')[j]? = some s' →
    (ρ[j]? = some s' ∧ (j ∉ lents ρ os ∨ s'.mine = false)) ∨ ∃ (k : Nat) (s c c' : Slot) (v : V), j ∈ lents ρ os ∧ ρ[j]? = some s ∧ cs[k]? = some c ∧ cs'[k]? = some c' ∧ s' = backS s c' ∧ slotOf ρ (.loc j) = some c ∧ vs[k]? = some v ∧ σ[j]? = some (some v)
  | [], vs, cs, cs', j, s', _, h, hl, e => .inl ⟨by unfold takeB at e; exact e, .inl (by simp [lents])⟩
  | o :: os, vs, cs, cs', j, s', p, h, hl, e => by
    cases p with
    | @cons v _ vs _ r rs =>
    unfold slotsOf at h
    cases e1 : slotOf ρ o with
    | none => rw [e1] at h; cases h
    | some s =>
      cases e2 : slotsOf ρ os with
      | none => rw [e1, e2] at h; cases h
      | some ss =>
        rw [e1, e2] at h
        cases h
        cases cs' with
        | nil => cases hl
        | cons c' cs' =>
          have hl' : ss.length = cs'.length := by simpa using hl
          have lift : ∀ {s' : Slot}, (takeB ρ os cs')[j]? = some s' → (j ∉ lents ρ (o :: os) ∨ j ∈ lents ρ os ∨ s'.mine = false ∨ True) → ((ρ[j]? = some s' ∧ (j ∉ lents ρ os ∨ s'.mine = false)) ∨ ∃ (k : Nat) (s c c' : Slot) (v : V), j ∈ lents ρ os ∧ ρ[j]? = some s ∧ ss[k]? = some c ∧ cs'[k]? = some c' ∧ s' = backS s c' ∧ slotOf ρ (.loc j) = some c ∧ vs[k]? = some v ∧ σ[j]? = some (some v)) := fun {s'} e _ => takeB_at rs e2 hl' e
          have up : ∀ {s' : Slot}, ((ρ[j]? = some s' ∧ (j ∉ lents ρ (o :: os) ∨ s'.mine = false)) ∨ ∃ (k : Nat) (s c c' : Slot) (v : V), j ∈ lents ρ os ∧ ρ[j]? = some s ∧ ss[k]? = some c ∧ cs'[k]? = some c' ∧ s' = backS s c' ∧ slotOf ρ (.loc j) = some c ∧ vs[k]? = some v ∧ σ[j]? = some (some v)) →
              ((ρ[j]? = some s' ∧ (j ∉ lents ρ (o :: os) ∨ s'.mine = false)) ∨ ∃ (k : Nat) (t c d : Slot) (v' : V), j ∈ lents ρ (o :: os) ∧ ρ[j]? = some t ∧ (s :: ss)[k]? = some c ∧ (c' :: cs')[k]? = some d ∧ s' = backS t d ∧ slotOf ρ (.loc j) = some c ∧ (v :: vs)[k]? = some v' ∧ σ[j]? = some (some v')) := fun {s'} h => h.imp id fun ⟨k, t, c, d, v', h1, h2, h3, h4, h5⟩ => ⟨k + 1, t, c, d, v', lents_tail h1, h2, by simpa using h3, by simpa using h4, h5.1, h5.2.1, by simpa using h5.2.2.1, h5.2.2.2⟩
          cases o with
          | val d =>
            have e : (takeB ρ os cs')[j]? = some s' := e
            exact up (lift e (.inr (.inr (.inr trivial))))
          | new d =>
            have e : (takeB ρ os cs')[j]? = some s' := e
            exact up (lift e (.inr (.inr (.inr trivial))))
          | loc i =>
            obtain ⟨t, et, ab, q⟩ := slotOf_loc e1
            unfold takeB at e
            rw [et] at e
            rcases q with ⟨d, et2, es⟩ | ⟨mt, ms, dd, kind⟩
            · subst et2
              have hls : lents ρ (.loc i :: os) = lents ρ os := by
                rw [lents, et]
              have := lift e (.inr (.inr (.inr trivial)))
              refine up ?_
              rw [hls]
              exact this
            · have e : ((takeB ρ os cs').set i (backS t c'))[j]? = some s' := by
                cases t <;> first | (cases mt; done) | exact e
              have hls := lents_loc (os := os) et mt
              by_cases hj : i = j
              · subst hj
                have hi : i < (takeB ρ os cs').length := by rw [takeB_len]; exact (List.getElem?_eq_some_iff.mp et).1
                rw [List.getElem?_set_self hi] at e
                cases e
                exact .inr ⟨0, t, s, c', v, by rw [hls]; exact List.mem_cons_self, et, rfl, rfl, rfl, e1, rfl, r.1⟩
              · rw [List.getElem?_set_ne hj] at e
                refine up ?_
                rcases lift e (.inr (.inr (.inr trivial))) with ⟨x, y⟩ | y
                · refine .inl ⟨x, y.imp (fun z => ?_) id⟩
                  rw [hls, List.mem_cons, not_or]
                  exact ⟨Ne.symm hj, z⟩
                · exact .inr y
theorem KpS.back {s c c' : Slot} {i : Nat} (h : ρ[i]? = some s) (h1 : slotOf ρ (.loc i) = some c) (m : s.mine = true) (k : KpS c c') : KpS s (backS s c') ∧ (backS s c').mine = true ∧ (backS s c').data? = c'.data? := by
  obtain ⟨t, et, _, q⟩ := slotOf_loc h1
  rw [h] at et; cases et
  rcases q with ⟨d, e1, _⟩ | ⟨_, _, _, ⟨d, e1, e2⟩ | ⟨d, e2, e1⟩⟩
  · subst e1; cases m
  · subst e1 e2
    cases c' <;> first | exact ⟨rfl, rfl, by cases (show d = _ from k); rfl⟩ | exact False.elim k
  · subst e2
    rcases e1 with e1 | e1 <;> (subst e1; cases c' <;> first | exact ⟨trivial, rfl, rfl⟩ | exact False.elim k)
theorem take_ok {F' H' : Hp} {vs : List V} {os : List Opd} {cs cs' : List Slot} (R : Rel K F σ H ρ) (st : Step F0 H0 σ ρ0 F H ρ) (ro : ROs K F H σ ρ vs os) (ns : NewSeps F0 H0 σ ρ0 vs os) (hs : slotsOf ρ os = some cs) (nd : (lents ρ os).Nodup)
    (s : Step F H (vs.map some) cs F' H' cs') (R' : Rel K F' (vs.map some) H' cs') : Rel K F' σ H' (takeB ρ os cs') ∧ Step F0 H0 σ ρ0 F' H' (takeB ρ os cs') ∧
      (∀ v o, o.isNew = true → RO K F' H' (vs.map some) cs' v o → NewSep F H (vs.map some) cs v o → RO K F' H' σ (takeB ρ os cs') v o ∧ NewSep F0 H0 σ ρ0 v o) := by
  obtain ⟨Rc, ac, oc⟩ := slots_rel R ro hs nd
  have len : cs.length = cs'.length := s.kp.1
  have foreign : ∀ {j : Nat} {a : Addr} {t : Slot}, ρ[j]? = some t → t.mine = true → σ[j]? = some (some (.ref a)) → j ∉ lents ρ os → ¬ Own (vs.map some) cs a := fun {j a t} e m h n ho => by
    rcases oc a ho with y | ⟨i, hi, mi⟩
    · obtain ⟨_, _, _, _, z⟩ := news_free ro.all y
      exact z ⟨j, ⟨t, e, m⟩, h⟩
    · have := R.sep j i a ⟨⟨t, e, m⟩, h⟩ mi
      subst this; exact n hi
  have prot : ∀ {a : Addr} {u : HO}, H a = some u → nt u → F a = none → ¬ Own σ ρ a → a ∉ news vs os → ¬ Own (vs.map some) cs a := fun {a u} h t f n nn ho => by
    rcases oc a ho with y | ⟨i, hi, mi⟩
    · exact nn y
    · exact n ⟨i, mi⟩
  have mine : ∀ {j : Nat} {a : Addr}, Mine σ (takeB ρ os cs') j a → Mine σ ρ j a ∧ ((j ∉ lents ρ os) ∨ Own (vs.map some) cs' a) := fun {j a} ⟨⟨t, e, m⟩, h⟩ => by
    rcases takeB_at ro.all hs len e with ⟨x, y⟩ | ⟨k, t0, c, c', v, hj, h1, h2, h3, h4, h5, h6, h7⟩
    · rcases y with y | y
      · exact ⟨⟨⟨t, x, m⟩, h⟩, .inl y⟩
      · rw [y] at m; cases m
    · obtain ⟨tt, ett, ab, q⟩ := slotOf_loc h5
      rw [h1] at ett; cases ett
      rcases q with ⟨d, z1, z2⟩ | ⟨mt, mc, _⟩
      · subst z1
        rw [h4] at m; cases m
      · obtain ⟨c2, hc2, kk⟩ := s.kp.2 k c h2
        rw [h3] at hc2; cases hc2
        have bb := KpS.back h1 h5 mt kk
        rw [h] at h7; cases h7
        refine ⟨⟨⟨t0, h1, mt⟩, h⟩, .inr ⟨k, ⟨c', h3, ?_⟩, by rw [List.getElem?_map, h6]; rfl⟩⟩
        cases c <;> cases c' <;> first | (cases mc; done) | (cases ab; done) | exact False.elim kk | rfl
  have fresh : ∀ {a : Addr} {u : HO}, H0 a = some u → nt u → F0 a = none → ¬ Own σ ρ0 a → H' a = some u ∧ F' a = none ∧ ¬ Own σ (takeB ρ os cs') a := fun {a u} h t f n => by
    obtain ⟨x, y, z⟩ := st.fr.keep a u h t f n
    have nn : a ∉ news vs os := fun hm => n (ns a hm u h t f)
    obtain ⟨x', y', z'⟩ := s.fr.keep a u x t y (prot x t y z nn)
    exact ⟨x', y', fun ⟨j, mj⟩ => z ⟨j, (mine mj).1⟩⟩
  refine ⟨⟨R'.sub, by rw [takeB_len]; exact R.len, fun j d e => ?_, fun j t d e m q => ?_, fun j k a h1 h2 => R.sep j k a (mine h1).1 (mine h2).1, R'.tab⟩, ⟨⟨st.fr.ext.trans s.fr.ext, fun a u h t f n => fresh h t f n⟩, st.kp.trans ⟨(takeB_len _ _ _).symm, fun j t e => ?_⟩⟩, fun v o hn hr hsep => ?_⟩
  · rcases takeB_at ro.all hs len e with ⟨x, _⟩ | ⟨k, t0, c, c', v, hj, h1, h2, h3, h4, h5, h6, h7⟩
    · obtain ⟨v, h1, h2⟩ := R.dat j d x
      exact ⟨v, h1, h2.mono s.fr.ext⟩
    · obtain ⟨c2, hc2, kk⟩ := s.kp.2 k c h2
      rw [h3] at hc2; cases hc2
      by_cases mt : t0.mine = true
      · have bb := (KpS.back h1 h5 mt kk).2.1
        rw [← h4] at bb; cases bb
      · obtain ⟨tt, ett, ab, q⟩ := slotOf_loc h5
        rw [h1] at ett; cases ett
        rcases q with ⟨d', z1, z2⟩ | ⟨mt', _⟩
        · subst z1
          have e4 : Slot.dat d = Slot.dat d' := h4
          cases e4
          obtain ⟨w, g1, g2⟩ := R.dat j d h1
          exact ⟨w, g1, g2.mono s.fr.ext⟩
        · exact absurd mt' mt
  · rcases takeB_at ro.all hs len e with ⟨x, y⟩ | ⟨k, t0, c, c', v, hj, h1, h2, h3, h4, h5, h6, h7⟩
    · have y : j ∉ lents ρ os := y.resolve_right (by rw [m]; simp)
      obtain ⟨a, g1, g2, g3⟩ := R.own j t d x m q
      obtain ⟨u, hu, tu⟩ := g3.some
      obtain ⟨x1, x2, _⟩ := s.fr.keep a u hu tu g2 (foreign x m g1 y)
      exact ⟨a, g1, x2, g3.mono s.fr.ext fun w hw => by rw [hu] at hw; cases hw; exact x1⟩
    · obtain ⟨c2, hc2, kk⟩ := s.kp.2 k c h2
      rw [h3] at hc2; cases hc2
      obtain ⟨tt, ett, ab, qq⟩ := slotOf_loc h5
      rw [h1] at ett; cases ett
      rcases qq with ⟨d', z1, z2⟩ | ⟨mt, mc, _⟩
      · subst z1
        rw [h4] at m; cases m
      · obtain ⟨b1, b2, b3⟩ := KpS.back h1 h5 mt kk
        have mc' : c'.mine = true := by cases c <;> cases c' <;> first | (cases mc; done) | (cases ab; done) | exact False.elim kk | rfl
        obtain ⟨a, g1, g2, g3⟩ := R'.own k c' d h3 mc' (by rw [← b3, ← h4]; exact q)
        rw [List.getElem?_map, h6] at g1
        cases g1
        exact ⟨a, h7, g2, g3⟩
  · cases e2 : (takeB ρ os cs')[j]? with
    | none =>
      have := (List.getElem?_eq_some_iff.mp e).1
      rw [List.getElem?_eq_none_iff, takeB_len] at e2
      omega
    | some t' =>
      refine ⟨t', rfl, ?_⟩
      rcases takeB_at ro.all hs len e2 with ⟨x, _⟩ | ⟨k, t0, c, c', v, hj, h1, h2, h3, h4, h5, h6, h7⟩
      · rw [e] at x; cases x; exact KpS.refl t
      · rw [e] at h1; cases h1
        obtain ⟨c2, hc2, kk⟩ := s.kp.2 k c h2
        rw [h3] at hc2; cases hc2
        by_cases mt : t.mine = true
        · rw [h4]; exact (KpS.back e h5 mt kk).1
        · obtain ⟨tt, ett, ab, qq⟩ := slotOf_loc h5
          rw [e] at ett; cases ett
          rcases qq with ⟨d', z1, z2⟩ | ⟨mt', _⟩
          · subst z1; rw [h4]; exact rfl
          · exact absurd mt' mt
  · cases o with
    | val d => cases hn
    | loc i => cases hn
    | new d =>
      obtain ⟨b, x, f, ow, n⟩ := hr
      subst x
      have nf : ∀ {u : HO}, H b = some u → nt u → F b = none → ¬ Own (vs.map some) cs b → False := fun {u} h t f n => n (hsep rfl b u rfl h t f)
      refine ⟨⟨b, rfl, f, ow, fun ⟨j, mj⟩ => ?_⟩, fun _ a u e h t f0 => Classical.byContradiction fun nn => ?_⟩
      · obtain ⟨m1, m2⟩ := mine mj
        rcases m2 with m2 | m2
        · obtain ⟨⟨t, e, m⟩, h⟩ := m1
          obtain ⟨d', hd⟩ := data_of m
          obtain ⟨a, g1, g2, g3⟩ := R.own j t d' e m hd
          rw [h] at g1; cases g1
          obtain ⟨u, hu, tu⟩ := g3.some
          exact nf hu tu g2 (foreign e m h m2)
        · exact n m2
      · cases e
        obtain ⟨x, y, z⟩ := st.fr.keep b u h t f0 nn
        have nw : b ∉ news vs os := fun hm => nn (ns b hm u h t f0)
        exact nf x t y (prot x t y z nw)
end
end Dl

set_option maxRecDepth 100000
set_option maxHeartbeats 4000000
namespace Dl
open PySem PySem.Spec L2
set_option autoImplicit false

/-! ### a def's promise, by what it does to trees -/
def spOf (K : PySem.W.Frag) (n : Nat) (m : ME) : Sp := fun vs H Q E => vs.length = n ∧ ∃ F cs, Rel K F (vs.map some) H cs ∧ ArgOk cs ∧ EPost K (fun cls dx _ H => E cls dx H) F H (vs.map some) cs Q (m cs)
def retO (r : Rs Opd) (ps : List Opd) (ρ : Rho) : Rs Opd := match r with
  | .ok (.val d) cs => .ok (.val d) (takeB ρ ps cs)
  | .ok (.new d) cs => .ok (.new d) (takeB ρ ps cs)
  | .ex x cs => .ex x (takeB ρ ps cs)
  | _ => .fail
def callO (n : Nat) (fl : List Bool) (sem : ME) (os : List Opd) (ρ : Rho) : Rs Opd := match useSel ρ fl os with
  | some (ps, ρ2) => (match slotsOf ρ2 ps with
    | some cs => if (lents ρ2 ps).Nodup ∧ cs.length = n then retO (sem cs) ps ρ2 else .fail
    | none => .fail)
  | none => .fail
def eCall (n : Nat) (fl : List Bool) (sem : ME) (ma : MA) : ME := fun ρ => (ma ρ).bind fun os ρ1 => callO n fl sem os ρ1
section
variable {X : Cx} {W : WX} {pos : Pos}
theorem ROs.len {K : PySem.W.Frag} {F H : Hp} {σ : Sg} {ρ : Rho} {vs : List V} {os : List Opd} (r : ROs K F H σ ρ vs os) : vs.length = os.length := Paired.length r.all
theorem call_post {F H : Hp} {σ : Sg} {ρ : Rho} {Q : VK} {n : Nat} {fl : List Bool} {sem : ME} {ma : MA} (h : EPost X.K W F H σ ρ Q (eCall n fl sem ma ρ)) : APost X.K W F H σ ρ (fun vs H1 => spOf X.K n sem vs H1 Q (fun cls dx H' => W cls dx σ H')) (ma ρ) := by
  unfold eCall at h
  cases e : ma ρ with
  | fail => rw [e] at h; exact h
  | ex x ρ' => rw [e] at h; exact h
  | ok os ρ1 =>
    rw [e] at h
    intro vs F1 H1 s1 R1 ro ns
    dsimp only [Rs.bind] at h
    unfold callO at h
    cases e1 : useSel ρ1 fl os with
    | none => rw [e1] at h; exact False.elim h
    | some p =>
      obtain ⟨ps, ρ2⟩ := p
      rw [e1] at h
      dsimp only at h
      obtain ⟨F2, s2, R2, ro2, _, _, _, _, sub⟩ := useSel_ok R1 s1 ro ns e1
      have ns2 : NewSeps F H σ ρ vs ps := fun a hm => ns a (sub a hm)
      cases e2 : slotsOf ρ2 ps with
      | none => rw [e2] at h; exact False.elim h
      | some cs =>
        rw [e2] at h
        dsimp only at h
        split at h
        · rename_i hc
          obtain ⟨Rc, ac, _⟩ := slots_rel R2 ro2 e2 hc.1
          have tk := fun {F' H' cs'} => take_ok (F' := F') (H' := H') (cs' := cs') R2 s2 ro2 ns2 e2 hc.1
          refine ⟨by have := Rc.len; simp at this; omega, F2, cs, Rc, ac, ?_⟩
          cases es : sem cs with
          | fail => rw [es] at h; exact False.elim h
          | ex x cs' =>
            rw [es] at h
            exact fun cls dx F' H' s R xa => let ⟨y1, y2, _⟩ := tk s R; h cls dx F' H' y2 y1 xa
          | ok o cs' =>
            rw [es] at h
            cases o with
            | loc i => exact False.elim h
            | val d => exact fun v F' H' s R ro _ => let ⟨y1, y2, _⟩ := tk s R; h v F' H' y2 y1 ro (fun z => nomatch z)
            | new d => exact fun v F' H' s R ro nw => let ⟨y1, y2, y3⟩ := tk s R; let ⟨z1, z2⟩ := y3 v (.new d) rfl ro nw; h v F' H' y2 y1 z1 z2
        · exact False.elim h
variable {k : Nat} {f : Addr} {fd : FuncData} {ps : List Str} {x : Str} {p : Pos} {e : Expr} {es : List Expr} {n : Nat} {sem : ME} {ma : MA}
theorem de_call (fl : List Bool) (F : FnOk X.prog X.w X.K X.mg X.base (L2.CX X.prog X.w) k f fd ps (spOf X.K n sem)) (hr : Room k X.A) (hg : Gl X x) (hm : X.mg x = some (.ref f)) (hk : PySem.W.keepIn X.K (.ref f) = true) (hb : Binds X.K fd ps []) (tk : Takes X W)
    (ha : DA X W (e :: es) ma) (hdb : (x == ("__debug__" : Str)) = false := by decide) (he : starEach (e :: es) X.env = (false, eval e X.env) :: starEach es X.env := by rfl) (hpl : (backTo pos (starEach es X.env)).any (·.1) = false := by rfl) :
    DE X W (.Call (.Name x p) (e :: es) [] pos) (eCall n fl sem ma) := by
  obtain ⟨t, pa, q⟩ := ha
  exact ⟨_, pe_callS F hr hg hm hk hb (fun σ => passAt tk σ) pa hdb he hpl, fun F σ H ρ Q R h => q F σ H ρ _ R (call_post h)⟩
end
/-! ### a def by its body -/
def back : Rho → Rho → Rho
  | c :: cs, r :: rs => (match c with
    | .par _ => r
    | c => c) :: back cs rs
  | cs, _ => cs
def fin (cs : Rho) (r : Rs Flow) : Rs Opd := match r with
  | .ok (.rt o) ρ => .ok o (back cs ρ)
  | .ok .nx ρ => .ok (.val .none) (back cs ρ)
  | .ex x ρ => .ex x (back cs ρ)
  | _ => .fail
def noLoc (r : Rs Opd) : Rs Opd := match r with
  | .ok (.loc _) _ => .fail
  | r => r
/-- what a def of n parameters and l names does -/
def fnSem (n l : Nat) (mb : MS) : ME := fun cs => noLoc (fin cs (mb (cs ++ List.replicate (l - n) .un)))
theorem back_at : ∀ {cs rs : Rho} {j : Nat} {s : Slot}, (back cs rs)[j]? = some s → ∃ c, cs[j]? = some c ∧ ((s = c) ∨ ((∃ d, c = .par d) ∧ rs[j]? = some s))
  | [], rs, j, s, h => by cases rs <;> simp [back] at h
  | c :: cs, [], j, s, h => ⟨s, h, .inl rfl⟩
  | c :: cs, r :: rs, 0, s, h => by
    unfold back at h
    refine ⟨c, rfl, ?_⟩
    cases c <;> first | exact .inl (Option.some.inj h).symm | exact .inr ⟨⟨_, rfl⟩, h⟩
  | c :: cs, r :: rs, j + 1, s, h => by
    unfold back at h
    exact back_at (cs := cs) (rs := rs) (j := j) (by simpa using h)
theorem back_len : ∀ (cs rs : Rho), (back cs rs).length = cs.length
  | [], rs => by cases rs <;> rfl
  | c :: cs, [] => rfl
  | c :: cs, r :: rs => congrArg Nat.succ (back_len cs rs)
theorem back_par : ∀ {cs rs : Rho} {j : Nat} {d : D}, cs[j]? = some (.par d) → j < rs.length → (back cs rs)[j]? = rs[j]?
  | [], rs, j, d, h, _ => by simp at h
  | c :: cs, [], j, d, h, hl => by simp at hl
  | c :: cs, r :: rs, 0, d, h, _ => by cases h; rfl
  | c :: cs, r :: rs, j + 1, d, h, hl => by
    have := back_par (cs := cs) (rs := rs) (j := j) (d := d) (by simpa using h) (by simpa using hl)
    simpa [back] using this
section
variable {K : PySem.W.Frag} {F H : Hp}
theorem start_at {N : List Str} {vs : List V} {j : Nat} (h : j < vs.length) : (start N vs)[j]? = (vs.map some)[j]? := by
  unfold L2.start
  rw [List.getElem?_append_left (by simpa using h)]
theorem app_at {cs : Rho} {m j : Nat} {s : Slot} (h : (cs ++ List.replicate m .un)[j]? = some s) (n : s ≠ .un) : cs[j]? = some s := by
  by_cases hj : j < cs.length
  · rw [List.getElem?_append_left hj] at h; exact h
  · rw [List.getElem?_append_right (by omega), List.getElem?_replicate] at h
    split at h
    · cases h; exact absurd rfl n
    · cases h
theorem start_rel {N : List Str} {vs : List V} {cs : Rho} (R : Rel K F (vs.map some) H cs) (hl : vs.length ≤ N.length) : Rel K F (start N vs) H (cs ++ List.replicate (N.length - vs.length) .un) ∧ ∀ a, Own (start N vs) (cs ++ List.replicate (N.length - vs.length) .un) a → Own (vs.map some) cs a := by
  have len : vs.length = cs.length := by have := R.len; simpa using this
  have lt : ∀ {j : Nat} {s : Slot}, cs[j]? = some s → j < vs.length := fun {j s} h => by rw [len]; exact (List.getElem?_eq_some_iff.mp h).1
  have mine : ∀ {j a}, Mine (start N vs) (cs ++ List.replicate (N.length - vs.length) .un) j a → Mine (vs.map some) cs j a := fun {j a} ⟨⟨s, e, m⟩, h⟩ => by
    have e' := app_at e (by rintro rfl; cases m)
    exact ⟨⟨s, e', m⟩, by rw [← start_at (N := N) (lt e')]; exact h⟩
  refine ⟨⟨R.sub, by unfold L2.start; simp [len], fun j d e => ?_, fun j s d e m q => ?_, fun j k a h1 h2 => R.sep j k a (mine h1) (mine h2), R.tab⟩, fun a ⟨j, h⟩ => ⟨j, mine h⟩⟩
  · have e' := app_at e (by simp)
    rw [start_at (lt e')]
    exact R.dat j d e'
  · have e' := app_at e (by rintro rfl; cases m)
    rw [start_at (lt e')]
    exact R.own j s d e' m q
theorem back_ok {N : List Str} {vs : List V} {cs ρ' : Rho} {σ' : Sg} {F' H' : Hp} (R : Rel K F (vs.map some) H cs) (hl : vs.length ≤ N.length) (s : StepS F H (start N vs) (cs ++ List.replicate (N.length - vs.length) .un) F' H' σ' ρ') (R' : Rel K F' σ' H' ρ') (ac : ArgOk cs) :
    Rel K F' (vs.map some) H' (back cs ρ') ∧ Step F H (vs.map some) cs F' H' (back cs ρ') ∧ ∀ a, Own (vs.map some) (back cs ρ') a → Own σ' ρ' a := by
  obtain ⟨Rs0, ow0⟩ := start_rel (N := N) R hl
  have len : vs.length = cs.length := by have := R.len; simpa using this
  have lt : ∀ {j : Nat} {s : Slot}, cs[j]? = some s → j < vs.length := fun {j s} h => by rw [len]; exact (List.getElem?_eq_some_iff.mp h).1
  have app : ∀ {j : Nat} {s : Slot}, cs[j]? = some s → (cs ++ List.replicate (N.length - vs.length) Slot.un)[j]? = some s := fun {j s} h => by
    rw [List.getElem?_append_left (List.getElem?_eq_some_iff.mp h).1]; exact h
  have at_ : ∀ {j : Nat} {t : Slot}, (back cs ρ')[j]? = some t → (∃ d, cs[j]? = some (.dat d) ∧ t = .dat d) ∨ (∃ d, cs[j]? = some (.lck d) ∧ t = .lck d ∧ ρ'[j]? = some (.lck d) ∧ σ'[j]? = (vs.map some)[j]?) ∨ (∃ d d', cs[j]? = some (.par d) ∧ t = .par d' ∧ ρ'[j]? = some (.par d') ∧ σ'[j]? = (vs.map some)[j]?) := fun {j t} h => by
    obtain ⟨c, hc, q⟩ := back_at h
    have ab := ac c (List.mem_of_getElem? hc)
    cases c with
    | un => cases ab
    | own d => cases ab
    | dat d =>
      rcases q with q | ⟨⟨d', q⟩, _⟩
      · exact .inl ⟨d, hc, q⟩
      · cases q
    | lck d =>
      rcases q with q | ⟨⟨d', q⟩, _⟩
      · obtain ⟨y1, y2⟩ := s.par.2 j d (app hc)
        exact .inr (.inl ⟨d, hc, q, y1, by rw [y2, start_at (lt hc)]⟩)
      · cases q
    | par d =>
      obtain ⟨⟨d', y1⟩, y2⟩ := s.par.1 j d (app hc)
      have := back_par (rs := ρ') hc (List.getElem?_eq_some_iff.mp y1).1
      rw [h, y1] at this
      cases this
      exact .inr (.inr ⟨d, d', hc, rfl, y1, by rw [y2, start_at (lt hc)]⟩)
  have mine : ∀ {j a}, Mine (vs.map some) (back cs ρ') j a → Mine σ' ρ' j a := fun {j a} ⟨⟨t, e, m⟩, h⟩ => by
    rcases at_ e with ⟨d, _, q⟩ | ⟨d, _, q, y1, y2⟩ | ⟨d, d', _, q, y1, y2⟩
    · subst q; cases m
    · subst q; exact ⟨⟨_, y1, rfl⟩, by rw [y2]; exact h⟩
    · subst q; exact ⟨⟨_, y1, rfl⟩, by rw [y2]; exact h⟩
  refine ⟨⟨R'.sub, by rw [back_len]; exact R.len, fun j d e => ?_, fun j t d e m q => ?_, fun j k a h1 h2 => R'.sep j k a (mine h1) (mine h2), R'.tab⟩, ⟨⟨s.fr.ext, fun a o h t f n => ?_⟩, ?_⟩, fun a ⟨j, h⟩ => ⟨j, mine h⟩⟩
  · rcases at_ e with ⟨d', hc, q⟩ | ⟨d, _, q, y1, y2⟩ | ⟨d, d', _, q, y1, y2⟩
    · cases q
      obtain ⟨v, h1, h2⟩ := R.dat j d hc
      exact ⟨v, h1, h2.mono s.fr.ext⟩
    · cases q
    · cases q
  · rcases at_ e with ⟨d', _, z⟩ | ⟨d', _, z, y1, y2⟩ | ⟨d0, d', _, z, y1, y2⟩
    · subst z; cases m
    · subst z
      rw [← y2]
      exact R'.own j _ d y1 rfl q
    · subst z
      rw [← y2]
      exact R'.own j _ d y1 rfl q
  · obtain ⟨x, y, z⟩ := s.fr.keep a o h t f fun ho => n (ow0 a ho)
    exact ⟨x, y, fun ⟨j, mj⟩ => z ⟨j, mine mj⟩⟩
  · refine ⟨(back_len _ _).symm, fun j c hc => ?_⟩
    have hj : j < (back cs ρ').length := by rw [back_len]; exact (List.getElem?_eq_some_iff.mp hc).1
    refine ⟨_, List.getElem?_eq_getElem hj, ?_⟩
    rcases at_ (List.getElem?_eq_getElem hj) with ⟨d', h1, q⟩ | ⟨d, h1, q, y1, y2⟩ | ⟨d, d', h1, q, y1, y2⟩
    · rw [hc] at h1; cases h1; rw [q]; exact rfl
    · rw [hc] at h1; cases h1; rw [q]; exact rfl
    · rw [hc] at h1; cases h1; rw [q]; exact trivial
end
section
variable {P : Program} {w : World} {K : PySem.W.Frag} {mg : Str → Option Value} {base : Heap} {x qual : Str} {params : Arguments} {body : List Stmt} {scope : Scope} {kws : List (Str × V)} {f : Addr} {fd : FuncData} {N ps : List Str} {k : Nat} {mb : MS}
theorem funD_okC {P : Program} {w : World} {K : PySem.W.Frag} {mg : Str → Option Value} {base : Heap} {x qual : Str} {params : Arguments} {body : List Stmt} {scope : Scope} {dvs : List V} {kws : List (Str × V)} {f : Addr} {fd : FuncData} {CX : CXT} {N ps : List Str} {k : Nat} {sp : Sp} (F : FunD K x qual params body scope dvs kws f fd) (S : FnScope N ps scope) (len : ∀ vs H Q E, sp vs H Q E → vs.length = ps.length)
    (hbody : ∀ (cdv : Value) (A : Around) (outer : List Env) (s : Shared) (H : Hp) (vs : List V) (Q : VK) (E : XK), fd.code = cdv → Room k (A.deeper (PyProof.Rows.envOfC qual scope s.heap.objs.size f cdv)) → sp vs H Q E →
      ∃ t, PSs (cxOf CX P w K mg base N qual scope f cdv A outer s H E) body t ∧ t { nx := fun _ H' => Q .non H', rt := Q } (start N vs) H) : FnOk P w K mg base CX (k + 1) f fd ps sp := by
  obtain ⟨oc, od, dV, kV, doc, pm, an, cdv, ct, osl, rfl, lk, hcd, _, _⟩ := F.ex
  exact fn_of lk hcd S len fun A outer s H vs Q E hr hsp => hbody cdv A outer s H vs Q E rfl hr hsp
theorem fn_ok (F : FunD K x qual params body scope [] kws f fd) (S : FnScope N ps scope)
    (hb : ∀ (cdv : Value) (A : Around) (outer : List Env) (s : Shared) (H : Hp) (E : XK), fd.code = cdv → Room k (A.deeper (PyProof.Rows.envOfC qual scope s.heap.objs.size f cdv)) → DSs (cxOf (L2.CX P w) P w K mg base N qual scope f cdv A outer s H E) (fun cls d _ H => E cls d H) body mb) :
    FnOk P w K mg base (L2.CX P w) (k + 1) f fd ps (spOf K ps.length (fnSem ps.length N.length mb)) := by
  have hN : ps.length ≤ N.length := by have := congrArg List.length S.pre; rw [List.length_take] at this; omega
  refine funD_okC F S (fun vs H Q E h => h.1) fun cdv A outer s H vs Q E hcv hr h => ?_
  obtain ⟨t, p, q⟩ := hb cdv A outer s H E hcv hr
  obtain ⟨hl, F0, cs, R, ac, h⟩ := h
  obtain ⟨R0, ow0⟩ := start_rel (N := N) R (by rw [hl]; exact hN)
  refine ⟨t, p, q F0 _ H _ _ R0 ?_⟩
  unfold fnSem at h
  rw [← hl] at h
  generalize hr : mb (cs ++ List.replicate (N.length - vs.length) Slot.un) = r at *
  have bk := fun {σ' ρ' F' H'} => back_ok (N := N) (σ' := σ') (ρ' := ρ') (F' := F') (H' := H') R (by rw [hl]; exact hN)
  cases r with
  | fail => exact False.elim h
  | ex x ρ' =>
    have h : XPost K (fun cls dx _ H => E cls dx H) F0 H (vs.map some) cs x (back cs ρ') := h
    exact fun cls dx σ' F' H' s' R' xa => let ⟨y1, y2, _⟩ := bk s' R' ac; h cls dx F' H' y2 y1 xa
  | ok fl ρ' =>
    cases fl with
    | bk => exact False.elim h
    | ct => exact False.elim h
    | nx => exact fun σ' F' H' s' R' => let ⟨y1, y2, _⟩ := bk s' R' ac; h .non F' H' y2 y1 .non (fun z => nomatch z)
    | rt o =>
      cases o with
      | loc i => exact False.elim h
      | val d => exact fun v σ' F' H' s' R' ro _ => let ⟨y1, y2, _⟩ := bk s' R' ac; h v F' H' y2 y1 ro (fun z => nomatch z)
      | new d =>
        intro v σ' F' H' s' R' ro nw
        obtain ⟨y1, y2, y3⟩ := bk s' R' ac
        obtain ⟨a, e, f, ow, n⟩ := ro
        exact h v F' H' y2 y1 ⟨a, e, f, ow, fun z => n (y3 a z)⟩ fun hn b u e1 hb t f0 => ow0 b (nw hn b u e1 hb t f0)
end
end Dl

set_option maxRecDepth 100000
set_option maxHeartbeats 4000000
namespace Dl
open PySem PySem.Spec L2
set_option autoImplicit false

/-! ### readings of trees -/
section
variable {K : PySem.W.Frag} {F H : Hp} {v : V}
theorem Ct.str {x : Str} (h : Ct K F H v (.str x)) : v = .str x := by
  rcases h with h | ⟨a, e, f, o⟩
  · cases h; rfl
  · exact False.elim o
theorem Ct.none (h : Ct K F H v .none) : v = .non := by
  rcases h with h | ⟨a, e, f, o⟩
  · cases h; rfl
  · exact False.elim o
theorem Ct.list {ds : List D} (s : Sub F H) (h : Ct K F H v (.list ds)) : ∃ a vs, v = .ref a ∧ H a = some (.lst vs) ∧ RpA K F vs ds := by
  rcases h with h | ⟨a, e, f, vs, hh, r⟩
  · obtain ⟨a, vs, e, q, r⟩ := h.list
    exact ⟨a, vs, e, s.lst q, r⟩
  · exact ⟨a, vs, e, hh, r⟩
theorem Ct.tup {ds : List D} (s : Sub F H) (h : Ct K F H v (.tuple ds)) : ∃ a vs, v = .ref a ∧ H a = some (.tup vs) ∧ RpA K F vs ds ∧ F a = some (.tup vs) := by
  obtain ⟨a, vs, e, q, r⟩ := h.tuple.tuple
  exact ⟨a, vs, e, s.tup q, r, q⟩
theorem Ct.dict {ps : List (D × D)} (s : Sub F H) (h : Ct K F H v (.dict ps)) : ∃ a kvs, v = .ref a ∧ Rd H a (.dK kvs) ∧ RpD K F kvs ps := by
  rcases h with h | ⟨a, e, f, vs, hh, r⟩
  · cases h with
    | dct h r => exact ⟨_, _, rfl, s.dct h, r⟩
  · exact ⟨a, vs, e, .inl hh, r⟩
mutual
theorem Rp.dp (s : Sub F H) : ∀ {v : V} {d : D}, Rp K F v d → d.canLay0 = true → Dp K H v d
  | _, _, .non, _ => .non
  | _, _, .bl b, _ => .bl b
  | _, _, .int i, _ => .int i
  | _, _, .str x, _ => .str x
  | _, _, .lst h r, c => .lst (SqL.of (s.lst h)) (RpA.dp s r (by simpa [PyData.canLay0] using c))
  | _, _, .tup h r, c => .tup (SqT.of (s.tup h)) (RpA.dp s r (by simpa [PyData.canLay0] using c))
  | _, _, .dct h r, c => by simp [PyData.canLay0] at c
theorem RpA.dp (s : Sub F H) : ∀ {vs : List V} {ds : List D}, RpA K F vs ds → PyData.canLayAll0 ds = true → DpAll K H vs ds
  | _, _, .nil, _ => .nil
  | _, _, .cons h r, c => by
    rw [PyData.canLayAll0, Bool.and_eq_true] at c
    exact .cons (Rp.dp s h c.1) (RpA.dp s r c.2)
end
theorem Ct.dp {d : D} (s : Sub F H) (h : Ct K F H v d) (c : d.canLay0 = true) : Dp K H v d := by
  rcases h with h | ⟨a, e, f, o⟩
  · exact h.dp s c
  · subst e
    cases d with
    | list ds =>
      obtain ⟨vs, hh, r⟩ := o
      exact .lst (SqL.of hh) (r.dp s (by simpa [PyData.canLay0] using c))
    | dict ps => simp [PyData.canLay0] at c
    | none => exact False.elim o
    | bool b => exact False.elim o
    | int b => exact False.elim o
    | str b => exact False.elim o
    | tuple b => exact False.elim o
end
/-! ### ways to answer -/
section
variable {K : PySem.W.Frag} {F H : Hp} {Q : VK}
theorem same {v : V} {d : D} (s : Sub F H) (r : Rp K F v d) (k : ∀ u F' H', Grow F H F' H' → RN K H F' H' u (.val d) → Q u H') : Q v H := k v F H (Grow.refl s) r
theorem newT {vs : List V} {ds : List D} (s : Sub F H) (r : RpA K F vs ds) (k : ∀ u F' H', Grow F H F' H' → RN K H F' H' u (.val (.tuple ds)) → Q u H') : ∀ p, H p = none → Q (.ref p) (upd H p (.tup vs)) := fun p np => by
  obtain ⟨_, _, g⟩ := upd_fresh (K := K) (o := .tup vs) s np trivial
  exact k _ _ _ g (.tup upd_same (r.mono g.ext))
theorem newL {vs : List V} {ds : List D} (s : Sub F H) (r : RpA K F vs ds) (k : ∀ u F' H', Grow F H F' H' → RN K H F' H' u (.new (.list ds)) → Q u H') : ∀ p, H p = none → Q (.ref p) (upd H p (.lst vs)) := fun p np => by
  obtain ⟨f, g, _⟩ := upd_fresh (K := K) (o := .lst vs) s np trivial
  exact k _ _ _ g ⟨p, rfl, np, f, vs, upd_same, r⟩
end
def gd (b : Bool) (o : Opd) : Option Opd := if b = true then some o else none
theorem gd_some {b : Bool} {o o' : Opd} (h : gd b o = some o') : b = true ∧ o' = o := by
  unfold gd at h
  split at h
  · rename_i hb; exact ⟨hb, (Option.some.inj h).symm⟩
  · cases h
@[simp] theorem gd_true {o : Opd} : gd true o = some o := rfl
abbrev vI (i : Int) : Opd := .val (.int i)
abbrev vB (b : Bool) : Opd := .val (.bool b)
abbrev vS (s : Str) : Opd := .val (.str s)
/-! ### numbers -/
def iop (f : Int → Int → Int) (c : Int → Int → Bool) : D → D → Option Opd
  | .int i, .int j => gd (c i j) (vI (f i j))
  | _, _ => none
section
variable {X : Cx}
theorem snd_iop {K : PySem.W.Frag} {f : Int → Int → Int} {c : Int → Int → Bool} {r : R2} (h : ∀ i j H Q, c i j = true → Q (.int (f i j)) H → r (.int i) (.int j) H Q) : Snd2 K r (iop f c) := by
  intro F H v w d e o Q s cv cw hf k
  cases d <;> cases e <;> try (cases hf; done)
  rename_i i j
  obtain ⟨hc, rfl⟩ := gd_some hf
  cases cv.int
  cases cw.int
  exact h i j H Q hc (same s (.int _) k)
abbrev okk : Int → Int → Bool := fun _ _ => true
def pySub := iop (fun i j => i - j) okk
theorem snd_sub {K} : Snd2 K (rI0 fun i j => .int (i - j)) pySub := snd_iop fun i j H Q _ q => ⟨i, j, rfl, rfl, q⟩
/-- a product: one factor is small -/
def mulOk (i j : Int) : Bool := (decide (-(2 ^ 64) < i) && decide (i < 2 ^ 64)) || (decide (-(2 ^ 64) < j) && decide (j < 2 ^ 64)) || decide (i.natAbs.log2 + j.natAbs.log2 < 1000000)
def rMulU : R2 := fun x y H Q => rI CMul (fun i j => .int (i * j)) x y H Q ∨ rI CMulW (fun i j => .int (i * j)) x y H Q
theorem OpR.or {f : Value → Value → Sem Value} {r r' : R2} (h : OpR X f r) (h' : OpR X f r') : OpR X f (fun x y H Q => r x y H Q ∨ r' x y H Q) := by
  intro pins s σ H x y v u Q I rx ry q
  rcases q with q | q
  · exact h pins s σ H x y v u Q I rx ry q
  · exact h' pins s σ H x y v u Q I rx ry q
theorem op_mulU : OpR X (binaryOp .Mult) rMulU := OpR.or op_mul op_mulW
/-- list * n -/
def pyMul : D → D → Option Opd
  | .int i, .int j => gd (mulOk i j) (vI (i * j))
  | _, _ => none
theorem snd_mul {K} : Snd2 K rMulU pyMul := by
  intro F H v w d e o Q s cv cw hf k
  cases d <;> cases e <;> try (cases hf; done)
  rename_i i j
  obtain ⟨hc, rfl⟩ := gd_some hf
  cases cv.int
  cases cw.int
  have q := same s (.int (i * j)) k
  unfold mulOk at hc
  simp only [Bool.or_eq_true, Bool.and_eq_true, decide_eq_true_eq] at hc
  rcases hc with (hc | hc) | hc
  · exact .inl ⟨i, j, rfl, rfl, .inl hc, q⟩
  · exact .inl ⟨i, j, rfl, rfl, .inr hc, q⟩
  · exact .inr ⟨i, j, rfl, rfl, hc, q⟩
def pyDiv := iop (fun i j => i / j) (fun _ j => decide (0 < j) && decide (j.natAbs.log2 < 9000))
theorem snd_div {K} : Snd2 K (rI CDivW fun i j => .int (i / j)) pyDiv := snd_iop fun i j H Q c q => ⟨i, j, rfl, rfl, by simpa [CDivW] using c, q⟩
def pyMod := iop (fun i j => i % j) (fun _ j => decide (0 < j))
theorem snd_mod {K} : Snd2 K (rI (fun _ j => 0 < j) fun i j => .int (i % j)) pyMod := snd_iop fun i j H Q c q => ⟨i, j, rfl, rfl, by simpa using c, q⟩
def powOk (i j : Int) : Bool := decide (0 ≤ j) && decide (j ≤ 1000000) && decide (i.natAbs < 2 ^ 64)
def pyPow := iop (fun i j => i ^ j.toNat) powOk
theorem powOk_c {i j : Int} (h : powOk i j = true) : CPow i j := by
  unfold powOk at h
  simp only [Bool.and_eq_true, decide_eq_true_eq] at h
  exact ⟨h.1.1, h.1.2, h.2⟩
theorem snd_pow {K} : Snd2 K (rI CPow fun i j => .int (i ^ j.toNat)) pyPow := snd_iop fun i j H Q c q => ⟨i, j, rfl, rfl, powOk_c c, q⟩
def pyShl := iop (fun i j => i * 2 ^ j.toNat) powOk
theorem snd_shl {K} : Snd2 K (rI CPow fun i j => .int (i * 2 ^ j.toNat)) pyShl := snd_iop fun i j H Q c q => ⟨i, j, rfl, rfl, powOk_c c, q⟩
def pyShr := iop (fun i j => i / 2 ^ j.toNat) (fun _ j => decide (0 ≤ j))
theorem snd_shr {K} : Snd2 K (rI (fun _ j => 0 ≤ j) fun i j => .int (i / 2 ^ j.toNat)) pyShr := snd_iop fun i j H Q c q => ⟨i, j, rfl, rfl, by simpa using c, q⟩
def pyAnd := iop (fun i j => Builtin.bitAnd i j) okk
theorem snd_and {K} : Snd2 K (rI0 fun i j => .int (Builtin.bitAnd i j)) pyAnd := snd_iop fun i j H Q _ q => ⟨i, j, rfl, rfl, q⟩
def pyOr := iop (fun i j => Builtin.bitOr i j) okk
theorem snd_or {K} : Snd2 K (rI0 fun i j => .int (Builtin.bitOr i j)) pyOr := snd_iop fun i j H Q _ q => ⟨i, j, rfl, rfl, q⟩
/-! ### + -/
def rAddU (K : PySem.W.Frag) : R2 := fun x y H Q => (rI0 (fun i j => .int (i + j)) x y H Q ∨ (∃ i j, x = .str i ∧ y = .str j ∧ i.length + j.length ≤ sizeLine ∧ Q (.str (i ++ j)) H)) ∨ rCatA K x y H Q ∨
  ∃ l b xs zs, x = .ref l ∧ y = .ref b ∧ SqL K H l xs ∧ SqL K H b zs ∧ xs.length + zs.length ≤ sizeLine ∧ ∀ p, H p = none → Q (.ref p) (upd H p (.lst (xs ++ zs)))
theorem op_catL : OpR X (binaryOp .Add) (fun x y H Q => ∃ l b xs zs, x = .ref l ∧ y = .ref b ∧ SqL X.K H l xs ∧ SqL X.K H b zs ∧ xs.length + zs.length ≤ sizeLine ∧ ∀ p, H p = none → Q (.ref p) (upd H p (.lst (xs ++ zs)))) := by
  intro pins s σ H x y v u Q I rx ry h
  obtain ⟨l, b, xs, zs, rfl, rfl, hH, hB, hz, q⟩ := h
  cases rx
  cases ry
  obtain ⟨its, r, pl, _⟩ := I.list hH
  obtain ⟨its2, r2, pl2, _⟩ := I.list hB
  obtain ⟨⟨cls, dd, data, sl⟩, ho, hc, n, hd⟩ := pl.isList
  obtain ⟨⟨cls2, dd2, data2, sl2⟩, ho2, hc2, n2, hd2⟩ := pl2.isList
  simp only at hc hd hc2 hd2
  subst hc hd hc2 hd2
  have l1 := r.length
  have l2 := r2.length
  refine PySem.concat_meets ⟨_, ho, rfl⟩ ⟨_, ho2, rfl⟩ noFill_list_add seq_list_add PySem.F.slot_list_add PySem.F.entry_list_add (PySem.F.args_list_add_2 _ _) (PyProof.Rows.list_addW l b its.toArray its2.toArray n n2 dd dd2 sl sl2 (by simp; omega)) ⟨ho, ho2, ?_⟩
  have e : its.toArray ++ its2.toArray = (its ++ its2).toArray := by simp
  rw [e]
  exact ⟨.ref _, _, I.lnew (t' := s.toks) (r.append r2) (by rw [List.length_append]; omega), rfl, q _ I.fresh⟩
theorem op_addU : OpR X (binaryOp .Add) (rAddU X.K) := OpR.or (OpR.or op_add op_add_str) (OpR.or op_catA op_catL)
def pyAdd : D → D → Option Opd
  | .int i, .int j => some (vI (i + j))
  | .str i, .str j => gd (decide (i.length + j.length ≤ sizeLine)) (vS (i ++ j))
  | .tuple i, .tuple j => gd (decide (i.length + j.length ≤ sizeLine)) (.val (.tuple (i ++ j)))
  | .list i, .list j => gd (decide (i.length + j.length ≤ sizeLine)) (.new (.list (i ++ j)))
  | _, _ => none
theorem snd_add {K} : Snd2 K (rAddU K) pyAdd := by
  intro F H v w d e o Q s cv cw hf k
  cases d <;> cases e <;> try (cases hf; done)
  · cases hf
    cases cv.int
    cases cw.int
    exact .inl (.inl ⟨_, _, rfl, rfl, same s (.int _) k⟩)
  · obtain ⟨hc, rfl⟩ := gd_some hf
    cases cv.str
    cases cw.str
    exact .inl (.inr ⟨_, _, rfl, rfl, by simpa using hc, same s (.str _) k⟩)
  · obtain ⟨hc, rfl⟩ := gd_some hf
    obtain ⟨a, vs, rfl, h1, r1⟩ := cv.list s
    obtain ⟨b, ws, rfl, h2, r2⟩ := cw.list s
    exact .inr (.inr ⟨a, b, vs, ws, rfl, rfl, SqL.of h1, SqL.of h2, by rw [r1.length, r2.length]; simpa using hc, newL s (r1.append r2) k⟩)
  · obtain ⟨hc, rfl⟩ := gd_some hf
    obtain ⟨a, vs, rfl, h1, r1, f1⟩ := cv.tup s
    obtain ⟨b, ws, rfl, h2, r2, f2⟩ := cw.tup s
    refine .inr (.inl ⟨a, b, vs, ws, rfl, rfl, SqT.of h1, SqT.of h2, by rw [r1.length, r2.length]; simpa using hc, fun e => ?_, fun _ e => ?_, fun _ _ => newT s (r1.append r2) k⟩)
    · subst e
      cases r1
      exact same s (.tup f2 r2) k
    · subst e
      cases r2
      rw [List.append_nil] at k
      exact same s (.tup f1 r1) k
/-! ### comparisons -/
def pyEq (d e : D) : Option Opd := gd (SeqAt.shaped d && SeqAt.shaped e) (vB (PyData.eqv d e))
theorem snd_eq {K} : Snd2 K (rEqD K) pyEq := by
  intro F H v w d e o Q s cv cw hf k
  obtain ⟨hc, rfl⟩ := gd_some hf
  rw [Bool.and_eq_true] at hc
  exact ⟨d, e, cv.dp s (SeqAt.canLay_of_shaped hc.1), cw.dp s (SeqAt.canLay_of_shaped hc.2), hc.1, hc.2, same s (.bl _) k⟩
def pyNe (d e : D) : Option Opd := gd (SeqAt.shaped d && SeqAt.shaped e) (vB (!PyData.eqv d e))
theorem snd_ne {K} : Snd2 K (rNeD K) pyNe := by
  intro F H v w d e o Q s cv cw hf k
  obtain ⟨hc, rfl⟩ := gd_some hf
  rw [Bool.and_eq_true] at hc
  exact ⟨d, e, cv.dp s (SeqAt.canLay_of_shaped hc.1), cw.dp s (SeqAt.canLay_of_shaped hc.2), hc.1, hc.2, same s (.bl _) k⟩
/-- <, <=, >, >= of ints and of texts -/
def cop (f : Int → Int → Bool) (g : List Nat → List Nat → Bool) : D → D → Option Opd
  | .int i, .int j => some (vB (f i j))
  | .str i, .str j => some (vB (g i.cps.toList j.cps.toList))
  | _, _ => none
def rCop (f : Int → Int → Bool) (g : List Nat → List Nat → Bool) : R2 := fun x y H Q => (rI0 (fun i j => .bl (f i j)) x y H Q) ∨ ∃ i j, x = .str i ∧ y = .str j ∧ Q (.bl (g i.cps.toList j.cps.toList)) H
theorem snd_cop {K} {f : Int → Int → Bool} {g : List Nat → List Nat → Bool} : Snd2 K (rCop f g) (cop f g) := by
  intro F H v w d e o Q s cv cw hf k
  cases d <;> cases e <;> try (cases hf; done)
  · cases hf
    cases cv.int
    cases cw.int
    exact .inl ⟨_, _, rfl, rfl, same s (.bl _) k⟩
  · cases hf
    cases cv.str
    cases cw.str
    exact .inr ⟨_, _, rfl, rfl, same s (.bl _) k⟩
def pyLt := cop (fun i j => decide (i < j)) (fun a b => decide (a < b))
def pyLe := cop (fun i j => decide (i ≤ j)) (fun a b => !decide (b < a))
def pyGt := cop (fun i j => decide (j < i)) (fun a b => decide (b < a))
def pyGe := cop (fun i j => decide (j ≤ i)) (fun a b => !decide (a < b))
theorem op_ltU : OpR X (compareOp .Lt) (rCop (fun i j => decide (i < j)) (fun a b => decide (a < b))) := OpR.or op_lt op_lt_str
theorem op_leU : OpR X (compareOp .LtE) (rCop (fun i j => decide (i ≤ j)) (fun a b => !decide (b < a))) := OpR.or op_le op_le_str
theorem op_gtU : OpR X (compareOp .Gt) (rCop (fun i j => decide (j < i)) (fun a b => decide (b < a))) := OpR.or op_gt op_gt_str
theorem op_geU : OpR X (compareOp .GtE) (rCop (fun i j => decide (j ≤ i)) (fun a b => !decide (a < b))) := OpR.or op_ge op_ge_str
/-- in, not in: lists, tuples, one sign in a text -/
def rInU (K : PySem.W.Frag) (neg : Bool) : R2 := fun x y H Q => (∃ d ds, Dp K H x d ∧ (Dp K H y (.list ds) ∨ Dp K H y (.tuple ds)) ∧ SeqAt.shaped d = true ∧ SeqAt.shaped (.list ds) = true ∧ Q (.bl (if neg then !ds.any fun z => PyData.eqv z d else ds.any fun z => PyData.eqv z d)) H) ∨
  ∃ (c : Nat) (z : Str), x = .str ⟨#[c]⟩ ∧ y = .str z ∧ Q (.bl (if neg then !decide (c ∈ z.cps.toList) else decide (c ∈ z.cps.toList))) H
theorem op_inU (hu : X.A.units + 65 < cLine) : OpR X (compareOp .In) (rInU X.K false) := by
  refine OpR.or ?_ op_in_sign
  intro pins s σ H x y v u Q I rx ry h
  obtain ⟨d, ds, hd, he, sd, se, q⟩ := h
  obtain ⟨as, r1⟩ := Dp.reads I d x v hd rx
  have ce : PyData.canLayAll0 ds = true := by simpa [PyData.canLay0] using SeqAt.canLay_of_shaped se
  rcases he with he | he
  · obtain ⟨bs, r2⟩ := Dp.reads I (.list ds) y u he ry
    exact SeqAt.in_list_reads r2 r1 ce (SeqAt.canLay_of_shaped sd) (PyProof.Rows.room_in_shaped sd hu) ⟨.bl _, H, I, rfl, q⟩
  · obtain ⟨bs, r2⟩ := Dp.reads I (.tuple ds) y u he ry
    exact SeqAt.in_tuple_reads r2 r1 ce (SeqAt.canLay_of_shaped sd) (PyProof.Rows.room_in_shaped sd hu) ⟨.bl _, H, I, rfl, q⟩
theorem op_notInU (hu : X.A.units + 65 < cLine) : OpR X (compareOp .NotIn) (rInU X.K true) := by
  refine OpR.or ?_ op_notIn_sign
  intro pins s σ H x y v u Q I rx ry h
  obtain ⟨d, ds, hd, he, sd, se, q⟩ := h
  obtain ⟨as, r1⟩ := Dp.reads I d x v hd rx
  have ce : PyData.canLayAll0 ds = true := by simpa [PyData.canLay0] using SeqAt.canLay_of_shaped se
  rcases he with he | he
  · obtain ⟨bs, r2⟩ := Dp.reads I (.list ds) y u he ry
    exact SeqAt.notIn_list_reads r2 r1 ce (SeqAt.canLay_of_shaped sd) (PyProof.Rows.room_in_shaped sd hu) ⟨.bl _, H, I, rfl, q⟩
  · obtain ⟨bs, r2⟩ := Dp.reads I (.tuple ds) y u he ry
    exact SeqAt.notIn_tuple_reads r2 r1 ce (SeqAt.canLay_of_shaped sd) (PyProof.Rows.room_in_shaped sd hu) ⟨.bl _, H, I, rfl, q⟩
def sgn? (x : Str) : Option Nat := match x.cps.toList with
  | [c] => some c
  | _ => none
def hasD (d e : D) : Option Bool := match e with
  | .list ds => if SeqAt.shaped d && SeqAt.shaped (.list ds) then some (ds.any fun z => PyData.eqv z d) else none
  | .tuple ds => if SeqAt.shaped d && SeqAt.shaped (.list ds) then some (ds.any fun z => PyData.eqv z d) else none
  | .str z => (match d with
    | .str x => (match sgn? x with
      | some c => some (decide (c ∈ z.cps.toList))
      | none => none)
    | _ => none)
  | _ => none
def pyIn (d e : D) : Option Opd := (hasD d e).map fun b => vB b
def pyNotIn (d e : D) : Option Opd := (hasD d e).map fun b => vB (!b)
theorem has_ok {K : PySem.W.Frag} {F H : Hp} {v w : V} {d e : D} {b : Bool} (neg : Bool) {Q : VK} (s : Sub F H) (cv : Ct K F H v d) (cw : Ct K F H w e) (h : hasD d e = some b) (q : Q (.bl (if neg then !b else b)) H) : rInU K neg v w H Q := by
  cases e with
  | list ds =>
    unfold hasD at h
    dsimp only at h
    split at h
    · rename_i hc
      rw [Bool.and_eq_true] at hc
      cases h
      exact .inl ⟨d, ds, cv.dp s (SeqAt.canLay_of_shaped hc.1), .inl (cw.dp s (SeqAt.canLay_of_shaped hc.2)), hc.1, hc.2, q⟩
    · cases h
  | tuple ds =>
    unfold hasD at h
    dsimp only at h
    split at h
    · rename_i hc
      rw [Bool.and_eq_true] at hc
      cases h
      exact .inl ⟨d, ds, cv.dp s (SeqAt.canLay_of_shaped hc.1), .inr (cw.dp s (by have := SeqAt.canLay_of_shaped hc.2; simpa [PyData.canLay0] using this)), hc.1, hc.2, q⟩
    · cases h
  | str z =>
    cases d with
    | str x =>
      unfold hasD at h
      dsimp only at h
      cases e1 : sgn? x with
      | none => rw [e1] at h; cases h
      | some c =>
        rw [e1] at h
        cases h
        have hx : x = ⟨#[c]⟩ := by
          unfold sgn? at e1
          obtain ⟨⟨l⟩⟩ := x
          cases l with
          | nil => cases e1
          | cons a r => cases r with
            | nil => cases e1; rfl
            | cons b r => cases e1
        cases cv.str
        cases cw.str
        exact .inr ⟨c, z, by rw [hx], rfl, q⟩
    | none => cases h
    | bool b => cases h
    | int b => cases h
    | list b => cases h
    | tuple b => cases h
    | dict b => cases h
  | none => cases h
  | bool b => cases h
  | int b => cases h
  | dict b => cases h
theorem snd_in {K} : Snd2 K (rInU K false) pyIn := by
  intro F H v w d e o Q s cv cw hf k
  unfold pyIn at hf
  cases h : hasD d e with
  | none => rw [h] at hf; cases hf
  | some b =>
    rw [h] at hf
    cases hf
    exact has_ok false s cv cw h (same s (.bl _) k)
theorem snd_notIn {K} : Snd2 K (rInU K true) pyNotIn := by
  intro F H v w d e o Q s cv cw hf k
  unfold pyNotIn at hf
  cases h : hasD d e with
  | none => rw [h] at hf; cases hf
  | some b =>
    rw [h] at hf
    cases hf
    exact has_ok true s cv cw h (same s (.bl _) k)
end
end Dl

set_option maxRecDepth 100000
set_option maxHeartbeats 4000000
namespace Dl
open PySem PySem.Spec L2
set_option autoImplicit false

/-! ### one of two readings, by what the trees are -/
def orf (f g : D → D → Option Opd) : D → D → Option Opd := fun d e => match f d e with
  | some o => some o
  | none => g d e
theorem peor {X : Cx} {e : Expr} {t u : TE} (h : PE X e t) (g : PE X e u) : PE X e (fun σ H Q => t σ H Q ∨ u σ H Q) := ⟨fun pins s σ H Q I q => q.elim (h.run pins s σ H Q I) (g.run pins s σ H Q I)⟩
theorem op2_or (f g : D → D → Option Opd) (a b : ME) (ρ : Rho) : eOp2 (orf f g) a b ρ = eOp2 f a b ρ ∨ eOp2 (orf f g) a b ρ = eOp2 g a b ρ := by
  unfold eOp2
  cases ea : a ρ with
  | fail => exact .inl rfl
  | ex x ρ' => exact .inl rfl
  | ok x ρ1 =>
    dsimp only [Rs.bind]
    cases eb : b ρ1 with
    | fail => exact .inl rfl
    | ex x ρ' => exact .inl rfl
    | ok y ρ2 =>
      dsimp only
      unfold run2 orf
      cases deref ρ2 x with
      | none => exact .inl rfl
      | some d =>
        cases deref ρ2 y with
        | none => exact .inl rfl
        | some e =>
          dsimp only
          cases f d e with
          | none => exact .inr rfl
          | some o => exact .inl rfl
section
variable {X : Cx} {W : WX} {pos : Pos}
theorem de_orf {e : Expr} {f g : D → D → Option Opd} {a b : ME} (h1 : DE X W e (eOp2 f a b)) (h2 : DE X W e (eOp2 g a b)) : DE X W e (eOp2 (orf f g) a b) := by
  obtain ⟨t, p, q⟩ := h1
  obtain ⟨u, p2, q2⟩ := h2
  refine ⟨_, peor p p2, fun F σ H ρ Q R h => ?_⟩
  rcases op2_or f g a b ρ with e | e
  · rw [e] at h; exact .inl (q F σ H ρ Q R h)
  · rw [e] at h; exact .inr (q2 F σ H ρ Q R h)
/-! ### subscripts -/
def pyIx : D → D → Option Opd
  | .list ds, .int i => (atI ds i).map .val
  | .tuple ds, .int i => (atI ds i).map .val
  | .str z, .int i => if z.length ≤ sizeLine then (atI z.cps.toList i).map fun c => vS ⟨#[c]⟩ else none
  | _, _ => none
theorem atI_rel {K : PySem.W.Frag} {F : Hp} {vs : List V} {ds : List D} {i : Int} {d : D} (r : RpA K F vs ds) (h : atI ds i = some d) : ∃ v, atI vs i = some v ∧ Rp K F v d := by
  unfold atI at h ⊢
  rw [r.length]
  cases e : ixN ds.length i with
  | none => rw [e] at h; cases h
  | some j =>
    rw [e] at h
    exact r.get h
theorem snd_ix {K} : Snd2 K (rIx K) pyIx := by
  intro F H v w d e o Q s cv cw hf k
  cases d <;> cases e <;> try (cases hf; done)
  · rename_i z i
    unfold pyIx at hf
    dsimp only at hf
    split at hf
    · rename_i hz
      cases h : atI z.cps.toList i with
      | none => rw [h] at hf; cases hf
      | some c =>
        rw [h] at hf
        cases hf
        cases cv.str
        cases cw.int
        exact .inr (.inr ⟨z, i, c, rfl, rfl, hz, h, same s (.str _) k⟩)
    · cases hf
  · rename_i ds i
    have hf : (atI ds i).map Opd.val = some o := hf
    cases h : atI ds i with
    | none => rw [h] at hf; cases hf
    | some d =>
      rw [h] at hf
      cases hf
      obtain ⟨a, vs, rfl, h1, r1⟩ := cv.list s
      cases cw.int
      obtain ⟨v, hv, rv⟩ := atI_rel r1 h
      exact .inl ⟨a, vs, i, v, rfl, rfl, SqL.of h1, hv, same s rv k⟩
  · rename_i ds i
    have hf : (atI ds i).map Opd.val = some o := hf
    cases h : atI ds i with
    | none => rw [h] at hf; cases hf
    | some d =>
      rw [h] at hf
      cases hf
      obtain ⟨a, vs, rfl, h1, r1, _⟩ := cv.tup s
      cases cw.int
      obtain ⟨v, hv, rv⟩ := atI_rel r1 h
      exact .inr (.inl ⟨a, vs, i, v, rfl, rfl, SqT.of h1, hv, same s rv k⟩)
theorem de_ix {a b : Expr} {ma mb : ME} (ha : DE X W a ma) (hb : DE X W b mb) (hs : PlainIx b := by intro _ _; rfl) : DE X W (.Subscript a b pos) (eOp2 pyIx ma mb) := by
  obtain ⟨ta, pa, qa⟩ := ha
  obtain ⟨tb, pb, qb⟩ := hb
  exact ⟨_, pe_ix ix_seq pa pb hs, op2_ok snd_ix qa qb⟩
/-! dicts -/
def keyOf : D → Option Key
  | .int i => some (.inl i)
  | .str x => some (.inr x)
  | _ => none
def dlook : List (D × D) → Key → Option D
  | [], _ => none
  | (c, d) :: ps, k => if keyOf c = some k then some d else dlook ps k
theorem keyOf_of {k : Key} {c : D} (h : c = (match k with | .inl i => .int i | .inr x => .str x)) : keyOf c = some k := by
  subst h
  cases k <;> rfl
theorem look_rel {K : PySem.W.Frag} {F : Hp} {k : Key} : ∀ {kvs : List (Key × V)} {ps : List (D × D)}, RpD K F kvs ps → (∀ d, dlook ps k = some d → ∃ v, valV kvs k = some v ∧ Rp K F v d) ∧ (dlook ps k = none → valV kvs k = none)
  | _, _, .nil => ⟨(fun d h => by cases h), fun _ => rfl⟩
  | (k', v) :: kvs, (c, d) :: ps, .cons e r rs => by
    obtain ⟨h1, h2⟩ := look_rel (k := k) rs
    have ek := keyOf_of e
    unfold dlook
    rw [ek]
    have hv : valV ((k', v) :: kvs) k = if k' = k then some v else valV kvs k := by
      unfold valV
      rw [List.find?_cons]
      by_cases e : k' = k
      · rw [if_pos e]; simp [e]
      · rw [if_neg e]; simp [e]
    rw [hv]
    by_cases e : k' = k
    · subst e
      simp only [if_true]
      exact ⟨fun d h => by cases h; exact ⟨v, rfl, r⟩, fun h => by cases h⟩
    · have e' : ¬ (some k' = some k) := fun z => e (Option.some.inj z)
      simp only [if_neg e, if_neg e']
      exact ⟨h1, h2⟩
def pyGet : D → D → Option Opd
  | .dict ps, k => (match keyOf k with
    | some κ => (dlook ps κ).map .val
    | none => none)
  | _, _ => none
theorem keyOf_v {K : PySem.W.Frag} {F H : Hp} {w : V} {e : D} {κ : Key} (cw : Ct K F H w e) (h : keyOf e = some κ) : w = kV κ := by
  cases e <;> try (cases h; done)
  · cases h; exact cw.int
  · cases h; exact cw.str
theorem DGet.rd {H : Hp} {a : Addr} {kvs : List (Key × V)} {k : Key} (e : Rd H a (.dK kvs)) : DGet H a (kV k) (valV kvs k) := .inl ⟨kvs, k, e, rfl, rfl⟩
theorem de_get {o i : Expr} {ma mb : ME} (hu : X.A.units + 1 < cLine) (ho : DE X W o ma) (hi : DE X W i mb) (hs : NoSl i := by intro _ _; rfl) : DE X W (.Subscript o i pos) (eOp2 pyGet ma mb) := by
  obtain ⟨ta, pa, qa⟩ := ho
  obtain ⟨tb, pb, qb⟩ := hi
  refine ⟨_, pe_dget hu pa pb hs, fun F σ H ρ Q R h => ?_⟩
  refine op2_ok (r := fun x y H Q => ∃ a v, x = .ref a ∧ DGet H a y (some v) ∧ Q v H) ?_ qa qb F σ H ρ Q R h
  intro F H v w d e o Q s cv cw hf k
  cases d <;> try (cases hf; done)
  rename_i ps
  unfold pyGet at hf
  dsimp only at hf
  cases hk : keyOf e with
  | none => rw [hk] at hf; cases hf
  | some κ =>
    rw [hk] at hf
    cases hl : dlook ps κ with
    | none => simp [hl] at hf
    | some d =>
      simp [hl] at hf
      subst hf
      obtain ⟨a, kvs, rfl, h1, r1⟩ := cv.dict s
      cases keyOf_v cw hk
      obtain ⟨v, hv, rv⟩ := (look_rel r1).1 d hl
      exact ⟨a, v, rfl, by rw [← hv]; exact DGet.rd h1, same s rv k⟩
def pyAt : D → D → Option Opd := orf pyIx pyGet
theorem de_sub {o i : Expr} {ma mb : ME} (hu : X.A.units + 1 < cLine) (ho : DE X W o ma) (hi : DE X W i mb) (hs : PlainIx i := by intro _ _; rfl) (hs2 : NoSl i := by intro _ _; rfl) : DE X W (.Subscript o i pos) (eOp2 pyAt ma mb) :=
  de_orf (de_ix ho hi hs) (de_get hu ho hi hs2)
/-! ### slices -/
def MO := Rho → Rs (Option Int)
def OPost (K : PySem.W.Frag) (W : WX) (F H : Hp) (σ : Sg) (ρ : Rho) (Q : Option Int → Hp → Prop) : Rs (Option Int) → Prop
  | .ok b ρ' => ∀ F' H', Step F H σ ρ F' H' ρ' → Rel K F' σ H' ρ' → Q b H'
  | .ex x ρ' => XPost K W F H σ ρ x ρ'
  | .fail => False
def DO (X : Cx) (W : WX) (e : Option Expr) (m : Rho → Rs (Option Int)) : Prop := ∃ t, PO X e t ∧ ∀ F σ H ρ Q, Rel X.K F σ H ρ → OPost X.K W F H σ ρ Q (m ρ) → t σ H Q
def oNone : Rho → Rs (Option Int) := fun ρ => .ok none ρ
def oSome (m : ME) : Rho → Rs (Option Int) := fun ρ => (m ρ).bind fun o ρ1 => match deref ρ1 o with
  | some (.int i) => .ok (some i) ρ1
  | _ => .fail
theorem do_none : DO X W none oNone := ⟨_, po_none, fun F σ H ρ Q R h => h F H Step.refl R⟩
theorem do_some {e : Expr} {m : ME} (h : DE X W e m) : DO X W (some e) (oSome m) := by
  obtain ⟨t, p, q⟩ := h
  refine ⟨_, po_some p, fun F σ H ρ Q R h => q F σ H ρ _ R ?_⟩
  unfold oSome at h
  cases e : m ρ with
  | fail => rw [e] at h; exact h
  | ex x ρ' => rw [e] at h; exact h
  | ok o ρ1 =>
    rw [e] at h
    intro v F1 H1 s1 R1 ro ns
    dsimp only [Rs.bind] at h
    cases e2 : deref ρ1 o with
    | none => rw [e2] at h; exact False.elim h
    | some d =>
      rw [e2] at h
      cases d with
      | int i => exact ⟨i, (ro.ct R1 e2).int, h F1 H1 s1 R1⟩
      | none => exact False.elim h
      | bool b => exact False.elim h
      | str b => exact False.elim h
      | list b => exact False.elim h
      | tuple b => exact False.elim h
      | dict b => exact False.elim h
def cutD {α : Type} (xs : List α) (lo hi : Option Int) : List α := (xs.drop (HT.sIx xs.length 0 lo)).take (HT.sIx xs.length xs.length hi - HT.sIx xs.length 0 lo)
def pySlice (lo hi : Option Int) : D → Option Opd
  | .list ds => some (.new (.list (cutD ds lo hi)))
  | .tuple ds => some (.val (.tuple (cutD ds lo hi)))
  | .str z => gd (decide (z.length ≤ sizeLine)) (vS (cutS z lo hi))
  | _ => none
theorem cut_rel {K : PySem.W.Frag} {F : Hp} {vs : List V} {ds : List D} (lo hi : Option Int) (r : RpA K F vs ds) : RpA K F (cutV vs lo hi) (cutD ds lo hi) := by
  unfold cutV cutD
  rw [r.length]
  exact (r.drop _).take _
def eSlice (a : ME) (lo hi : Rho → Rs (Option Int)) : ME := fun ρ => (a ρ).bind fun x ρ1 => (lo ρ1).bind fun l ρ2 => (hi ρ2).bind fun h ρ3 => run1 (pySlice l h) ρ3 x
theorem de_slice {a : Expr} {lo hi : Option Expr} {p2 : Pos} {ma : ME} {ml mh : Rho → Rs (Option Int)} (ha : DE X W a ma) (hl : DO X W lo ml) (hh : DO X W hi mh) : DE X W (.Subscript a (.Slice lo hi none p2) pos) (eSlice ma ml mh) := by
  obtain ⟨t, p, q⟩ := ha
  obtain ⟨t1, p1, q1⟩ := hl
  obtain ⟨t2, p3, q3⟩ := hh
  refine ⟨_, pe_slice (SlR.or sl_list (SlR.or sl_tupA sl_str)) p p1 p3, fun F σ H ρ Q R h => q F σ H ρ _ R ?_⟩
  unfold eSlice at h
  cases ea : ma ρ with
  | fail => rw [ea] at h; exact h
  | ex x ρ' => rw [ea] at h; exact h
  | ok x ρ1 =>
    rw [ea] at h
    intro v F1 H1 s1 R1 ro1 ns1
    refine q1 F1 σ H1 ρ1 _ R1 ?_
    have h1 := EPost.step s1 h
    dsimp only [Rs.bind] at h1
    cases el : ml ρ1 with
    | fail => rw [el] at h1; exact h1
    | ex x ρ' => rw [el] at h1; exact h1
    | ok l ρ2 =>
      rw [el] at h1
      intro F2 H2 s2 R2
      refine q3 F2 σ H2 ρ2 _ R2 ?_
      have h2 := EPost.step s2 h1
      dsimp only at h2
      cases eh : mh ρ2 with
      | fail => rw [eh] at h2; exact h2
      | ex x ρ' => rw [eh] at h2; exact h2
      | ok hh ρ3 =>
        rw [eh] at h2
        intro F3 H3 s3 R3
        have h3 := EPost.step s3 h2
        have ro := (ro1.step s2).step s3
        unfold run1 at h3
        dsimp only at h3
        cases ed : deref ρ3 x with
        | none => rw [ed] at h3; exact False.elim h3
        | some d =>
          rw [ed] at h3
          dsimp only at h3
          have ct := ro.ct R3 ed
          have fin : ∀ o, pySlice l hh d = some o → ∀ u F' H', Grow F3 H3 F' H' → RN X.K H3 F' H' u o → Q u H' := fun o e u F' H' g rn => by
            rw [e] at h3
            obtain ⟨z1, z2⟩ := rn.ro R3
            exact h3 u F' H' g.step (g.rel R3) z1 z2
          cases d with
          | list ds =>
            obtain ⟨a, vs, rfl, g1, r1⟩ := ct.list R3.sub
            exact .inl ⟨a, vs, rfl, SqL.of g1, newL R3.sub (cut_rel l hh r1) (fin _ rfl)⟩
          | tuple ds =>
            obtain ⟨a, vs, rfl, g1, r1, f1⟩ := ct.tup R3.sub
            refine .inr (.inl ⟨a, vs, rfl, SqT.of g1, fun ⟨e1, e2⟩ => ?_, fun _ => newT R3.sub (cut_rel l hh r1) (fin _ rfl)⟩)
            have ew : cutD ds l hh = ds := by
              unfold cutD
              rw [r1.length] at e1 e2
              rw [e1, e2]
              simp
            exact same R3.sub (.tup f1 r1) (fin _ (by show some (Opd.val (PyData.tuple (cutD ds l hh))) = _; rw [ew]))
          | str z =>
            unfold pySlice gd at h3
            dsimp only at h3
            by_cases hz : z.length ≤ sizeLine
            · cases ct.str
              exact .inr (.inr ⟨z, rfl, hz, same R3.sub (.str _) (fin _ (by show gd _ _ = _; unfold gd; rw [if_pos (decide_eq_true hz)]))⟩)
            · rw [if_neg (by simpa using hz)] at h3
              exact False.elim h3
          | none => exact False.elim h3
          | bool b => exact False.elim h3
          | int b => exact False.elim h3
          | dict b => exact False.elim h3
/-! ### built-in functions -/
def derefs (ρ : Rho) : List Opd → Option (List D)
  | [] => some []
  | o :: os => match deref ρ o, derefs ρ os with
    | some d, some ds => some (d :: ds)
    | _, _ => none
def SndC (K : PySem.W.Frag) (r : List V → Hp → VK → Prop) (f : List D → Option Opd) : Prop := ∀ F H vs ds o Q, Sub F H → Paired (Ct K F H) vs ds → f ds = some o → (∀ u F' H', Grow F H F' H' → RN K H F' H' u o → Q u H') → r vs H Q
def runN (f : List D → Option Opd) (ρ : Rho) (os : List Opd) : Rs Opd := match derefs ρ os with
  | some ds => (match f ds with
    | some o => .ok o ρ
    | none => .fail)
  | none => .fail
def eBlt (f : List D → Option Opd) (a : MA) : ME := fun ρ => (a ρ).bind fun os ρ1 => runN f ρ1 os
theorem derefs_ct {K : PySem.W.Frag} {F H : Hp} {σ : Sg} {ρ : Rho} (R : Rel K F σ H ρ) : ∀ {os : List Opd} {vs : List V} {ds : List D}, Paired (RO K F H σ ρ) vs os → derefs ρ os = some ds → Paired (Ct K F H) vs ds
  | _, _, ds, .nil, h => by cases h; exact .nil
  | o :: os, v :: vs, ds, .cons r rs, h => by
    unfold derefs at h
    cases e1 : deref ρ o with
    | none => rw [e1] at h; cases h
    | some d =>
      cases e2 : derefs ρ os with
      | none => rw [e1, e2] at h; cases h
      | some ds' =>
        rw [e1, e2] at h
        cases h
        exact .cons (r.ct R e1) (derefs_ct R rs e2)
theorem blt_ok {r : List V → Hp → VK → Prop} {f : List D → Option Opd} {a : MA} {ta : TA} (hs : SndC X.K r f) (ha : ∀ F σ H ρ Q, Rel X.K F σ H ρ → APost X.K W F H σ ρ Q (a ρ) → ta σ H Q) :
    ∀ F σ H ρ Q, Rel X.K F σ H ρ → EPost X.K W F H σ ρ Q (eBlt f a ρ) → tCB r ta σ H Q := by
  intro F σ H ρ Q R h
  refine ha F σ H ρ _ R ?_
  unfold eBlt at h
  cases ea : a ρ with
  | fail => rw [ea] at h; exact h
  | ex x ρ' => rw [ea] at h; exact h
  | ok os ρ1 =>
    rw [ea] at h
    intro vs F1 H1 s1 R1 ro ns
    have h1 := EPost.step s1 h
    dsimp only [Rs.bind] at h1
    unfold runN at h1
    cases dx : derefs ρ1 os with
    | none => rw [dx] at h1; exact False.elim h1
    | some ds =>
      rw [dx] at h1
      dsimp only at h1
      cases ef : f ds with
      | none => rw [ef] at h1; exact False.elim h1
      | some o =>
        rw [ef] at h1
        refine hs F1 H1 vs ds o Q R1.sub (derefs_ct R1 ro.all dx) ef fun u F' H' g rn => ?_
        obtain ⟨q1, q2⟩ := rn.ro R1
        exact h1 u F' H' g.step (g.rel R1) q1 q2
variable {x : Str} {p : Pos} {e : Expr} {es : List Expr} {ma : MA} {id T : String} {r : List V → Hp → VK → Prop} {f : List D → Option Opd}
theorem de_blt (hc : CallR X (.builtin id) r) (hs : SndC X.K r f) (hg : Gl X x) (hm : X.mg x = none) (hv : bootBuiltins x = some (.builtin id)) (ha : DA X W (e :: es) ma) (hn : x ≠ "__name__" := by decide) (hdb : (x == ("__debug__" : Str)) = false := by decide)
    (he : starEach (e :: es) X.env = (false, eval e X.env) :: starEach es X.env := by rfl) (hpl : (backTo pos (starEach es X.env)).any (·.1) = false := by rfl) : DE X W (.Call (.Name x p) (e :: es) [] pos) (eBlt f ma) := by
  obtain ⟨t, pa, q⟩ := ha
  exact ⟨_, pe_callB hc hg hm hv pa hn hdb he hpl, blt_ok hs q⟩
theorem de_blty (hc : CallR X (.type T) r) (hs : SndC X.K r f) (hg : Gl X x) (hm : X.mg x = none) (hv : bootBuiltins x = some (.type T)) (ha : DA X W (e :: es) ma) (hn : x ≠ "__name__" := by decide) (hdb : (x == ("__debug__" : Str)) = false := by decide)
    (he : starEach (e :: es) X.env = (false, eval e X.env) :: starEach es X.env := by rfl) (hpl : (backTo pos (starEach es X.env)).any (·.1) = false := by rfl) : DE X W (.Call (.Name x p) (e :: es) [] pos) (eBlt f ma) := by
  obtain ⟨t, pa, q⟩ := ha
  exact ⟨_, pe_callTy hc hg hm hv pa hn hdb he hpl, blt_ok hs q⟩
end
end Dl

set_option maxRecDepth 100000
set_option maxHeartbeats 4000000
namespace Dl
open PySem PySem.Spec L2
set_option autoImplicit false
section
variable {X : Cx} {W : WX} {pos : Pos}
/-! ### len, abs, list, tuple, all, any, str, min, max -/
def fLen : List D → Option Opd
  | [.list ds] => some (vI ds.length)
  | [.tuple ds] => some (vI ds.length)
  | [.dict ps] => some (vI ps.length)
  | [.str z] => gd (decide (z.length ≤ sizeLine)) (vI z.length)
  | _ => none
def rLenU (K : PySem.W.Frag) : List V → Hp → VK → Prop := fun xs H Q => (∃ p ys, xs = [.ref p] ∧ (SqL K H p ys ∨ SqT K H p ys) ∧ Q (.int ys.length) H) ∨ (∃ z, xs = [.str z] ∧ z.length ≤ sizeLine ∧ Q (.int z.length) H) ∨ ∃ a kvs, xs = [.ref a] ∧ Rd H a (.dK kvs) ∧ Q (.int kvs.length) H
theorem one_ct {K : PySem.W.Frag} {F H : Hp} {vs : List V} {d : D} (h : Paired (Ct K F H) vs [d]) : ∃ v, vs = [v] ∧ Ct K F H v d := by
  cases h with
  | cons a r => cases r; exact ⟨_, rfl, a⟩
theorem two_ct {K : PySem.W.Frag} {F H : Hp} {vs : List V} {d e : D} (h : Paired (Ct K F H) vs [d, e]) : ∃ v w, vs = [v, w] ∧ Ct K F H v d ∧ Ct K F H w e := by
  cases h with
  | cons a r =>
    obtain ⟨w, rfl, b⟩ := one_ct r
    exact ⟨_, _, rfl, a, b⟩
def fAbs : List D → Option Opd
  | [.int i] => some (vI (if i < 0 then -i else i))
  | _ => none
theorem snd_abs {K} : SndC K (fun xs H Q => ∃ i, xs = [.int i] ∧ Q (.int (if i < 0 then -i else i)) H) fAbs := by
  intro F H vs ds o Q s cs hf k
  unfold fAbs at hf
  split at hf
  · cases hf
    obtain ⟨v, rfl, c⟩ := one_ct cs
    cases c.int
    exact ⟨_, rfl, same s (.int _) k⟩
  · cases hf
/-- list(x), tuple(x) -/
def fList : List D → Option Opd
  | [.list ds] => some (.new (.list ds))
  | [.tuple ds] => some (.new (.list ds))
  | _ => none
theorem snd_list {K} : SndC K (fun xs H Q => ∃ p ys, xs = [.ref p] ∧ (SqL K H p ys ∨ SqT K H p ys) ∧ ∀ l, H l = none → Q (.ref l) (upd H l (.lst ys))) fList := by
  intro F H vs ds o Q s cs hf k
  unfold fList at hf
  split at hf
  · cases hf
    obtain ⟨v, rfl, c⟩ := one_ct cs
    obtain ⟨a, ws, rfl, h, r⟩ := c.list s
    exact ⟨a, ws, rfl, .inl (SqL.of h), newL s r k⟩
  · cases hf
    obtain ⟨v, rfl, c⟩ := one_ct cs
    obtain ⟨a, ws, rfl, h, r, _⟩ := c.tup s
    exact ⟨a, ws, rfl, .inr (SqT.of h), newL s r k⟩
  · cases hf
def fTuple : List D → Option Opd
  | [.list ds] => some (.val (.tuple ds))
  | [.tuple ds] => some (.val (.tuple ds))
  | _ => none
theorem snd_tuple {K} : SndC K (fun xs H Q => ∃ p ys, xs = [.ref p] ∧ ((SqL K H p ys ∧ ∀ l, H l = none → Q (.ref l) (upd H l (.tup ys))) ∨ (SqT K H p ys ∧ Q (.ref p) H))) fTuple := by
  intro F H vs ds o Q s cs hf k
  unfold fTuple at hf
  split at hf
  · cases hf
    obtain ⟨v, rfl, c⟩ := one_ct cs
    obtain ⟨a, ws, rfl, h, r⟩ := c.list s
    exact ⟨a, ws, rfl, .inl ⟨SqL.of h, newT s r k⟩⟩
  · cases hf
    obtain ⟨v, rfl, c⟩ := one_ct cs
    obtain ⟨a, ws, rfl, h, r, f⟩ := c.tup s
    exact ⟨a, ws, rfl, .inr ⟨SqT.of h, same s (.tup f r) k⟩⟩
  · cases hf
def boolsOf : List D → Option (List Bool)
  | [] => some []
  | .bool b :: ds => (boolsOf ds).map (b :: ·)
  | _ => none
theorem bools_rel {K : PySem.W.Frag} {F : Hp} : ∀ {ds : List D} {vs : List V} {bs : List Bool}, RpA K F vs ds → boolsOf ds = some bs → vs = bs.map V.bl
  | _, _, bs, .nil, h => by cases h; rfl
  | d :: ds, v :: vs, bs, .cons r rs, h => by
    cases d <;> try (cases h; done)
    rename_i b
    unfold boolsOf at h
    cases e : boolsOf ds with
    | none => rw [e] at h; cases h
    | some bs' =>
      rw [e] at h
      cases h
      cases r
      rw [List.map_cons, bools_rel rs e]
def fAll : List D → Option Opd
  | [.list ds] => (boolsOf ds).map fun bs => vB (bs.all id)
  | _ => none
def fAny : List D → Option Opd
  | [.list ds] => (boolsOf ds).map fun bs => vB (bs.any id)
  | _ => none
theorem snd_all {K} : SndC K (rAll K) fAll := by
  intro F H vs ds o Q s cs hf k
  unfold fAll at hf
  split at hf
  · rename_i ds
    cases e : boolsOf ds with
    | none => rw [e] at hf; cases hf
    | some bs =>
      rw [e] at hf
      cases hf
      obtain ⟨v, rfl, c⟩ := one_ct cs
      obtain ⟨a, ws, rfl, h, r⟩ := c.list s
      have := bools_rel r e
      subst this
      exact ⟨a, bs, rfl, SqL.of h, same s (.bl _) k⟩
  · cases hf
theorem snd_any {K} : SndC K (rAny K) fAny := by
  intro F H vs ds o Q s cs hf k
  unfold fAny at hf
  split at hf
  · rename_i ds
    cases e : boolsOf ds with
    | none => rw [e] at hf; cases hf
    | some bs =>
      rw [e] at hf
      cases hf
      obtain ⟨v, rfl, c⟩ := one_ct cs
      obtain ⟨a, ws, rfl, h, r⟩ := c.list s
      have := bools_rel r e
      subst this
      exact ⟨a, bs, rfl, SqL.of h, same s (.bl _) k⟩
  · cases hf
/-! ### isinstance of a built-in class -/
def tyN : D → String
  | .none => "NoneType"
  | .bool _ => "bool"
  | .int _ => "int"
  | .str _ => "str"
  | .list _ => "list"
  | .tuple _ => "tuple"
  | .dict _ => "dict"
def isD (T : String) (d : D) : Option Opd := (kitB (tyN d) T).map fun b => vB b
theorem tyx_frz {H : Hp} {pins : List (Addr × Obj)} {σ : St} {s : Shared} {a : Addr} {o : Obj} {kvs : List (Key × V)} (I : Inv X pins σ H s) (h : H a = some (.frz o (.dK kvs))) {us : List Value} {T : String} {b : Bool} {Q : VK} (e : kitB "dict" T = some b) (q : Q (.bl b) H) :
    wpAny (model X.prog X.w) X.A (call (.builtin "isinstance") [.ref a, .type T]) (EP X pins σ Q) X.xe s := by
  obtain ⟨h1, _, _, vs, _, o', es, ep, h2, h3, _⟩ := (show ObjOk X.prog X.w H s.heap a (.frz o (.dK kvs)) from I.hok a _ h)
  exact PySem.W.kia_one PySem.W.kitx_dict I.kIn ⟨_, h2, h3.1⟩ (kit_ty e) (fun z => nomatch z) fun tk => ⟨.bl b, H, I.tok _, rfl, q⟩
def rIsiU (K : PySem.W.Frag) : List V → Hp → VK → Prop := fun xs H Q => rIsi K xs H Q ∨ ∃ a o kvs T b, xs = [.ref a, .ty T] ∧ H a = some (.frz o (.dK kvs)) ∧ kitB "dict" T = some b ∧ Q (.bl b) H
theorem call_isiU : CallR X (.builtin "isinstance") (rIsiU X.K) := by
  refine call_isi.or ?_
  intro pins s σ H xs us Q I r h
  obtain ⟨a, o, kvs, T, b, rfl, ha, e, q⟩ := h
  cases r with
  | cons r1 r =>
    cases r with
    | cons r2 r =>
      cases r
      cases r1
      cases r2
      exact tyx_frz (us := []) I ha e q
theorem ty_ct {K : PySem.W.Frag} {F H : Hp} {v : V} {d : D} {T : String} {b : Bool} {Q : VK} (s : Sub F H) (c : Ct K F H v d) (e : kitB (tyN d) T = some b) (q : Q (.bl b) H) : rIsiU K [v, .ty T] H Q := by
  have go : ∀ {t}, TyOf K H v (.type t) → kitB t T = some b → rIsiU K [v, .ty T] H Q := fun {t} h e => .inl ⟨v, .ty T, .type t, .type T, b, rfl, .ty T, .base h, kit_ty e, q⟩
  cases d with
  | none => cases c.none; exact go .non e
  | bool x => cases c.bool; exact go (.bl _) e
  | int x => cases c.int; exact go (.int _) e
  | str x => cases c.str; exact go (.str _) e
  | list ds => obtain ⟨a, vs, rfl, h, _⟩ := c.list s; exact go (.lst h) e
  | tuple ds => obtain ⟨a, vs, rfl, h, _⟩ := c.tup s; exact go (.tup h) e
  | dict ps =>
    obtain ⟨a, vs, rfl, h, _⟩ := c.dict s
    rcases h with h | ⟨o, h⟩
    · exact go (.dK h) e
    · exact .inr ⟨a, o, vs, T, b, rfl, h, e, q⟩
theorem de_isi {e : Expr} {m : ME} {p pt : Pos} {T : String} {tn : Str} (he : DE X W e m) (hg : Gl X "isinstance") (hm : X.mg "isinstance" = none) (hgt : Gl X tn) (hmt : X.mg tn = none) (hvt : bootBuiltins tn = some (.type T)) (hn : tn ≠ "__name__" := by decide) (hd : (tn == ("__debug__" : Str)) = false := by decide)
    (hv : bootBuiltins "isinstance" = some (.builtin "isinstance") := by decide +kernel)
    (hs : starEach [e, .Name tn pt] X.env = (false, eval e X.env) :: starEach [.Name tn pt] X.env := by rfl) (hs2 : starEach [.Name tn pt] X.env = (false, eval (.Name tn pt) X.env) :: starEach [] X.env := by rfl) (hpl : (backTo pos (starEach [.Name tn pt] X.env)).any (·.1) = false := by rfl) :
    DE X W (.Call (.Name "isinstance" p) [e, .Name tn pt] [] pos) (eOp1 (isD T) m) := by
  obtain ⟨t, pe, q⟩ := he
  refine ⟨_, pe_callB call_isiU hg hm hv (pa_cons pe (pa_cons (pe_bltn (v := .ty T) hgt hmt hvt rfl hn hd) pa_nil hs2) hs) (by decide) (by decide) hs hpl, fun F σ H ρ Q R h => ?_⟩
  refine q F σ H ρ _ R ?_
  unfold eOp1 at h
  cases em : m ρ with
  | fail => rw [em] at h; exact h
  | ex x ρ' => rw [em] at h; exact h
  | ok o ρ1 =>
    rw [em] at h
    intro v F1 H1 s1 R1 ro ns
    have h1 := EPost.step s1 h
    dsimp only [Rs.bind] at h1
    unfold run1 at h1
    cases ed : deref ρ1 o with
    | none => rw [ed] at h1; exact False.elim h1
    | some d =>
      rw [ed] at h1
      dsimp only at h1
      unfold isD at h1
      cases ek : kitB (tyN d) T with
      | none => rw [ek] at h1; exact False.elim h1
      | some b =>
        rw [ek] at h1
        exact ty_ct R1.sub (ro.ct R1 ed) ek (h1 (.bl b) F1 H1 Step.refl R1 (.bl b) (fun z => nomatch z))
/-! ### len -/
theorem call_lenDR : CallR X (.builtin "len") (fun xs H Q => ∃ a kvs, xs = [V.ref a] ∧ Rd H a (.dK kvs) ∧ Q (.int kvs.length) H) := by
  intro pins s σ H xs us Q I r h
  obtain ⟨a, kvs, rfl, ha, q⟩ := h
  cases r with
  | cons r1 r =>
    cases r
    cases r1
    exact d_len I ha fun t s' I' => ⟨.int kvs.length, H, I', ⟨t, rfl⟩, q⟩
theorem call_lenU : CallR X (.builtin "len") (rLenU X.K) := call_len_seq.or (call_len_str.or call_lenDR)
theorem snd_len {K} : SndC K (rLenU K) fLen := by
  intro F H vs ds o Q s cs hf k
  unfold fLen at hf
  split at hf
  · cases hf
    obtain ⟨v, rfl, c⟩ := one_ct cs
    obtain ⟨a, ws, rfl, h, r⟩ := c.list s
    exact .inl ⟨a, ws, rfl, .inl (SqL.of h), by rw [r.length]; exact same s (.int _) k⟩
  · cases hf
    obtain ⟨v, rfl, c⟩ := one_ct cs
    obtain ⟨a, ws, rfl, h, r, _⟩ := c.tup s
    exact .inl ⟨a, ws, rfl, .inr (SqT.of h), by rw [r.length]; exact same s (.int _) k⟩
  · cases hf
    obtain ⟨v, rfl, c⟩ := one_ct cs
    obtain ⟨a, kvs, rfl, h, r⟩ := c.dict s
    exact .inr (.inr ⟨a, kvs, rfl, h, by rw [r.length]; exact same s (.int _) k⟩)
  · obtain ⟨hc, rfl⟩ := gd_some hf
    obtain ⟨v, rfl, c⟩ := one_ct cs
    cases c.str
    exact .inr (.inl ⟨_, rfl, by simpa using hc, same s (.int _) k⟩)
  · cases hf
/-! ### methods that change a list -/
def MutS (K : PySem.W.Frag) (r : V → List V → Hp → VK → Prop) (f : D → List D → Option (D × D)) : Prop :=
  ∀ F H a vs d ds d' x Q, Sub F H → F a = none → OwnAt K F H a d → RpA K F vs ds → f d ds = some (d', x) → (∀ u o', OwnAt K F (upd H a o') a d' → Rp K F u x → Q u (upd H a o')) → r (.ref a) vs H Q
def mutO (i : Nat) (f : D → List D → Option (D × D)) (os : List Opd) (ρ : Rho) : Rs Opd := match useAll ρ os with
  | some (ds, ρ2) => (match ρ2[i]? with
    | some (.own d) => (match f d ds with
      | some (d', x) => .ok (.val x) (ρ2.set i (.own d'))
      | none => .fail)
    | some (.par d) => (match f d ds with
      | some (d', x) => .ok (.val x) (ρ2.set i (.par d'))
      | none => .fail)
    | _ => .fail)
  | none => .fail
def isLst (ρ : Rho) (i : Nat) : Bool := match ρ[i]? with
  | some (.own (.list _)) => true
  | some (.par (.list _)) => true
  | _ => false
def eMut (i : Nat) (f : D → List D → Option (D × D)) (ma : MA) : ME := fun ρ => if isLst ρ i = true then (ma ρ).bind fun os ρ1 => mutO i f os ρ1 else .fail
theorem mut_rel {K : PySem.W.Frag} {F H : Hp} {σ : Sg} {ρ : Rho} {i : Nat} {s s' : Slot} {a : Addr} {d' : D} {o' : HO} (R : Rel K F σ H ρ) (e : ρ[i]? = some s) (m : s.mine = true) (m' : s'.mine = true) (k : KpS s s') (h : σ[i]? = some (some (.ref a))) (f : F a = none)
    (ow : OwnAt K F (upd H a o') a d') (q' : s'.data? = some d') : Rel K F σ (upd H a o') (ρ.set i s') ∧ Step F H σ ρ F (upd H a o') (ρ.set i s') := by
  have il : i < ρ.length := (List.getElem?_eq_some_iff.mp e).1
  have mi : Mine σ ρ i a := ⟨⟨s, e, m⟩, h⟩
  have mine : ∀ {j b}, Mine σ (ρ.set i s') j b → Mine σ ρ j b := fun {j b} ⟨⟨t, et, mt⟩, ht⟩ => by
    by_cases hj : j = i
    · subst hj; rw [h] at ht; cases ht; exact mi
    · rw [List.getElem?_set_ne (Ne.symm hj)] at et; exact ⟨⟨t, et, mt⟩, ht⟩
  have ne : ∀ b u, F b = some u → b ≠ a := fun b u hb z => by subst z; rw [f] at hb; cases hb
  refine ⟨⟨fun b u hb => ?_, by rw [List.length_set]; exact R.len, fun j d et => ?_, fun j t d et mt q => ?_, fun j l b h1 h2 => R.sep j l b (mine h1) (mine h2), tabs_upd (by
    obtain ⟨d0, hd0⟩ := data_of m
    obtain ⟨b, g1, _, g3⟩ := R.own i s d0 e m hd0
    rw [h] at g1; cases g1
    exact g3.notTE) R.tab⟩, ⟨⟨Ext.refl _, fun b u hb tb fb nb => ?_⟩, kp_set e k⟩⟩
  · obtain ⟨r, tt⟩ := R.sub b u hb
    refine ⟨?_, tt⟩
    rcases r with r | ⟨x, r, y⟩
    · exact .inl (by rw [upd_ne (ne b u hb)]; exact r)
    · exact .inr ⟨x, by rw [upd_ne (ne b u hb)]; exact r, y⟩
  · have hj : j ≠ i := by
      rintro rfl
      rw [List.getElem?_set_self il] at et; cases et; cases m'
    rw [List.getElem?_set_ne (Ne.symm hj)] at et
    exact R.dat j d et
  · by_cases hj : j = i
    · subst hj
      rw [List.getElem?_set_self il] at et; cases et
      rw [q'] at q; cases q
      exact ⟨a, h, f, ow⟩
    · rw [List.getElem?_set_ne (Ne.symm hj)] at et
      obtain ⟨b, g1, g2, g3⟩ := R.own j t d et mt q
      have : b ≠ a := by rintro rfl; exact hj (R.sep j i b ⟨⟨t, et, mt⟩, g1⟩ mi)
      exact ⟨b, g1, g2, g3.mono (Ext.refl _) fun u hu => by rw [upd_ne this]; exact hu⟩
  · have : b ≠ a := by rintro rfl; exact nb ⟨i, mi⟩
    exact ⟨by rw [upd_ne this]; exact hb, fb, fun ⟨j, mj⟩ => nb ⟨j, mine mj⟩⟩
theorem mut_post {r : V → List V → Hp → VK → Prop} {f : D → List D → Option (D × D)} {i : Nat} (hs : MutS X.K r f) {F H : Hp} {σ : Sg} {ρ : Rho} {Q : VK} {ma : MA} {v : V} (hv : σ[i]? = some (some v)) (h : EPost X.K W F H σ ρ Q ((ma ρ).bind fun os ρ1 => mutO i f os ρ1)) : APost X.K W F H σ ρ (fun vs H1 => r v vs H1 Q) (ma ρ) := by
  cases ea : ma ρ with
  | fail => rw [ea] at h; exact h
  | ex x ρ' => rw [ea] at h; exact h
  | ok os ρ1 =>
    rw [ea] at h
    intro vs F1 H1 s1 R1 ro ns
    dsimp only [Rs.bind] at h
    unfold mutO at h
    cases eu : useAll ρ1 os with
    | none => rw [eu] at h; exact False.elim h
    | some p =>
      obtain ⟨ds, ρ2⟩ := p
      rw [eu] at h
      dsimp only at h
      obtain ⟨F2, s2, R2, rp, _⟩ := useAll_ok R1 s1 ro ns eu
      have go : ∀ (s : Slot) (d : D) (mk : D → Slot), ρ2[i]? = some s → s.mine = true → s.data? = some d → (∀ d', (mk d').mine = true ∧ (mk d').data? = some d' ∧ KpS s (mk d')) → EPost X.K W F H σ ρ Q (match f d ds with
          | some (d', x) => .ok (.val x) (ρ2.set i (mk d'))
          | none => .fail) → r v vs H1 Q := fun s d mk e m q hm h => by
        obtain ⟨a, g1, g2, g3⟩ := R2.own i s d e m q
        rw [hv] at g1; cases g1
        cases ef : f d ds with
        | none => rw [ef] at h; exact False.elim h
        | some p =>
          obtain ⟨d', x⟩ := p
          rw [ef] at h
          refine hs F2 H1 a vs d ds d' x Q R2.sub g2 g3 rp ef fun u o' ow rx => ?_
          obtain ⟨m1, m2, m3⟩ := hm d'
          obtain ⟨R3, s3⟩ := mut_rel R2 e m m1 m3 hv g2 ow m2
          exact h u F2 (upd H1 a o') (s2.trans s3) R3 rx (fun z => nomatch z)
      cases es : ρ2[i]? with
      | none => rw [es] at h; exact False.elim h
      | some s =>
        rw [es] at h
        cases s with
        | un => exact False.elim h
        | dat d => exact False.elim h
        | lck d => exact False.elim h
        | own d => exact go _ d .own es rfl rfl (fun d' => ⟨rfl, rfl, trivial⟩) h
        | par d => exact go _ d .par es rfl rfl (fun d' => ⟨rfl, rfl, trivial⟩) h
theorem isLst_ty {K : PySem.W.Frag} {F H : Hp} {σ : Sg} {ρ : Rho} {i : Nat} (R : Rel K F σ H ρ) (h : isLst ρ i = true) : ∃ v, σ[i]? = some (some v) ∧ tyV K "list" v H := by
  unfold isLst at h
  cases e : ρ[i]? with
  | none => rw [e] at h; cases h
  | some s =>
    rw [e] at h
    have go : ∀ ds, s.mine = true → s.data? = some (.list ds) → ∃ v, σ[i]? = some (some v) ∧ tyV K "list" v H := fun ds m q => by
      obtain ⟨a, g1, _, vs, g3, _⟩ := R.own i s _ e m q
      exact ⟨.ref a, g1, .inl ⟨rfl, vs, SqL.of g3⟩⟩
    cases s with
    | own d => cases d <;> first | (cases h; done) | exact go _ rfl rfl
    | par d => cases d <;> first | (cases h; done) | exact go _ rfl rfl
    | un => cases h
    | dat d => cases h
    | lck d => cases h
section
variable {name x : Str} {apos cpos xp : Pos} {id : String} {e : Expr} {es : List Expr} {ma : MA} {r : V → List V → Hp → VK → Prop} {f : D → List D → Option (D × D)} {i : Nat}
theorem de_mut (slot : PySem.Slot "list" name id) (hty : typeOf (.builtin id) = pure (.type "method_descriptor")) (hm : MtR X id r) (hs : MutS X.K r f) (hp : PE X (.Name x xp) (tVar i)) (ha : DA X W (e :: es) ma)
    (hbase : attributeBase (.Name x xp) name X.env (eval (.Name x xp) X.env) = eval (.Name x xp) X.env := by rfl)
    (hfew : ((backTo cpos (starEach (e :: es) X.env)).all (fun x => !x.1) && (backToKw cpos (keywordEach [] X.env)).all (fun x => x.1.isSome)
      && decide ((e :: es).length + ([] : List Keyword).length + (if ([] : List Keyword).isEmpty then 0 else 1) < 30)) = true := by rfl)
    (hline : (apos.endLine == cpos.line) = true := by rfl) (hst : starEach (e :: es) X.env = (false, eval e X.env) :: starEach es X.env := by rfl) (hplain : (backTo cpos (starEach es X.env)).any (·.1) = false := by rfl) :
    DE X W (.Call (.Attribute (.Name x xp) name apos) (e :: es) [] cpos) (eMut i f ma) := by
  obtain ⟨t, pa, q⟩ := ha
  refine ⟨_, pe_bm PySem.F.plainAttrs_list slot hty hm hp pa hbase hfew hline hst hplain, fun F σ H ρ Q R h => ?_⟩
  unfold eMut at h
  split at h
  · rename_i hl
    obtain ⟨v, hv, ty⟩ := isLst_ty R hl
    exact ⟨v, hv, ty, q F σ H ρ _ R (mut_post hs hv h)⟩
  · exact False.elim h
theorem de_mut0 (slot : PySem.Slot "list" name id) (hty : typeOf (.builtin id) = pure (.type "method_descriptor")) (hm : MtR X id r) (hs : MutS X.K r f) (hp : PE X (.Name x xp) (tVar i))
    (hbase : attributeBase (.Name x xp) name X.env (eval (.Name x xp) X.env) = eval (.Name x xp) X.env := by rfl) (hline : (apos.endLine == cpos.line) = true := by rfl) :
    DE X W (.Call (.Attribute (.Name x xp) name apos) [] [] cpos) (eMut i f aNil) := by
  refine ⟨_, pe_bm0 PySem.F.plainAttrs_list slot hty hm hp hbase hline, fun F σ H ρ Q R h => ?_⟩
  unfold eMut at h
  split at h
  · rename_i hl
    obtain ⟨v, hv, ty⟩ := isLst_ty R hl
    have := mut_post (X := X) (W := W) (ma := aNil) hs hv h
    exact ⟨v, hv, ty, this [] F H Step.refl R ⟨.nil, List.nodup_nil⟩ (fun a hm => by cases hm)⟩
  · exact False.elim h
end
/-! the methods -/
def mAppend : D → List D → Option (D × D)
  | .list ds, [d] => if ds.length < sizeLine then some (.list (ds ++ [d]), .none) else none
  | _, _ => none
theorem own_lst {K : PySem.W.Frag} {F H : Hp} {a : Addr} {vs : List V} {ds : List D} (r : RpA K F vs ds) : OwnAt K F (upd H a (.lst vs)) a (.list ds) := ⟨vs, upd_same, r⟩
theorem mut_append {K} : MutS K rAppend mAppend := by
  intro F H a vs d ds d' x Q s f ow rp hf k
  unfold mAppend at hf
  split at hf
  · split at hf
    · rename_i hz
      cases hf
      obtain ⟨ws, hh, r⟩ := ow
      cases rp with
      | cons r1 rn =>
        cases rn
        exact ⟨a, ws, _, rfl, rfl, hh, by rw [r.length]; exact hz, k _ _ (own_lst (r.append (.cons r1 .nil))) .non⟩
    · cases hf
  · cases hf
def mReverse : D → List D → Option (D × D)
  | .list ds, [] => some (.list ds.reverse, .none)
  | _, _ => none
theorem mut_reverse {K} : MutS K rReverse mReverse := by
  intro F H a vs d ds d' x Q s f ow rp hf k
  unfold mReverse at hf
  split at hf
  · cases hf
    obtain ⟨ws, hh, r⟩ := ow
    cases rp
    exact ⟨a, ws, rfl, rfl, hh, k _ _ (own_lst r.reverse) .non⟩
  · cases hf
def mClear : D → List D → Option (D × D)
  | .list ds, [] => some (.list [], .none)
  | _, _ => none
theorem mut_clear {K} : MutS K rClear mClear := by
  intro F H a vs d ds d' x Q s f ow rp hf k
  unfold mClear at hf
  split at hf
  · cases hf
    obtain ⟨ws, hh, r⟩ := ow
    cases rp
    exact ⟨a, ws, rfl, rfl, hh, k _ _ (own_lst .nil) .non⟩
  · cases hf
def mExtend : D → List D → Option (D × D)
  | .list ds, [.list es] => if ds.length + es.length ≤ sizeLine then some (.list (ds ++ es), .none) else none
  | _, _ => none
theorem mut_extend {K} : MutS K rExtend mExtend := by
  intro F H a vs d ds d' x Q s f ow rp hf k
  unfold mExtend at hf
  split at hf
  · split at hf
    · rename_i hz
      cases hf
      obtain ⟨ws, hh, r⟩ := ow
      cases rp with
      | cons r1 rn =>
        cases rn
        obtain ⟨b, us, rfl, g, r2⟩ := r1.list
        exact ⟨a, b, ws, us, rfl, rfl, hh, s.lst g, by rw [r.length, r2.length]; exact hz, k _ _ (own_lst (r.append r2)) .non⟩
    · cases hf
  · cases hf
theorem RpA.erase {K : PySem.W.Frag} {F : Hp} : ∀ {vs : List V} {ds : List D} (n : Nat), RpA K F vs ds → RpA K F (vs.eraseIdx n) (ds.eraseIdx n)
  | _, _, _, .nil => .nil
  | _, _, 0, .cons _ r => r
  | _, _, n + 1, .cons g r => .cons g (RpA.erase n r)
/-- pop(i) at a place from 0 on -/
def mPop : D → List D → Option (D × D)
  | .list ds, [.int i] => if 0 ≤ i ∧ i < 2 ^ 63 then (match ds[i.toNat]? with
    | some x => some (.list (ds.eraseIdx i.toNat), x)
    | none => none) else none
  | _, _ => none
theorem mut_pop {K} : MutS K rPopAt mPop := by
  intro F H a vs d ds d' x Q s f ow rp hf k
  unfold mPop at hf
  split at hf
  · rename_i ds i
    split at hf
    · rename_i hz
      cases ex : ds[i.toNat]? with
      | none => rw [ex] at hf; cases hf
      | some y =>
        rw [ex] at hf
        cases hf
        obtain ⟨ws, hh, r⟩ := ow
        cases rp with
        | cons r1 rn =>
          cases rn
          cases r1
          obtain ⟨v, hv, rv⟩ := r.get ex
          have hl : i.toNat < ws.length := (List.getElem?_eq_some_iff.mp hv).1
          refine ⟨a, ws, i, i.toNat, v, rfl, rfl, hh, by omega, hz.2, ?_, hv, k _ _ (own_lst (r.erase _)) rv⟩
          unfold seqIndex?
          have h1 : ¬ i < 0 := by omega
          simp [h1, hl]
          omega
    · cases hf
  · cases hf
def mInsert : D → List D → Option (D × D)
  | .list ds, [.int i, y] => if 0 ≤ i ∧ i < 2 ^ 63 ∧ ds.length < sizeLine then some (.list (ds.take i.toNat ++ [y] ++ ds.drop i.toNat), .none) else none
  | _, _ => none
theorem mut_insert {K} : MutS K (fun x vs H Q => ∃ (l : Addr) (xs : List V) (i : Int) (y : V), x = .ref l ∧ vs = [.int i, y] ∧ H l = some (.lst xs) ∧ xs.length < sizeLine ∧ 0 ≤ i ∧ i < 2 ^ 63 ∧
    Q .non (upd H l (.lst (xs.take i.toNat ++ [y] ++ xs.drop i.toNat)))) mInsert := by
  intro F H a vs d ds d' x Q s f ow rp hf k
  unfold mInsert at hf
  split at hf
  · split at hf
    · rename_i hz
      cases hf
      obtain ⟨ws, hh, r⟩ := ow
      cases rp with
      | cons r1 rn =>
        cases rn with
        | cons r2 rn =>
          cases rn
          cases r1
          exact ⟨a, ws, _, _, rfl, rfl, hh, by rw [r.length]; exact hz.2.2, hz.1, hz.2.1, k _ _ (own_lst (((r.take _).append (.cons r2 .nil)).append (r.drop _))) .non⟩
    · cases hf
  · cases hf
/-! ### x[k] = e of a list -/
def setI (d k v : D) : Option D := match d, k with
  | .list ds, .int i => (ixN ds.length i).map fun j => .list (ds.set j v)
  | _, _ => none
def putI (i : Nat) (d : D) (k : Opd) (v : D) (ρ : Rho) : Rs Flow := match deref ρ k with
  | some κ => (match ρ[i]? with
    | some (.own d0) => (match setI d0 κ v with
      | some d' => .ok .nx (ρ.set i (.own d'))
      | none => .fail)
    | some (.par d0) => (match setI d0 κ v with
      | some d' => .ok .nx (ρ.set i (.par d'))
      | none => .fail)
    | _ => .fail)
  | none => .fail
/-- x[k] = e, x the name at i: e is frozen -/
def sPut (i : Nat) (mk me : ME) : MS := fun ρ => (me ρ).bind fun o ρ1 => match useO ρ1 o with
  | some (v, ρ2) => if isLst ρ2 i = true then (mk ρ2).bind fun k ρ3 => putI i .none k v ρ3 else .fail
  | none => .fail
theorem put_ok {F0 H0 F H : Hp} {σ : Sg} {ρ0 ρ : Rho} {i : Nat} {k : Opd} {v : D} {x y w : V} {Z : Ends} (R : Rel X.K F σ H ρ) (st : Step F0 H0 σ ρ0 F H ρ) (rk : RO X.K F H σ ρ y k) (rv : Rp X.K F w v) (hv : σ[i]? = some (some x)) (h : SPost X.K W F0 H0 σ ρ0 Z (putI i .none k v ρ)) :
    rSetL x y w H fun H' => Z.nx σ H' := by
  unfold putI at h
  cases ek : deref ρ k with
  | none => rw [ek] at h; exact False.elim h
  | some κ =>
    rw [ek] at h
    dsimp only at h
    have ck := rk.ct R ek
    have go : ∀ (s : Slot) (d : D) (mk : D → Slot), ρ[i]? = some s → s.mine = true → s.data? = some d → (∀ d', (mk d').mine = true ∧ (mk d').data? = some d' ∧ KpS s (mk d')) → SPost X.K W F0 H0 σ ρ0 Z (match setI d κ v with
        | some d' => .ok .nx (ρ.set i (mk d'))
        | none => .fail) → rSetL x y w H fun H' => Z.nx σ H' := fun s d mk e m q hm h => by
      obtain ⟨a, g1, g2, g3⟩ := R.own i s d e m q
      rw [hv] at g1; cases g1
      have hset : ∃ ds j n, d = .list ds ∧ κ = .int j ∧ ixN ds.length j = some n := by
        cases d with
        | list ds =>
          cases κ with
          | int j =>
            cases ei : ixN ds.length j with
            | none => simp [setI, ei] at h; exact False.elim h
            | some n => exact ⟨ds, j, n, rfl, rfl, ei⟩
          | none => exact False.elim h
          | bool b => exact False.elim h
          | str b => exact False.elim h
          | list b => exact False.elim h
          | tuple b => exact False.elim h
          | dict b => exact False.elim h
        | none => exact False.elim h
        | bool b => exact False.elim h
        | int b => exact False.elim h
        | str b => exact False.elim h
        | tuple b => exact False.elim h
        | dict b => exact False.elim h
      obtain ⟨ds, j, n, rfl, rfl, ei⟩ := hset
      have es : setI (.list ds) (.int j) v = some (.list (ds.set n v)) := by simp [setI, ei]
      rw [es] at h
      obtain ⟨ws, hh, r⟩ := g3
      cases ck.int
      obtain ⟨m1, m2, m3⟩ := hm (.list (ds.set n v))
      obtain ⟨R3, s3⟩ := mut_rel R e m m1 m3 hv g2 (own_lst (r.set rv n)) m2
      exact ⟨a, ws, j, n, rfl, rfl, hh, by rw [r.length]; exact ei, h σ F _ (st.trans s3).s R3⟩
    cases es : ρ[i]? with
    | none => rw [es] at h; exact False.elim h
    | some s =>
      rw [es] at h
      cases s with
      | un => exact False.elim h
      | dat d => exact False.elim h
      | lck d => exact False.elim h
      | own d => exact go _ d .own es rfl rfl (fun d' => ⟨rfl, rfl, trivial⟩) h
      | par d => exact go _ d .par es rfl rfl (fun d' => ⟨rfl, rfl, trivial⟩) h
theorem ds_put {i : Nat} {x : Str} {xp sp : Pos} {ix e : Expr} {mk me : ME} (hp : PE X (.Name x xp) (tVar i)) (hk : DE X W ix mk) (he : DE X W e me)
    (hs : swapsWithSole [.Subscript (.Name x xp) ix sp] e pos.line X.env = pure false := by rfl) (hw : swappedStores [.Subscript (.Name x xp) ix sp] e X.env = pure none := by rfl)
    (h1 : (assignEach [.Subscript (.Name x xp) ix sp] X.env).map (·.2) = [assign (.Subscript (.Name x xp) ix sp) X.env] := by rfl) (hsub : ∀ {to ti : TE} {t : TSet}, PE X (.Name x xp) to → PE X ix ti → PSet X t → PG X (.Subscript (.Name x xp) ix sp) (gSub to ti t) := by intro to ti t a b c; exact pg_sub a b c) :
    DS X W (.Assign [.Subscript (.Name x xp) ix sp] e pos) (sPut i mk me) := by
  obtain ⟨t, pe, q⟩ := he
  obtain ⟨u, pk, qk⟩ := hk
  refine ⟨_, ps_asg pe (hsub hp pk set_list) hs hw h1, fun F σ H ρ Z R h => q F σ H ρ _ R (ES h fun o ρ1 v F1 H1 s1 R1 ro ns hq => ?_)⟩
  cases eu : useO ρ1 o with
  | none => rw [eu] at hq; exact False.elim hq
  | some p =>
    obtain ⟨d, ρ2⟩ := p
    rw [eu] at hq
    dsimp only at hq
    obtain ⟨F2, s2, R2, rp, _⟩ := use_ok R1 s1 ro ns eu
    split at hq
    · rename_i hl
      obtain ⟨x, hx, _⟩ := isLst_ty R2 hl
      refine ⟨x, hx, ?_⟩
      refine qk F2 σ H1 ρ2 _ R2 ?_
      cases em : mk ρ2 with
      | fail => rw [em] at hq; exact False.elim hq
      | ex x ρ' =>
        rw [em] at hq
        exact XPost.step s2 (XPostS.x hq)
      | ok k ρ3 =>
        rw [em] at hq
        intro y F3 H3 s3 R3 rk nk
        exact put_ok R3 (s2.trans s3) rk (rp.mono s3.fr.ext) hx hq
    · exact False.elim hq
/-! ### x[k] += e of a list of ints -/
def rGetN (K : PySem.W.Frag) : V → V → Hp → VK → Prop := fun o i H Q => ∃ (p : Addr) (xs : List V) (j : Int) (v : V), o = .ref p ∧ i = .int j ∧ H p = some (.lst xs) ∧ 0 ≤ j ∧ xs[j.toNat]? = some v ∧ Q v H
theorem pget_list : PGet X (rGetN X.K) := by
  intro pins s σ H o i ov iv Q I ro ri h
  obtain ⟨p, xs, j, v, rfl, rfl, hp, h0, hv, q⟩ := h
  cases ro
  obtain ⟨t, rfl⟩ := ri
  obtain ⟨its, r, pl, hz⟩ := I.list (SqL.of (K := X.K) hp)
  obtain ⟨w, ew, rw'⟩ := r.get hv
  have hl := r.length
  have hn := line63
  have hj : j.toNat < xs.length := (List.getElem?_eq_some_iff.mp hv).1
  exact wpAny_getItem_list pl.isList h0 (by omega) (by simpa using ew) ⟨v, H, I, rw', q⟩
def augO (i : Nat) (f : Int → Int → Int) (k o : Opd) (x : D) (ρ : Rho) : Rs Flow := match deref ρ o, x with
  | some (.int b), .int a => putI i .none k (.int (f a b)) ρ
  | _, _ => .fail
def getI (i : Nat) (k : Opd) (ρ : Rho) : Option D := match deref ρ k, (ρ[i]?).bind Slot.data? with
  | some (.int j), some (.list ds) => if 0 ≤ j then ds[j.toNat]? else none
  | _, _ => none
def sAug (i : Nat) (f : Int → Int → Int) (mk me : ME) : MS := fun ρ => if isLst ρ i = true then (mk ρ).bind fun k ρ1 => match getI i k ρ1 with
  | some x => (me ρ1).bind fun o ρ2 => augO i f k o x ρ2
  | none => .fail else .fail
theorem ds_aug {i : Nat} {x : Str} {xp sp : Pos} {ix e : Expr} {mk me : ME} {op : Operator} {f : Int → Int → Int} (hip : PIp X op (ipI f)) (hp : PE X (.Name x xp) (tVar i)) (hk : DE X W ix mk) (he : DE X W e me)
    (ha : ∀ ov iv new, augStore ix ov iv new = (do holding [new, ov, iv] (setItem ov iv new); release [new, ov, iv] []; pure .next) := by intros; rfl) :
    DS X W (.AugAssign (.Subscript (.Name x xp) ix sp) op e pos) (sAug i f mk me) := by
  obtain ⟨t, pe, q⟩ := he
  obtain ⟨u, pk, qk⟩ := hk
  refine ⟨_, ps_augS hp pk pget_list pe hip set_list ha, fun F σ H ρ Z R h => ?_⟩
  unfold sAug at h
  split at h
  · rename_i hl
    obtain ⟨v, hv, _⟩ := isLst_ty R hl
    refine ⟨v, hv, qk F σ H ρ _ R ?_⟩
    cases em : mk ρ with
    | fail => rw [em] at h; exact False.elim h
    | ex x ρ' => rw [em] at h; exact XPostS.x h
    | ok k ρ1 =>
      rw [em] at h
      intro y F1 H1 s1 R1 rk nk
      dsimp only [Rs.bind] at h
      cases eg : getI i k ρ1 with
      | none => rw [eg] at h; exact False.elim h
      | some xd =>
        rw [eg] at h
        dsimp only at h
        unfold getI at eg
        cases ek : deref ρ1 k with
        | none => rw [ek] at eg; cases eg
        | some kd =>
          rw [ek] at eg
          cases kd <;> try (cases eg; done)
          rename_i j
          cases es : ρ1[i]? with
          | none => rw [es] at eg; cases eg
          | some sl =>
            rw [es] at eg
            have hget : ∃ ds, sl.data? = some (.list ds) ∧ 0 ≤ j ∧ ds[j.toNat]? = some xd := by
              cases e : sl.data? with
              | none => simp [Option.bind, e] at eg
              | some d =>
                cases d <;> simp [Option.bind, e] at eg
                rename_i ds
                exact ⟨ds, rfl, eg.1, eg.2⟩
            obtain ⟨ds, hd, h0, hx⟩ := hget
            have kj := (rk.ct R1 ek).int
            subst kj
            have loc : ∃ a vs, v = .ref a ∧ H1 a = some (.lst vs) ∧ RpA X.K F1 vs ds := by
              have r : RO X.K F1 H1 σ ρ1 v (.loc i) := ⟨hv, sl, _, es, hd⟩
              exact (r.ct R1 (by show (ρ1[i]?).bind Slot.data? = _; rw [es]; exact hd)).list R1.sub
            obtain ⟨a, vs, rfl, hh, r⟩ := loc
            obtain ⟨xv, hxv, rx⟩ := r.get hx
            refine ⟨a, vs, j, xv, rfl, rfl, hh, h0, hxv, ?_⟩
            refine q F1 σ H1 ρ1 _ R1 ?_
            cases ee : me ρ1 with
            | fail => rw [ee] at h; exact False.elim h
            | ex x ρ' => rw [ee] at h; exact XPost.step s1 (XPostS.x h)
            | ok o ρ2 =>
              rw [ee] at h
              intro w F2 H2 s2 R2 ro no
              dsimp only [Rs.bind] at h
              unfold augO at h
              cases eo : deref ρ2 o with
              | none => rw [eo] at h; exact False.elim h
              | some od =>
                rw [eo] at h
                cases od <;> try exact False.elim h
                rename_i b
                cases xd <;> try exact False.elim h
                rename_i a'
                cases rx
                have := (ro.ct R2 eo).int
                subst this
                exact ⟨a', b, rfl, rfl, put_ok R2 (s1.trans s2) (rk.step s2) (.int _) hv h⟩
  · exact False.elim h
end
end Dl

set_option maxRecDepth 100000
set_option maxHeartbeats 4000000
namespace Dl
open PySem PySem.Spec L2
set_option autoImplicit false
/-! ### a name's object is locked while it is walked -/
def lockS (ρ : Rho) (j : Nat) : Option (Slot × D) := match ρ[j]? with
  | some (.own d) => some (.own d, d)
  | some (.par d) => some (.par d, d)
  | _ => none
def unlk {α : Type} (j : Nat) (s : Slot) : Rs α → Rs α
  | .ok a ρ => .ok a (ρ.set j s)
  | .ex x ρ => .ex x (ρ.set j s)
  | .fail => .fail
def lkd {α : Type} (j : Nat) (m : Rho → Rs α) : Rho → Rs α := fun ρ => match lockS ρ j with
  | some (s, d) => unlk j s (m (ρ.set j (.lck d)))
  | none => m ρ
section
variable {K : PySem.W.Frag} {F H F' H' : Hp} {σ σ' : Sg} {ρ ρ' : Rho} {j : Nat} {s : Slot} {d : D}
theorem lock_in (R : Rel K F σ H ρ) (h : lockS ρ j = some (s, d)) : ρ[j]? = some s ∧ s.mine = true ∧ s.data? = some d ∧ Rel K F σ H (ρ.set j (.lck d)) ∧ (∀ i a, Mine σ (ρ.set j (.lck d)) i a ↔ Mine σ ρ i a) ∧ (ρ.set j (.lck d))[j]? = some (.lck d) := by
  have h1 : ρ[j]? = some s ∧ s.mine = true ∧ s.data? = some d := by
    unfold lockS at h
    cases e : ρ[j]? with
    | none => rw [e] at h; cases h
    | some t =>
      rw [e] at h
      cases t <;> first | (cases h; done) | (cases h; exact ⟨rfl, rfl, rfl⟩)
  obtain ⟨e, m, q⟩ := h1
  have il := (List.getElem?_eq_some_iff.mp e).1
  have mine : ∀ i a, Mine σ (ρ.set j (.lck d)) i a ↔ Mine σ ρ i a := fun i a => by
    by_cases hi : i = j
    · subst hi
      exact ⟨fun ⟨_, h⟩ => ⟨⟨s, e, m⟩, h⟩, fun ⟨_, h⟩ => ⟨⟨_, List.getElem?_set_self il, rfl⟩, h⟩⟩
    · unfold Mine
      rw [List.getElem?_set_ne (Ne.symm hi)]
  refine ⟨e, m, q, ⟨R.sub, by rw [List.length_set]; exact R.len, fun i d' e' => ?_, fun i t d' e' m' q' => ?_, fun i k a h1 h2 => R.sep i k a ((mine i a).mp h1) ((mine k a).mp h2), R.tab⟩, mine, List.getElem?_set_self il⟩
  · by_cases hi : i = j
    · subst hi; rw [List.getElem?_set_self il] at e'; cases e'
    · rw [List.getElem?_set_ne (Ne.symm hi)] at e'; exact R.dat i d' e'
  · by_cases hi : i = j
    · subst hi; rw [List.getElem?_set_self il] at e'; cases e'; cases q'
      exact R.own i s d e m q
    · rw [List.getElem?_set_ne (Ne.symm hi)] at e'; exact R.own i t d' e' m' q'
theorem lock_out (R : Rel K F σ H ρ) (h : lockS ρ j = some (s, d)) (st : StepS F H σ (ρ.set j (.lck d)) F' H' σ' ρ') (R' : Rel K F' σ' H' ρ') :
    Rel K F' σ' H' (ρ'.set j s) ∧ StepS F H σ ρ F' H' σ' (ρ'.set j s) ∧ (∀ i a, Mine σ' (ρ'.set j s) i a ↔ Mine σ' ρ' i a) := by
  obtain ⟨e, m, q, _, mi, el⟩ := lock_in R h
  obtain ⟨e', hσ⟩ := st.par.2 j d el
  have il := (List.getElem?_eq_some_iff.mp e').1
  have mine : ∀ i a, Mine σ' (ρ'.set j s) i a ↔ Mine σ' ρ' i a := fun i a => by
    by_cases hi : i = j
    · subst hi
      exact ⟨fun ⟨_, h⟩ => ⟨⟨_, e', rfl⟩, h⟩, fun ⟨_, h⟩ => ⟨⟨s, List.getElem?_set_self il, m⟩, h⟩⟩
    · unfold Mine
      rw [List.getElem?_set_ne (Ne.symm hi)]
  have ow0 : ∀ a, Own σ (ρ.set j (.lck d)) a ↔ Own σ ρ a := fun a => ⟨fun ⟨i, h⟩ => ⟨i, (mi i a).mp h⟩, fun ⟨i, h⟩ => ⟨i, (mi i a).mpr h⟩⟩
  refine ⟨⟨R'.sub, by rw [List.length_set]; exact R'.len, fun i d' h' => ?_, fun i t d' h' m' q' => ?_, fun i k a h1 h2 => R'.sep i k a ((mine i a).mp h1) ((mine k a).mp h2), R'.tab⟩, ⟨⟨st.fr.ext, fun a o h t f n => ?_⟩, ?_⟩, mine⟩
  · by_cases hi : i = j
    · subst hi; rw [List.getElem?_set_self il] at h'; cases h'; cases m
    · rw [List.getElem?_set_ne (Ne.symm hi)] at h'; exact R'.dat i d' h'
  · by_cases hi : i = j
    · subst hi; rw [List.getElem?_set_self il] at h'; cases h'
      rw [q] at q'; cases q'
      exact R'.own i _ d e' rfl rfl
    · rw [List.getElem?_set_ne (Ne.symm hi)] at h'; exact R'.own i t d' h' m' q'
  · obtain ⟨x, y, z⟩ := st.fr.keep a o h t f fun ho => n ((ow0 a).mp ho)
    exact ⟨x, y, fun ⟨i, h⟩ => z ⟨i, (mine i a).mp h⟩⟩
  · refine ⟨fun i d' h' => ?_, fun i d' h' => ?_⟩
    · by_cases hi : i = j
      · subst hi
        rw [e] at h'; cases h'
        exact ⟨⟨d', List.getElem?_set_self il⟩, hσ⟩
      · rw [List.getElem?_set_ne (Ne.symm hi)]
        exact st.par.1 i d' (by rw [List.getElem?_set_ne (Ne.symm hi)]; exact h')
    · by_cases hi : i = j
      · subst hi
        rw [e] at h'; cases h'
        exact ⟨List.getElem?_set_self il, hσ⟩
      · rw [List.getElem?_set_ne (Ne.symm hi)]
        exact st.par.2 i d' (by rw [List.getElem?_set_ne (Ne.symm hi)]; exact h')
end
section
variable {X : Cx} {W : WX} {pos : Pos}
theorem ro_set {K : PySem.W.Frag} {F' H' : Hp} {σ' : Sg} {ρ' : Rho} {j : Nat} {s : Slot} {d : D} {v : V} {o : Opd} (hj : ρ'[j]? = some (.lck d)) (q : s.data? = some d) (mine : ∀ i a, Mine σ' (ρ'.set j s) i a ↔ Mine σ' ρ' i a) (h : RO K F' H' σ' ρ' v o) : RO K F' H' σ' (ρ'.set j s) v o := by
  cases o with
  | val d => exact h
  | loc i =>
    obtain ⟨x, t, d', y, z⟩ := h
    refine ⟨x, ?_⟩
    by_cases hi : i = j
    · subst hi
      exact ⟨s, d, List.getElem?_set_self (List.getElem?_eq_some_iff.mp hj).1, q⟩
    · exact ⟨t, d', by rw [List.getElem?_set_ne (Ne.symm hi)]; exact y, z⟩
  | new d' =>
    obtain ⟨a, x, f, ow, n⟩ := h
    exact ⟨a, x, f, ow, fun ⟨i, m⟩ => n ⟨i, (mine i a).mp m⟩⟩
theorem ds_lock {st : Stmt} {m : MS} (j : Nat) (h : DS X W st m) : DS X W st (lkd j m) := by
  obtain ⟨t, p, q⟩ := h
  refine ⟨t, p, fun F σ H ρ Z R h => ?_⟩
  unfold lkd at h
  cases e : lockS ρ j with
  | none => rw [e] at h; exact q F σ H ρ Z R h
  | some z =>
    obtain ⟨s, d⟩ := z
    rw [e] at h
    obtain ⟨e0, m0, q0, R1, mi, el⟩ := lock_in R e
    have ow : ∀ a, Own σ ρ a → Own σ (ρ.set j (.lck d)) a := fun a ⟨i, hh⟩ => ⟨i, (mi i a).mpr hh⟩
    have ow' : ∀ a, Own σ (ρ.set j (.lck d)) a → Own σ ρ a := fun a ⟨i, hh⟩ => ⟨i, (mi i a).mp hh⟩
    refine q F σ H _ Z R1 ?_
    dsimp only at h
    have lo := fun {F' H' σ' ρ'} => lock_out (F' := F') (H' := H') (σ' := σ') (ρ' := ρ') R e
    cases er : m (ρ.set j (.lck d)) with
    | fail => rw [er] at h; exact h
    | ex x ρ' =>
      rw [er] at h
      exact fun cls dx σ' F' H' s' R' xa => let ⟨y1, y2, _⟩ := lo s' R'; h cls dx σ' F' H' y2 y1 xa
    | ok f ρ' =>
      rw [er] at h
      cases f with
      | nx => exact fun σ' F' H' s' R' => let ⟨y1, y2, _⟩ := lo s' R'; h σ' F' H' y2 y1
      | bk => exact fun σ' F' H' s' R' => let ⟨y1, y2, _⟩ := lo s' R'; h σ' F' H' y2 y1
      | ct => exact fun σ' F' H' s' R' => let ⟨y1, y2, _⟩ := lo s' R'; h σ' F' H' y2 y1
      | rt o => exact fun v σ' F' H' s' R' ro nw => let ⟨y1, y2, y3⟩ := lo s' R'; h v σ' F' H' y2 y1 (ro_set (s'.par.2 j d el).1 q0 y3 ro) fun hn a u e1 hb t f => ow' a (nw hn a u e1 hb t f)
theorem de_lock {e : Expr} {m : ME} (j : Nat) (h : DE X W e m) : DE X W e (lkd j m) := by
  obtain ⟨t, p, q⟩ := h
  refine ⟨t, p, fun F σ H ρ Q R h => ?_⟩
  unfold lkd at h
  cases el : lockS ρ j with
  | none => rw [el] at h; exact q F σ H ρ Q R h
  | some z =>
    obtain ⟨s, d⟩ := z
    rw [el] at h
    obtain ⟨e0, m0, q0, R1, mi, eL⟩ := lock_in R el
    have ow' : ∀ a, Own σ (ρ.set j (.lck d)) a → Own σ ρ a := fun a ⟨i, hh⟩ => ⟨i, (mi i a).mp hh⟩
    refine q F σ H _ Q R1 ?_
    dsimp only at h
    have lo : ∀ {F' H' ρ'}, Step F H σ (ρ.set j (.lck d)) F' H' ρ' → Rel X.K F' σ H' ρ' → Rel X.K F' σ H' (ρ'.set j s) ∧ Step F H σ ρ F' H' (ρ'.set j s) ∧ (∀ i a, Mine σ (ρ'.set j s) i a ↔ Mine σ ρ' i a) ∧ ρ'[j]? = some (.lck d) := fun {F' H' ρ'} s' R' => by
      obtain ⟨y1, y2, y3⟩ := lock_out R el s'.s R'
      refine ⟨y1, ⟨y2.fr, ?_⟩, y3, (s'.s.par.2 j d eL).1⟩
      refine ⟨by have := s'.kp.1; simp at this ⊢; exact this, fun i t et => ?_⟩
      by_cases hi : i = j
      · subst hi
        rw [e0] at et; cases et
        exact ⟨s, List.getElem?_set_self (List.getElem?_eq_some_iff.mp (s'.s.par.2 i d eL).1).1, KpS.refl s⟩
      · rw [List.getElem?_set_ne (Ne.symm hi)]
        exact s'.kp.2 i t (by rw [List.getElem?_set_ne (Ne.symm hi)]; exact et)
    cases er : m (ρ.set j (.lck d)) with
    | fail => rw [er] at h; exact h
    | ex x ρ' =>
      rw [er] at h
      exact fun cls dx F' H' s' R' xa => let ⟨y1, y2, _⟩ := lo s' R'; h cls dx F' H' y2 y1 xa
    | ok o ρ' =>
      rw [er] at h
      exact fun v F' H' s' R' ro nw => let ⟨y1, y2, y3, y4⟩ := lo s' R'; h v F' H' y2 y1 (ro_set y4 q0 y3 ro) fun hn a u e1 hb t f => ow' a (nw hn a u e1 hb t f)
/-! ### names of the module, None -/
theorem de_glob {x : Str} {v : V} {u : Value} {d : D} (hg : Gl X x) (hm : X.mg x = some u) (r : RelV v u) (hv : ∀ F, Rp X.K F v d) (hn : ∀ ps, d ≠ .dict ps := by intro ps h; cases h) (hd : (x == ("__debug__" : Str)) = false := by decide) : DE X W (.Name x pos) (eC d) :=
  ⟨_, pe_glob hg hm r hd, fun F σ H ρ Q R h => h v F H Step.refl R (hv F) (fun z => nomatch z)⟩
def pyIsN (d : D) : Option Opd := match d with
  | .none => some (vB true)
  | _ => some (vB false)
def pyNotN (d : D) : Option Opd := match d with
  | .none => some (vB false)
  | _ => some (vB true)
theorem ct_non {K : PySem.W.Frag} {F H : Hp} {v : V} {d : D} (c : Ct K F H v d) : decide (v = .non) = (match d with | .none => true | _ => false) := by
  rcases c with c | ⟨a, e, _, o⟩
  · cases c <;> simp
  · subst e
    cases d <;> first | exact False.elim o | simp
theorem snd_isN {K} : Snd1 K (fun x H Q => Q (.bl (decide (x = .non))) H) pyIsN := by
  intro F H v d o Q s c hf k
  have e := ct_non c
  cases d <;> (cases hf; simp only at e; rw [e]; exact same s (.bl _) k)
theorem snd_notN {K} : Snd1 K (fun x H Q => Q (.bl (!decide (x = .non))) H) pyNotN := by
  intro F H v d o Q s c hf k
  have e := ct_non c
  cases d <;> (cases hf; simp only at e; rw [e]; exact same s (.bl _) k)
theorem de_isN {a : Expr} {m : ME} {j pos'} (ha : DE X W a m) : DE X W (.Compare a [.Is] [.Constant .none j pos'] pos) (eOp1 pyIsN m) := by
  obtain ⟨t, p, q⟩ := ha
  exact ⟨_, pe_cmp (pc_isN p), op1_ok (r := fun x H Q => Q (.bl (decide (x = .non))) H) snd_isN q⟩
theorem de_notN {a : Expr} {m : ME} {j pos'} (ha : DE X W a m) : DE X W (.Compare a [.IsNot] [.Constant .none j pos'] pos) (eOp1 pyNotN m) := by
  obtain ⟨t, p, q⟩ := ha
  exact ⟨_, pe_cmp (pc_notN p), op1_ok (r := fun x H Q => Q (.bl (!decide (x = .non))) H) snd_notN q⟩
def fNeg (d : D) : Option Opd := match d with
  | .int i => some (vI (-i))
  | _ => none
theorem de_neg {a : Expr} {m : ME} (ha : DE X W a m) : DE X W (.UnaryOp .USub a pos) (eOp1 fNeg m) := by
  obtain ⟨t, p, q⟩ := ha
  refine ⟨_, pe_un un_neg p, op1_ok ?_ q⟩
  intro F H v d o Q s c hf k
  cases d <;> try (cases hf; done)
  cases hf
  cases c.int
  exact ⟨_, rfl, same s (.int _) k⟩
/-! ### x += e of ints -/
def sAugN (i : Nat) (f : Int → Int → Int) (me : ME) : MS := fun ρ => match ρ[i]? with
  | some (.dat (.int a)) => (me ρ).bind fun o ρ1 => (match deref ρ1 o with
    | some (.int b) => if free ρ1 i = true then .ok .nx (ρ1.set i (.dat (.int (f a b)))) else .fail
    | _ => .fail)
  | _ => .fail
theorem ds_augN {i : Nat} {x : Str} {e : Expr} {me : ME} {op : Operator} {f : Int → Int → Int} {pos' : Pos} (hp : ∀ {te : TE}, PE X e te → PS X (.AugAssign (.Name x pos') op e pos) (tAug i te (ipI f))) (he : DE X W e me) : DS X W (.AugAssign (.Name x pos') op e pos) (sAugN i f me) := by
  obtain ⟨t, p, q⟩ := he
  refine ⟨_, hp p, fun F σ H ρ Z R h => ?_⟩
  unfold sAugN at h
  cases es : ρ[i]? with
  | none => rw [es] at h; exact False.elim h
  | some s =>
    rw [es] at h
    cases s <;> try exact False.elim h
    rename_i d0
    cases d0 <;> try exact False.elim h
    rename_i a
    obtain ⟨v, hv, rv⟩ := R.dat i _ es
    cases rv
    refine ⟨_, hv, q F σ H ρ _ R (ES h fun o ρ1 w F1 H1 s1 R1 ro ns hq => ?_)⟩
    cases eo : deref ρ1 o with
    | none => rw [eo] at hq; exact False.elim hq
    | some d =>
      rw [eo] at hq
      cases d <;> try exact False.elim hq
      rename_i b
      have := (ro.ct R1 eo).int
      subst this
      dsimp only at hq
      split at hq
      · rename_i hf
        obtain ⟨R2, s2⟩ := set_dat (v := .int (f a b)) R1 (.int _) hf
        exact ⟨a, b, rfl, rfl, hq _ F1 H1 (s1.s.trans s2) R2⟩
      · exact False.elim hq
/-! ### a def that may be called -/
def Ok (P : Program) (w : World) (K : PySem.W.Frag) (mg : Str → Option Value) (base : Heap) (k : Nat) (name : Str) (ps : List Str) (sem : ME) : Prop :=
  ∃ fd, Binds K fd ps [] ∧ FnOk P w K mg base (L2.CX P w) k (He.ga K name) fd ps (spOf K ps.length sem) ∧ PySem.W.keepIn K (.ref (He.ga K name)) = true ∧ mg name = some (.ref (He.ga K name))
theorem de_callO {k : Nat} {ps : List Str} {x : Str} {p : Pos} {e : Expr} {es : List Expr} {sem : ME} {ma : MA} (fl : List Bool) (G : Ok X.prog X.w X.K X.mg X.base k x ps sem) (hr : Room k X.A) (hg : Gl X x) (tk : Takes X W)
    (ha : DA X W (e :: es) ma) (hdb : (x == ("__debug__" : Str)) = false := by decide) (he : starEach (e :: es) X.env = (false, eval e X.env) :: starEach es X.env := by rfl) (hpl : (backTo pos (starEach es X.env)).any (·.1) = false := by rfl) :
    DE X W (.Call (.Name x p) (e :: es) [] pos) (eCall ps.length fl sem ma) := by
  obtain ⟨fd, hb, F, hk, hm⟩ := G
  exact de_call fl F hr hg hm hk hb tk ha hdb he hpl
theorem Ok.mono {P : Program} {w : World} {K : PySem.W.Frag} {mg : Str → Option Value} {base : Heap} {k j : Nat} {name : Str} {ps : List Str} {sem : ME} (h : Ok P w K mg base k name ps sem) (l : k ≤ j) : Ok P w K mg base j name ps sem :=
  let ⟨fd, a, F, b, c⟩ := h; ⟨fd, a, F.mono l, b, c⟩
theorem ok_of {P : Program} {w : World} {K : PySem.W.Frag} {mg : Str → Option Value} {base : Heap} {x qual : Str} {params : Arguments} {body : List Stmt} {scope : Scope} {fd : FuncData} {N ps : List Str} {k : Nat} {mb : MS}
    (F : FunD K x qual params body scope [] [] (He.ga K x) fd) (hm : mg x = some (.ref (He.ga K x))) (S : FnScope N ps scope) (hbi : Binds K fd ps [])
    (hb : ∀ (cdv : Value) (A : Around) (outer : List Env) (s : Shared) (H : Hp) (E : XK), Room k (A.deeper (PyProof.Rows.envOfC qual scope s.heap.objs.size (He.ga K x) cdv)) → DSs (cxOf (L2.CX P w) P w K mg base N qual scope (He.ga K x) cdv A outer s H E) (fun cls d _ H => E cls d H) body mb) :
    Ok P w K mg base (k + 1) x ps (fnSem ps.length N.length mb) := ⟨fd, hbi, fn_ok F S fun cdv A outer s H E _ hr => hb cdv A outer s H E hr, F.kp, hm⟩
theorem ok_ofC {P : Program} {w : World} {K : PySem.W.Frag} {mg : Str → Option Value} {base : Heap} {x qual : Str} {params : Arguments} {body : List Stmt} {scope : Scope} {fd : FuncData} {N ps : List Str} {k : Nat} {mb : MS}
    (F : FunD K x qual params body scope [] [] (He.ga K x) fd) (hm : mg x = some (.ref (He.ga K x))) (S : FnScope N ps scope) (hbi : Binds K fd ps [])
    (hb : ∀ (cdv : Value) (A : Around) (outer : List Env) (s : Shared) (H : Hp) (E : XK), fd.code = cdv → Room k (A.deeper (PyProof.Rows.envOfC qual scope s.heap.objs.size (He.ga K x) cdv)) → DSs (cxOf (L2.CX P w) P w K mg base N qual scope (He.ga K x) cdv A outer s H E) (fun cls d _ H => E cls d H) body mb) :
    Ok P w K mg base (k + 1) x ps (fnSem ps.length N.length mb) := ⟨fd, hbi, fn_ok F S hb, F.kp, hm⟩
theorem ok_zero {P : Program} {w : World} {K : PySem.W.Frag} {mg : Str → Option Value} {base : Heap} {x qual : Str} {params : Arguments} {body : List Stmt} {scope : Scope} {fd : FuncData} {ps : List Str} {k : Nat}
    (F : FunD K x qual params body scope [] [] (He.ga K x) fd) (hm : mg x = some (.ref (He.ga K x))) (hbi : Binds K fd ps []) : Ok P w K mg base k x ps (fun _ => .fail) :=
  ⟨fd, hbi, ⟨fun vs H Q E h => h.1, fun A outer s H args us vs Q E _ _ _ _ h => False.elim (by obtain ⟨_, F, cs, _, _, z⟩ := h; exact z)⟩, F.kp, hm⟩
end
end Dl

set_option maxRecDepth 100000
set_option maxHeartbeats 4000000
namespace Dl
open PySem PySem.Spec L2
set_option autoImplicit false
/-! ### the law's own def -/
def handD (ns : List Int) : D := .list [.list (ns.map .int), .int 0, .int 0, .int 0, .int 20011, .int 40009]
def spHand (K : PySem.W.Frag) : Sp := fun vs H Q _ => ∃ (a : Addr) (ns : List Int), vs = [.ref a] ∧ SqL K H a (ns.map V.int) ∧ ns.length ≤ 63 ∧
  ∀ l p H', (∀ b o, H b = some o → H' b = some o) → H l = none → H p = none → l ≠ p → H' l = some (.lst (ns.map V.int)) → H' p = some (.lst [.ref l, .int 0, .int 0, .int 0, .int 20011, .int 40009]) → Q (.ref p) H'
theorem cut63 {vs : List V} (h : vs.length ≤ 63) : cutV vs none (some 63) = vs := by
  unfold cutV HT.sIx
  simp
  rw [Nat.min_eq_right h, List.take_length]
def spLaw (K : PySem.W.Frag) : Sp := fun vs H Q _ => LamX.Tabs (tabsOf K) H ∧ ∃ (a : Addr) (ns : List Int), vs = [.ref a] ∧ SqL K H a (ns.map V.int) ∧ ns.length ≤ 63 ∧ ∀ H', Q (.bl true) H'
theorem ints_rp {K : PySem.W.Frag} {F : Hp} : ∀ ns : List Int, RpA K F (ns.map V.int) (ns.map PyData.int)
  | [] => .nil
  | n :: ns => .cons (.int n) (ints_rp ns)
/-- the law: its first statement makes the hand, the rest runs on it -/
theorem law_ok {P : Program} {w : World} {K : PySem.W.Frag} {mg : Str → Option Value} {base : Heap} {x qual : Str} {params : Arguments} {rest : List Stmt} {scope : Scope} {kws : List (Str × V)} {f : Addr} {fd : FuncData} {N : List Str} {k : Nat} {mb : MS} {first : Stmt} {ps : List Str}
    (F : FunD K x qual params (first :: rest) scope [] kws f fd) (S : FnScope N ps scope) (hps : ps.length = 1) (hN : 2 ≤ N.length)
    (h1 : ∀ (cdv : Value) (A : Around) (outer : List Env) (s : Shared) (H : Hp) (E : XK), Room k (A.deeper (PyProof.Rows.envOfC qual scope s.heap.objs.size f cdv)) → PS (cxOf L2.CX0 P w K mg base N qual scope f cdv A outer s H E) first (tAsg (tCall (spHand K) [] L2.E0 (tCons (tVar 0) tNil)) (gName 1)))
    (hb : ∀ (cdv : Value) (A : Around) (outer : List Env) (s : Shared) (H : Hp) (E : XK), Room k (A.deeper (PyProof.Rows.envOfC qual scope s.heap.objs.size f cdv)) → DSs (cxOf L2.CX0 P w K mg base N qual scope f cdv A outer s H E) W0 rest mb)
    (ht : ∀ ns : List Int, ns.length ≤ 63 → ∃ ρ, mb (.un :: .own (handD ns) :: List.replicate (N.length - 2) .un) = .ok (.rt (.val (.bool true))) ρ) :
    FnOk P w K mg base L2.CX0 (k + 1) f fd ps (spLaw K) := by
  refine F.ok S (fun vs H Q E h => by obtain ⟨_, a, ns, rfl, _⟩ := h; exact hps.symm) fun cdv A outer s H vs Q E hr h => ?_
  obtain ⟨hTab, a, ns, rfl, hS, hl, hQ⟩ := h
  obtain ⟨t, p, q⟩ := hb cdv A outer s H E hr
  refine ⟨_, pss_cons (h1 cdv A outer s H E hr) p, ?_⟩
  obtain ⟨n, en⟩ : ∃ n, N.length = n + 2 := ⟨N.length - 2, by omega⟩
  have est : L2.start N [V.ref a] = some (.ref a) :: none :: List.replicate n none := by
    unfold L2.start
    rw [en]
    rfl
  rw [est]
  refine ⟨.ref a, rfl, a, ns, rfl, hS, hl, fun l pp H' kp nl np ne hl' hp' => ?_⟩
  -- the hand is there
  let F0 : Hp := fun b => if b = l then H' l else none
  have f0 : F0 l = H' l := if_pos rfl
  have f1 : ∀ b, b ≠ l → F0 b = none := fun b h => if_neg h
  have R : Rel K F0 (some (.ref a) :: some (.ref pp) :: List.replicate n none) H' (.un :: .own (handD ns) :: List.replicate (N.length - 2) .un) := by
    refine ⟨fun b o e => ?_, by simp [en], fun i d e => ?_, fun i s d e m q => ?_, fun i j b m1 m2 => ?_, tabs_ext kp hTab⟩
    · by_cases hb : b = l
      · subst hb; rw [f0, hl'] at e; cases e; exact ⟨.inl hl', trivial⟩
      · rw [f1 b hb] at e; cases e
    · match i with
      | 0 => cases e
      | 1 => cases e
      | i + 2 =>
        have e : (List.replicate (N.length - 2) Slot.un)[i]? = some (.dat d) := e
        rw [List.getElem?_replicate] at e
        split at e <;> cases e
    · match i with
      | 0 => cases e; cases m
      | 1 =>
        cases e; cases q
        exact ⟨pp, rfl, f1 pp (Ne.symm ne), [.ref l, .int 0, .int 0, .int 0, .int 20011, .int 40009], hp', .cons (.lst (by rw [f0]; exact hl') (ints_rp ns)) (.cons (.int 0) (.cons (.int 0) (.cons (.int 0) (.cons (.int 20011) (.cons (.int 40009) .nil)))))⟩
      | i + 2 =>
        have e : (List.replicate (N.length - 2) Slot.un)[i]? = some s := e
        rw [List.getElem?_replicate] at e
        split at e
        · cases e; cases m
        · cases e
    · have one : ∀ {i b}, Mine (some (.ref a) :: some (.ref pp) :: List.replicate n none) (.un :: .own (handD ns) :: List.replicate (N.length - 2) .un) i b → i = 1 := fun {i b} ⟨⟨s, e, m⟩, _⟩ => by
        match i with
        | 0 => cases e; cases m
        | 1 => rfl
        | i + 2 =>
          have e : (List.replicate (N.length - 2) Slot.un)[i]? = some s := e
          rw [List.getElem?_replicate] at e
          split at e
          · cases e; cases m
          · cases e
      rw [one m1, one m2]
  refine q F0 _ H' _ _ R ?_
  obtain ⟨ρ, e⟩ := ht ns hl
  rw [e]
  exact fun v σ' F' H'' s' R' ro _ => by
    have ro : Rp K F' v (.bool true) := ro
    cases ro
    exact hQ H''
/-- _law_hand -/
theorem hand_ok {P : Program} {w : World} {K : PySem.W.Frag} {mg : Str → Option Value} {base : Heap} {qual : Str} {params : Arguments} {scope : Scope} {kws : List (Str × V)} {f : Addr} {fd : FuncData} {p1 p2 p3 p4 p5 p6 p7 p8 p9 p10 p11 p12 p13 : Pos} {k1 k2 k3 k4 k5 k6 : Nat}
    (F : FunD K "_law_hand" qual params [.Return (some (.List [.Call (.Name "list" p1) [.Subscript (.Name "_law_script" p2) (.Slice none (some (.Constant (.int 63) k1 p3)) none p4) p5] [] p6, .Constant (.int 0) k2 p7, .Constant (.int 0) k3 p8, .Constant (.int 0) k4 p9, .Constant (.int 20011) k5 p10, .Constant (.int 40009) k6 p11] p12)) p13] scope [] kws f fd)
    (S : FnScope ["_law_script"] ["_law_script"] scope) (hl : scope.names.lookup ("list" : Str) = some .globalImplicit) (hv : scope.names.lookup ("_law_script" : Str) = some .local) (nl : mg "list" = none) : FnOk P w K mg base L2.CX0 1 f fd ["_law_script"] (spHand K) := by
  refine F.ok S (fun vs H Q E h => by obtain ⟨a, ns, rfl, _⟩ := h; rfl) fun cdv A outer s H vs Q E hr h => ?_
  obtain ⟨a, ns, rfl, hS, hn, q⟩ := h
  refine ⟨_, pss_one (ps_ret (pe_lst (pa_cons (pe_callTy call_list_of hl nl (by decide +kernel) (pa_cons (pe_slice sl_list (pe_var (i := 0) rfl (.inl hv)) po_none (po_some pe_int)) pa_nil)) (pa_cons pe_int (pa_cons pe_int (pa_cons pe_int (pa_cons pe_int (pa_cons pe_int pa_nil)))))))), ?_⟩
  refine ⟨.ref a, rfl, 63, rfl, a, ns.map V.int, rfl, hS, fun p0 n0 => ⟨p0, _, rfl, .inl (SqL.of upd_same), fun l nl => ⟨by show 6 ≤ sizeLine; rw [sizeLine_eq]; omega, fun p np => ?_⟩⟩⟩
  rw [cut63 (by simpa using hn)] at *
  have h1 : ∀ b o, H b = some o → b ≠ p0 := fun b o h => ne_of_none h n0
  have n1 : l ≠ p0 := by rintro rfl; rw [upd_same] at nl; cases nl
  have nl' : H l = none := by rw [upd_ne n1] at nl; exact nl
  have n2 : p ≠ l := by rintro rfl; rw [upd_same] at np; cases np
  have np1 : upd H p0 (.lst (ns.map V.int)) p = none := by rw [upd_ne n2] at np; exact np
  have n3 : p ≠ p0 := by rintro rfl; rw [upd_same] at np1; cases np1
  have np' : H p = none := by rw [upd_ne n3] at np1; exact np1
  refine q l p _ (fun b o h => ?_) nl' np' (Ne.symm n2) ?_ ?_
  · rw [upd_ne (ne_of_none h np'), upd_ne (ne_of_none h nl'), upd_ne (ne_of_none h n0)]; exact h
  · rw [upd_ne (Ne.symm n2), upd_same]
  · exact upd_same
end Dl

set_option maxRecDepth 100000
set_option maxHeartbeats 4000000
namespace Dl
open PySem PySem.Spec L2
set_option autoImplicit false
/-! ### sorted -/
/-- x is not behind y -/
def strLe (x y : Str) : Bool := !decide (y.cps.toList < x.cps.toList)
def sortStr (xs : List Str) : List Str := xs.mergeSort strLe
theorem strLe_trans (a b c : Str) (h1 : strLe a b = true) (h2 : strLe b c = true) : strLe a c = true := by
  unfold strLe at *
  simp only [Bool.not_eq_true', decide_eq_false_iff_not] at *
  exact List.le_trans h1 h2
theorem strLe_total (a b : Str) : (strLe a b || strLe b a) = true := by
  unfold strLe
  simp only [Bool.or_eq_true, Bool.not_eq_true', decide_eq_false_iff_not]
  exact List.le_total a.cps.toList b.cps.toList
theorem strLe_anti {a b : Str} (h1 : strLe a b = true) (h2 : strLe b a = true) : a = b := by
  unfold strLe at *
  simp only [Bool.not_eq_true', decide_eq_false_iff_not] at *
  have := List.le_antisymm h1 h2
  obtain ⟨⟨x⟩⟩ := a
  obtain ⟨⟨y⟩⟩ := b
  simp at this
  rw [this]
theorem rising_le {p x : Str} {r : List Str} (h : PyProof.Rows.risingS p (x :: r) = true) : strLe p x = true ∧ PyProof.Rows.risingS x r = true := by
  unfold PyProof.Rows.risingS at h
  rw [Bool.and_eq_true] at h
  refine ⟨?_, h.2⟩
  unfold strLe
  rw [← PyProof.Rows.ltCps_eq]
  exact h.1
theorem risingS_pw : ∀ (r : List Str) (x : Str), PyProof.Rows.risingS x r = true → (x :: r).Pairwise fun a b => strLe a b = true
  | [], x, _ => by simp
  | y :: r, x, h => by
    obtain ⟨h1, h2⟩ := rising_le h
    have ih := risingS_pw r y h2
    refine List.pairwise_cons.mpr ⟨fun z hz => ?_, ih⟩
    rcases List.mem_cons.mp hz with e | hz
    · rw [e]; exact h1
    · exact strLe_trans _ _ _ h1 ((List.pairwise_cons.mp ih).1 z hz)
theorem sortStr_eq {xs ys : List Str} (h : ys.Perm xs) (s : PyProof.Rows.sortedS ys = true) : ys = sortStr xs := by
  refine List.Perm.eq_of_pairwise (le := fun a b => strLe a b = true) (fun a b _ _ h1 h2 => strLe_anti h1 h2) ?_ (List.pairwise_mergeSort (le := strLe) strLe_trans strLe_total xs) (h.trans (List.mergeSort_perm xs strLe).symm)
  cases ys with
  | nil => exact .nil
  | cons x r => exact risingS_pw r x s
def intLe (a b : Int) : Bool := decide (a ≤ b)
def sortInt (xs : List Int) : List Int := xs.mergeSort intLe
theorem sortInt_eq {xs ys : List Int} (h : ys.Perm xs) (s : ys.Pairwise (· ≤ ·)) : ys = sortInt xs := by
  refine List.Perm.eq_of_pairwise (le := (· ≤ ·)) (fun a b _ _ h1 h2 => Int.le_antisymm h1 h2) s ?_ (h.trans (List.mergeSort_perm xs intLe).symm)
  have := List.pairwise_mergeSort (le := intLe) (fun a b c h1 h2 => by unfold intLe at *; simp at *; omega) (fun a b => by unfold intLe; simp; omega) xs
  exact this.imp fun h => by simpa [intLe] using h
def strsOf : List D → Option (List Str)
  | [] => some []
  | .str x :: ds => (strsOf ds).map (x :: ·)
  | _ => none
def intsOf : List D → Option (List Int)
  | [] => some []
  | .int x :: ds => (intsOf ds).map (x :: ·)
  | _ => none
theorem strs_rel {K : PySem.W.Frag} {F : Hp} : ∀ {ds : List D} {vs : List V} {bs : List Str}, RpA K F vs ds → strsOf ds = some bs → vs = bs.map V.str
  | _, _, bs, .nil, h => by cases h; rfl
  | d :: ds, v :: vs, bs, .cons r rs, h => by
    cases d <;> try (cases h; done)
    rename_i b
    unfold strsOf at h
    cases e : strsOf ds with
    | none => rw [e] at h; cases h
    | some bs' =>
      rw [e] at h
      cases h
      cases r
      rw [List.map_cons, strs_rel rs e]
theorem ints_rel {K : PySem.W.Frag} {F : Hp} : ∀ {ds : List D} {vs : List V} {bs : List Int}, RpA K F vs ds → intsOf ds = some bs → vs = bs.map V.int
  | _, _, bs, .nil, h => by cases h; rfl
  | d :: ds, v :: vs, bs, .cons r rs, h => by
    cases d <;> try (cases h; done)
    rename_i b
    unfold intsOf at h
    cases e : intsOf ds with
    | none => rw [e] at h; cases h
    | some bs' =>
      rw [e] at h
      cases h
      cases r
      rw [List.map_cons, ints_rel rs e]
theorem strs_rp {K : PySem.W.Frag} {F : Hp} : ∀ ns : List Str, RpA K F (ns.map V.str) (ns.map PyData.str)
  | [] => .nil
  | n :: ns => .cons (.str n) (strs_rp ns)
def sortDs (ds : List D) : Option (List D) := match intsOf ds with
  | some is => some ((sortInt is).map .int)
  | none => (match strsOf ds with
    | some ss => if ss.length < 64 then some ((sortStr ss).map .str) else none
    | none => none)
def fSorted : List D → Option Opd
  | [.list ds] => (sortDs ds).map fun es => .new (.list es)
  | [.dict ps] => if ps.length < 64 then (sortDs (ps.map (·.1))).map fun es => .new (.list es) else none
  | _ => none
def rSortU (K : PySem.W.Frag) : List V → Hp → VK → Prop := fun vs H Q => rSortedI K vs H Q ∨ rSortedS K vs H Q ∨
  (∃ (a : Addr) (kvs : List (Key × V)) (ks : List Str), vs = [.ref a] ∧ Rd H a (.dK kvs) ∧ kvs.map (·.1) = ks.map Sum.inr ∧ ks.length < 64 ∧ ∀ ys p, ys.Perm ks → PyProof.Rows.sortedS ys = true → H p = none → Q (.ref p) (upd H p (.lst (ys.map V.str)))) ∨
  (∃ (a : Addr) (kvs : List (Key × V)) (ks : List Int), vs = [.ref a] ∧ Rd H a (.dK kvs) ∧ kvs.map (·.1) = ks.map Sum.inl ∧ ks.length < 64 ∧ ∀ (ys : List Int) (p : Addr), ys.Perm ks → ys.Pairwise (· ≤ ·) → H p = none → Q (.ref p) (upd H p (.lst (ys.map V.int))))
theorem call_sortU {X : Cx} (hc : X.calm = true) : CallR X (.builtin "sorted") (rSortU X.K) := cr_sortedI.or (cr_sortedS.or ((call_sortedD hc).or (call_sortedDI hc)))
theorem keys_int : ∀ {K : PySem.W.Frag} {F : Hp} {kvs : List (Key × V)} {ps : List (D × D)} {is : List Int}, RpD K F kvs ps → intsOf (ps.map (·.1)) = some is → kvs.map (·.1) = is.map Sum.inl
  | _, _, _, _, is, .nil, h => by cases h; rfl
  | _, _, (k, v) :: kvs, (c, d) :: ps, is, .cons e r rs, h => by
    cases k with
    | inr x => subst e; cases h
    | inl i =>
      subst e
      simp only [List.map_cons, intsOf] at h
      cases e2 : intsOf (ps.map (·.1)) with
      | none => rw [e2] at h; cases h
      | some js =>
        rw [e2] at h
        cases h
        rw [List.map_cons, List.map_cons, keys_int rs e2]
theorem keys_str : ∀ {K : PySem.W.Frag} {F : Hp} {kvs : List (Key × V)} {ps : List (D × D)} {is : List Str}, RpD K F kvs ps → strsOf (ps.map (·.1)) = some is → kvs.map (·.1) = is.map Sum.inr
  | _, _, _, _, is, .nil, h => by cases h; rfl
  | _, _, (k, v) :: kvs, (c, d) :: ps, is, .cons e r rs, h => by
    cases k with
    | inl x => subst e; cases h
    | inr i =>
      subst e
      simp only [List.map_cons, strsOf] at h
      cases e2 : strsOf (ps.map (·.1)) with
      | none => rw [e2] at h; cases h
      | some js =>
        rw [e2] at h
        cases h
        rw [List.map_cons, List.map_cons, keys_str rs e2]
theorem snd_sorted {K} : SndC K (rSortU K) fSorted := by
  intro F H vs ds o Q s cs hf k
  unfold fSorted at hf
  split at hf
  · rename_i es
    obtain ⟨v, rfl, c⟩ := one_ct cs
    obtain ⟨a, ws, rfl, h, r⟩ := c.list s
    unfold sortDs at hf
    cases ei : intsOf es with
    | some is =>
      rw [ei] at hf
      cases hf
      have := ints_rel r ei
      subst this
      exact .inl ⟨a, is, rfl, SqL.of h, fun ns' p hp hs np => by rw [sortInt_eq hp hs]; exact newL s (ints_rp _) k p np⟩
    | none =>
      rw [ei] at hf
      dsimp only at hf
      cases es2 : strsOf es with
      | none => rw [es2] at hf; cases hf
      | some ss =>
        rw [es2] at hf
        dsimp only at hf
        split at hf
        · rename_i hz
          cases hf
          have := strs_rel r es2
          subst this
          exact .inr (.inl ⟨a, ss, rfl, SqL.of h, hz, fun ns' p hp hs np => by rw [sortStr_eq hp hs]; exact newL s (strs_rp _) k p np⟩)
        · cases hf
  · rename_i ps
    split at hf
    · rename_i hz
      obtain ⟨v, rfl, c⟩ := one_ct cs
      obtain ⟨a, kvs, rfl, h, r⟩ := c.dict s
      unfold sortDs at hf
      cases ei : intsOf (ps.map (·.1)) with
      | some is =>
        rw [ei] at hf
        cases hf
        have e := keys_int r ei
        have hl : is.length < 64 := by
          have := congrArg List.length e
          simp at this
          rw [← this, r.length]; exact hz
        exact .inr (.inr (.inr ⟨a, kvs, is, rfl, h, e, hl, fun ns' p hp hs np => by rw [sortInt_eq hp hs]; exact newL s (ints_rp _) k p np⟩))
      | none =>
        rw [ei] at hf
        dsimp only at hf
        cases es2 : strsOf (ps.map (·.1)) with
        | none => rw [es2] at hf; cases hf
        | some ss =>
          rw [es2] at hf
          dsimp only at hf
          split at hf
          · rename_i hz2
            cases hf
            exact .inr (.inr (.inl ⟨a, kvs, ss, rfl, h, keys_str r es2, hz2, fun ns' p hp hs np => by rw [sortStr_eq hp hs]; exact newL s (strs_rp _) k p np⟩))
          · cases hf
    · cases hf
  · cases hf
/-! ### sep.join(list), {} , d[k] = v -/
def pyJoin (d e : D) : Option Opd := match d, e with
  | .str a, .list ds => (match strsOf ds with
    | some ys => if (ys.map (·.length)).sum + ys.length * a.length ≤ 16777216 then some (vS (Txt.join a ys)) else none
    | none => none)
  | _, _ => none
section
variable {X : Cx} {W : WX} {pos : Pos}
theorem de_join {o e : Expr} {mo me : ME} {apos pos : Pos} (ho : DE X W o mo) (he : DE X W e me) (hs : starEach [e] X.env = [(false, eval e X.env)] := by rfl) (hbase : attributeBase o "join" X.env (eval o X.env) = eval o X.env := by rfl) (hline : (apos.endLine == pos.line) = true := by rfl)
    (hstr : ∀ ρ o ρ1, mo ρ = .ok o ρ1 → ∃ a, o = .val (.str a)) : DE X W (.Call (.Attribute o "join" apos) [e] [] pos) (eOp2 pyJoin mo me) := by
  obtain ⟨t, p, q⟩ := ho
  obtain ⟨u, p2, q2⟩ := he
  refine ⟨_, pe_join p p2 hs hbase hline, fun F σ H ρ Q R h => ?_⟩
  refine q F σ H ρ _ R ?_
  unfold eOp2 at h
  cases eo : mo ρ with
  | fail => rw [eo] at h; exact h
  | ex x ρ' => rw [eo] at h; exact h
  | ok oo ρ1 =>
    obtain ⟨a, rfl⟩ := hstr ρ oo ρ1 eo
    rw [eo] at h
    intro v F1 H1 s1 R1 ro ns
    have ro : Rp X.K F1 v (.str a) := ro
    cases ro
    refine ⟨⟨_, rfl⟩, q2 F1 σ H1 ρ1 _ R1 ?_⟩
    have h1 := EPost.step s1 h
    dsimp only [Rs.bind] at h1
    cases ee : me ρ1 with
    | fail => rw [ee] at h1; exact h1
    | ex x ρ' => rw [ee] at h1; exact h1
    | ok o2 ρ2 =>
      rw [ee] at h1
      intro w F2 H2 s2 R2 ro2 ns2
      have h2 := EPost.step s2 h1
      unfold run2 at h2
      have e0 : deref ρ2 (.val (.str a)) = some (.str a) := rfl
      dsimp only at h2
      rw [e0] at h2
      cases ed : deref ρ2 o2 with
      | none => rw [ed] at h2; exact False.elim h2
      | some d =>
        rw [ed] at h2
        dsimp only at h2
        unfold pyJoin at h2
        cases d <;> try exact False.elim h2
        rename_i ds
        dsimp only at h2
        cases es : strsOf ds with
        | none => rw [es] at h2; exact False.elim h2
        | some ys =>
          rw [es] at h2
          dsimp only at h2
          split at h2
          · rename_i o' eo'
            split at eo'
            · rename_i hz
              cases eo'
              obtain ⟨b, vs, rfl, hh, r⟩ := (ro2.ct R2 ed).list R2.sub
              have := strs_rel r es
              subst this
              exact ⟨a, b, ys, rfl, rfl, .inl (SqL.of hh), hz, same R2.sub (.str _) fun u F' H' g rn => by
                obtain ⟨z1, z2⟩ := rn.ro R2
                exact h2 u F' H' g.step (g.rel R2) z1 z2⟩
            · cases eo'
          · exact False.elim h2
theorem de_dict0 : DE X W (.Dict [] [] pos) (fun ρ => .ok (.new (.dict [])) ρ) := ⟨_, pe_dnewK, fun F σ H ρ Q R h p np => by
  obtain ⟨f, g, _⟩ := upd_fresh (K := X.K) (o := .dK []) R.sub np trivial
  exact h (.ref p) F _ g.step (g.rel R) ⟨p, rfl, f, ⟨[], upd_same, .nil⟩, not_own R np⟩ (new_sep Step.refl np)⟩
/-! ### dicts: in, d[k] = v -/
def hasK (e d : D) : Option Bool := match d with
  | .dict ps => (match keyOf e with
    | some κ => some (dlook ps κ).isSome
    | none => none)
  | _ => none
def pyInK (e d : D) : Option Opd := (hasK e d).map fun b => vB b
def pyNotInK (e d : D) : Option Opd := (hasK e d).map fun b => vB (!b)
theorem hasK_ok {K : PySem.W.Frag} {F H : Hp} {v w : V} {e d : D} {b : Bool} (s : Sub F H) (cv : Ct K F H v e) (cw : Ct K F H w d) (h : hasK e d = some b) : ∃ a o, w = .ref a ∧ DGet H a v o ∧ o.isSome = b := by
  cases d <;> try (cases h; done)
  rename_i ps
  unfold hasK at h
  dsimp only at h
  cases ek : keyOf e with
  | none => rw [ek] at h; cases h
  | some κ =>
    rw [ek] at h
    cases h
    obtain ⟨a, kvs, rfl, hh, r⟩ := cw.dict s
    cases keyOf_v cv ek
    refine ⟨a, _, rfl, DGet.rd hh, ?_⟩
    obtain ⟨l1, l2⟩ := look_rel (k := κ) r
    cases e : dlook ps κ with
    | none => rw [l2 e]; rfl
    | some d => obtain ⟨v, hv, _⟩ := l1 d e; rw [hv]; rfl
theorem de_inK {i o : Expr} {mi mo : ME} (hu : X.A.units + 1 < cLine) (hi : DE X W i mi) (ho : DE X W o mo) (hb : behindInMarks .In o = false := by rfl) : DE X W (.Compare i [.In] [o] pos) (eOp2 pyInK mi mo) := by
  obtain ⟨t, p, q⟩ := hi
  obtain ⟨u, p2, q2⟩ := ho
  refine ⟨_, pe_cmp (pc_din hu p p2) hb, op2_ok (r := fun y x H Q => ∃ a o, x = .ref a ∧ DGet H a y o ∧ Q (.bl o.isSome) H) ?_ q q2⟩
  intro F H v w e d o Q s cv cw hf k
  unfold pyInK at hf
  cases h : hasK e d with
  | none => rw [h] at hf; cases hf
  | some b =>
    rw [h] at hf
    cases hf
    obtain ⟨a, ov, e1, g, eb⟩ := hasK_ok s cv cw h
    exact ⟨a, ov, e1, g, by rw [eb]; exact same s (.bl _) k⟩
theorem de_notInK {i o : Expr} {mi mo : ME} (hu : X.A.units + 1 < cLine) (hi : DE X W i mi) (ho : DE X W o mo) (hb : behindInMarks .NotIn o = false := by rfl) : DE X W (.Compare i [.NotIn] [o] pos) (eOp2 pyNotInK mi mo) := by
  obtain ⟨t, p, q⟩ := hi
  obtain ⟨u, p2, q2⟩ := ho
  refine ⟨_, pe_cmp (pc_dnotin hu p p2) hb, op2_ok (r := fun y x H Q => ∃ a o, x = .ref a ∧ DGet H a y o ∧ Q (.bl (!o.isSome)) H) ?_ q q2⟩
  intro F H v w e d o Q s cv cw hf k
  unfold pyNotInK at hf
  cases h : hasK e d with
  | none => rw [h] at hf; cases hf
  | some b =>
    rw [h] at hf
    cases hf
    obtain ⟨a, ov, e1, g, eb⟩ := hasK_ok s cv cw h
    exact ⟨a, ov, e1, g, by rw [eb]; exact same s (.bl _) k⟩
def keyD : Key → D
  | .inl i => .int i
  | .inr x => .str x
theorem keyOf_D (κ : Key) : keyOf (keyD κ) = some κ := by cases κ <;> rfl
/-- in its place, or behind -/
def dput (ps : List (D × D)) (κ : Key) (v : D) : List (D × D) :=
  if ps.any (fun p => decide (keyOf p.1 = some κ)) = true then ps.map (fun p => if keyOf p.1 = some κ then (p.1, v) else p) else ps ++ [(keyD κ, v)]
def setK (d k v : D) : Option D := match d with
  | .dict ps => (match keyOf k with
    | some κ => if ps.length < sizeLine then some (.dict (dput ps κ v)) else none
    | none => none)
  | _ => none
theorem RpD.key {K : PySem.W.Frag} {F : Hp} {k : Key} {v : V} {c d : D} {kvs : List (Key × V)} {ps : List (D × D)} (r : RpD K F ((k, v) :: kvs) ((c, d) :: ps)) : c = keyD k ∧ Rp K F v d ∧ RpD K F kvs ps := by
  cases r with
  | cons e h r => exact ⟨by cases k <;> exact e, h, r⟩
theorem RpD.mk {K : PySem.W.Frag} {F : Hp} {k : Key} {v : V} {d : D} {kvs : List (Key × V)} {ps : List (D × D)} (h : Rp K F v d) (r : RpD K F kvs ps) : RpD K F ((k, v) :: kvs) ((keyD k, d) :: ps) := .cons (by cases k <;> rfl) h r
theorem RpD.any {K : PySem.W.Frag} {F : Hp} {k : Key} : ∀ {kvs : List (Key × V)} {ps : List (D × D)}, RpD K F kvs ps → kvs.any (fun kv => decide (kv.1 = k)) = ps.any (fun p => decide (keyOf p.1 = some k))
  | [], [], _ => rfl
  | [], _ :: _, r => by cases r
  | _ :: _, [], r => by cases r
  | (k', v) :: kvs, (c, d) :: ps, r => by
    obtain ⟨e, h, r'⟩ := r.key
    subst e
    rw [List.any_cons, List.any_cons, RpD.any r', keyOf_D]
    have : decide ((k', v).1 = k) = decide (some (k', v).1 = some k) := by simp
    rw [this]
theorem RpD.snoc {K : PySem.W.Frag} {F : Hp} {k : Key} {w : V} {x : D} (hw : Rp K F w x) : ∀ {kvs : List (Key × V)} {ps : List (D × D)}, RpD K F kvs ps → RpD K F (kvs ++ [(k, w)]) (ps ++ [(keyD k, x)])
  | [], [], _ => .mk hw .nil
  | [], _ :: _, r => by cases r
  | _ :: _, [], r => by cases r
  | (k', v) :: kvs, (c, d) :: ps, r => by
    obtain ⟨e, h, r'⟩ := r.key
    subst e
    exact .mk h (RpD.snoc hw r')
theorem RpD.map {K : PySem.W.Frag} {F : Hp} {k : Key} {w : V} {x : D} (hw : Rp K F w x) : ∀ {kvs : List (Key × V)} {ps : List (D × D)}, RpD K F kvs ps → RpD K F (kvs.map fun kv => if kv.1 = k then (kv.1, w) else kv) (ps.map fun p => if keyOf p.1 = some k then (p.1, x) else p)
  | [], [], _ => .nil
  | [], _ :: _, r => by cases r
  | _ :: _, [], r => by cases r
  | (k', v) :: kvs, (c, d) :: ps, r => by
    obtain ⟨e, h, r'⟩ := r.key
    subst e
    rw [List.map_cons, List.map_cons, keyOf_D]
    by_cases e : k' = k
    · rw [if_pos e, if_pos (by rw [e])]
      exact .mk hw (RpD.map hw r')
    · rw [if_neg e, if_neg (fun z => e (Option.some.inj z))]
      exact .mk h (RpD.map hw r')
theorem RpD.put {K : PySem.W.Frag} {F : Hp} {k : Key} {w : V} {x : D} (hw : Rp K F w x) {kvs : List (Key × V)} {ps : List (D × D)} (r : RpD K F kvs ps) : RpD K F (putK kvs k w) (dput ps k x) := by
  unfold putK dput
  rw [r.any]
  split
  · exact r.map hw
  · exact r.snoc hw
def isDct (ρ : Rho) (i : Nat) : Bool := match ρ[i]? with
  | some (.own (.dict _)) => true
  | some (.par (.dict _)) => true
  | _ => false
theorem isDct_ty {K : PySem.W.Frag} {F H : Hp} {σ : Sg} {ρ : Rho} {i : Nat} (R : Rel K F σ H ρ) (h : isDct ρ i = true) : ∃ a, σ[i]? = some (some (.ref a)) ∧ ∃ kvs, H a = some (.dK kvs) := by
  unfold isDct at h
  cases e : ρ[i]? with
  | none => rw [e] at h; cases h
  | some s =>
    rw [e] at h
    have go : ∀ ds, s.mine = true → s.data? = some (.dict ds) → ∃ a, σ[i]? = some (some (.ref a)) ∧ ∃ kvs, H a = some (.dK kvs) := fun ds m q => by
      obtain ⟨a, g1, _, vs, g3, _⟩ := R.own i s _ e m q
      exact ⟨a, g1, vs, g3⟩
    cases s with
    | own d => cases d <;> first | (cases h; done) | exact go _ rfl rfl
    | par d => cases d <;> first | (cases h; done) | exact go _ rfl rfl
    | un => cases h
    | dat d => cases h
    | lck d => cases h
def putD (i : Nat) (k : Opd) (v : D) (ρ : Rho) : Rs Flow := match deref ρ k with
  | some κ => (match ρ[i]? with
    | some (.own d0) => (match setK d0 κ v with
      | some d' => .ok .nx (ρ.set i (.own d'))
      | none => .fail)
    | some (.par d0) => (match setK d0 κ v with
      | some d' => .ok .nx (ρ.set i (.par d'))
      | none => .fail)
    | _ => .fail)
  | none => .fail
def sPutD (i : Nat) (mk me : ME) : MS := fun ρ => (me ρ).bind fun o ρ1 => match useO ρ1 o with
  | some (v, ρ2) => if isDct ρ2 i = true then (mk ρ2).bind fun k ρ3 => putD i k v ρ3 else .fail
  | none => .fail
theorem putD_ok {F0 H0 F H : Hp} {σ : Sg} {ρ0 ρ : Rho} {i : Nat} {k : Opd} {v : D} {a : Addr} {y w : V} {Z : Ends} (R : Rel X.K F σ H ρ) (st : Step F0 H0 σ ρ0 F H ρ) (rk : RO X.K F H σ ρ y k) (rv : Rp X.K F w v) (hv : σ[i]? = some (some (.ref a))) (h : SPost X.K W F0 H0 σ ρ0 Z (putD i k v ρ)) :
    ∃ H', DPut H a y w H' ∧ Z.nx σ H' := by
  unfold putD at h
  cases ek : deref ρ k with
  | none => rw [ek] at h; exact False.elim h
  | some κ =>
    rw [ek] at h
    dsimp only at h
    have ck := rk.ct R ek
    have go : ∀ (s : Slot) (d : D) (mk : D → Slot), ρ[i]? = some s → s.mine = true → s.data? = some d → (∀ d', (mk d').mine = true ∧ (mk d').data? = some d' ∧ KpS s (mk d')) → SPost X.K W F0 H0 σ ρ0 Z (match setK d κ v with
        | some d' => .ok .nx (ρ.set i (mk d'))
        | none => .fail) → ∃ H', DPut H a y w H' ∧ Z.nx σ H' := fun s d mk e m q hm h => by
      obtain ⟨a', g1, g2, g3⟩ := R.own i s d e m q
      rw [hv] at g1; cases g1
      cases es : setK d κ v with
      | none => rw [es] at h; exact False.elim h
      | some d' =>
        rw [es] at h
        cases d <;> try (cases es; done)
        rename_i ps
        unfold setK at es
        dsimp only at es
        cases eκ : keyOf κ with
        | none => rw [eκ] at es; cases es
        | some j =>
          rw [eκ] at es
          dsimp only at es
          split at es
          · rename_i hlt
            cases es
            obtain ⟨kvs, hh, r⟩ := g3
            cases keyOf_v ck eκ
            obtain ⟨m1, m2, m3⟩ := hm (.dict (dput ps j v))
            obtain ⟨R3, s3⟩ := mut_rel (o' := .dK (putK kvs j w)) (d' := .dict (dput ps j v)) R e m m1 m3 hv g2 ⟨_, upd_same, r.put rv⟩ m2
            exact ⟨_, DPut.k hh (by rw [r.length]; exact hlt), h σ F _ (st.trans s3).s R3⟩
          · cases es
    cases es : ρ[i]? with
    | none => rw [es] at h; exact False.elim h
    | some s =>
      rw [es] at h
      cases s with
      | un => exact False.elim h
      | dat d => exact False.elim h
      | lck d => exact False.elim h
      | own d => exact go _ d .own es rfl rfl (fun d' => ⟨rfl, rfl, trivial⟩) h
      | par d => exact go _ d .par es rfl rfl (fun d' => ⟨rfl, rfl, trivial⟩) h
theorem ds_putD {i : Nat} {x : Str} {xp sp : Pos} {ix e : Expr} {mk me : ME} (hu : X.A.units + 1 < cLine) (hp : PE X (.Name x xp) (tVar i)) (hk : DE X W ix mk) (he : DE X W e me)
    (hs : swapsWith e (some (.Subscript (.Name x xp) ix sp)) pos.line X.env = pure false := by rfl) :
    DS X W (.Assign [.Subscript (.Name x xp) ix sp] e pos) (sPutD i mk me) := by
  obtain ⟨t, pe, q⟩ := he
  obtain ⟨u, pk, qk⟩ := hk
  refine ⟨_, ps_dput hu hp pk pe hs, fun F σ H ρ Z R h => q F σ H ρ _ R (ES h fun o ρ1 v F1 H1 s1 R1 ro ns hq => ?_)⟩
  cases eu : useO ρ1 o with
  | none => rw [eu] at hq; exact False.elim hq
  | some p =>
    obtain ⟨d, ρ2⟩ := p
    rw [eu] at hq
    dsimp only at hq
    obtain ⟨F2, s2, R2, rp, _⟩ := use_ok R1 s1 ro ns eu
    split at hq
    · rename_i hl
      obtain ⟨a, hx, _⟩ := isDct_ty R2 hl
      refine ⟨.ref a, hx, ?_⟩
      refine qk F2 σ H1 ρ2 _ R2 ?_
      cases em : mk ρ2 with
      | fail => rw [em] at hq; exact False.elim hq
      | ex x ρ' =>
        rw [em] at hq
        exact XPost.step s2 (XPostS.x hq)
      | ok k ρ3 =>
        rw [em] at hq
        intro y F3 H3 s3 R3 rk nk
        obtain ⟨H', z1, z2⟩ := putD_ok R3 (s2.trans s3) rk (rp.mono s3.fr.ext) hx hq
        exact ⟨a, H', rfl, z1, z2⟩
    · exact False.elim hq
end
end Dl

set_option maxRecDepth 100000
set_option maxHeartbeats 4000000
namespace Dl
open PySem PySem.Spec L2
set_option autoImplicit false
/-! ### comprehensions, the facts filled in -/
theorem de_lcW {X : Cx} {W : WX} {pos : Pos} {elt tg iter : Expr} {ifs : List Expr} {scope : Scope} (own : List (Str × Nat)) {mi : MI} {mg : MG} {mt : MT} {me : ME} (hc : X.calm = true) (hN : X.N.Nodup) (hi : DI X W tg iter mi) (ok : blkC X.N X.env.scope scope own = true) {ts : List Nat}
    (pgn : ∀ j ∈ ts, j ∈ own.map (·.2))
    (hg : ∀ (s : Shared) (H : Hp) (C : Addr) (cl : List (Str × Addr)) (fp : List Addr), DG (X.blk s H scope (compEnvC scope cl C X.env) fp) tg ts mg)
    (ht : ∀ (s : Shared) (H : Hp) (C : Addr) (cl : List (Str × Addr)) (fp : List Addr), DTs (X.blk s H scope (compEnvC scope cl C X.env) fp) W0 ifs mt)
    (he : ∀ (s : Shared) (H : Hp) (C : Addr) (cl : List (Str × Addr)) (fp : List Addr), DE (X.blk s H scope (compEnvC scope cl C X.env) fp) W0 elt me)
    (hs : ∀ x, foldedSetIterable iter X.env x = pure x := by intro _; rfl) : DE X W (.ListComp elt [⟨tg, iter, ifs, 0⟩] scope pos) (eComp (own.map (·.2)) mi mg mt me) :=
  de_lc own hc hN hi (blkOk_by ok) pgn (hg X.s_0 X.H_0 0 [] []).1 hg ht he hs
theorem ds_setLcW {X : Cx} {W : WX} {pos spos py : Pos} {i : Nat} {y : Str} {elt tg iter : Expr} {ifs : List Expr} {scope : Scope} (own : List (Str × Nat)) {mi : MI} {mg : MG} {mt : MT} {me : ME} (hc : X.calm = true) (hN : X.N.Nodup) (hy : X.N[i]? = some y) (hyl : X.env.scope.names.lookup y = some .local)
    (hsw : swapsWith (.ListComp elt [⟨tg, iter, ifs, 0⟩] scope pos) (some (.Name y py)) spos.line X.env = pure true) (hi : DI X W tg iter mi) (ok : blkC X.N X.env.scope scope own = true) {ts : List Nat}
    (pgn : ∀ j ∈ ts, j ∈ own.map (·.2))
    (hg : ∀ (s : Shared) (H : Hp) (C : Addr) (cl : List (Str × Addr)) (fp : List Addr), DG (X.blk s H scope (compEnvC scope cl C X.env) fp) tg ts mg)
    (ht : ∀ (s : Shared) (H : Hp) (C : Addr) (cl : List (Str × Addr)) (fp : List Addr), DTs (X.blk s H scope (compEnvC scope cl C X.env) fp) W0 ifs mt)
    (he : ∀ (s : Shared) (H : Hp) (C : Addr) (cl : List (Str × Addr)) (fp : List Addr), DE (X.blk s H scope (compEnvC scope cl C X.env) fp) W0 elt me)
    (hs : ∀ x, foldedSetIterable iter X.env x = pure x := by intro _; rfl) : DS X W (.Assign [.Name y py] (.ListComp elt [⟨tg, iter, ifs, 0⟩] scope pos) spos) (sSet i (eComp (own.map (·.2)) mi mg mt me)) :=
  ds_setLc own hc hN hy hyl hsw hi (blkOk_by ok) pgn (hg X.s_0 X.H_0 0 [] []).1 hg ht he hs
/-! ### one walk or another -/
def iOr (a b : MI) : MI := fun ρ => match a ρ with
  | .fail => b ρ
  | r => r
theorem di_or {X : Cx} {W : WX} {tg e : Expr} {a b : MI} (ha : DI X W tg e a) (hb : DI X W tg e b) : DI X W tg e (iOr a b) := by
  obtain ⟨t, p, q⟩ := ha
  obtain ⟨u, p2, q2⟩ := hb
  refine ⟨fun σ H R => t σ H R ∨ u σ H R, ⟨fun pins s σ H R I h => h.elim (p.run pins s σ H R I) (p2.run pins s σ H R I)⟩, fun F σ H ρ R r h => ?_⟩
  unfold iOr at h
  cases e : a ρ with
  | fail => rw [e] at h; exact .inr (q2 F σ H ρ R r h)
  | ok _ _ => rw [e] at h; exact .inl (q F σ H ρ R r (by rw [e]; exact h))
  | ex _ _ => rw [e] at h; exact .inl (q F σ H ρ R r (by rw [e]; exact h))
section
variable {X : Cx} {W : WX} {tg : Expr}
/-! ### range(a, b) -/
def srcR2 (os : List Opd) (ρ : Rho) : Rs Src := match derefs ρ os with
  | some [.int i, .int j] => if -(2 ^ 62) ≤ i ∧ i < 2 ^ 62 ∧ -(2 ^ 62) ≤ j ∧ j < 2 ^ 62 then .ok ⟨(List.range (j - i).toNat).map fun k : Nat => .int (i + (k : Int)), none⟩ ρ else .fail
  | _ => .fail
def iRng2 (a : MA) : MI := fun ρ => (a ρ).bind srcR2
theorem di_range2 {a b : Expr} {m : MA} {p pos : Pos} (hg : Gl X "range") (hm : X.mg "range" = none) (ha : DA X W [a, b] m) (hs : starEach [a, b] X.env = [(false, eval a X.env), (false, eval b X.env)] := by rfl) (hs2 : starEach [b] X.env = [(false, eval b X.env)] := by rfl) :
    DI X W tg (.Call (.Name "range" p) [a, b] [] pos) (iRng2 m) := by
  obtain ⟨t, pa, q⟩ := ha
  refine ⟨_, pi_range2 hg hm pa hs hs2, fun F σ H ρ Z R h => q F σ H ρ _ R (AI h fun os ρ1 vs F1 H1 s1 R1 ro ns hp => ?_)⟩
  unfold srcR2 at hp
  cases e : derefs ρ1 os with
  | none => rw [e] at hp; exact False.elim hp
  | some ds =>
    rw [e] at hp
    have ct := derefs_ct R1 ro.all e
    match ds, hp, ct with
    | [.int i, .int j], hp, ct =>
      dsimp only at hp
      split at hp
      · rename_i hc
        obtain ⟨v, w, rfl⟩ : ∃ v w, vs = [v, w] := by cases ct with | cons _ r => cases r with | cons _ r => cases r; exact ⟨_, _, rfl⟩
        cases ct with
        | cons c1 r => cases r with
          | cons c2 r =>
            cases c1.int; cases c2.int
            exact ⟨i, j, rfl, hc, hp _ F1 H1 s1 R1 good_range (fun _ _ z => nomatch z)⟩
      · exact False.elim hp
/-! ### the signs of a text -/
def signs (x : Str) : List D := x.cps.toList.map fun c => .str ⟨#[c]⟩
theorem good_str {K : PySem.W.Frag} {F1 : Hp} {x : Str} : Good K (Its x) F1 (fun _ _ => True) (signs x) where
  go := fun i F H e s _ hi => by
    have hi : i < x.cps.size := by simpa [signs] using hi
    refine ⟨hi, fun v H' y => ?_⟩
    obtain ⟨e1, c, hc, e2⟩ := y
    subst e1 e2
    exact ⟨F, .str ⟨#[c]⟩, by simp [signs, hc], Grow.refl s, .str _⟩
  stop := fun i F H e s _ hi => by
    have hi : x.cps.size ≤ i := by simpa [signs] using hi
    exact hi
def srcS (o : Opd) (ρ : Rho) : Rs Src := match deref ρ o with
  | some (.str x) => .ok ⟨signs x, none⟩ ρ
  | _ => .fail
def iTxt (m : ME) : MI := fun ρ => (m ρ).bind srcS
theorem di_str {e : Expr} {m : ME} (h : DE X W e m) : DI X W tg e (iTxt m) := by
  obtain ⟨t, p, q⟩ := h
  refine ⟨_, pi_str p, fun F σ H ρ Z R h => q F σ H ρ _ R (EI h fun o ρ1 v F1 H1 s1 R1 ro ns hp => ?_)⟩
  unfold srcS at hp
  cases e : deref ρ1 o with
  | none => rw [e] at hp; exact False.elim hp
  | some d =>
    rw [e] at hp
    cases d <;> try (exact False.elim hp)
    rename_i x
    cases (ro.ct R1 e).str
    exact ⟨x, rfl, hp _ F1 H1 s1 R1 good_str (fun _ _ z => nomatch z)⟩
def iSeq (m : ME) : MI := iOr (iLst m) (iTpl m)
theorem di_seq {e : Expr} {m : ME} (h : DE X W e m) : DI X W tg e (iSeq m) := di_or (di_list h) (di_tup h)
/-- in a list, a tuple, a text, or a dict -/
theorem de_in {i o : Expr} {mi mo : ME} {pos : Pos} (hu : X.A.units + 65 < cLine) (hi : DE X W i mi) (ho : DE X W o mo) (hb : behindInMarks .In o = false := by rfl) : DE X W (.Compare i [.In] [o] pos) (eOp2 (orf pyIn pyInK) mi mo) :=
  de_orf (de_cmp (op_inU hu) snd_in hi ho hb) (de_inK (by omega) hi ho hb)
theorem de_notIn {i o : Expr} {mi mo : ME} {pos : Pos} (hu : X.A.units + 65 < cLine) (hi : DE X W i mi) (ho : DE X W o mo) (hb : behindInMarks .NotIn o = false := by rfl) : DE X W (.Compare i [.NotIn] [o] pos) (eOp2 (orf pyNotIn pyNotInK) mi mo) :=
  de_orf (de_cmp (op_notInU hu) snd_notIn hi ho hb) (de_notInK (by omega) hi ho hb)
end
/-! ### the facts of a head -/
structure Txt (fa : List He.Fa) (fn : List He.DefD) (K : PySem.W.Frag) (mg : Str → Option Value) : Prop where
  d : He.SaysD fa fn K
  glo : ∀ (i : Nat) (x : Str), fa[i]? = some (He.Fa.glo x) → mg x = some (Value.ref (He.ga K x))
  fre : ∀ (i : Nat) (x : Str), fa[i]? = some (He.Fa.free x) → mg x = none
  int : ∀ (i : Nat) (x : Str) (v : Int), fa[i]? = some (He.Fa.int x v) → ∃ t, mg x = some (Value.int v t)
  str : ∀ (i : Nat) (x v : Str), fa[i]? = some (He.Fa.str x v) → ∃ t, mg x = some (Value.str v t)
theorem Txt.of {fa : List He.Fa} {fn : List He.DefD} {K : PySem.W.Frag} {h : Heap} {mg : Str → Option Value} (X : K.In h) (G : h.Ns mainGlobals mg) (c : He.SaysD fa fn K) : Txt fa fn K mg :=
  ⟨c, fun i x e => He.glo_ok X G (c.fact i (f := .glo x) e), fun i x e => He.free_ok X G (c.fact i (f := .free x) e), fun i x v e => He.int_ok X G (c.fact i (f := .int x v) e), fun i x v e => He.str_ok X G (c.fact i (f := .str x v) e)⟩
end Dl

set_option maxRecDepth 100000
set_option maxHeartbeats 4000000
namespace Dl
open PySem PySem.Spec L2
set_option autoImplicit false
theorem room1 {k : Nat} {A : Around} (r : Room k A) : A.units + 1 < cLine := by have := r.units; omega
theorem room65 {k : Nat} {A : Around} (r : Room k A) : A.units + 65 < cLine := by
  have := r.un
  have h : cLine = 9900 ∨ 9900 ≤ cLine := by first | exact .inr (by decide) | exact .inl rfl
  rcases h with h | h <;> omega
theorem RpA.snoc {K : PySem.W.Frag} {F : Hp} {v : V} {d : D} (h : Rp K F v d) : ∀ {vs : List V} {ds : List D}, RpA K F vs ds → RpA K F (vs ++ [v]) (ds ++ [d])
  | _, _, .nil => .cons h .nil
  | _, _, .cons a r => .cons a (RpA.snoc h r)
theorem RpA.rev {K : PySem.W.Frag} {F : Hp} : ∀ {vs : List V} {ds : List D}, RpA K F vs ds → RpA K F vs.reverse ds.reverse
  | _, _, .nil => .nil
  | _, _, .cons a r => by
    rw [List.reverse_cons, List.reverse_cons]
    exact (RpA.rev r).snoc a
/-! ### xs[::-1] -/
def pyRev (d : D) : Option Opd := match d with
  | .list ds => some (.new (.list ds.reverse))
  | _ => none
theorem de_rev {X : Cx} {W : WX} {e : Expr} {m : ME} {k : Nat} {p1 p2 p3 pos : Pos} (he : DE X W e m) : DE X W (.Subscript e (.Slice none none (some (.UnaryOp .USub (.Constant (.int 1) k p1) p2)) p3) pos) (eOp1 pyRev m) := by
  obtain ⟨t, p, q⟩ := he
  refine ⟨_, pe_revL p, op1_ok (r := fun x H1 Q => ∃ a xs, x = .ref a ∧ SqL X.K H1 a xs ∧ ∀ p, H1 p = none → Q (.ref p) (upd H1 p (.lst xs.reverse))) ?_ q⟩
  intro F H v d o Q s c hf kk
  cases d <;> try (cases hf; done)
  cases hf
  obtain ⟨a, vs, rfl, hh, r⟩ := c.list s
  exact ⟨a, vs, rfl, SqL.of hh, newL s r.rev kk⟩
section
variable {X : Cx} {W : WX} {a b : Expr} {op : CmpOp} {pos : Pos}
theorem dt_pc {t : TE} {m : ME} (p : PC X op a b t) (q : ∀ F σ H ρ Q, Rel X.K F σ H ρ → EPost X.K W F H σ ρ Q (m ρ) → t σ H Q) (h1 : behindInMarks op b = false) : DT X W (.Compare a [op] [b] pos) (tVal m) := by
  refine ⟨_, pt_cmp p h1, fun F σ H ρ Q R h => ?_⟩
  exact q F σ H ρ _ R (bindET h fun o ρ1 v F1 H1 s1 R1 ro ns hp => boolOf_ok R1 ro hp)
theorem dt_or2 {e : Expr} {f g : D → D → Option Opd} {ma mb : ME} (h1 : DT X W e (tVal (eOp2 f ma mb))) (h2 : DT X W e (tVal (eOp2 g ma mb))) : DT X W e (tVal (eOp2 (orf f g) ma mb)) := by
  obtain ⟨t, p, q⟩ := h1
  obtain ⟨u, p2, q2⟩ := h2
  refine ⟨fun σ H Q => t σ H Q ∨ u σ H Q, ⟨fun pins s σ H Q I h => h.elim (p.run pins s σ H Q I) (p2.run pins s σ H Q I)⟩, fun F σ H ρ Q R h => ?_⟩
  unfold tVal at h
  rcases op2_or f g ma mb ρ with e | e
  · rw [e] at h; exact .inl (q F σ H ρ Q R h)
  · rw [e] at h; exact .inr (q2 F σ H ρ Q R h)
theorem dt_in {mi mo : ME} (hu : X.A.units + 65 < cLine) (hi : DE X W a mi) (ho : DE X W b mo) (hb : behindInMarks .In b = false := by rfl) : DT X W (.Compare a [.In] [b] pos) (tVal (eOp2 (orf pyIn pyInK) mi mo)) := by
  refine dt_or2 (dt_cmp (op_inU hu) snd_in hi ho hb) ?_
  obtain ⟨t, p, q⟩ := hi
  obtain ⟨u, p2, q2⟩ := ho
  refine dt_pc (pc_din (by omega) p p2) (op2_ok (r := fun y x H Q => ∃ a o, x = .ref a ∧ DGet H a y o ∧ Q (.bl o.isSome) H) ?_ q q2) hb
  intro F H v w e d o Q s cv cw hf k
  unfold pyInK at hf
  cases h : hasK e d with
  | none => rw [h] at hf; cases hf
  | some b =>
    rw [h] at hf
    cases hf
    obtain ⟨a, ov, e1, g, eb⟩ := hasK_ok s cv cw h
    exact ⟨a, ov, e1, g, by rw [eb]; exact same s (.bl _) k⟩
theorem dt_notIn {mi mo : ME} (hu : X.A.units + 65 < cLine) (hi : DE X W a mi) (ho : DE X W b mo) (hb : behindInMarks .NotIn b = false := by rfl) : DT X W (.Compare a [.NotIn] [b] pos) (tVal (eOp2 (orf pyNotIn pyNotInK) mi mo)) := by
  refine dt_or2 (dt_cmp (op_notInU hu) snd_notIn hi ho hb) ?_
  obtain ⟨t, p, q⟩ := hi
  obtain ⟨u, p2, q2⟩ := ho
  refine dt_pc (pc_dnotin (by omega) p p2) (op2_ok (r := fun y x H Q => ∃ a o, x = .ref a ∧ DGet H a y o ∧ Q (.bl (!o.isSome)) H) ?_ q q2) hb
  intro F H v w e d o Q s cv cw hf k
  unfold pyNotInK at hf
  cases h : hasK e d with
  | none => rw [h] at hf; cases hf
  | some b =>
    rw [h] at hf
    cases hf
    obtain ⟨a, ov, e1, g, eb⟩ := hasK_ok s cv cw h
    exact ⟨a, ov, e1, g, by rw [eb]; exact same s (.bl _) k⟩
theorem dt_isN {m : ME} {j pos'} (ha : DE X W a m) : DT X W (.Compare a [.Is] [.Constant .none j pos'] pos) (tVal (eOp1 pyIsN m)) := by
  obtain ⟨t, p, q⟩ := ha
  exact dt_pc (pc_isN p) (op1_ok (r := fun x H Q => Q (.bl (decide (x = .non))) H) snd_isN q) (by rfl)
theorem dt_notN {m : ME} {j pos'} (ha : DE X W a m) : DT X W (.Compare a [.IsNot] [.Constant .none j pos'] pos) (tVal (eOp1 pyNotN m)) := by
  obtain ⟨t, p, q⟩ := ha
  exact dt_pc (pc_notN p) (op1_ok (r := fun x H Q => Q (.bl (!decide (x = .non))) H) snd_notN q) (by rfl)
end
end Dl

set_option maxRecDepth 100000
set_option maxHeartbeats 4000000
namespace Dl
open PySem PySem.Spec
set_option autoImplicit false
/-! ### what a mirror comes to, asked backwards -/
/-- so that no rewriting goes into what is still to come -/
structure Ph {α : Type} (Q : α → Rho → Prop) (X : Ex → Rho → Prop) : Type where
def wp {α : Type} (r : Rs α) (Q : α → Rho → Prop) (X : Ex → Rho → Prop) (u : Ph Q X := ⟨⟩) : Prop := match r with
  | .ok a ρ => Q a ρ
  | .ex x ρ => X x ρ
  | .fail => False
abbrev NoX : Ex → Rho → Prop := fun _ _ => False
theorem wp_mono {α : Type} {r : Rs α} {Q Q' : α → Rho → Prop} {X X' : Ex → Rho → Prop} (h : wp r Q X) (k : ∀ a ρ, Q a ρ → Q' a ρ) (kx : ∀ x ρ, X x ρ → X' x ρ) : wp r Q' X' := by
  cases r with
  | ok a ρ => exact k a ρ h
  | ex x ρ => exact kx x ρ h
  | fail => exact h
theorem wp_mono0 {α : Type} {r : Rs α} {Q Q' : α → Rho → Prop} {X' : Ex → Rho → Prop} (h : wp r Q NoX) (k : ∀ a ρ, Q a ρ → Q' a ρ) : wp r Q' X' := wp_mono h k fun _ _ z => z.elim
theorem wp_out {α : Type} {r : Rs α} {Q : α → Rho → Prop} (h : wp r Q NoX) : ∃ a ρ, r = .ok a ρ ∧ Q a ρ := by
  cases r with
  | ok a ρ => exact ⟨a, ρ, rfl, h⟩
  | ex x ρ => exact h.elim
  | fail => exact h.elim
theorem wp_ext {α : Type} {r : Rs α} {Q Q' : α → Rho → Prop} {X : Ex → Rho → Prop} (h : ∀ a ρ, Q a ρ = Q' a ρ) : wp r Q X = wp r Q' X := by
  cases r with
  | ok a ρ => exact h a ρ
  | ex x ρ => rfl
  | fail => rfl
section
variable {α β : Type} {Q : α → Rho → Prop} {Q' : β → Rho → Prop} {QO : Opd → Rho → Prop} {QF : Flow → Rho → Prop} {QA : List Opd → Rho → Prop} {QB : Bool → Rho → Prop} {X : Ex → Rho → Prop} {ρ : Rho}
@[simp ↓] theorem wp_ok (a : α) : wp (.ok a ρ) Q X = Q a ρ := rfl
@[simp ↓] theorem wp_ex (x : Ex) : wp (.ex x ρ : Rs α) Q X = X x ρ := rfl
@[simp ↓] theorem wp_fail : wp (.fail : Rs α) Q X = False := rfl
@[simp ↓] theorem wp_bind (r : Rs α) (f : α → Rho → Rs β) : wp (r.bind f) Q' X = wp r (fun a ρ => wp (f a ρ) Q' X) X := by cases r <;> rfl
@[simp ↓] theorem wp_eC (d : D) : wp (eC d ρ) QO X = QO (.val d) ρ := rfl
@[simp ↓] theorem wp_eOp2 (f : D → D → Option Opd) (a b : ME) : wp (eOp2 f a b ρ) QO X = wp (a ρ) (fun x ρ1 => wp (b ρ1) (fun y ρ2 => wp (run2 f ρ2 x y) QO X) X) X := by unfold eOp2; rw [wp_bind]; exact wp_ext fun x ρ1 => by rw [wp_bind] <;> rfl
@[simp ↓] theorem wp_eOp1 (f : D → Option Opd) (a : ME) : wp (eOp1 f a ρ) QO X = wp (a ρ) (fun x ρ1 => wp (run1 f ρ1 x) QO X) X := by unfold eOp1; rw [wp_bind]
@[simp ↓] theorem wp_tVal (m : ME) : wp (tVal m ρ) QB X = wp (m ρ) (fun o ρ1 => wp (boolOf ρ1 o) QB X) X := by unfold tVal; rw [wp_bind]
@[simp ↓] theorem wp_ite {c : Prop} [Decidable c] (a b : Rs α) : wp (if c then a else b) Q X = if c then wp a Q X else wp b Q X := by split <;> rfl
@[simp ↓] theorem wp_tAndM (a b : MT) : wp (tAndM a b ρ) QB X = wp (a ρ) (fun x ρ1 => if x = true then wp (b ρ1) QB X else QB false ρ1) X := by unfold tAndM; rw [wp_bind]; exact wp_ext fun x ρ1 => by split <;> rfl
@[simp ↓] theorem wp_tOrM (a b : MT) : wp (tOrM a b ρ) QB X = wp (a ρ) (fun x ρ1 => if x = true then QB true ρ1 else wp (b ρ1) QB X) X := by unfold tOrM; rw [wp_bind]; exact wp_ext fun x ρ1 => by split <;> rfl
@[simp ↓] theorem wp_tNotM (a : MT) : wp (tNotM a ρ) QB X = wp (a ρ) (fun x ρ1 => QB (!x) ρ1) X := by unfold tNotM; rw [wp_bind] <;> rfl
@[simp ↓] theorem wp_tTrue : wp (tTrue ρ) QB X = QB true ρ := rfl
@[simp ↓] theorem wp_eAnd (a b : ME) : wp (eAnd a b ρ) QO X = wp (tVal a ρ) (fun x ρ1 => if x = true then wp (b ρ1) QO X else QO (.val (.bool false)) ρ1) X := by unfold eAnd; rw [wp_bind]; exact wp_ext fun x ρ1 => by split <;> rfl
@[simp ↓] theorem wp_eOr (a b : ME) : wp (eOr a b ρ) QO X = wp (tVal a ρ) (fun x ρ1 => if x = true then QO (.val (.bool true)) ρ1 else wp (b ρ1) QO X) X := by unfold eOr; rw [wp_bind]; exact wp_ext fun x ρ1 => by split <;> rfl
@[simp ↓] theorem wp_eNot (a : ME) : wp (eNot a ρ) QO X = wp (tVal a ρ) (fun x ρ1 => QO (.val (.bool !x)) ρ1) X := by unfold eNot; rw [wp_bind] <;> rfl
@[simp ↓] theorem wp_eIf (c : MT) (a b : ME) : wp (eIf c a b ρ) QO X = wp (c ρ) (fun x ρ1 => if x = true then wp (a ρ1) QO X else wp (b ρ1) QO X) X := by unfold eIf; rw [wp_bind]; exact wp_ext fun x ρ1 => by split <;> rfl
@[simp ↓] theorem wp_aNil : wp (aNil ρ) QA X = QA [] ρ := rfl
@[simp ↓] theorem wp_aCons (a : ME) (r : MA) : wp (aCons a r ρ) QA X = wp (a ρ) (fun x ρ1 => wp (r ρ1) (fun xs ρ2 => QA (x :: xs) ρ2) X) X := by unfold aCons; rw [wp_bind]; exact wp_ext fun x ρ1 => by rw [wp_bind] <;> rfl
@[simp ↓] theorem wp_eUse (f : List D → Option Opd) (a : MA) : wp (eUse f a ρ) QO X = wp (a ρ) (fun os ρ1 => wp (withAll f ρ1 os) QO X) X := by unfold eUse; rw [wp_bind]
@[simp ↓] theorem wp_eBlt (f : List D → Option Opd) (a : MA) : wp (eBlt f a ρ) QO X = wp (a ρ) (fun os ρ1 => wp (runN f ρ1 os) QO X) X := by unfold eBlt; rw [wp_bind]
@[simp ↓] theorem wp_eSlice (a : ME) (lo hi : Rho → Rs (Option Int)) : wp (eSlice a lo hi ρ) QO X = wp (a ρ) (fun x ρ1 => wp (lo ρ1) (fun l ρ2 => wp (hi ρ2) (fun h ρ3 => wp (run1 (pySlice l h) ρ3 x) QO X) X) X) X := by unfold eSlice; rw [wp_bind]; exact wp_ext fun x ρ1 => by rw [wp_bind]; exact wp_ext fun l ρ2 => by rw [wp_bind]
@[simp ↓] theorem wp_oNone {QI : Option Int → Rho → Prop} : wp (oNone ρ) QI X = QI none ρ := rfl
@[simp ↓] theorem wp_oSome {QI : Option Int → Rho → Prop} (m : ME) : wp (oSome m ρ) QI X = wp (m ρ) (fun o ρ1 => wp (match deref ρ1 o with | some (.int i) => .ok (some i) ρ1 | _ => .fail) QI X) X := by simp only [oSome, wp_bind] <;> rfl
@[simp ↓] theorem wp_eCall (n : Nat) (fl : List Bool) (sem : ME) (ma : MA) : wp (eCall n fl sem ma ρ) QO X = wp (ma ρ) (fun os ρ1 => wp (callO n fl sem os ρ1) QO X) X := by unfold eCall; rw [wp_bind]
@[simp ↓] theorem wp_sNil : wp (sNil ρ) QF X = QF .nx ρ := rfl
@[simp ↓] theorem wp_sBrk : wp (sBrk ρ) QF X = QF .bk ρ := rfl
@[simp ↓] theorem wp_sCnt : wp (sCnt ρ) QF X = QF .ct ρ := rfl
@[simp ↓] theorem wp_sRetN : wp (sRetN ρ) QF X = QF (.rt (.val .none)) ρ := rfl
@[simp ↓] theorem wp_sSet (i : Nat) (m : ME) : wp (sSet i m ρ) QF X = wp (m ρ) (fun o ρ1 => wp (putO i o ρ1) QF X) X := by unfold sSet; rw [wp_bind]
/-- N: what comes next; O: what else -/
def kf (N : Rho → Prop) (O : Flow → Rho → Prop) : Flow → Rho → Prop := fun f ρ => match f with
  | .nx => N ρ
  | f => O f ρ
@[simp ↓] theorem kf_nx {N : Rho → Prop} {O : Flow → Rho → Prop} : kf N O .nx ρ = N ρ := rfl
@[simp ↓] theorem kf_rt {N : Rho → Prop} {O : Flow → Rho → Prop} (o : Opd) : kf N O (.rt o) ρ = O (.rt o) ρ := rfl
@[simp ↓] theorem kf_bk {N : Rho → Prop} {O : Flow → Rho → Prop} : kf N O .bk ρ = O .bk ρ := rfl
@[simp ↓] theorem kf_ct {N : Rho → Prop} {O : Flow → Rho → Prop} : kf N O .ct ρ = O .ct ρ := rfl
@[simp ↓] theorem wp_sSeq {N : Rho → Prop} {O : Flow → Rho → Prop} (a b : MS) : wp (sSeq a b ρ) (kf N O) X = wp (a ρ) (kf (fun ρ1 => wp (b ρ1) (kf N O) X) O) X := by
  unfold sSeq
  cases e : a ρ with
  | ok f ρ1 => cases f <;> rfl
  | ex x ρ1 => rfl
  | fail => rfl
@[simp ↓] theorem wp_sExp (m : ME) : wp (sExp m ρ) QF X = wp (m ρ) (fun _ ρ1 => QF .nx ρ1) X := by unfold sExp; rw [wp_bind] <;> rfl
@[simp ↓] theorem wp_sRet (m : ME) : wp (sRet m ρ) QF X = wp (m ρ) (fun o ρ1 => wp (outO o ρ1) QF X) X := by unfold sRet; rw [wp_bind]
@[simp ↓] theorem wp_sIf (c : MT) (a b : MS) : wp (sIf c a b ρ) QF X = wp (c ρ) (fun x ρ1 => if x = true then wp (a ρ1) QF X else wp (b ρ1) QF X) X := by unfold sIf; rw [wp_bind]; exact wp_ext fun x ρ1 => by split <;> rfl
@[simp ↓] theorem wp_sFor (mi : MI) (mg : MG) (b : MS) : wp (sFor mi mg b ρ) QF X = wp (mi ρ) (fun s ρ1 => wp (sLoop mg b s.ds ρ1) QF X) X := by unfold sFor; rw [wp_bind]
@[simp ↓] theorem wp_eComp (vs : List Nat) (mi : MI) (mg : MG) (mt : MT) (me : ME) : wp (eComp vs mi mg mt me ρ) QO X = wp (mi ρ) (fun s ρ1 => wp (compL vs mg mt me s.ds [] ρ1) QO X) X := by unfold eComp; rw [wp_bind]
@[simp ↓] theorem wp_iLst {QS : Src → Rho → Prop} (m : ME) : wp (iLst m ρ) QS X = wp (m ρ) (fun o ρ1 => wp (srcL o ρ1) QS X) X := by unfold iLst; rw [wp_bind]
@[simp ↓] theorem wp_iTpl {QS : Src → Rho → Prop} (m : ME) : wp (iTpl m ρ) QS X = wp (m ρ) (fun o ρ1 => wp (srcT o ρ1) QS X) X := by unfold iTpl; rw [wp_bind]
@[simp ↓] theorem wp_iTxt {QS : Src → Rho → Prop} (m : ME) : wp (iTxt m ρ) QS X = wp (m ρ) (fun o ρ1 => wp (srcS o ρ1) QS X) X := by unfold iTxt; rw [wp_bind]
@[simp ↓] theorem wp_iRng {QS : Src → Rho → Prop} (m : MA) : wp (iRng m ρ) QS X = wp (m ρ) (fun o ρ1 => wp (srcR1 o ρ1) QS X) X := by unfold iRng; rw [wp_bind]
@[simp ↓] theorem wp_iRng2 {QS : Src → Rho → Prop} (m : MA) : wp (iRng2 m ρ) QS X = wp (m ρ) (fun o ρ1 => wp (srcR2 o ρ1) QS X) X := by unfold iRng2; rw [wp_bind]
/-- a list or a tuple -/
def srcQ (o : Opd) (ρ : Rho) : Rs Src := match srcL o ρ with
  | .fail => srcT o ρ
  | r => r
@[simp ↓] theorem wp_iSeq {QS : Src → Rho → Prop} (m : ME) : wp (iSeq m ρ) QS X = wp (m ρ) (fun o ρ1 => wp (srcQ o ρ1) QS X) X := by
  unfold iSeq iOr iLst iTpl
  cases e : m ρ with
  | ok o ρ1 =>
    dsimp only [Rs.bind, wp_ok]
    unfold srcQ
    cases srcL o ρ1 <;> rfl
  | ex x ρ1 => rfl
  | fail => rfl
/-- no local comes out -/
def noL (Q : Opd → Rho → Prop) : Opd → Rho → Prop := fun o ρ => match o with
  | .loc _ => False
  | o => Q o ρ
@[simp ↓] theorem noL_val (d : D) : noL QO (.val d) ρ = QO (.val d) ρ := rfl
@[simp ↓] theorem noL_new (d : D) : noL QO (.new d) ρ = QO (.new d) ρ := rfl
/-- what a def tells -/
def kr (Q : Opd → Rho → Prop) : Flow → Rho → Prop := fun f ρ => match f with
  | .rt o => noL Q o ρ
  | _ => False
@[simp ↓] theorem kr_rt (o : Opd) : kr QO (.rt o) ρ = noL QO o ρ := rfl
/-- behind a turn -/
def kl (I : Rho → Prop) (Q : Flow → Rho → Prop) : Flow → Rho → Prop := fun f ρ => match f with
  | .ct => I ρ
  | .bk => Q .nx ρ
  | f => Q f ρ
@[simp ↓] theorem kl_ct {I : Rho → Prop} : kl I QF .ct ρ = I ρ := rfl
@[simp ↓] theorem kl_bk {I : Rho → Prop} : kl I QF .bk ρ = QF .nx ρ := rfl
@[simp ↓] theorem kl_rt {I : Rho → Prop} (o : Opd) : kl I QF (.rt o) ρ = QF (.rt o) ρ := rfl
@[simp ↓] theorem wp_retO (r : Rs Opd) (ps : List Opd) : wp (retO r ps ρ) QO X = wp r (noL fun o cs => QO o (takeB ρ ps cs)) (fun x cs => X x (takeB ρ ps cs)) := by
  cases r with
  | ok o cs => cases o <;> rfl
  | ex x cs => rfl
  | fail => rfl
@[simp ↓] theorem wp_fnSem (n l : Nat) (mb : MS) (cs : Rho) : wp (fnSem n l mb cs) QO X = wp (mb (cs ++ List.replicate (l - n) .un)) (kf (fun ρ => QO (.val .none) (back cs ρ)) (kr fun o ρ => QO o (back cs ρ))) (fun x ρ => X x (back cs ρ)) := by
  unfold fnSem
  generalize mb (cs ++ List.replicate (l - n) .un) = r
  cases r with
  | ok f ρ => cases f with
    | rt o => cases o <;> rfl
    | nx => rfl
    | bk => rfl
    | ct => rfl
  | ex x ρ => rfl
  | fail => rfl
@[simp ↓] theorem wp_noEx (r : Rs α) : wp (noEx r) Q X = wp r Q NoX := by cases r <;> rfl
@[simp ↓] theorem wp_sAsg (mg : MG) (m : ME) : wp (sAsg mg m ρ) QF X = wp (m ρ) (fun o ρ1 => wp (match useO ρ1 o with
    | some (d, ρ2) => (match mg d ρ2 with
      | some ρ3 => .ok .nx ρ3
      | none => .fail)
    | none => .fail) QF X) X := by simp only [sAsg, wp_bind] <;> rfl
@[simp ↓] theorem wp_sPut (i : Nat) (mk me : ME) : wp (sPut i mk me ρ) QF X = wp (me ρ) (fun o ρ1 => wp (match useO ρ1 o with
    | some (v, ρ2) => if isLst ρ2 i = true then (mk ρ2).bind fun k ρ3 => putI i .none k v ρ3 else .fail
    | none => .fail) QF X) X := by simp only [sPut, wp_bind] <;> rfl
@[simp ↓] theorem wp_sPutD (i : Nat) (mk me : ME) : wp (sPutD i mk me ρ) QF X = wp (me ρ) (fun o ρ1 => wp (match useO ρ1 o with
    | some (v, ρ2) => if isDct ρ2 i = true then (mk ρ2).bind fun k ρ3 => putD i k v ρ3 else .fail
    | none => .fail) QF X) X := by simp only [sPutD, wp_bind] <;> rfl
/-- a loop, by what holds ahead of each turn -/
theorem wp_loop {mg : MG} {b : MS} (I : Nat → Rho → Prop) : ∀ {ds : List D} {n : Nat} {ρ : Rho}, I n ρ →
    (∀ i d ρ, ds[i]? = some d → I (n + i) ρ → ∃ ρ1, mg d ρ = some ρ1 ∧ wp (b ρ1) (kf (fun ρ2 => I (n + i + 1) ρ2) (kl (fun ρ2 => I (n + i + 1) ρ2) QF)) X) →
    (∀ ρ, I (n + ds.length) ρ → QF .nx ρ) → wp (sLoop mg b ds ρ) QF X
  | [], n, ρ, h, _, q => q ρ h
  | d :: ds, n, ρ, h, st, q => by
    obtain ⟨ρ1, e, w⟩ := st 0 d ρ rfl h
    unfold sLoop
    rw [e]
    dsimp only
    have go : ∀ ρ2, I (n + 0 + 1) ρ2 → wp (sLoop mg b ds ρ2) QF X := fun ρ2 h2 => by
      refine wp_loop I (n := n + 1) h2 (fun i d ρ e h => ?_) fun ρ h => q ρ (by rw [List.length_cons]; rw [show n + (ds.length + 1) = n + 1 + ds.length by omega]; exact h)
      have := st (i + 1) d ρ e (by rw [show n + (i + 1) = n + 1 + i by omega]; exact h)
      rw [show n + (i + 1) + 1 = n + 1 + i + 1 by omega] at this
      exact this
    cases e2 : b ρ1 with
    | fail => rw [e2] at w; exact w
    | ex x ρ2 => rw [e2] at w; exact w
    | ok f ρ2 =>
      rw [e2] at w
      cases f with
      | nx => exact go ρ2 w
      | ct => exact go ρ2 w
      | bk => exact w
      | rt o => exact w
/-- a comprehension, likewise: acc by turns -/
theorem wp_comp {vs : List Nat} {mg : MG} {mt : MT} {me : ME} (I : Nat → List D → Rho → Prop) : ∀ {ds : List D} {n : Nat} {acc : List D} {ρ : Rho}, I n acc ρ →
    (∀ i d acc ρ, ds[i]? = some d → I (n + i) acc ρ → ∃ ρ2, mg d (hide vs ρ) = some ρ2 ∧ wp (mt ρ2) (fun c ρ3 => if c = true then wp (me ρ3) (fun o ρ4 => ∃ x ρ5, useO ρ4 o = some (x, ρ5) ∧ acc.length < sizeLine ∧ I (n + i + 1) (acc ++ [x]) (restore vs ρ ρ5)) NoX else I (n + i + 1) acc (restore vs ρ ρ3)) NoX) →
    (∀ acc ρ, I (n + ds.length) acc ρ → QO (.new (.list acc)) ρ) → wp (compL vs mg mt me ds acc ρ) QO X
  | [], n, acc, ρ, h, _, q => q acc ρ h
  | d :: ds, n, acc, ρ, h, st, q => by
    obtain ⟨ρ2, e, w⟩ := st 0 d acc ρ rfl h
    unfold compL
    rw [e]
    dsimp only
    have go : ∀ acc ρ, I (n + 0 + 1) acc ρ → wp (compL vs mg mt me ds acc ρ) QO X := fun acc ρ h2 => by
      refine wp_comp I (n := n + 1) h2 (fun i d acc ρ e h => ?_) fun acc ρ h => q acc ρ (by rw [List.length_cons]; rw [show n + (ds.length + 1) = n + 1 + ds.length by omega]; exact h)
      have := st (i + 1) d acc ρ e (by rw [show n + (i + 1) = n + 1 + i by omega]; exact h)
      rw [show n + (i + 1) + 1 = n + 1 + i + 1 by omega] at this
      exact this
    rw [wp_bind, wp_noEx]
    refine wp_mono0 w fun c ρ3 hc => ?_
    split
    · rename_i ht
      rw [if_pos ht] at hc
      rw [wp_bind, wp_noEx]
      refine wp_mono0 hc fun o ρ4 ho => ?_
      obtain ⟨x, ρ5, e5, hl, hI⟩ := ho
      rw [e5]
      dsimp only
      rw [if_pos hl]
      exact go _ _ hI
    · rename_i ht
      rw [if_neg ht] at hc
      exact go _ _ hc
end
end Dl

set_option maxRecDepth 100000
set_option maxHeartbeats 4000000
namespace Dl
open PySem PySem.Spec L2
set_option autoImplicit false
@[simp ↓] theorem wp_eVar {QO : Opd → Rho → Prop} {X : Ex → Rho → Prop} {ρ : Rho} (i : Nat) : wp (eVar i ρ) QO X = wp (match ρ[i]? with
    | some (.dat d) => .ok (.val d) ρ
    | some s => (match s.data? with
      | some _ => .ok (.loc i) ρ
      | none => .fail)
    | none => .fail) QO X := by
  unfold eVar
  cases e : ρ[i]? with
  | none => rfl
  | some s => cases s <;> rfl
@[simp] theorem pyAt_list (ds : List D) (i : Int) : pyAt (.list ds) (.int i) = (atI ds i).map .val := by
  unfold pyAt orf
  show (match (atI ds i).map Opd.val with | some o => some o | none => pyGet (.list ds) (.int i)) = _
  cases (atI ds i).map Opd.val <;> rfl
@[simp] theorem pyAt_tuple (ds : List D) (i : Int) : pyAt (.tuple ds) (.int i) = (atI ds i).map .val := by
  unfold pyAt orf
  show (match (atI ds i).map Opd.val with | some o => some o | none => pyGet (.tuple ds) (.int i)) = _
  cases (atI ds i).map Opd.val <;> rfl
theorem pyAt_dict (ps : List (D × D)) (k : D) : pyAt (.dict ps) k = pyGet (.dict ps) k := by cases k <;> rfl
@[simp] theorem pySub_int (i j : Int) : pySub (.int i) (.int j) = some (vI (i - j)) := rfl
@[simp] theorem pyDiv_int (i j : Int) : pyDiv (.int i) (.int j) = gd (decide (0 < j) && decide (j.natAbs.log2 < 9000)) (vI (i / j)) := rfl
@[simp] theorem pyMod_int (i j : Int) : pyMod (.int i) (.int j) = gd (decide (0 < j)) (vI (i % j)) := rfl
@[simp] theorem pyPow_int (i j : Int) : pyPow (.int i) (.int j) = gd (powOk i j) (vI (i ^ j.toNat)) := rfl
@[simp] theorem pyShl_int (i j : Int) : pyShl (.int i) (.int j) = gd (powOk i j) (vI (i * 2 ^ j.toNat)) := rfl
@[simp] theorem pyShr_int (i j : Int) : pyShr (.int i) (.int j) = gd (decide (0 ≤ j)) (vI (i / 2 ^ j.toNat)) := rfl
@[simp] theorem pyAnd_int (i j : Int) : pyAnd (.int i) (.int j) = some (vI (Builtin.bitAnd i j)) := rfl
@[simp] theorem pyOr_int (i j : Int) : pyOr (.int i) (.int j) = some (vI (Builtin.bitOr i j)) := rfl
@[simp] theorem pyLt_int (i j : Int) : pyLt (.int i) (.int j) = some (vB (decide (i < j))) := rfl
@[simp] theorem pyLe_int (i j : Int) : pyLe (.int i) (.int j) = some (vB (decide (i ≤ j))) := rfl
@[simp] theorem pyGt_int (i j : Int) : pyGt (.int i) (.int j) = some (vB (decide (j < i))) := rfl
@[simp] theorem pyGe_int (i j : Int) : pyGe (.int i) (.int j) = some (vB (decide (j ≤ i))) := rfl
@[simp] theorem in_list (d : D) (ds : List D) : orf pyIn pyInK d (.list ds) = (hasD d (.list ds)).map fun b => vB b := by
  unfold orf pyIn pyInK
  cases hasD d (.list ds) <;> rfl
@[simp] theorem in_tuple (d : D) (ds : List D) : orf pyIn pyInK d (.tuple ds) = (hasD d (.tuple ds)).map fun b => vB b := by
  unfold orf pyIn pyInK
  cases hasD d (.tuple ds) <;> rfl
@[simp] theorem notIn_list (d : D) (ds : List D) : orf pyNotIn pyNotInK d (.list ds) = (hasD d (.list ds)).map fun b => vB (!b) := by
  unfold orf pyNotIn pyNotInK
  cases hasD d (.list ds) <;> rfl
@[simp] theorem notIn_tuple (d : D) (ds : List D) : orf pyNotIn pyNotInK d (.tuple ds) = (hasD d (.tuple ds)).map fun b => vB (!b) := by
  unfold orf pyNotIn pyNotInK
  cases hasD d (.tuple ds) <;> rfl
def iabs (i : Int) : Int := if i < 0 then -i else i
@[simp] theorem fAbs_int (i : Int) : fAbs [.int i] = some (vI (iabs i)) := rfl
@[simp] theorem shaped_int (i : Int) : SeqAt.shaped (.int i) = true := rfl
theorem shaped_str {x : Str} (h : PyData.canLay0 (.str x) = true) : SeqAt.shaped (.str x) = true := by unfold SeqAt.shaped; rw [h]; rfl
@[simp] theorem shaped_bool (b : Bool) : SeqAt.shaped (.bool b) = true := rfl
@[simp] theorem shaped_none : SeqAt.shaped .none = true := rfl
@[simp] theorem eqv_int (i j : Int) : PyData.eqv (.int i) (.int j) = (i == j) := rfl
@[simp] theorem eqv_str (i j : Str) : PyData.eqv (.str i) (.str j) = (i == j) := rfl
@[simp ↓] theorem wp_sAug {QF : Flow → Rho → Prop} {X : Ex → Rho → Prop} {ρ : Rho} (i : Nat) (f : Int → Int → Int) (mk me : ME) : wp (sAug i f mk me ρ) QF X = if isLst ρ i = true then wp (mk ρ) (fun k ρ1 => wp (match getI i k ρ1 with
    | some x => (me ρ1).bind fun o ρ2 => augO i f k o x ρ2
    | none => .fail) QF X) X else False := by
  unfold sAug
  split
  · rw [wp_bind] <;> rfl
  · rfl
end Dl

set_option maxRecDepth 100000
set_option maxHeartbeats 4000000
namespace Dl
open PySem PySem.Spec L2
set_option autoImplicit false
/-- while, by turns -/
theorem wp_turns {c : MT} {b : MS} {QF : Flow → Rho → Prop} {X : Ex → Rho → Prop} (I : Nat → Rho → Prop) {N : Nat} (st : ∀ j ρ, I j ρ → j < N ∧ wp (c ρ) (fun x ρ1 => if x = true then wp (b ρ1) (kf (fun ρ2 => I (j + 1) ρ2) (kl (fun ρ2 => I (j + 1) ρ2) QF)) X else QF .nx ρ1) X) : ∀ {n j : Nat} {ρ : Rho}, n + j = N → I j ρ → wp (sWhile c b n ρ) QF X
  | 0, j, ρ, hn, hI => absurd (st j ρ hI).1 (by omega)
  | n + 1, j, ρ, hn, hI => by
    unfold sWhile
    rw [wp_bind]
    refine wp_mono (st j ρ hI).2 (fun x ρ1 hx => ?_) fun _ _ z => z
    split
    · rename_i ht
      rw [if_pos ht] at hx
      cases e : b ρ1 with
      | fail => rw [e] at hx; exact hx
      | ex x ρ2 => rw [e] at hx; exact hx
      | ok f ρ2 =>
        rw [e] at hx
        cases f with
        | nx => exact wp_turns I st (n := n) (by omega) hx
        | ct => exact wp_turns I st (n := n) (by omega) hx
        | bk => exact hx
        | rt o => exact hx
    · rename_i ht
      rw [if_neg ht] at hx
      exact hx
@[simp ↓] theorem wp_callO {QO : Opd → Rho → Prop} {X : Ex → Rho → Prop} {ρ : Rho} (n : Nat) (fl : List Bool) (sem : ME) (os : List Opd) : wp (callO n fl sem os ρ) QO X = wp (match useSel ρ fl os with
    | some (ps, ρ2) => (match slotsOf ρ2 ps with
      | some cs => if (lents ρ2 ps).Nodup ∧ cs.length = n then retO (sem cs) ps ρ2 else .fail
      | none => .fail)
    | none => .fail) QO X := rfl
def ofO (o : Option Rho) : Rs Unit := match o with
  | some ρ => .ok () ρ
  | none => .fail
@[simp] theorem ofO_some (ρ : Rho) : ofO (some ρ) = .ok () ρ := rfl
@[simp] theorem ofO_none : ofO none = .fail := rfl
@[simp ↓] theorem wp_loopC {mg : MG} {b : MS} {d : D} {ds : List D} {ρ : Rho} {QF : Flow → Rho → Prop} {X : Ex → Rho → Prop} : wp (sLoop mg b (d :: ds) ρ) QF X = wp (ofO (mg d ρ)) (fun _ ρ1 => wp (b ρ1) (kf (fun ρ2 => wp (sLoop mg b ds ρ2) QF X) (kl (fun ρ2 => wp (sLoop mg b ds ρ2) QF X) QF)) X) X := by
  unfold sLoop
  cases e : mg d ρ with
  | none => dsimp only [ofO]; rfl
  | some ρ1 =>
    dsimp only [ofO]
    rw [wp_ok]
    cases e2 : b ρ1 with
    | ok f ρ2 => cases f <;> rfl
    | ex x ρ2 => rfl
    | fail => rfl
@[simp ↓] theorem wp_loop0 {mg : MG} {b : MS} {ρ : Rho} {QF : Flow → Rho → Prop} {X : Ex → Rho → Prop} : wp (sLoop mg b [] ρ) QF X = QF .nx ρ := rfl
@[simp] theorem cut_tail (d : D) (ds : List D) : cutD (d :: ds) (some 1) none = ds := by
  unfold cutD
  have h1 : HT.sIx (d :: ds).length 0 (some 1) = 1 := by
    rw [show (some (1 : Int)) = some ((1 : Nat) : Int) from rfl, HT.sIx_nat, List.length_cons]
    omega
  rw [h1]
  rw [show HT.sIx (d :: ds).length (d :: ds).length none = ds.length + 1 from rfl]
  simp
theorem wp_for {mg : MG} {b : MS} {QF : Flow → Rho → Prop} {X : Ex → Rho → Prop} (I : Nat → Rho → Prop) {ds : List D} {ρ : Rho} (h : I 0 ρ)
    (st : ∀ i d ρ, ds[i]? = some d → I i ρ → ∃ ρ1, mg d ρ = some ρ1 ∧ wp (b ρ1) (kf (fun ρ2 => I (i + 1) ρ2) (kl (fun ρ2 => I (i + 1) ρ2) QF)) X) (q : ∀ ρ, I ds.length ρ → QF .nx ρ) : wp (sLoop mg b ds ρ) QF X :=
  wp_loop I (n := 0) h (fun i d ρ e hI => by rw [Nat.zero_add] at hI ⊢; exact st i d ρ e hI) fun ρ hI => q ρ (by rw [Nat.zero_add] at hI; exact hI)
theorem wp_cmp {vs : List Nat} {mg : MG} {mt : MT} {me : ME} {QO : Opd → Rho → Prop} {X : Ex → Rho → Prop} (I : Nat → List D → Rho → Prop) {ds : List D} {ρ : Rho} (h : I 0 [] ρ)
    (st : ∀ i d acc ρ, ds[i]? = some d → I i acc ρ → ∃ ρ2, mg d (hide vs ρ) = some ρ2 ∧ wp (mt ρ2) (fun c ρ3 => if c = true then wp (me ρ3) (fun o ρ4 => ∃ x ρ5, useO ρ4 o = some (x, ρ5) ∧ acc.length < sizeLine ∧ I (i + 1) (acc ++ [x]) (restore vs ρ ρ5)) NoX else I (i + 1) acc (restore vs ρ ρ3)) NoX)
    (q : ∀ acc ρ, I ds.length acc ρ → QO (.new (.list acc)) ρ) : wp (compL vs mg mt me ds [] ρ) QO X :=
  wp_comp I (n := 0) h (fun i d acc ρ e hI => by rw [Nat.zero_add] at hI ⊢; exact st i d acc ρ e hI) fun acc ρ hI => q acc ρ (by rw [Nat.zero_add] at hI; exact hI)
def lkQ {α : Type} (o : Option (Slot × D)) (j : Nat) (m : Rho → Rs α) (ρ : Rho) (Q : α → Rho → Prop) (X : Ex → Rho → Prop) (u : Ph Q X := ⟨⟩) : Prop := match o with
  | some (s, d) => wp (m (ρ.set j (.lck d))) (fun a ρ' => Q a (ρ'.set j s)) (fun x ρ' => X x (ρ'.set j s))
  | none => wp (m ρ) Q X
@[simp ↓] theorem wp_lkd {α : Type} {Q : α → Rho → Prop} {X : Ex → Rho → Prop} {ρ : Rho} (j : Nat) (m : Rho → Rs α) : wp (lkd j m ρ) Q X = lkQ (lockS ρ j) j m ρ Q X := by
  unfold lkd lkQ
  cases lockS ρ j with
  | none => rfl
  | some p =>
    obtain ⟨s, d⟩ := p
    dsimp only
    cases m (ρ.set j (.lck d)) <;> rfl
@[simp] theorem lkQ_some {α : Type} {Q : α → Rho → Prop} {X : Ex → Rho → Prop} {ρ : Rho} (s : Slot) (d : D) (j : Nat) (m : Rho → Rs α) : lkQ (some (s, d)) j m ρ Q X = wp (m (ρ.set j (.lck d))) (fun a ρ' => Q a (ρ'.set j s)) (fun x ρ' => X x (ρ'.set j s)) := rfl
@[simp] theorem lkQ_none {α : Type} {Q : α → Rho → Prop} {X : Ex → Rho → Prop} {ρ : Rho} (j : Nat) (m : Rho → Rs α) : lkQ none j m ρ Q X = wp (m ρ) Q X := rfl
@[simp ↓] theorem wp_eMut {QO : Opd → Rho → Prop} {X : Ex → Rho → Prop} {ρ : Rho} (i : Nat) (f : D → List D → Option (D × D)) (ma : MA) : wp (eMut i f ma ρ) QO X = if isLst ρ i = true then wp (ma ρ) (fun os ρ1 => wp (mutO i f os ρ1) QO X) X else False := by
  unfold eMut
  split
  · rw [wp_bind]
  · rfl
@[simp ↓] theorem wp_sAugN {QF : Flow → Rho → Prop} {X : Ex → Rho → Prop} {ρ : Rho} (i : Nat) (f : Int → Int → Int) (me : ME) : wp (sAugN i f me ρ) QF X = wp (match ρ[i]? with
  | some (.dat (.int a)) => (me ρ).bind fun o ρ1 => (match deref ρ1 o with
    | some (.int b) => if free ρ1 i = true then .ok .nx (ρ1.set i (.dat (.int (f a b)))) else .fail
    | _ => .fail)
  | _ => .fail) QF X := rfl
theorem wp_some {α β : Type} {o : Option α} {a : α} (e : o = some a) (f : α → Rs β) {QO : β → Rho → Prop} {X : Ex → Rho → Prop} : wp (match o with | some a => f a | none => .fail) QO X = wp (f a) QO X := by rw [e]
/-! ### the hand that every law draws from -/
def hd (ns : List Int) (i b k x y : Int) : D := .list [.list (ns.map .int), .int i, .int b, .int k, .int x, .int y]
def Hand (d : D) : Prop := ∃ ns i b k x y, d = hd ns i b k x y ∧ 0 ≤ i
def mNext : ME := fnSem 1 1
     (sSeq (sPut 0 (eC (.int 4)) (eOp2 pyMod (eOp2 pyMul (eOp2 pyAt (eVar 0) (eC (.int 4))) (eC (.int 48271))) (eC (.int 2147483647))))
     (sSeq (sPut 0 (eC (.int 5)) (eOp2 pyMod (eOp2 pyMul (eOp2 pyAt (eVar 0) (eC (.int 5))) (eC (.int 40693))) (eC (.int 2147483399))))
     (sRet (eOp2 pyAdd (eOp2 pyAt (eVar 0) (eC (.int 4))) (eOp2 pyAt (eVar 0) (eC (.int 5)))))))

def mTake : ME := fnSem 1 2
     (sSeq (sSet 1 (eC (.int 0)))
     (sSeq (sIf (tVal (eOp2 pyLt (eOp2 pyAt (eVar 0) (eC (.int 1))) (eBlt fLen (aCons (eOp2 pyAt (eVar 0) (eC (.int 0))) aNil))))
     (sSet 1 (eBlt fAbs (aCons (eOp2 pyAt (eOp2 pyAt (eVar 0) (eC (.int 0))) (eOp2 pyAt (eVar 0) (eC (.int 1)))) aNil)))
     sNil)
     (sSeq (sAug 0 (fun i j => i + j) (eC (.int 1)) (eC (.int 1)))
     (sSeq (sIf (tVal (eOp2 pyGe (eVar 1) (eOp2 pyPow (eC (.int 10)) (eC (.int 18)))))
     (sPut 0 (eC (.int 2)) (eVar 1))
     (sPut 0 (eC (.int 3)) (eC (.int 7))))
     (sSeq (sPut 0 (eC (.int 4)) (eOp2 pyAdd (eOp2 pyMod (eOp2 pyAdd (eOp2 pyAt (eVar 0) (eC (.int 4))) (eOp2 pyMod (eVar 1) (eC (.int 2147483587)))) (eC (.int 2147483646))) (eC (.int 1))))
     (sSeq (sPut 0 (eC (.int 5)) (eOp2 pyAdd (eOp2 pyMod (eOp2 pyAdd (eOp2 pyMul (eOp2 pyAt (eVar 0) (eC (.int 5))) (eC (.int 3))) (eOp2 pyMod (eVar 1) (eC (.int 1000003)))) (eC (.int 2147483398))) (eC (.int 1))))
     (sSeq (sExp (eCall 1 [true] mNext (aCons (eVar 0) aNil)))
     (sExp (eCall 1 [true] mNext (aCons (eVar 0) aNil))))))))))

def mDrawB : MS :=
     (sSeq (sIf (tVal (eOp2 pyGt (eOp2 pyAt (eVar 0) (eC (.int 2))) (eC (.int 0))))
     (sSeq (sSet 4 (eOp2 pyMod (eOp2 pyAt (eVar 0) (eC (.int 2))) (eVar 1)))
     (sSeq (sPut 0 (eC (.int 2)) (eOp2 pyDiv (eOp2 pyAt (eVar 0) (eC (.int 2))) (eVar 1)))
     (sRet (eVar 4))))
     sNil)
     (sSeq (sAug 0 (fun i j => i - j) (eC (.int 3)) (eC (.int 1)))
     (sSeq (sSet 2 (eCall 1 [true] mNext (aCons (eVar 0) aNil)))
     (sSeq (sSet 3 (eC (.int 4294967296)))
     (sSeq (sWhile (tVal (eOp2 pyLt (eVar 3) (eVar 1)))
     (sSeq (sSet 2 (eOp2 pyAdd (eOp2 pyMul (eVar 2) (eC (.int 4294967296))) (eCall 1 [true] mNext (aCons (eVar 0) aNil))))
     (sSet 3 (eOp2 pyMul (eVar 3) (eC (.int 4294967296))))) 64)
     (sRet (eOp2 pyMod (eVar 2) (eVar 1))))))))
def mDraw : ME := fnSem 2 5
     (sSeq (sIf (tAndM (tVal (eOp2 pyEq (eOp2 pyAt (eVar 0) (eC (.int 2))) (eC (.int 0)))) (tVal (eOp2 pyEq (eOp2 pyAt (eVar 0) (eC (.int 3))) (eC (.int 0)))))
     (sExp (eCall 1 [true] mTake (aCons (eVar 0) aNil)))
     sNil)
     mDrawB)
theorem next_eq (ns : List Int) (i b k x y : Int) : ∃ r x' y', mNext [.par (hd ns i b k x y)] = .ok (vI r) [.par (hd ns i b k x' y')] := by
  have : wp (mNext [.par (hd ns i b k x y)]) (fun o ρ => ∃ r x' y', o = vI r ∧ ρ = [.par (hd ns i b k x' y')]) NoX := by
    unfold mNext hd
    simp -dsimp -implicitDefEqProofs [Dl.vI, Dl.vB, Dl.vS, Dl.run2, Dl.run1, Dl.deref, Dl.Slot.data?, Dl.useO, Dl.useAll, Dl.boolOf, Dl.putO, Dl.free, Dl.outO, Dl.withAll, Dl.runN, Dl.derefs, Dl.mutO, Dl.isLst, Dl.isDct, Dl.putI, Dl.putD, Dl.setI, Dl.augO, Dl.getI, Dl.slotOf, Dl.slotsOf, Dl.lents, Dl.takeB, Dl.backS, Dl.useSel, Dl.back, Dl.gd, Dl.pyIx, atI, ixN, Dl.pyGet, Dl.pyMul, Dl.pyAdd, Dl.pyEq, Dl.pyNe, Dl.mulOk, Dl.powOk, Dl.pySlice, Dl.fLen, Dl.fList, Dl.fTuple, Dl.mAppend, Dl.mReverse, Dl.mClear, Dl.mExtend, Dl.mInsert, Dl.mkTup, Dl.mkLst, Dl.pyIsN, Dl.pyNotN, Dl.fNeg, Dl.pyRev, Dl.gN, Dl.gsNil, Dl.gsCons, Dl.gT, Dl.srcL, Dl.srcT, Dl.srcS, Dl.srcQ, Dl.srcR1, Dl.srcR2, Dl.hide, Dl.restore, sizeLine_eq, Dl.lockS]
  obtain ⟨o, ρ, e, r, x', y', rfl, rfl⟩ := wp_out this
  exact ⟨r, x', y', e⟩
theorem handD_hd (ns : List Int) : handD ns = hd ns 0 0 0 20011 40009 := rfl
theorem next2 (ns : List Int) (i b k x y : Int) : wp (mNext [.par (hd ns i b k x y)]) (fun _ cs => wp (mNext cs) (fun _ cs' => ∃ x' y', cs' = [.par (hd ns i b k x' y')]) NoX) NoX := by
  obtain ⟨r, x1, y1, e1⟩ := next_eq ns i b k x y
  obtain ⟨r2, x2, y2, e2⟩ := next_eq ns i b k x1 y1
  rw [e1]
  show wp (mNext [.par (hd ns i b k x1 y1)]) _ _
  rw [e2]
  exact ⟨x2, y2, rfl⟩
theorem wp_next (ns : List Int) (i b k x y : Int) {Q : Opd → Rho → Prop} {X : Ex → Rho → Prop} (h : ∀ r x' y', Q (vI r) [.par (hd ns i b k x' y')]) : wp (mNext [.par (hd ns i b k x y)]) Q X := by
  obtain ⟨r, x1, y1, e1⟩ := next_eq ns i b k x y
  rw [e1]
  exact h r x1 y1
theorem take_eq (ns : List Int) (i b k x y : Int) (hi : 0 ≤ i) : ∃ i' b' k' x' y', 0 ≤ i' ∧ mTake [.par (hd ns i b k x y)] = .ok (.val .none) [.par (hd ns i' b' k' x' y')] := by
  have : wp (mTake [.par (hd ns i b k x y)]) (fun o ρ => ∃ i' b' k' x' y', 0 ≤ i' ∧ o = .val .none ∧ ρ = [.par (hd ns i' b' k' x' y')]) NoX := by
    unfold mTake
    have e1 : (∃ c, ns[i.toNat]? = some c ∧ i < ns.length) ∨ ¬ i < ns.length := by
      by_cases h : i < ns.length
      · exact .inl ⟨_, List.getElem?_eq_getElem (by omega), h⟩
      · exact .inr h
    rcases e1 with ⟨c, hc, h⟩ | h
    all_goals
      (simp -dsimp -implicitDefEqProofs [Dl.vI, Dl.vB, Dl.vS, Dl.run2, Dl.run1, Dl.deref, Dl.Slot.data?, Dl.useO, Dl.useAll, Dl.boolOf, Dl.putO, Dl.free, Dl.outO, Dl.withAll, Dl.runN, Dl.derefs, Dl.mutO, Dl.isLst, Dl.isDct, Dl.putI, Dl.putD, Dl.setI, Dl.augO, Dl.getI, Dl.slotOf, Dl.slotsOf, Dl.lents, Dl.takeB, Dl.backS, Dl.useSel, Dl.back, Dl.gd, Dl.pyIx, atI, ixN, Dl.pyGet, Dl.pyMul, Dl.pyAdd, Dl.pyEq, Dl.pyNe, Dl.mulOk, Dl.powOk, Dl.pySlice, Dl.fLen, Dl.fList, Dl.fTuple, Dl.mAppend, Dl.mReverse, Dl.mClear, Dl.mExtend, Dl.mInsert, Dl.mkTup, Dl.mkLst, Dl.pyIsN, Dl.pyNotN, Dl.fNeg, Dl.pyRev, Dl.gN, Dl.gsNil, Dl.gsCons, Dl.gT, Dl.srcL, Dl.srcT, Dl.srcS, Dl.srcQ, Dl.srcR1, Dl.srcR2, Dl.hide, Dl.restore, sizeLine_eq, Dl.lockS, hd, hi, *]
       try split)
    all_goals
      (refine wp_next ns _ _ _ _ _ fun r x' y' => ?_
       simp -dsimp -implicitDefEqProofs [Dl.vI, Dl.vB, Dl.vS, Dl.run2, Dl.run1, Dl.deref, Dl.Slot.data?, Dl.useO, Dl.useAll, Dl.boolOf, Dl.putO, Dl.free, Dl.outO, Dl.withAll, Dl.runN, Dl.derefs, Dl.mutO, Dl.isLst, Dl.isDct, Dl.putI, Dl.putD, Dl.setI, Dl.augO, Dl.getI, Dl.slotOf, Dl.slotsOf, Dl.lents, Dl.takeB, Dl.backS, Dl.useSel, Dl.back, Dl.gd, Dl.pyIx, atI, ixN, Dl.pyGet, Dl.pyMul, Dl.pyAdd, Dl.pyEq, Dl.pyNe, Dl.mulOk, Dl.powOk, Dl.pySlice, Dl.fLen, Dl.fList, Dl.fTuple, Dl.mAppend, Dl.mReverse, Dl.mClear, Dl.mExtend, Dl.mInsert, Dl.mkTup, Dl.mkLst, Dl.pyIsN, Dl.pyNotN, Dl.fNeg, Dl.pyRev, Dl.gN, Dl.gsNil, Dl.gsCons, Dl.gT, Dl.srcL, Dl.srcT, Dl.srcS, Dl.srcQ, Dl.srcR1, Dl.srcR2, Dl.hide, Dl.restore, sizeLine_eq, Dl.lockS]
       refine wp_next ns _ _ _ _ _ fun r x' y' => ?_
       simp -dsimp -implicitDefEqProofs [Dl.vI, Dl.vB, Dl.vS, Dl.run2, Dl.run1, Dl.deref, Dl.Slot.data?, Dl.useO, Dl.useAll, Dl.boolOf, Dl.putO, Dl.free, Dl.outO, Dl.withAll, Dl.runN, Dl.derefs, Dl.mutO, Dl.isLst, Dl.isDct, Dl.putI, Dl.putD, Dl.setI, Dl.augO, Dl.getI, Dl.slotOf, Dl.slotsOf, Dl.lents, Dl.takeB, Dl.backS, Dl.useSel, Dl.back, Dl.gd, Dl.pyIx, atI, ixN, Dl.pyGet, Dl.pyMul, Dl.pyAdd, Dl.pyEq, Dl.pyNe, Dl.mulOk, Dl.powOk, Dl.pySlice, Dl.fLen, Dl.fList, Dl.fTuple, Dl.mAppend, Dl.mReverse, Dl.mClear, Dl.mExtend, Dl.mInsert, Dl.mkTup, Dl.mkLst, Dl.pyIsN, Dl.pyNotN, Dl.fNeg, Dl.pyRev, Dl.gN, Dl.gsNil, Dl.gsCons, Dl.gT, Dl.srcL, Dl.srcT, Dl.srcS, Dl.srcQ, Dl.srcR1, Dl.srcR2, Dl.hide, Dl.restore, sizeLine_eq, Dl.lockS]
       refine ⟨i + 1, ?_, _, _, x', y', rfl⟩
       omega)
  obtain ⟨o, ρ, e, i', b', k', x', y', h, rfl, rfl⟩ := wp_out this
  exact ⟨i', b', k', x', y', h, e⟩
theorem wp_take {ns : List Int} {i b k x y : Int} (hi : 0 ≤ i) {Q : Opd → Rho → Prop} {X : Ex → Rho → Prop} (h : ∀ i' b' k' x' y', 0 ≤ i' → Q (.val .none) [.par (hd ns i' b' k' x' y')]) : wp (mTake [.par (hd ns i b k x y)]) Q X := by
  obtain ⟨i', b', k', x', y', h', e⟩ := take_eq ns i b k x y hi
  rw [e]
  exact h i' b' k' x' y' h'
theorem pow32 (j : Nat) : (4294967296 : Int) ^ (j + 1) = 4294967296 ^ j * 4294967296 := Int.pow_succ ..
theorem drawB_eq (ns : List Int) (n : Int) (h0 : 0 < n) (h1 : n ≤ 10 ^ 70) (i b k x y : Int) (hi : 0 ≤ i) {O : Flow → Rho → Prop} {N : Rho → Prop} {X : Ex → Rho → Prop} (h : ∀ r i' b' k' x' y' s2 s3 s4, 0 ≤ i' → 0 ≤ r → r < n → O (.rt (vI r)) [.par (hd ns i' b' k' x' y'), .dat (.int n), s2, s3, s4]) :
    wp (mDrawB [.par (hd ns i b k x y), .dat (.int n), .un, .un, .un]) (kf N O) X := by
  have lg : n.natAbs.log2 < 9000 := by
    by_cases z : n.natAbs = 0
    · rw [z]; decide
    · have h2 : n.natAbs < 2 ^ 256 := by
        have : (n.natAbs : Int) ≤ 10 ^ 70 := by rw [Int.natAbs_of_nonneg (by omega)]; exact h1
        simp at this ⊢
        omega
      have := (Nat.log2_lt z).mpr h2
      omega
  have md : ∀ z : Int, 0 ≤ z % n ∧ z % n < n := fun z => ⟨Int.emod_nonneg z (by omega), Int.emod_lt_of_pos z h0⟩
  unfold mDrawB
  simp -dsimp -implicitDefEqProofs [Dl.vI, Dl.vB, Dl.vS, Dl.run2, Dl.run1, Dl.deref, Dl.Slot.data?, Dl.useO, Dl.useAll, Dl.boolOf, Dl.putO, Dl.free, Dl.outO, Dl.withAll, Dl.runN, Dl.derefs, Dl.mutO, Dl.isLst, Dl.isDct, Dl.putI, Dl.putD, Dl.setI, Dl.augO, Dl.getI, Dl.slotOf, Dl.slotsOf, Dl.lents, Dl.takeB, Dl.backS, Dl.useSel, Dl.back, Dl.gd, Dl.pyIx, atI, ixN, Dl.pyGet, Dl.pyMul, Dl.pyAdd, Dl.pyEq, Dl.pyNe, Dl.mulOk, Dl.powOk, Dl.pySlice, Dl.fLen, Dl.fList, Dl.fTuple, Dl.mAppend, Dl.mReverse, Dl.mClear, Dl.mExtend, Dl.mInsert, Dl.mkTup, Dl.mkLst, Dl.pyIsN, Dl.pyNotN, Dl.fNeg, Dl.pyRev, Dl.gN, Dl.gsNil, Dl.gsCons, Dl.gT, Dl.srcL, Dl.srcT, Dl.srcS, Dl.srcQ, Dl.srcR1, Dl.srcR2, Dl.hide, Dl.restore, sizeLine_eq, Dl.lockS, hd, h0, lg]
  split
  · exact h _ _ _ _ _ _ _ _ _ hi (md b).1 (md b).2
  · refine wp_next ns _ _ _ _ _ fun r x' y' => ?_
    simp -dsimp -implicitDefEqProofs [Dl.vI, Dl.vB, Dl.vS, Dl.run2, Dl.run1, Dl.deref, Dl.Slot.data?, Dl.useO, Dl.useAll, Dl.boolOf, Dl.putO, Dl.free, Dl.outO, Dl.withAll, Dl.runN, Dl.derefs, Dl.mutO, Dl.isLst, Dl.isDct, Dl.putI, Dl.putD, Dl.setI, Dl.augO, Dl.getI, Dl.slotOf, Dl.slotsOf, Dl.lents, Dl.takeB, Dl.backS, Dl.useSel, Dl.back, Dl.gd, Dl.pyIx, atI, ixN, Dl.pyGet, Dl.pyMul, Dl.pyAdd, Dl.pyEq, Dl.pyNe, Dl.mulOk, Dl.powOk, Dl.pySlice, Dl.fLen, Dl.fList, Dl.fTuple, Dl.mAppend, Dl.mReverse, Dl.mClear, Dl.mExtend, Dl.mInsert, Dl.mkTup, Dl.mkLst, Dl.pyIsN, Dl.pyNotN, Dl.fNeg, Dl.pyRev, Dl.gN, Dl.gsNil, Dl.gsCons, Dl.gT, Dl.srcL, Dl.srcT, Dl.srcS, Dl.srcQ, Dl.srcR1, Dl.srcR2, Dl.hide, Dl.restore, sizeLine_eq, Dl.lockS, hd]
    refine wp_turns (fun j ρ => ∃ v x y sz, (j ≤ 8 ∧ sz = 4294967296 ^ (j + 1)) ∧ ρ = [.par (hd ns i b (k - 1) x y), .dat (.int n), .dat (.int v), .dat (.int sz), .un]) (N := 64) (fun j ρ hI => ?_) (n := 64) (j := 0) rfl ⟨r, x', y', 4294967296, ⟨by omega, by simp⟩, rfl⟩
    obtain ⟨v, x, y, sz, ⟨hj, hs⟩, rfl⟩ := hI
    refine ⟨by omega, ?_⟩
    simp -dsimp -implicitDefEqProofs [Dl.vI, Dl.vB, Dl.vS, Dl.run2, Dl.run1, Dl.deref, Dl.Slot.data?, Dl.useO, Dl.useAll, Dl.boolOf, Dl.putO, Dl.free, Dl.outO, Dl.withAll, Dl.runN, Dl.derefs, Dl.mutO, Dl.isLst, Dl.isDct, Dl.putI, Dl.putD, Dl.setI, Dl.augO, Dl.getI, Dl.slotOf, Dl.slotsOf, Dl.lents, Dl.takeB, Dl.backS, Dl.useSel, Dl.back, Dl.gd, Dl.pyIx, atI, ixN, Dl.pyGet, Dl.pyMul, Dl.pyAdd, Dl.pyEq, Dl.pyNe, Dl.mulOk, Dl.powOk, Dl.pySlice, Dl.fLen, Dl.fList, Dl.fTuple, Dl.mAppend, Dl.mReverse, Dl.mClear, Dl.mExtend, Dl.mInsert, Dl.mkTup, Dl.mkLst, Dl.pyIsN, Dl.pyNotN, Dl.fNeg, Dl.pyRev, Dl.gN, Dl.gsNil, Dl.gsCons, Dl.gT, Dl.srcL, Dl.srcT, Dl.srcS, Dl.srcQ, Dl.srcR1, Dl.srcR2, Dl.hide, Dl.restore, sizeLine_eq, Dl.lockS, hd, h0]
    split
    · rename_i hlt
      refine wp_next ns _ _ _ _ _ fun r x' y' => ?_
      simp -dsimp -implicitDefEqProofs [Dl.vI, Dl.vB, Dl.vS, Dl.run2, Dl.run1, Dl.deref, Dl.Slot.data?, Dl.useO, Dl.useAll, Dl.boolOf, Dl.putO, Dl.free, Dl.outO, Dl.withAll, Dl.runN, Dl.derefs, Dl.mutO, Dl.isLst, Dl.isDct, Dl.putI, Dl.putD, Dl.setI, Dl.augO, Dl.getI, Dl.slotOf, Dl.slotsOf, Dl.lents, Dl.takeB, Dl.backS, Dl.useSel, Dl.back, Dl.gd, Dl.pyIx, atI, ixN, Dl.pyGet, Dl.pyMul, Dl.pyAdd, Dl.pyEq, Dl.pyNe, Dl.mulOk, Dl.powOk, Dl.pySlice, Dl.fLen, Dl.fList, Dl.fTuple, Dl.mAppend, Dl.mReverse, Dl.mClear, Dl.mExtend, Dl.mInsert, Dl.mkTup, Dl.mkLst, Dl.pyIsN, Dl.pyNotN, Dl.fNeg, Dl.pyRev, Dl.gN, Dl.gsNil, Dl.gsCons, Dl.gT, Dl.srcL, Dl.srcT, Dl.srcS, Dl.srcQ, Dl.srcR1, Dl.srcR2, Dl.hide, Dl.restore, sizeLine_eq, Dl.lockS]
      refine ⟨_, x', y', sz * 4294967296, ⟨?_, by rw [hs, ← Int.pow_succ]⟩, rfl, rfl, rfl⟩
      by_cases e : j ≤ 7
      · omega
      · exfalso
        have : j = 8 := by omega
        subst this
        simp at hs
        omega
    · exact h _ _ _ _ _ _ _ _ _ hi (md v).1 (md v).2
theorem draw_eq (ns : List Int) (i b k x y n : Int) (hi : 0 ≤ i) (h0 : 0 < n) (h1 : n ≤ 10 ^ 70) : ∃ r i' b' k' x' y', 0 ≤ i' ∧ 0 ≤ r ∧ r < n ∧ mDraw [.par (hd ns i b k x y), .dat (.int n)] = .ok (vI r) [.par (hd ns i' b' k' x' y'), .dat (.int n)] := by
  have rest : wp (mDraw [.par (hd ns i b k x y), .dat (.int n)]) (fun o ρ => ∃ r i' b' k' x' y', 0 ≤ i' ∧ 0 ≤ r ∧ r < n ∧ o = vI r ∧ ρ = [.par (hd ns i' b' k' x' y'), .dat (.int n)]) NoX := by
    have go : ∀ (c0 : D) (i b k x y : Int), 0 ≤ i → ∀ {N : Rho → Prop} {X : Ex → Rho → Prop}, wp (mDrawB [.par (hd ns i b k x y), .dat (.int n), .un, .un, .un]) (kf N (kr fun o ρ => ∃ r i' b' k' x' y', 0 ≤ i' ∧ 0 ≤ r ∧ r < n ∧ o = vI r ∧ back [.par c0, .dat (.int n)] ρ = [.par (hd ns i' b' k' x' y'), .dat (.int n)])) X := fun c0 i b k x y hi N X => drawB_eq ns n h0 h1 i b k x y hi fun r i' b' k' x' y' s2 s3 s4 h2 h3 h4 => ⟨r, i', b', k', x', y', h2, h3, h4, rfl, rfl⟩
    unfold mDraw
    simp -dsimp -implicitDefEqProofs [Dl.vI, Dl.vB, Dl.vS, Dl.run2, Dl.run1, Dl.deref, Dl.Slot.data?, Dl.useO, Dl.useAll, Dl.boolOf, Dl.putO, Dl.free, Dl.outO, Dl.withAll, Dl.runN, Dl.derefs, Dl.mutO, Dl.isLst, Dl.isDct, Dl.putI, Dl.putD, Dl.setI, Dl.augO, Dl.getI, Dl.slotOf, Dl.slotsOf, Dl.lents, Dl.takeB, Dl.backS, Dl.useSel, Dl.back, Dl.gd, Dl.pyIx, atI, ixN, Dl.pyGet, Dl.pyMul, Dl.pyAdd, Dl.pyEq, Dl.pyNe, Dl.mulOk, Dl.powOk, Dl.pySlice, Dl.fLen, Dl.fList, Dl.fTuple, Dl.mAppend, Dl.mReverse, Dl.mClear, Dl.mExtend, Dl.mInsert, Dl.mkTup, Dl.mkLst, Dl.pyIsN, Dl.pyNotN, Dl.fNeg, Dl.pyRev, Dl.gN, Dl.gsNil, Dl.gsCons, Dl.gT, Dl.srcL, Dl.srcT, Dl.srcS, Dl.srcQ, Dl.srcR1, Dl.srcR2, Dl.hide, Dl.restore, sizeLine_eq, Dl.lockS, hd]
    split
    · split
      · refine wp_take hi fun i' b' k' x' y' h => ?_
        simp -dsimp -implicitDefEqProofs [Dl.vI, Dl.vB, Dl.vS, Dl.run2, Dl.run1, Dl.deref, Dl.Slot.data?, Dl.useO, Dl.useAll, Dl.boolOf, Dl.putO, Dl.free, Dl.outO, Dl.withAll, Dl.runN, Dl.derefs, Dl.mutO, Dl.isLst, Dl.isDct, Dl.putI, Dl.putD, Dl.setI, Dl.augO, Dl.getI, Dl.slotOf, Dl.slotsOf, Dl.lents, Dl.takeB, Dl.backS, Dl.useSel, Dl.back, Dl.gd, Dl.pyIx, atI, ixN, Dl.pyGet, Dl.pyMul, Dl.pyAdd, Dl.pyEq, Dl.pyNe, Dl.mulOk, Dl.powOk, Dl.pySlice, Dl.fLen, Dl.fList, Dl.fTuple, Dl.mAppend, Dl.mReverse, Dl.mClear, Dl.mExtend, Dl.mInsert, Dl.mkTup, Dl.mkLst, Dl.pyIsN, Dl.pyNotN, Dl.fNeg, Dl.pyRev, Dl.gN, Dl.gsNil, Dl.gsCons, Dl.gT, Dl.srcL, Dl.srcT, Dl.srcS, Dl.srcQ, Dl.srcR1, Dl.srcR2, Dl.hide, Dl.restore, sizeLine_eq, Dl.lockS, hd]
        exact go _ i' b' k' x' y' h
      · exact go _ i b k x y hi
    · exact go _ i b k x y hi
  obtain ⟨o, ρ, e, r, i', b', k', x', y', h, h2, h3, rfl, rfl⟩ := wp_out rest
  exact ⟨r, i', b', k', x', y', h, h2, h3, e⟩
/-- the hand's state, whatever it is -/
theorem wp_draw {d : D} {n : Int} (hd : Hand d) (h0 : 0 < n) (h1 : n ≤ 10 ^ 70) {Q : Opd → Rho → Prop} {X : Ex → Rho → Prop} (h : ∀ r d', Hand d' → 0 ≤ r → r < n → Q (vI r) [.par d', .dat (.int n)]) : wp (mDraw [.par d, .dat (.int n)]) Q X := by
  obtain ⟨ns, i, b, k, x, y, rfl, hi⟩ := hd
  obtain ⟨r, i', b', k', x', y', h2, h3, h4, e⟩ := draw_eq ns i b k x y n hi h0 h1
  rw [e]
  exact h r _ ⟨ns, i', b', k', x', y', rfl, h2⟩ h3 h4
end Dl

set_option maxRecDepth 100000
set_option maxHeartbeats 4000000
namespace Dl
open PySem PySem.Spec L2
set_option autoImplicit false
/-! ### small texts -/
def okC (cs : List Nat) : Prop := ∀ c ∈ cs, c < 1114112
structure Nm (s : Str) : Prop where
  ok : okC s.cps.toList
  len : s.cps.toList.length ≤ 64
theorem okC_nil : okC [] := fun c h => by cases h
theorem okC_app {a b : List Nat} (ha : okC a) (hb : okC b) : okC (a ++ b) := fun c h => (List.mem_append.mp h).elim (ha c) (hb c)
theorem strOk_of {s : Str} (h : okC s.cps.toList) : PyData.canLay0 (.str s) = true := by
  show (s.cps.all (· < 0x110000)) = true
  rw [← Array.all_toList]
  exact List.all_eq_true.mpr fun c hc => decide_eq_true (h c hc)
@[simp] theorem Nm.shaped {s : Str} (h : Nm s) : SeqAt.shaped (.str s) = true := shaped_str (strOk_of h.ok)
theorem canAll : ∀ {ss : List Str}, (∀ s ∈ ss, Nm s) → PyData.canLayAll0 (ss.map .str) = true
  | [], _ => rfl
  | s :: ss, h => by
    show (PyData.canLay0 (.str s) && PyData.canLayAll0 (ss.map .str)) = true
    rw [strOk_of (h s List.mem_cons_self).ok, canAll fun t ht => h t (List.mem_cons_of_mem _ ht)]
    rfl
theorem depthAll0 : ∀ ss : List Str, PyData.depthAll (ss.map .str) = 0
  | [] => by simp [PyData.depthAll]
  | s :: ss => by
    rw [List.map_cons, PyData.depthAll, depthAll0 ss]
    rfl
theorem depthAll_str (ss : List Str) : PyData.depth (.list (ss.map .str)) ≤ 1 := by
  rw [PyData.depth, depthAll0]
  omega
theorem shaped_list {ss : List Str} (h : ∀ s ∈ ss, Nm s) : SeqAt.shaped (.list (ss.map .str)) = true := by
  unfold SeqAt.shaped
  rw [show PyData.canLay0 (.list (ss.map .str)) = PyData.canLayAll0 (ss.map .str) from rfl, canAll h]
  have := depthAll_str ss
  simp
  omega
theorem eqvAll_str : ∀ (a b : List Str), PyData.eqvAll (a.map .str) (b.map .str) = decide (a = b)
  | [], [] => by simp [PyData.eqvAll]
  | [], _ :: _ => by simp [PyData.eqvAll]
  | _ :: _, [] => by simp [PyData.eqvAll]
  | x :: a, y :: b => by
    rw [List.map_cons, List.map_cons]
    show (PyData.eqv (.str x) (.str y) && PyData.eqvAll (a.map .str) (b.map .str)) = _
    rw [eqvAll_str a b]
    by_cases h : x = y
    · subst h; by_cases h2 : a = b <;> simp [h2]
    · simp [h]
theorem eqv_lists (a b : List Str) : PyData.eqv (.list (a.map .str)) (.list (b.map .str)) = decide (a = b) := eqvAll_str a b
theorem any_str (s : Str) : ∀ ss : List Str, (ss.map PyData.str).any (fun z => PyData.eqv z (.str s)) = decide (s ∈ ss)
  | [] => by simp
  | t :: ss => by
    rw [List.map_cons, List.any_cons, any_str s ss]
    by_cases h : t = s
    · subst h; simp
    · have : ¬ s = t := fun e => h e.symm
      simp [h, this]
theorem in_names {s : Str} {ss : List Str} (hs : Nm s) (h : ∀ s ∈ ss, Nm s) : hasD (.str s) (.list (ss.map .str)) = some (decide (s ∈ ss)) := by
  unfold hasD
  dsimp only
  rw [shaped_list h, hs.shaped]
  simp only [Bool.and_self, if_true, any_str]
theorem strs_map : ∀ ss : List Str, strsOf (ss.map .str) = some ss
  | [] => rfl
  | s :: ss => by
    rw [List.map_cons]
    unfold strsOf
    rw [strs_map ss]
    rfl
/-! joined -/
theorem join_list : ∀ ss : List Str, (Str.join "" ss).cps.toList = ss.flatMap fun s => s.cps.toList
  | [] => rfl
  | [x] => by simp [Str.join]
  | x :: y :: r => by
    show (x ++ "" ++ Str.join "" (y :: r)).cps.toList = _
    have e : (x ++ ("" : Str) ++ Str.join "" (y :: r)).cps = x.cps ++ #[] ++ (Str.join "" (y :: r)).cps := rfl
    rw [e]
    simp [join_list (y :: r)]
def one (c : Nat) : Str := ⟨#[c]⟩
theorem join_ones (cs : List Nat) : (Txt.join "" (cs.map one)).cps.toList = cs := by
  unfold Txt.join
  rw [StrLaws.glued_eq_join, join_list]
  induction cs with
  | nil => rfl
  | cons c cs ih => rw [List.map_cons, List.flatMap_cons, ih]; rfl
theorem join_py (cs : List Nat) (h : cs.length ≤ 100) : pyJoin (.str "") (.list ((cs.map one).map .str)) = some (vS (Txt.join "" (cs.map one))) := by
  unfold pyJoin
  dsimp only
  rw [strs_map]
  have e : ((cs.map one).map (·.length)).sum = cs.length := by
    rw [List.map_map]
    clear h
    induction cs with
    | nil => rfl
    | cons c cs ih =>
      rw [List.map_cons, List.sum_cons, ih]
      show 1 + cs.length = cs.length + 1
      omega
  dsimp only
  rw [e]
  have z : (("" : Str)).length = 0 := rfl
  rw [z, if_pos (by omega)]
theorem nm_join {cs : List Nat} (h : okC cs) (hl : cs.length ≤ 64) : Nm (Txt.join "" (cs.map one)) := ⟨by rw [join_ones]; exact h, by rw [join_ones]; exact hl⟩
/-! ### lists in order, no name twice -/
theorem sort_same {a b : List Str} (ha : a.Nodup) (hb : b.Nodup) (h : ∀ s, s ∈ a ↔ s ∈ b) : sortStr a = sortStr b := by
  have p : a.Perm b := (List.perm_ext_iff_of_nodup ha hb).mpr h
  exact List.Perm.eq_of_pairwise (le := fun a b => strLe a b = true) (fun a b _ _ h1 h2 => strLe_anti h1 h2) (List.pairwise_mergeSort (le := strLe) strLe_trans strLe_total a) (List.pairwise_mergeSort (le := strLe) strLe_trans strLe_total b) ((List.mergeSort_perm a strLe).trans (p.trans (List.mergeSort_perm b strLe).symm))
theorem sort_one (s : Str) : sortStr [s] = [s] := by simp [sortStr, List.mergeSort]
theorem sort_mem {s : Str} {a : List Str} : s ∈ sortStr a ↔ s ∈ a := List.mem_mergeSort
theorem sort_nodup {a : List Str} (h : a.Nodup) : (sortStr a).Nodup := (List.mergeSort_perm a strLe).symm.nodup h
theorem sort_len (a : List Str) : (sortStr a).length = a.length := (List.mergeSort_perm a strLe).length_eq
theorem sortDs_str {ss : List Str} (h : ss.length < 64) : sortDs (ss.map .str) = some ((sortStr ss).map .str) := by
  cases ss with
  | nil => simp [sortDs, intsOf, sortInt, sortStr]
  | cons s ss =>
    unfold sortDs
    have e : intsOf ((s :: ss).map PyData.str) = none := rfl
    rw [e, strs_map]
    dsimp only
    rw [if_pos h]
def addS (ks : List Str) (s : Str) : List Str := if s ∈ ks then ks else ks ++ [s]
def dd (ss : List Str) : List Str := ss.foldl addS []
theorem addS_nodup {ks : List Str} {s : Str} (h : ks.Nodup) : (addS ks s).Nodup := by
  unfold addS
  split
  · exact h
  · rename_i n
    refine List.nodup_append.mpr ⟨h, by simp, fun a ha b hb => ?_⟩
    rw [List.mem_singleton.mp hb]
    rintro rfl
    exact n ha
theorem addS_mem {ks : List Str} {s t : Str} : t ∈ addS ks s ↔ t ∈ ks ∨ t = s := by
  unfold addS
  split
  · rename_i h
    exact ⟨.inl, fun z => z.elim (fun z => z) fun z => z ▸ h⟩
  · simp
theorem dd_go : ∀ (ss ks : List Str), ks.Nodup → (ss.foldl addS ks).Nodup ∧ (∀ t, t ∈ ss.foldl addS ks ↔ t ∈ ks ∨ t ∈ ss) ∧ (ss.foldl addS ks).length ≤ ks.length + ss.length
  | [], ks, h => ⟨h, by simp, by simp⟩
  | s :: ss, ks, h => by
    obtain ⟨h1, h2, h3⟩ := dd_go ss (addS ks s) (addS_nodup h)
    refine ⟨h1, fun t => ?_, ?_⟩
    · rw [List.foldl_cons, h2 t, addS_mem, List.mem_cons]
      constructor
      · rintro ((h | h) | h)
        · exact .inl h
        · exact .inr (.inl h)
        · exact .inr (.inr h)
      · rintro (h | h | h)
        · exact .inl (.inl h)
        · exact .inl (.inr h)
        · exact .inr h
    · have : (addS ks s).length ≤ ks.length + 1 := by unfold addS; split <;> simp
      rw [List.foldl_cons, List.length_cons]
      omega
theorem dd_nodup (ss : List Str) : (dd ss).Nodup := (dd_go ss [] .nil).1
theorem dd_mem {ss : List Str} {t : Str} : t ∈ dd ss ↔ t ∈ ss := by rw [show dd ss = ss.foldl addS [] from rfl, (dd_go ss [] .nil).2.1 t]; simp
theorem dd_len (ss : List Str) : (dd ss).length ≤ ss.length := by have := (dd_go ss [] .nil).2.2; unfold dd; simpa using this
/-- the names, in order, each once -/
def canon (ss : List Str) : List Str := sortStr (dd ss)
theorem canon_nodup (ss : List Str) : (canon ss).Nodup := sort_nodup (dd_nodup ss)
theorem canon_mem {ss : List Str} {t : Str} : t ∈ canon ss ↔ t ∈ ss := by rw [show canon ss = sortStr (dd ss) from rfl, sort_mem, dd_mem]
theorem canon_len (ss : List Str) : (canon ss).length ≤ ss.length := by rw [show canon ss = sortStr (dd ss) from rfl, sort_len]; exact dd_len ss
theorem canon_of {ss a : List Str} (ha : a.Nodup) (h : ∀ s, s ∈ a ↔ s ∈ ss) : sortStr a = canon ss := sort_same ha (dd_nodup ss) fun s => (h s).trans dd_mem.symm
/-! a dict of names -/
def setD (ks : List Str) : D := .dict (ks.map fun k => (.str k, .bool true))
theorem any_key (s : Str) : ∀ ks : List Str, (ks.map fun k => (PyData.str k, PyData.bool true)).any (fun p => decide (keyOf p.1 = some (.inr s))) = decide (s ∈ ks)
  | [] => by simp
  | k :: ks => by
    rw [List.map_cons, List.any_cons, any_key s ks]
    by_cases h : k = s
    · subst h; simp [keyOf]
    · have : ¬ s = k := fun e => h e.symm
      simp [keyOf, h, this]
theorem setD_put {ks : List Str} {s : Str} (h : ks.length < sizeLine) : setK (setD ks) (.str s) (.bool true) = some (setD (addS ks s)) := by
  unfold setK setD
  dsimp only [keyOf]
  rw [List.length_map, if_pos h]
  congr 2
  unfold dput addS
  rw [any_key]
  by_cases hs : s ∈ ks
  · rw [if_pos (by simpa using hs), if_pos hs]
    rw [List.map_map]
    refine List.map_congr_left fun k hk => ?_
    show (if keyOf (PyData.str k) = some (.inr s) then (PyData.str k, PyData.bool true) else (PyData.str k, PyData.bool true)) = _
    split <;> rfl
  · rw [if_neg (by simpa using hs), if_neg hs, List.map_append]
    rfl
theorem setD_sorted {ks : List Str} (h : ks.length < 64) : fSorted [setD ks] = some (.new (.list ((sortStr ks).map .str))) := by
  unfold fSorted setD
  dsimp only
  rw [List.length_map, if_pos h, List.map_map]
  rw [show ((fun x : D × D => x.1) ∘ fun k : Str => (PyData.str k, PyData.bool true)) = PyData.str from rfl, sortDs_str h]
  rfl
end Dl

set_option maxRecDepth 100000
set_option maxHeartbeats 4000000
namespace Dl
open PySem PySem.Spec L2
set_option autoImplicit false
def mAllNames : Nat → ME
 | 0 => fun _ => .fail
 | n + 1 => fnSem 1 3
     (sSeq (sIf (tVal (eOp2 pyEq (eOp2 pyAt (eVar 0) (eC (.int 0))) (eC (.str "is"))))
     (sRet (eUse mkLst (aCons (eOp2 pyAt (eVar 0) (eC (.int 1))) aNil)))
     sNil)
     (sSeq (sSet 1 (eUse mkLst aNil))
     (sSeq (sFor (iSeq (eSlice (eVar 0) (oSome (eC (.int 1))) oNone)) (gN 2)
     (sSet 1 (eOp2 pyAdd (eVar 1) (eCall 1 [true] (mAllNames n) (aCons (eVar 2) aNil)))))
     (sRet (eVar 1)))))

def mNamesOf : ME := fnSem 1 3
     (sSeq (sSet 1 (fun ρ => .ok (.new (.dict [])) ρ))
     (sSeq (sFor (iSeq (eCall 1 [true] (mAllNames 7) (aCons (eVar 0) aNil))) (gN 2)
     (sPutD 1 (eVar 2) (eC (.bool true))))
     (sRet (eBlt fSorted (aCons (eVar 1) aNil)))))

def mLawNamesOf : Nat → ME
 | 0 => fun _ => .fail
 | n + 1 => fnSem 1 4
     (sSeq (sIf (tVal (eOp2 pyEq (eOp2 pyAt (eVar 0) (eC (.int 0))) (eC (.str "is"))))
     (sRet (eUse mkLst (aCons (eOp2 pyAt (eVar 0) (eC (.int 1))) aNil)))
     sNil)
     (sSeq (sSet 1 (eUse mkLst aNil))
     (sSeq (sFor (iSeq (eSlice (eVar 0) (oSome (eC (.int 1))) oNone)) (gN 2)
     (sSet 1 (eOp2 pyAdd (eVar 1) (eComp [3] (iSeq (eCall 1 [true] (mLawNamesOf n) (aCons (eVar 2) aNil))) (gN 3) (tVal (eOp2 (orf pyNotIn pyNotInK) (eVar 3) (eVar 1))) (eVar 3)))))
     (sRet (eBlt fSorted (aCons (eVar 1) aNil))))))

def mRuleLeaf : MS :=
     (sSeq (sIf (tOrM (tVal (eOp2 pyEq (eCall 2 [true, true] mDraw (aCons (eVar 0) (aCons (eC (.int 12)) aNil))) (eC (.int 0)))) (tVal (eOp2 pyEq (eBlt fLen (aCons (eVar 1) aNil)) (eC (.int 0)))))
     (sRet (eOp2 pyAt (eUse mkLst (aCons (eUse mkTup (aCons (eC (.str "yes")) aNil)) (aCons (eUse mkTup (aCons (eC (.str "no")) aNil)) aNil))) (eCall 2 [true, true] mDraw (aCons (eVar 0) (aCons (eC (.int 2)) aNil)))))
     sNil)
     (sRet (eUse mkTup (aCons (eC (.str "is")) (aCons (eOp2 pyAt (eVar 1) (eCall 2 [true, true] mDraw (aCons (eVar 0) (aCons (eBlt fLen (aCons (eVar 1) aNil)) aNil)))) aNil)))))
def mRuleRest (f : ME) : MS :=
     (sSeq (sSet 4 (eCall 3 [true, true, true] f (aCons (eVar 0) (aCons (eVar 1) (aCons (eOp2 pySub (eVar 2) (eC (.int 1))) aNil)))))
     (sSeq (sIf (tVal (eOp2 pyLt (eVar 3) (eC (.int 4))))
     (sRet (eUse mkTup (aCons (eC (.str "not")) (aCons (eVar 4) aNil))))
     sNil)
     (sRet (eUse mkTup (aCons (eOp2 pyAt (eUse mkLst (aCons (eC (.str "and")) (aCons (eC (.str "or")) (aCons (eC (.str "then")) (aCons (eC (.str "same")) aNil))))) (eOp2 pySub (eVar 3) (eC (.int 4)))) (aCons (eVar 4) (aCons (eCall 3 [true, true, true] f (aCons (eVar 0) (aCons (eVar 1) (aCons (eOp2 pySub (eVar 2) (eC (.int 1))) aNil)))) aNil)))))))
def mLawRule : Nat → ME
 | 0 => fun _ => .fail
 | n + 1 => fnSem 3 5
     (sSeq (sSet 3 (eCall 2 [true, true] mDraw (aCons (eVar 0) (aCons (eC (.int 8)) aNil))))
     (sSeq (sIf (tOrM (tVal (eOp2 pyEq (eVar 2) (eC (.int 1)))) (tVal (eOp2 pyLt (eVar 3) (eC (.int 2))))) mRuleLeaf sNil)
     (mRuleRest (mLawRule n))))

def mWordC (j : Nat) (k : MA) : ME := eComp [j] (iRng k) (gN j) tTrue (eOp2 pyAt (eVar 2) (eCall 2 [true, true] mDraw (aCons (eVar 0) (aCons (eC (.int 26)) aNil))))
def mNames0 : MS :=
     (sSeq (sSet 10 (eCall 2 [true, true] mDraw (aCons (eVar 0) (aCons (eC (.int 13)) aNil))))
     (sRet (eComp [9] (iRng (aCons (eVar 1) aNil)) (gN 9) tTrue (eOp2 pyAt (eVar 3) (eOp2 pyMod (eOp2 pyAdd (eVar 10) (eOp2 pyMul (eC (.int 5)) (eVar 9))) (eC (.int 13)))))))
def mNames3L : MS :=
     (sSeq (sSet 12 (eOp2 pyJoin (eC (.str "")) (mWordC 13 (aCons (eOp2 pyAdd (eC (.int 1)) (eCall 2 [true, true] mDraw (aCons (eVar 0) (aCons (eC (.int 8)) aNil)))) aNil))))
     (sSeq (sIf (tVal (eOp2 (orf pyIn pyInK) (eVar 12) (eVar 5)))
     (sSet 12 (eOp2 pyAt (lkd 3 (eComp [14] (iLst (eVar 3)) (gN 14) (tVal (eOp2 (orf pyNotIn pyNotInK) (eVar 14) (eVar 5))) (eVar 14))) (eC (.int 0))))
     sNil)
     (sExp (eMut 5 mAppend (aCons (eVar 12) aNil)))))
def mNames3 : MS :=
     (sSeq (sFor (iRng (aCons (eVar 1) aNil)) (gN 9)
     mNames3L)
     (sRet (eVar 5)))
def mNames1 : MS :=
     (sSeq (sSet 10 (eCall 2 [true, true] mDraw (aCons (eVar 0) (aCons (eC (.int 8)) aNil))))
     (sRet (eComp [9] (iRng (aCons (eVar 1) aNil)) (gN 9) tTrue (eSlice (eVar 6) oNone (oSome (eOp2 pyAdd (eOp2 pyMod (eOp2 pyAdd (eVar 10) (eOp2 pyMul (eC (.int 3)) (eVar 9))) (eC (.int 8))) (eC (.int 1))))))))
def mNames2L : MS :=
     (sSeq (sSet 11 (eOp2 pyAt (eVar 2) (eOp2 pyMod (eOp2 pyAdd (eVar 8) (eOp2 pyMul (eC (.int 7)) (eVar 9))) (eC (.int 26)))))
     (sSeq (sSet 12 (eOp2 pyAdd (eOp2 pyAdd (eSlice (eVar 6) oNone (oSome (eVar 7))) (eVar 11)) (eSlice (eVar 6) (oSome (eOp2 pyAdd (eVar 7) (eC (.int 1)))) oNone)))
     (sExp (eMut 5 mAppend (aCons (eSlice (eVar 12) oNone (oSome (eOp2 pyAdd (eOp2 pyAdd (eVar 7) (eC (.int 1))) (eCall 2 [true, true] mDraw (aCons (eVar 0) (aCons (eOp2 pySub (eC (.int 8)) (eVar 7)) aNil)))))) aNil)))))
def mNames2 : MS :=
     (sSeq (sSet 7 (eCall 2 [true, true] mDraw (aCons (eVar 0) (aCons (eC (.int 8)) aNil))))
     (sSeq (sSet 8 (eCall 2 [true, true] mDraw (aCons (eVar 0) (aCons (eC (.int 26)) aNil))))
     (sSeq (sFor (iRng (aCons (eVar 1) aNil)) (gN 9)
     mNames2L)
     (sRet (eVar 5)))))
def mNamesR : MS :=
     (sSeq (sSet 6 (eOp2 pyJoin (eC (.str "")) (mWordC 9 (aCons (eC (.int 8)) aNil))))
     (sSeq (sIf (tVal (eOp2 pyEq (eVar 4) (eC (.int 1)))) mNames1 sNil)
     mNames2))
def mLawNames : ME := fnSem 2 15
     (sSeq (sSet 2 (eC (.str "abcdefghijklmnopqrstuvwxyz")))
     (sSeq (sSet 3 (eUse mkLst (aCons (eC (.str "is")) (aCons (eC (.str "not")) (aCons (eC (.str "and")) (aCons (eC (.str "or")) (aCons (eC (.str "then")) (aCons (eC (.str "same")) (aCons (eC (.str "yes")) (aCons (eC (.str "no")) (aCons (eC (.str "say")) (aCons (eC (.str "fix")) (aCons (eC (.str "isa")) (aCons (eC (.str "nota")) (aCons (eC (.str "a")) aNil)))))))))))))))
     (sSeq (sSet 4 (eCall 2 [true, true] mDraw (aCons (eVar 0) (aCons (eC (.int 4)) aNil))))
     (sSeq (sIf (tVal (eOp2 pyEq (eVar 4) (eC (.int 0)))) mNames0 sNil)
     (sSeq (sSet 5 (eUse mkLst aNil))
     (sSeq (sIf (tVal (eOp2 pyEq (eVar 4) (eC (.int 3)))) mNames3 sNil)
     mNamesR))))))
/-! ### rules -/
inductive Op4 | and | or | thn | same
def Op4.str : Op4 → Str
  | .and => "and"
  | .or => "or"
  | .thn => "then"
  | .same => "same"
inductive Ru
  | is (s : Str)
  | yes
  | no
  | not (r : Ru)
  | two (o : Op4) (a b : Ru)
def Ru.toD : Ru → D
  | .is s => .tuple [.str "is", .str s]
  | .yes => .tuple [.str "yes"]
  | .no => .tuple [.str "no"]
  | .not r => .tuple [.str "not", r.toD]
  | .two o a b => .tuple [.str o.str, a.toD, b.toD]
def Ru.names : Ru → List Str
  | .is s => [s]
  | .yes => []
  | .no => []
  | .not r => r.names
  | .two _ a b => a.names ++ b.names
def Ru.dep : Ru → Nat
  | .is _ => 1
  | .yes => 1
  | .no => 1
  | .not r => r.dep + 1
  | .two _ a b => max a.dep b.dep + 1
theorem Ru.len : ∀ r : Ru, r.names.length ≤ 2 ^ (r.dep - 1)
  | .is s => Nat.le_refl _
  | .yes => Nat.zero_le _
  | .no => Nat.zero_le _
  | .not r => by
    have h := r.len
    have : 2 ^ (r.dep - 1) ≤ 2 ^ (r.dep + 1 - 1) := Nat.pow_le_pow_right (by decide) (by omega)
    exact Nat.le_trans h this
  | .two o a b => by
    have h1 := a.len
    have h2 := b.len
    have p : ∀ r : Ru, 1 ≤ r.dep := fun r => by cases r <;> simp [Ru.dep]
    have pa := p a
    have pb := p b
    show (a.names ++ b.names).length ≤ 2 ^ (max a.dep b.dep + 1 - 1)
    rw [List.length_append]
    have e : max a.dep b.dep + 1 - 1 = (max a.dep b.dep - 1) + 1 := by omega
    rw [e, Nat.pow_succ]
    have : 2 ^ (a.dep - 1) ≤ 2 ^ (max a.dep b.dep - 1) := Nat.pow_le_pow_right (by decide) (by omega)
    have : 2 ^ (b.dep - 1) ≤ 2 ^ (max a.dep b.dep - 1) := Nat.pow_le_pow_right (by decide) (by omega)
    omega
@[simp] theorem sh_is : SeqAt.shaped (.str "is") = true := by decide +kernel
@[simp] theorem sh_yes : SeqAt.shaped (.str "yes") = true := by decide +kernel
@[simp] theorem sh_no : SeqAt.shaped (.str "no") = true := by decide +kernel
@[simp] theorem sh_not : SeqAt.shaped (.str "not") = true := by decide +kernel
@[simp] theorem sh_op (o : Op4) : SeqAt.shaped (.str o.str) = true := by cases o <;> decide +kernel
@[simp] theorem ne_yes : (("yes" : Str) == "is") = false := by decide +kernel
@[simp] theorem ne_no : (("no" : Str) == "is") = false := by decide +kernel
@[simp] theorem ne_not : (("not" : Str) == "is") = false := by decide +kernel
@[simp] theorem ne_op (o : Op4) : (o.str == "is") = false := by cases o <;> decide +kernel
theorem sz (n : Nat) (h : n ≤ 1000) : n ≤ sizeLine := by rw [sizeLine_eq]; omega
theorem all_names_eq : ∀ (n : Nat) (r : Ru), r.dep ≤ n → r.dep ≤ 7 → mAllNames n [.dat r.toD] = .ok (.new (.list (r.names.map .str))) [.dat r.toD]
  | 0, r, h, _ => by cases r <;> simp [Ru.dep] at h
  | n + 1, .is s, _, _ => by
    have : wp (mAllNames (n + 1) [.dat (Ru.is s).toD]) (fun o ρ => o = .new (.list ((Ru.is s).names.map .str)) ∧ ρ = [.dat (Ru.is s).toD]) NoX := by
      unfold mAllNames
      simp -dsimp -implicitDefEqProofs [Dl.vI, Dl.vB, Dl.vS, Dl.run2, Dl.run1, Dl.deref, Dl.Slot.data?, Dl.useO, Dl.useAll, Dl.boolOf, Dl.putO, Dl.free, Dl.outO, Dl.withAll, Dl.runN, Dl.derefs, Dl.mutO, Dl.isLst, Dl.isDct, Dl.putI, Dl.putD, Dl.setI, Dl.augO, Dl.getI, Dl.slotOf, Dl.slotsOf, Dl.lents, Dl.takeB, Dl.backS, Dl.useSel, Dl.back, Dl.gd, Dl.pyIx, atI, ixN, Dl.pyGet, Dl.pyMul, Dl.pyAdd, Dl.pyEq, Dl.pyNe, Dl.mulOk, Dl.powOk, Dl.pySlice, Dl.fLen, Dl.fList, Dl.fTuple, Dl.mAppend, Dl.mReverse, Dl.mClear, Dl.mExtend, Dl.mInsert, Dl.mkTup, Dl.mkLst, Dl.pyIsN, Dl.pyNotN, Dl.fNeg, Dl.pyRev, Dl.gN, Dl.gsNil, Dl.gsCons, Dl.gT, Dl.srcL, Dl.srcT, Dl.srcS, Dl.srcQ, Dl.srcR1, Dl.srcR2, Dl.hide, Dl.restore, sizeLine_eq, Dl.lockS, Ru.toD, Ru.names]
    obtain ⟨o, ρ, e, rfl, rfl⟩ := wp_out this
    exact e
  | n + 1, .yes, _, _ => by
    have : wp (mAllNames (n + 1) [.dat Ru.yes.toD]) (fun o ρ => o = .new (.list (Ru.yes.names.map .str)) ∧ ρ = [.dat Ru.yes.toD]) NoX := by
      unfold mAllNames
      simp -dsimp -implicitDefEqProofs [Dl.vI, Dl.vB, Dl.vS, Dl.run2, Dl.run1, Dl.deref, Dl.Slot.data?, Dl.useO, Dl.useAll, Dl.boolOf, Dl.putO, Dl.free, Dl.outO, Dl.withAll, Dl.runN, Dl.derefs, Dl.mutO, Dl.isLst, Dl.isDct, Dl.putI, Dl.putD, Dl.setI, Dl.augO, Dl.getI, Dl.slotOf, Dl.slotsOf, Dl.lents, Dl.takeB, Dl.backS, Dl.useSel, Dl.back, Dl.gd, Dl.pyIx, atI, ixN, Dl.pyGet, Dl.pyMul, Dl.pyAdd, Dl.pyEq, Dl.pyNe, Dl.mulOk, Dl.powOk, Dl.pySlice, Dl.fLen, Dl.fList, Dl.fTuple, Dl.mAppend, Dl.mReverse, Dl.mClear, Dl.mExtend, Dl.mInsert, Dl.mkTup, Dl.mkLst, Dl.pyIsN, Dl.pyNotN, Dl.fNeg, Dl.pyRev, Dl.gN, Dl.gsNil, Dl.gsCons, Dl.gT, Dl.srcL, Dl.srcT, Dl.srcS, Dl.srcQ, Dl.srcR1, Dl.srcR2, Dl.hide, Dl.restore, sizeLine_eq, Dl.lockS, Ru.toD, Ru.names]
    obtain ⟨o, ρ, e, rfl, rfl⟩ := wp_out this
    exact e
  | n + 1, .no, _, _ => by
    have : wp (mAllNames (n + 1) [.dat Ru.no.toD]) (fun o ρ => o = .new (.list (Ru.no.names.map .str)) ∧ ρ = [.dat Ru.no.toD]) NoX := by
      unfold mAllNames
      simp -dsimp -implicitDefEqProofs [Dl.vI, Dl.vB, Dl.vS, Dl.run2, Dl.run1, Dl.deref, Dl.Slot.data?, Dl.useO, Dl.useAll, Dl.boolOf, Dl.putO, Dl.free, Dl.outO, Dl.withAll, Dl.runN, Dl.derefs, Dl.mutO, Dl.isLst, Dl.isDct, Dl.putI, Dl.putD, Dl.setI, Dl.augO, Dl.getI, Dl.slotOf, Dl.slotsOf, Dl.lents, Dl.takeB, Dl.backS, Dl.useSel, Dl.back, Dl.gd, Dl.pyIx, atI, ixN, Dl.pyGet, Dl.pyMul, Dl.pyAdd, Dl.pyEq, Dl.pyNe, Dl.mulOk, Dl.powOk, Dl.pySlice, Dl.fLen, Dl.fList, Dl.fTuple, Dl.mAppend, Dl.mReverse, Dl.mClear, Dl.mExtend, Dl.mInsert, Dl.mkTup, Dl.mkLst, Dl.pyIsN, Dl.pyNotN, Dl.fNeg, Dl.pyRev, Dl.gN, Dl.gsNil, Dl.gsCons, Dl.gT, Dl.srcL, Dl.srcT, Dl.srcS, Dl.srcQ, Dl.srcR1, Dl.srcR2, Dl.hide, Dl.restore, sizeLine_eq, Dl.lockS, Ru.toD, Ru.names]
    obtain ⟨o, ρ, e, rfl, rfl⟩ := wp_out this
    exact e
  | n + 1, .not r, h, h7 => by
    have ih := all_names_eq n r (by simp only [Ru.dep] at h; omega) (by simp only [Ru.dep] at h7; omega)
    have hl := (Ru.not r).len
    have hp : 2 ^ ((Ru.not r).dep - 1) ≤ 2 ^ 6 := Nat.pow_le_pow_right (by decide) (by omega)
    have hl : r.names.length ≤ 64 := Nat.le_trans hl hp
    have : wp (mAllNames (n + 1) [.dat (Ru.not r).toD]) (fun o' ρ => o' = .new (.list ((Ru.not r).names.map .str)) ∧ ρ = [.dat (Ru.not r).toD]) NoX := by
      unfold mAllNames
      simp -dsimp -implicitDefEqProofs [Dl.vI, Dl.vB, Dl.vS, Dl.run2, Dl.run1, Dl.deref, Dl.Slot.data?, Dl.useO, Dl.useAll, Dl.boolOf, Dl.putO, Dl.free, Dl.outO, Dl.withAll, Dl.runN, Dl.derefs, Dl.mutO, Dl.isLst, Dl.isDct, Dl.putI, Dl.putD, Dl.setI, Dl.augO, Dl.getI, Dl.slotOf, Dl.slotsOf, Dl.lents, Dl.takeB, Dl.backS, Dl.useSel, Dl.back, Dl.gd, Dl.pyIx, atI, ixN, Dl.pyGet, Dl.pyMul, Dl.pyAdd, Dl.pyEq, Dl.pyNe, Dl.mulOk, Dl.powOk, Dl.pySlice, Dl.fLen, Dl.fList, Dl.fTuple, Dl.mAppend, Dl.mReverse, Dl.mClear, Dl.mExtend, Dl.mInsert, Dl.mkTup, Dl.mkLst, Dl.pyIsN, Dl.pyNotN, Dl.fNeg, Dl.pyRev, Dl.gN, Dl.gsNil, Dl.gsCons, Dl.gT, Dl.srcL, Dl.srcT, Dl.srcS, Dl.srcQ, Dl.srcR1, Dl.srcR2, Dl.hide, Dl.restore, sizeLine_eq, Dl.lockS, Ru.toD, Ru.names, ih, show r.names.length ≤ 16777216 by omega]
    obtain ⟨o, ρ, e, rfl, rfl⟩ := wp_out this
    exact e
  | n + 1, .two o a b, h, h7 => by
    have ia := all_names_eq n a (by simp only [Ru.dep] at h; omega) (by simp only [Ru.dep] at h7; omega)
    have ib := all_names_eq n b (by simp only [Ru.dep] at h; omega) (by simp only [Ru.dep] at h7; omega)
    have hl := (Ru.two o a b).len
    have hp : 2 ^ ((Ru.two o a b).dep - 1) ≤ 2 ^ 6 := Nat.pow_le_pow_right (by decide) (by omega)
    have hl : (a.names ++ b.names).length ≤ 64 := Nat.le_trans hl hp
    rw [List.length_append] at hl
    have : wp (mAllNames (n + 1) [.dat (Ru.two o a b).toD]) (fun o' ρ => o' = .new (.list ((Ru.two o a b).names.map .str)) ∧ ρ = [.dat (Ru.two o a b).toD]) NoX := by
      unfold mAllNames
      simp -dsimp -implicitDefEqProofs [Dl.vI, Dl.vB, Dl.vS, Dl.run2, Dl.run1, Dl.deref, Dl.Slot.data?, Dl.useO, Dl.useAll, Dl.boolOf, Dl.putO, Dl.free, Dl.outO, Dl.withAll, Dl.runN, Dl.derefs, Dl.mutO, Dl.isLst, Dl.isDct, Dl.putI, Dl.putD, Dl.setI, Dl.augO, Dl.getI, Dl.slotOf, Dl.slotsOf, Dl.lents, Dl.takeB, Dl.backS, Dl.useSel, Dl.back, Dl.gd, Dl.pyIx, atI, ixN, Dl.pyGet, Dl.pyMul, Dl.pyAdd, Dl.pyEq, Dl.pyNe, Dl.mulOk, Dl.powOk, Dl.pySlice, Dl.fLen, Dl.fList, Dl.fTuple, Dl.mAppend, Dl.mReverse, Dl.mClear, Dl.mExtend, Dl.mInsert, Dl.mkTup, Dl.mkLst, Dl.pyIsN, Dl.pyNotN, Dl.fNeg, Dl.pyRev, Dl.gN, Dl.gsNil, Dl.gsCons, Dl.gT, Dl.srcL, Dl.srcT, Dl.srcS, Dl.srcQ, Dl.srcR1, Dl.srcR2, Dl.hide, Dl.restore, sizeLine_eq, Dl.lockS, Ru.toD, Ru.names, ia, ib, show a.names.length ≤ 16777216 by omega, show a.names.length + b.names.length ≤ 16777216 by omega]
    obtain ⟨o, ρ, e, rfl, rfl⟩ := wp_out this
    exact e
theorem names_of_eq (r : Ru) (h7 : r.dep ≤ 6) : mNamesOf [.dat r.toD] = .ok (.new (.list ((canon r.names).map .str))) [.dat r.toD] := by
  have e := all_names_eq 7 r (by omega) (by omega)
  have hl : r.names.length ≤ 2 ^ 5 := Nat.le_trans r.len (Nat.pow_le_pow_right (by decide) (by omega))
  have : wp (mNamesOf [.dat r.toD]) (fun o' ρ => o' = .new (.list ((canon r.names).map .str)) ∧ ρ = [.dat r.toD]) NoX := by
    unfold mNamesOf
    simp -dsimp -implicitDefEqProofs [Dl.vI, Dl.vB, Dl.vS, Dl.run2, Dl.run1, Dl.deref, Dl.Slot.data?, Dl.useO, Dl.useAll, Dl.boolOf, Dl.putO, Dl.free, Dl.outO, Dl.withAll, Dl.runN, Dl.derefs, Dl.mutO, Dl.isLst, Dl.isDct, Dl.putI, Dl.putD, Dl.setI, Dl.augO, Dl.getI, Dl.slotOf, Dl.slotsOf, Dl.lents, Dl.takeB, Dl.backS, Dl.useSel, Dl.back, Dl.gd, Dl.pyIx, atI, ixN, Dl.pyGet, Dl.pyMul, Dl.pyAdd, Dl.pyEq, Dl.pyNe, Dl.mulOk, Dl.powOk, Dl.pySlice, Dl.fLen, Dl.fList, Dl.fTuple, Dl.mAppend, Dl.mReverse, Dl.mClear, Dl.mExtend, Dl.mInsert, Dl.mkTup, Dl.mkLst, Dl.pyIsN, Dl.pyNotN, Dl.fNeg, Dl.pyRev, Dl.gN, Dl.gsNil, Dl.gsCons, Dl.gT, Dl.srcL, Dl.srcT, Dl.srcS, Dl.srcQ, Dl.srcR1, Dl.srcR2, Dl.hide, Dl.restore, sizeLine_eq, Dl.lockS, e]
    refine wp_for (fun i ρ => ∃ s2, ρ = [.dat r.toD, .own (setD ((r.names.take i).foldl addS [])), s2] ∧ free ρ 2 = true) ⟨.un, rfl, rfl⟩ (fun i d ρ hd hI => ?_) fun ρ hI => ?_
    · obtain ⟨s2, rfl, hf⟩ := hI
      rw [List.getElem?_map, Option.map_eq_some_iff] at hd
      obtain ⟨s, hs, rfl⟩ := hd
      refine ⟨[.dat r.toD, .own (setD ((r.names.take i).foldl addS [])), .dat (.str s)], ?_, ?_⟩
      · unfold gN
        rw [if_pos hf]
        rfl
      · have hk : ((r.names.take i).foldl addS []).length < sizeLine := by
          have := (dd_go (r.names.take i) [] .nil).2.2
          have h2 : (r.names.take i).length ≤ r.names.length := by rw [List.length_take]; omega
          rw [sizeLine_eq]
          simp only [List.length_nil] at this
          omega
        have hp := setD_put (s := s) hk
        have isd : isDct [.dat r.toD, .own (setD ((r.names.take i).foldl addS [])), .dat (.str s)] 1 = true := rfl
        have hn : (r.names.take (i + 1)).foldl addS [] = addS ((r.names.take i).foldl addS []) s := by
          rw [List.take_add_one, hs, List.foldl_append]
          rfl
        simp -dsimp -implicitDefEqProofs [Dl.vI, Dl.vB, Dl.vS, Dl.run2, Dl.run1, Dl.deref, Dl.Slot.data?, Dl.useO, Dl.useAll, Dl.boolOf, Dl.putO, Dl.free, Dl.outO, Dl.withAll, Dl.runN, Dl.derefs, Dl.mutO, Dl.isLst, Dl.isDct, Dl.putI, Dl.putD, Dl.setI, Dl.augO, Dl.getI, Dl.slotOf, Dl.slotsOf, Dl.lents, Dl.takeB, Dl.backS, Dl.useSel, Dl.back, Dl.gd, Dl.pyIx, atI, ixN, Dl.pyGet, Dl.pyMul, Dl.pyAdd, Dl.pyEq, Dl.pyNe, Dl.mulOk, Dl.powOk, Dl.pySlice, Dl.fLen, Dl.fList, Dl.fTuple, Dl.mAppend, Dl.mReverse, Dl.mClear, Dl.mExtend, Dl.mInsert, Dl.mkTup, Dl.mkLst, Dl.pyIsN, Dl.pyNotN, Dl.fNeg, Dl.pyRev, Dl.gN, Dl.gsNil, Dl.gsCons, Dl.gT, Dl.srcL, Dl.srcT, Dl.srcS, Dl.srcQ, Dl.srcR1, Dl.srcR2, Dl.hide, Dl.restore, sizeLine_eq, Dl.lockS, isd, putD, hp]
        refine ⟨rfl, ?_⟩
        rw [hn]
    · obtain ⟨s2, rfl, hf⟩ := hI
      have hk : (r.names.take ((r.names.map PyData.str).length)) = r.names := by rw [List.length_map, List.take_length]
      rw [hk]
      have hs := setD_sorted (ks := r.names.foldl addS []) (by have := dd_len r.names; unfold dd at this; omega)
      simp -dsimp -implicitDefEqProofs [Dl.vI, Dl.vB, Dl.vS, Dl.run2, Dl.run1, Dl.deref, Dl.Slot.data?, Dl.useO, Dl.useAll, Dl.boolOf, Dl.putO, Dl.free, Dl.outO, Dl.withAll, Dl.runN, Dl.derefs, Dl.mutO, Dl.isLst, Dl.isDct, Dl.putI, Dl.putD, Dl.setI, Dl.augO, Dl.getI, Dl.slotOf, Dl.slotsOf, Dl.lents, Dl.takeB, Dl.backS, Dl.useSel, Dl.back, Dl.gd, Dl.pyIx, atI, ixN, Dl.pyGet, Dl.pyMul, Dl.pyAdd, Dl.pyEq, Dl.pyNe, Dl.mulOk, Dl.powOk, Dl.pySlice, Dl.fLen, Dl.fList, Dl.fTuple, Dl.mAppend, Dl.mReverse, Dl.mClear, Dl.mExtend, Dl.mInsert, Dl.mkTup, Dl.mkLst, Dl.pyIsN, Dl.pyNotN, Dl.fNeg, Dl.pyRev, Dl.gN, Dl.gsNil, Dl.gsCons, Dl.gT, Dl.srcL, Dl.srcT, Dl.srcS, Dl.srcQ, Dl.srcR1, Dl.srcR2, Dl.hide, Dl.restore, sizeLine_eq, Dl.lockS, hs]
      rfl
  obtain ⟨o, ρ, e, rfl, rfl⟩ := wp_out this
  exact e
/-- what of ss is not yet in acc -/
def fresh (acc ss : List Str) : List Str := ss.filter fun s => decide (s ∉ acc)
theorem comp_fresh {acc ss : List Str} {R p : D} {s3 : Slot} (h1 : ∀ s ∈ acc, Nm s) (h2 : ∀ s ∈ ss, Nm s) (hl : ss.length < 1000) {QO : Opd → Rho → Prop} {X : Ex → Rho → Prop}
    (h : QO (.new (.list ((fresh acc ss).map .str))) [.dat R, .own (.list (acc.map .str)), .dat p, s3]) :
    wp (compL [3] (gN 3) (tVal (eOp2 (orf pyNotIn pyNotInK) (eVar 3) (eVar 1))) (eVar 3) (ss.map .str) [] [.dat R, .own (.list (acc.map .str)), .dat p, s3]) QO X := by
  refine wp_cmp (fun i out ρ => out = (fresh acc (ss.take i)).map .str ∧ ρ = [.dat R, .own (.list (acc.map .str)), .dat p, s3]) ⟨rfl, rfl⟩ (fun i d out ρ hd hI => ?_) fun out ρ hI => ?_
  · obtain ⟨rfl, rfl⟩ := hI
    rw [List.getElem?_map, Option.map_eq_some_iff] at hd
    obtain ⟨s, hs, rfl⟩ := hd
    refine ⟨[.dat R, .own (.list (acc.map .str)), .dat p, .dat (.str s)], rfl, ?_⟩
    have hm := List.mem_of_getElem? hs
    have hin := in_names (h2 s hm) h1
    have hn : fresh acc (ss.take (i + 1)) = fresh acc (ss.take i) ++ (if s ∈ acc then [] else [s]) := by
      unfold fresh
      rw [List.take_add_one, hs, List.filter_append]
      by_cases z : s ∈ acc <;> simp [z]
    have hlen : (fresh acc (ss.take i)).length < 16777216 := by
      have := List.length_filter_le (fun s => decide (s ∉ acc)) (ss.take i)
      unfold fresh
      rw [List.length_take] at this
      omega
    by_cases z : s ∈ acc
    · simp -dsimp -implicitDefEqProofs [Dl.vI, Dl.vB, Dl.vS, Dl.run2, Dl.run1, Dl.deref, Dl.Slot.data?, Dl.useO, Dl.useAll, Dl.boolOf, Dl.putO, Dl.free, Dl.outO, Dl.withAll, Dl.runN, Dl.derefs, Dl.mutO, Dl.isLst, Dl.isDct, Dl.putI, Dl.putD, Dl.setI, Dl.augO, Dl.getI, Dl.slotOf, Dl.slotsOf, Dl.lents, Dl.takeB, Dl.backS, Dl.useSel, Dl.back, Dl.gd, Dl.pyIx, atI, ixN, Dl.pyGet, Dl.pyMul, Dl.pyAdd, Dl.pyEq, Dl.pyNe, Dl.mulOk, Dl.powOk, Dl.pySlice, Dl.fLen, Dl.fList, Dl.fTuple, Dl.mAppend, Dl.mReverse, Dl.mClear, Dl.mExtend, Dl.mInsert, Dl.mkTup, Dl.mkLst, Dl.pyIsN, Dl.pyNotN, Dl.fNeg, Dl.pyRev, Dl.gN, Dl.gsNil, Dl.gsCons, Dl.gT, Dl.srcL, Dl.srcT, Dl.srcS, Dl.srcQ, Dl.srcR1, Dl.srcR2, Dl.hide, Dl.restore, sizeLine_eq, Dl.lockS, hin, z, hn]
    · simp -dsimp -implicitDefEqProofs [Dl.vI, Dl.vB, Dl.vS, Dl.run2, Dl.run1, Dl.deref, Dl.Slot.data?, Dl.useO, Dl.useAll, Dl.boolOf, Dl.putO, Dl.free, Dl.outO, Dl.withAll, Dl.runN, Dl.derefs, Dl.mutO, Dl.isLst, Dl.isDct, Dl.putI, Dl.putD, Dl.setI, Dl.augO, Dl.getI, Dl.slotOf, Dl.slotsOf, Dl.lents, Dl.takeB, Dl.backS, Dl.useSel, Dl.back, Dl.gd, Dl.pyIx, atI, ixN, Dl.pyGet, Dl.pyMul, Dl.pyAdd, Dl.pyEq, Dl.pyNe, Dl.mulOk, Dl.powOk, Dl.pySlice, Dl.fLen, Dl.fList, Dl.fTuple, Dl.mAppend, Dl.mReverse, Dl.mClear, Dl.mExtend, Dl.mInsert, Dl.mkTup, Dl.mkLst, Dl.pyIsN, Dl.pyNotN, Dl.fNeg, Dl.pyRev, Dl.gN, Dl.gsNil, Dl.gsCons, Dl.gT, Dl.srcL, Dl.srcT, Dl.srcS, Dl.srcQ, Dl.srcR1, Dl.srcR2, Dl.hide, Dl.restore, sizeLine_eq, Dl.lockS, hin, z, hn, hlen]
      exact ⟨_, _, ⟨rfl, rfl⟩, rfl, rfl⟩
  · obtain ⟨rfl, rfl⟩ := hI
    rw [List.length_map, List.take_length]
    exact h
theorem fresh_nil (ss : List Str) : fresh [] ss = ss := by unfold fresh; simp
theorem fresh_mem {acc ss : List Str} {s : Str} : s ∈ fresh acc ss ↔ s ∈ ss ∧ s ∉ acc := by unfold fresh; simp
theorem fresh_nodup {acc ss : List Str} (h : ss.Nodup) : (fresh acc ss).Nodup := h.sublist List.filter_sublist
theorem fresh_len (acc ss : List Str) : (fresh acc ss).length ≤ ss.length := List.length_filter_le _ _
theorem app_nodup {acc ss : List Str} (h : acc.Nodup) (h2 : ss.Nodup) : (acc ++ fresh acc ss).Nodup := List.nodup_append.mpr ⟨h, fresh_nodup h2, fun a ha b hb => by rintro rfl; exact (fresh_mem.mp hb).2 ha⟩
def Ru.ok (r : Ru) : Prop := ∀ s ∈ r.names, Nm s
theorem canon_nm {ss : List Str} (h : ∀ s ∈ ss, Nm s) : ∀ s ∈ canon ss, Nm s := fun s hs => h s (canon_mem.mp hs)
theorem law_names_of_eq : ∀ (n : Nat) (r : Ru), r.dep ≤ n → r.dep ≤ 6 → r.ok → mLawNamesOf n [.dat r.toD] = .ok (.new (.list ((canon r.names).map .str))) [.dat r.toD]
  | 0, r, h, _, _ => by cases r <;> simp [Ru.dep] at h
  | n + 1, .is s, _, _, _ => by
    have : wp (mLawNamesOf (n + 1) [.dat (Ru.is s).toD]) (fun o ρ => o = .new (.list ((canon (Ru.is s).names).map .str)) ∧ ρ = [.dat (Ru.is s).toD]) NoX := by
      unfold mLawNamesOf
      simp -dsimp -implicitDefEqProofs [Dl.vI, Dl.vB, Dl.vS, Dl.run2, Dl.run1, Dl.deref, Dl.Slot.data?, Dl.useO, Dl.useAll, Dl.boolOf, Dl.putO, Dl.free, Dl.outO, Dl.withAll, Dl.runN, Dl.derefs, Dl.mutO, Dl.isLst, Dl.isDct, Dl.putI, Dl.putD, Dl.setI, Dl.augO, Dl.getI, Dl.slotOf, Dl.slotsOf, Dl.lents, Dl.takeB, Dl.backS, Dl.useSel, Dl.back, Dl.gd, Dl.pyIx, atI, ixN, Dl.pyGet, Dl.pyMul, Dl.pyAdd, Dl.pyEq, Dl.pyNe, Dl.mulOk, Dl.powOk, Dl.pySlice, Dl.fLen, Dl.fList, Dl.fTuple, Dl.mAppend, Dl.mReverse, Dl.mClear, Dl.mExtend, Dl.mInsert, Dl.mkTup, Dl.mkLst, Dl.pyIsN, Dl.pyNotN, Dl.fNeg, Dl.pyRev, Dl.gN, Dl.gsNil, Dl.gsCons, Dl.gT, Dl.srcL, Dl.srcT, Dl.srcS, Dl.srcQ, Dl.srcR1, Dl.srcR2, Dl.hide, Dl.restore, sizeLine_eq, Dl.lockS, Ru.toD, Ru.names, show canon [s] = [s] from sort_one s]
    obtain ⟨o, ρ, e, rfl, rfl⟩ := wp_out this
    exact e
  | n + 1, .yes, _, _, _ => by
    have : wp (mLawNamesOf (n + 1) [.dat Ru.yes.toD]) (fun o ρ => o = .new (.list ((canon Ru.yes.names).map .str)) ∧ ρ = [.dat Ru.yes.toD]) NoX := by
      unfold mLawNamesOf
      simp -dsimp -implicitDefEqProofs [Dl.vI, Dl.vB, Dl.vS, Dl.run2, Dl.run1, Dl.deref, Dl.Slot.data?, Dl.useO, Dl.useAll, Dl.boolOf, Dl.putO, Dl.free, Dl.outO, Dl.withAll, Dl.runN, Dl.derefs, Dl.mutO, Dl.isLst, Dl.isDct, Dl.putI, Dl.putD, Dl.setI, Dl.augO, Dl.getI, Dl.slotOf, Dl.slotsOf, Dl.lents, Dl.takeB, Dl.backS, Dl.useSel, Dl.back, Dl.gd, Dl.pyIx, atI, ixN, Dl.pyGet, Dl.pyMul, Dl.pyAdd, Dl.pyEq, Dl.pyNe, Dl.mulOk, Dl.powOk, Dl.pySlice, Dl.fLen, Dl.fList, Dl.fTuple, Dl.mAppend, Dl.mReverse, Dl.mClear, Dl.mExtend, Dl.mInsert, Dl.mkTup, Dl.mkLst, Dl.pyIsN, Dl.pyNotN, Dl.fNeg, Dl.pyRev, Dl.gN, Dl.gsNil, Dl.gsCons, Dl.gT, Dl.srcL, Dl.srcT, Dl.srcS, Dl.srcQ, Dl.srcR1, Dl.srcR2, Dl.hide, Dl.restore, sizeLine_eq, Dl.lockS, Ru.toD, Ru.names, fSorted, sortDs, intsOf, sortInt, canon, dd, sortStr]
    obtain ⟨o, ρ, e, rfl, rfl⟩ := wp_out this
    exact e
  | n + 1, .no, _, _, _ => by
    have : wp (mLawNamesOf (n + 1) [.dat Ru.no.toD]) (fun o ρ => o = .new (.list ((canon Ru.no.names).map .str)) ∧ ρ = [.dat Ru.no.toD]) NoX := by
      unfold mLawNamesOf
      simp -dsimp -implicitDefEqProofs [Dl.vI, Dl.vB, Dl.vS, Dl.run2, Dl.run1, Dl.deref, Dl.Slot.data?, Dl.useO, Dl.useAll, Dl.boolOf, Dl.putO, Dl.free, Dl.outO, Dl.withAll, Dl.runN, Dl.derefs, Dl.mutO, Dl.isLst, Dl.isDct, Dl.putI, Dl.putD, Dl.setI, Dl.augO, Dl.getI, Dl.slotOf, Dl.slotsOf, Dl.lents, Dl.takeB, Dl.backS, Dl.useSel, Dl.back, Dl.gd, Dl.pyIx, atI, ixN, Dl.pyGet, Dl.pyMul, Dl.pyAdd, Dl.pyEq, Dl.pyNe, Dl.mulOk, Dl.powOk, Dl.pySlice, Dl.fLen, Dl.fList, Dl.fTuple, Dl.mAppend, Dl.mReverse, Dl.mClear, Dl.mExtend, Dl.mInsert, Dl.mkTup, Dl.mkLst, Dl.pyIsN, Dl.pyNotN, Dl.fNeg, Dl.pyRev, Dl.gN, Dl.gsNil, Dl.gsCons, Dl.gT, Dl.srcL, Dl.srcT, Dl.srcS, Dl.srcQ, Dl.srcR1, Dl.srcR2, Dl.hide, Dl.restore, sizeLine_eq, Dl.lockS, Ru.toD, Ru.names, fSorted, sortDs, intsOf, sortInt, canon, dd, sortStr]
    obtain ⟨o, ρ, e, rfl, rfl⟩ := wp_out this
    exact e
  | n + 1, .not r, h, h7, ok => by
    have ih := law_names_of_eq n r (by simp only [Ru.dep] at h; omega) (by simp only [Ru.dep] at h7; omega) ok
    have hl := (Ru.not r).len
    have hp : 2 ^ ((Ru.not r).dep - 1) ≤ 2 ^ 5 := Nat.pow_le_pow_right (by decide) (by omega)
    have hl : r.names.length ≤ 32 := Nat.le_trans hl hp
    have hc := canon_len r.names
    have this : wp (mLawNamesOf (n + 1) [.dat (Ru.not r).toD]) (fun o' ρ => o' = .new (.list ((canon (Ru.not r).names).map .str)) ∧ ρ = [.dat (Ru.not r).toD]) NoX := by
      unfold mLawNamesOf
      simp -dsimp -implicitDefEqProofs [Dl.vI, Dl.vB, Dl.vS, Dl.run2, Dl.run1, Dl.deref, Dl.Slot.data?, Dl.useO, Dl.useAll, Dl.boolOf, Dl.putO, Dl.free, Dl.outO, Dl.withAll, Dl.runN, Dl.derefs, Dl.mutO, Dl.isLst, Dl.isDct, Dl.putI, Dl.putD, Dl.setI, Dl.augO, Dl.getI, Dl.slotOf, Dl.slotsOf, Dl.lents, Dl.takeB, Dl.backS, Dl.useSel, Dl.back, Dl.gd, Dl.pyIx, atI, ixN, Dl.pyGet, Dl.pyMul, Dl.pyAdd, Dl.pyEq, Dl.pyNe, Dl.mulOk, Dl.powOk, Dl.pySlice, Dl.fLen, Dl.fList, Dl.fTuple, Dl.mAppend, Dl.mReverse, Dl.mClear, Dl.mExtend, Dl.mInsert, Dl.mkTup, Dl.mkLst, Dl.pyIsN, Dl.pyNotN, Dl.fNeg, Dl.pyRev, Dl.gN, Dl.gsNil, Dl.gsCons, Dl.gT, Dl.srcL, Dl.srcT, Dl.srcS, Dl.srcQ, Dl.srcR1, Dl.srcR2, Dl.hide, Dl.restore, sizeLine_eq, Dl.lockS, Ru.toD, Ru.names, ih]
      refine comp_fresh (acc := []) (ss := canon r.names) (fun s h => by cases h) (canon_nm ok) (by omega) ?_
      rw [fresh_nil]
      have hs : fSorted [.list ((canon r.names).map .str)] = some (.new (.list ((canon r.names).map .str))) := by
        unfold fSorted
        dsimp only
        rw [sortDs_str (by omega), canon_of (canon_nodup _) fun s => canon_mem]
        rfl
      simp -dsimp -implicitDefEqProofs [Dl.vI, Dl.vB, Dl.vS, Dl.run2, Dl.run1, Dl.deref, Dl.Slot.data?, Dl.useO, Dl.useAll, Dl.boolOf, Dl.putO, Dl.free, Dl.outO, Dl.withAll, Dl.runN, Dl.derefs, Dl.mutO, Dl.isLst, Dl.isDct, Dl.putI, Dl.putD, Dl.setI, Dl.augO, Dl.getI, Dl.slotOf, Dl.slotsOf, Dl.lents, Dl.takeB, Dl.backS, Dl.useSel, Dl.back, Dl.gd, Dl.pyIx, atI, ixN, Dl.pyGet, Dl.pyMul, Dl.pyAdd, Dl.pyEq, Dl.pyNe, Dl.mulOk, Dl.powOk, Dl.pySlice, Dl.fLen, Dl.fList, Dl.fTuple, Dl.mAppend, Dl.mReverse, Dl.mClear, Dl.mExtend, Dl.mInsert, Dl.mkTup, Dl.mkLst, Dl.pyIsN, Dl.pyNotN, Dl.fNeg, Dl.pyRev, Dl.gN, Dl.gsNil, Dl.gsCons, Dl.gT, Dl.srcL, Dl.srcT, Dl.srcS, Dl.srcQ, Dl.srcR1, Dl.srcR2, Dl.hide, Dl.restore, sizeLine_eq, Dl.lockS, hs, show (canon r.names).length ≤ 16777216 by omega, Ru.names]
    obtain ⟨o, ρ, e, rfl, rfl⟩ := wp_out this
    exact e
  | n + 1, .two o a b, h, h7, ok => by
    have oka : a.ok := fun s hs => ok s (List.mem_append_left _ hs)
    have okb : b.ok := fun s hs => ok s (List.mem_append_right _ hs)
    have ia := law_names_of_eq n a (by simp only [Ru.dep] at h; omega) (by simp only [Ru.dep] at h7; omega) oka
    have ib := law_names_of_eq n b (by simp only [Ru.dep] at h; omega) (by simp only [Ru.dep] at h7; omega) okb
    have hl := (Ru.two o a b).len
    have hp : 2 ^ ((Ru.two o a b).dep - 1) ≤ 2 ^ 5 := Nat.pow_le_pow_right (by decide) (by omega)
    have hl : (a.names ++ b.names).length ≤ 32 := Nat.le_trans hl hp
    rw [List.length_append] at hl
    have ha := canon_len a.names
    have hb := canon_len b.names
    have hf := fresh_len (canon a.names) (canon b.names)
    have this : wp (mLawNamesOf (n + 1) [.dat (Ru.two o a b).toD]) (fun o' ρ => o' = .new (.list ((canon (Ru.two o a b).names).map .str)) ∧ ρ = [.dat (Ru.two o a b).toD]) NoX := by
      unfold mLawNamesOf
      simp -dsimp -implicitDefEqProofs [Dl.vI, Dl.vB, Dl.vS, Dl.run2, Dl.run1, Dl.deref, Dl.Slot.data?, Dl.useO, Dl.useAll, Dl.boolOf, Dl.putO, Dl.free, Dl.outO, Dl.withAll, Dl.runN, Dl.derefs, Dl.mutO, Dl.isLst, Dl.isDct, Dl.putI, Dl.putD, Dl.setI, Dl.augO, Dl.getI, Dl.slotOf, Dl.slotsOf, Dl.lents, Dl.takeB, Dl.backS, Dl.useSel, Dl.back, Dl.gd, Dl.pyIx, atI, ixN, Dl.pyGet, Dl.pyMul, Dl.pyAdd, Dl.pyEq, Dl.pyNe, Dl.mulOk, Dl.powOk, Dl.pySlice, Dl.fLen, Dl.fList, Dl.fTuple, Dl.mAppend, Dl.mReverse, Dl.mClear, Dl.mExtend, Dl.mInsert, Dl.mkTup, Dl.mkLst, Dl.pyIsN, Dl.pyNotN, Dl.fNeg, Dl.pyRev, Dl.gN, Dl.gsNil, Dl.gsCons, Dl.gT, Dl.srcL, Dl.srcT, Dl.srcS, Dl.srcQ, Dl.srcR1, Dl.srcR2, Dl.hide, Dl.restore, sizeLine_eq, Dl.lockS, Ru.toD, Ru.names, ia]
      refine comp_fresh (acc := []) (ss := canon a.names) (fun s h => by cases h) (canon_nm oka) (by omega) ?_
      rw [fresh_nil]
      simp -dsimp -implicitDefEqProofs [Dl.vI, Dl.vB, Dl.vS, Dl.run2, Dl.run1, Dl.deref, Dl.Slot.data?, Dl.useO, Dl.useAll, Dl.boolOf, Dl.putO, Dl.free, Dl.outO, Dl.withAll, Dl.runN, Dl.derefs, Dl.mutO, Dl.isLst, Dl.isDct, Dl.putI, Dl.putD, Dl.setI, Dl.augO, Dl.getI, Dl.slotOf, Dl.slotsOf, Dl.lents, Dl.takeB, Dl.backS, Dl.useSel, Dl.back, Dl.gd, Dl.pyIx, atI, ixN, Dl.pyGet, Dl.pyMul, Dl.pyAdd, Dl.pyEq, Dl.pyNe, Dl.mulOk, Dl.powOk, Dl.pySlice, Dl.fLen, Dl.fList, Dl.fTuple, Dl.mAppend, Dl.mReverse, Dl.mClear, Dl.mExtend, Dl.mInsert, Dl.mkTup, Dl.mkLst, Dl.pyIsN, Dl.pyNotN, Dl.fNeg, Dl.pyRev, Dl.gN, Dl.gsNil, Dl.gsCons, Dl.gT, Dl.srcL, Dl.srcT, Dl.srcS, Dl.srcQ, Dl.srcR1, Dl.srcR2, Dl.hide, Dl.restore, sizeLine_eq, Dl.lockS, show (canon a.names).length ≤ 16777216 by omega, ib]
      refine comp_fresh (acc := canon a.names) (ss := canon b.names) (canon_nm oka) (canon_nm okb) (by omega) ?_
      have hs : fSorted [.list ((canon a.names ++ fresh (canon a.names) (canon b.names)).map .str)] = some (.new (.list ((canon (a.names ++ b.names)).map .str))) := by
        unfold fSorted
        dsimp only
        rw [sortDs_str (by rw [List.length_append]; omega), canon_of (app_nodup (canon_nodup _) (canon_nodup _)) fun s => ?_]
        · rfl
        · rw [List.mem_append, fresh_mem, canon_mem, canon_mem, List.mem_append]
          constructor
          · rintro (h | h)
            · exact .inl h
            · exact .inr h.1
          · rintro (h | h)
            · exact .inl h
            · by_cases z : s ∈ a.names
              · exact .inl z
              · exact .inr ⟨h, z⟩
      rw [List.map_append] at hs
      simp -dsimp -implicitDefEqProofs [Dl.vI, Dl.vB, Dl.vS, Dl.run2, Dl.run1, Dl.deref, Dl.Slot.data?, Dl.useO, Dl.useAll, Dl.boolOf, Dl.putO, Dl.free, Dl.outO, Dl.withAll, Dl.runN, Dl.derefs, Dl.mutO, Dl.isLst, Dl.isDct, Dl.putI, Dl.putD, Dl.setI, Dl.augO, Dl.getI, Dl.slotOf, Dl.slotsOf, Dl.lents, Dl.takeB, Dl.backS, Dl.useSel, Dl.back, Dl.gd, Dl.pyIx, atI, ixN, Dl.pyGet, Dl.pyMul, Dl.pyAdd, Dl.pyEq, Dl.pyNe, Dl.mulOk, Dl.powOk, Dl.pySlice, Dl.fLen, Dl.fList, Dl.fTuple, Dl.mAppend, Dl.mReverse, Dl.mClear, Dl.mExtend, Dl.mInsert, Dl.mkTup, Dl.mkLst, Dl.pyIsN, Dl.pyNotN, Dl.fNeg, Dl.pyRev, Dl.gN, Dl.gsNil, Dl.gsCons, Dl.gT, Dl.srcL, Dl.srcT, Dl.srcS, Dl.srcQ, Dl.srcR1, Dl.srcR2, Dl.hide, Dl.restore, sizeLine_eq, Dl.lockS, hs, show (canon a.names).length + (fresh (canon a.names) (canon b.names)).length ≤ 16777216 by omega, Ru.names]
    obtain ⟨o, ρ, e, rfl, rfl⟩ := wp_out this
    exact e
end Dl

set_option maxRecDepth 100000
set_option maxHeartbeats 4000000
namespace Dl
open PySem PySem.Spec L2
set_option autoImplicit false
theorem at_map (ss : List Str) (i : Int) (h0 : 0 ≤ i) (h1 : i < ss.length) : ∃ s, s ∈ ss ∧ atI (ss.map PyData.str) i = some (.str s) := by
  obtain ⟨s, hs⟩ : ∃ s, ss[i.toNat]? = some s := ⟨_, List.getElem?_eq_getElem (by omega)⟩
  refine ⟨s, List.mem_of_getElem? hs, ?_⟩
  unfold atI ixN
  rw [if_pos h0, List.length_map, if_pos h1]
  show (ss.map PyData.str)[i.toNat]? = _
  rw [List.getElem?_map, hs]
  rfl
theorem rule_leaf {deep : Int} {d : D} {ss : List Str} {s3 s4 : Slot} {O : Opd → Rho → Prop} {N : Rho → Prop} {X : Ex → Rho → Prop} (hd : Hand d) (hl : ss.length ≤ 1000)
    (k : ∀ r d', Hand d' → r.dep = 1 → (∀ s ∈ r.names, s ∈ ss) → O (.val (Ru.toD r)) [.par d', .par (.list (ss.map .str)), .dat (.int deep), s3, s4]) :
    wp (mRuleLeaf [.par d, .par (.list (ss.map .str)), .dat (.int deep), s3, s4]) (kf N (kr O)) X := by
  unfold mRuleLeaf
  simp -dsimp -implicitDefEqProofs [Dl.vI, Dl.vB, Dl.vS, Dl.run2, Dl.run1, Dl.deref, Dl.Slot.data?, Dl.useO, Dl.useAll, Dl.boolOf, Dl.putO, Dl.free, Dl.outO, Dl.withAll, Dl.runN, Dl.derefs, Dl.mutO, Dl.isLst, Dl.isDct, Dl.putI, Dl.putD, Dl.setI, Dl.augO, Dl.getI, Dl.slotOf, Dl.slotsOf, Dl.lents, Dl.takeB, Dl.backS, Dl.useSel, Dl.back, Dl.gd, Dl.pyIx, atI, ixN, Dl.pyGet, Dl.pyMul, Dl.pyAdd, Dl.pyEq, Dl.pyNe, Dl.mulOk, Dl.powOk, Dl.pySlice, Dl.fLen, Dl.fList, Dl.fTuple, Dl.mAppend, Dl.mReverse, Dl.mClear, Dl.mExtend, Dl.mInsert, Dl.mkTup, Dl.mkLst, Dl.pyIsN, Dl.pyNotN, Dl.fNeg, Dl.pyRev, Dl.gN, Dl.gsNil, Dl.gsCons, Dl.gT, Dl.srcL, Dl.srcT, Dl.srcS, Dl.srcQ, Dl.srcR1, Dl.srcR2, Dl.hide, Dl.restore, sizeLine_eq, Dl.lockS]
  refine wp_draw hd (by decide) (by decide) fun w d hd w0 w1 => ?_
  simp -dsimp -implicitDefEqProofs [Dl.vI, Dl.vB, Dl.vS, Dl.run2, Dl.run1, Dl.deref, Dl.Slot.data?, Dl.useO, Dl.useAll, Dl.boolOf, Dl.putO, Dl.free, Dl.outO, Dl.withAll, Dl.runN, Dl.derefs, Dl.mutO, Dl.isLst, Dl.isDct, Dl.putI, Dl.putD, Dl.setI, Dl.augO, Dl.getI, Dl.slotOf, Dl.slotsOf, Dl.lents, Dl.takeB, Dl.backS, Dl.useSel, Dl.back, Dl.gd, Dl.pyIx, atI, ixN, Dl.pyGet, Dl.pyMul, Dl.pyAdd, Dl.pyEq, Dl.pyNe, Dl.mulOk, Dl.powOk, Dl.pySlice, Dl.fLen, Dl.fList, Dl.fTuple, Dl.mAppend, Dl.mReverse, Dl.mClear, Dl.mExtend, Dl.mInsert, Dl.mkTup, Dl.mkLst, Dl.pyIsN, Dl.pyNotN, Dl.fNeg, Dl.pyRev, Dl.gN, Dl.gsNil, Dl.gsCons, Dl.gT, Dl.srcL, Dl.srcT, Dl.srcS, Dl.srcQ, Dl.srcR1, Dl.srcR2, Dl.hide, Dl.restore, sizeLine_eq, Dl.lockS]
  by_cases e : w = 0
  · simp -dsimp -implicitDefEqProofs [Dl.vI, Dl.vB, Dl.vS, Dl.run2, Dl.run1, Dl.deref, Dl.Slot.data?, Dl.useO, Dl.useAll, Dl.boolOf, Dl.putO, Dl.free, Dl.outO, Dl.withAll, Dl.runN, Dl.derefs, Dl.mutO, Dl.isLst, Dl.isDct, Dl.putI, Dl.putD, Dl.setI, Dl.augO, Dl.getI, Dl.slotOf, Dl.slotsOf, Dl.lents, Dl.takeB, Dl.backS, Dl.useSel, Dl.back, Dl.gd, Dl.pyIx, atI, ixN, Dl.pyGet, Dl.pyMul, Dl.pyAdd, Dl.pyEq, Dl.pyNe, Dl.mulOk, Dl.powOk, Dl.pySlice, Dl.fLen, Dl.fList, Dl.fTuple, Dl.mAppend, Dl.mReverse, Dl.mClear, Dl.mExtend, Dl.mInsert, Dl.mkTup, Dl.mkLst, Dl.pyIsN, Dl.pyNotN, Dl.fNeg, Dl.pyRev, Dl.gN, Dl.gsNil, Dl.gsCons, Dl.gT, Dl.srcL, Dl.srcT, Dl.srcS, Dl.srcQ, Dl.srcR1, Dl.srcR2, Dl.hide, Dl.restore, sizeLine_eq, Dl.lockS, e]
    refine wp_draw hd (by decide) (by decide) fun w d hd w0 w1 => ?_
    have hw : w = 0 ∨ w = 1 := by omega
    rcases hw with rfl | rfl
    · simp -dsimp -implicitDefEqProofs [Dl.vI, Dl.vB, Dl.vS, Dl.run2, Dl.run1, Dl.deref, Dl.Slot.data?, Dl.useO, Dl.useAll, Dl.boolOf, Dl.putO, Dl.free, Dl.outO, Dl.withAll, Dl.runN, Dl.derefs, Dl.mutO, Dl.isLst, Dl.isDct, Dl.putI, Dl.putD, Dl.setI, Dl.augO, Dl.getI, Dl.slotOf, Dl.slotsOf, Dl.lents, Dl.takeB, Dl.backS, Dl.useSel, Dl.back, Dl.gd, Dl.pyIx, atI, ixN, Dl.pyGet, Dl.pyMul, Dl.pyAdd, Dl.pyEq, Dl.pyNe, Dl.mulOk, Dl.powOk, Dl.pySlice, Dl.fLen, Dl.fList, Dl.fTuple, Dl.mAppend, Dl.mReverse, Dl.mClear, Dl.mExtend, Dl.mInsert, Dl.mkTup, Dl.mkLst, Dl.pyIsN, Dl.pyNotN, Dl.fNeg, Dl.pyRev, Dl.gN, Dl.gsNil, Dl.gsCons, Dl.gT, Dl.srcL, Dl.srcT, Dl.srcS, Dl.srcQ, Dl.srcR1, Dl.srcR2, Dl.hide, Dl.restore, sizeLine_eq, Dl.lockS]
      exact k .yes d hd rfl (fun s h => by cases h)
    · simp -dsimp -implicitDefEqProofs [Dl.vI, Dl.vB, Dl.vS, Dl.run2, Dl.run1, Dl.deref, Dl.Slot.data?, Dl.useO, Dl.useAll, Dl.boolOf, Dl.putO, Dl.free, Dl.outO, Dl.withAll, Dl.runN, Dl.derefs, Dl.mutO, Dl.isLst, Dl.isDct, Dl.putI, Dl.putD, Dl.setI, Dl.augO, Dl.getI, Dl.slotOf, Dl.slotsOf, Dl.lents, Dl.takeB, Dl.backS, Dl.useSel, Dl.back, Dl.gd, Dl.pyIx, atI, ixN, Dl.pyGet, Dl.pyMul, Dl.pyAdd, Dl.pyEq, Dl.pyNe, Dl.mulOk, Dl.powOk, Dl.pySlice, Dl.fLen, Dl.fList, Dl.fTuple, Dl.mAppend, Dl.mReverse, Dl.mClear, Dl.mExtend, Dl.mInsert, Dl.mkTup, Dl.mkLst, Dl.pyIsN, Dl.pyNotN, Dl.fNeg, Dl.pyRev, Dl.gN, Dl.gsNil, Dl.gsCons, Dl.gT, Dl.srcL, Dl.srcT, Dl.srcS, Dl.srcQ, Dl.srcR1, Dl.srcR2, Dl.hide, Dl.restore, sizeLine_eq, Dl.lockS]
      exact k .no d hd rfl (fun s h => by cases h)
  · simp -dsimp -implicitDefEqProofs [Dl.vI, Dl.vB, Dl.vS, Dl.run2, Dl.run1, Dl.deref, Dl.Slot.data?, Dl.useO, Dl.useAll, Dl.boolOf, Dl.putO, Dl.free, Dl.outO, Dl.withAll, Dl.runN, Dl.derefs, Dl.mutO, Dl.isLst, Dl.isDct, Dl.putI, Dl.putD, Dl.setI, Dl.augO, Dl.getI, Dl.slotOf, Dl.slotsOf, Dl.lents, Dl.takeB, Dl.backS, Dl.useSel, Dl.back, Dl.gd, Dl.pyIx, atI, ixN, Dl.pyGet, Dl.pyMul, Dl.pyAdd, Dl.pyEq, Dl.pyNe, Dl.mulOk, Dl.powOk, Dl.pySlice, Dl.fLen, Dl.fList, Dl.fTuple, Dl.mAppend, Dl.mReverse, Dl.mClear, Dl.mExtend, Dl.mInsert, Dl.mkTup, Dl.mkLst, Dl.pyIsN, Dl.pyNotN, Dl.fNeg, Dl.pyRev, Dl.gN, Dl.gsNil, Dl.gsCons, Dl.gT, Dl.srcL, Dl.srcT, Dl.srcS, Dl.srcQ, Dl.srcR1, Dl.srcR2, Dl.hide, Dl.restore, sizeLine_eq, Dl.lockS, e]
    by_cases e2 : ss = []
    · simp -dsimp -implicitDefEqProofs [Dl.vI, Dl.vB, Dl.vS, Dl.run2, Dl.run1, Dl.deref, Dl.Slot.data?, Dl.useO, Dl.useAll, Dl.boolOf, Dl.putO, Dl.free, Dl.outO, Dl.withAll, Dl.runN, Dl.derefs, Dl.mutO, Dl.isLst, Dl.isDct, Dl.putI, Dl.putD, Dl.setI, Dl.augO, Dl.getI, Dl.slotOf, Dl.slotsOf, Dl.lents, Dl.takeB, Dl.backS, Dl.useSel, Dl.back, Dl.gd, Dl.pyIx, atI, ixN, Dl.pyGet, Dl.pyMul, Dl.pyAdd, Dl.pyEq, Dl.pyNe, Dl.mulOk, Dl.powOk, Dl.pySlice, Dl.fLen, Dl.fList, Dl.fTuple, Dl.mAppend, Dl.mReverse, Dl.mClear, Dl.mExtend, Dl.mInsert, Dl.mkTup, Dl.mkLst, Dl.pyIsN, Dl.pyNotN, Dl.fNeg, Dl.pyRev, Dl.gN, Dl.gsNil, Dl.gsCons, Dl.gT, Dl.srcL, Dl.srcT, Dl.srcS, Dl.srcQ, Dl.srcR1, Dl.srcR2, Dl.hide, Dl.restore, sizeLine_eq, Dl.lockS, e2]
      subst e2
      refine wp_draw hd (by decide) (by decide) fun w d hd w0 w1 => ?_
      have hw : w = 0 ∨ w = 1 := by omega
      rcases hw with rfl | rfl
      · simp -dsimp -implicitDefEqProofs [Dl.vI, Dl.vB, Dl.vS, Dl.run2, Dl.run1, Dl.deref, Dl.Slot.data?, Dl.useO, Dl.useAll, Dl.boolOf, Dl.putO, Dl.free, Dl.outO, Dl.withAll, Dl.runN, Dl.derefs, Dl.mutO, Dl.isLst, Dl.isDct, Dl.putI, Dl.putD, Dl.setI, Dl.augO, Dl.getI, Dl.slotOf, Dl.slotsOf, Dl.lents, Dl.takeB, Dl.backS, Dl.useSel, Dl.back, Dl.gd, Dl.pyIx, atI, ixN, Dl.pyGet, Dl.pyMul, Dl.pyAdd, Dl.pyEq, Dl.pyNe, Dl.mulOk, Dl.powOk, Dl.pySlice, Dl.fLen, Dl.fList, Dl.fTuple, Dl.mAppend, Dl.mReverse, Dl.mClear, Dl.mExtend, Dl.mInsert, Dl.mkTup, Dl.mkLst, Dl.pyIsN, Dl.pyNotN, Dl.fNeg, Dl.pyRev, Dl.gN, Dl.gsNil, Dl.gsCons, Dl.gT, Dl.srcL, Dl.srcT, Dl.srcS, Dl.srcQ, Dl.srcR1, Dl.srcR2, Dl.hide, Dl.restore, sizeLine_eq, Dl.lockS]
        exact k .yes d hd rfl (fun s h => by cases h)
      · simp -dsimp -implicitDefEqProofs [Dl.vI, Dl.vB, Dl.vS, Dl.run2, Dl.run1, Dl.deref, Dl.Slot.data?, Dl.useO, Dl.useAll, Dl.boolOf, Dl.putO, Dl.free, Dl.outO, Dl.withAll, Dl.runN, Dl.derefs, Dl.mutO, Dl.isLst, Dl.isDct, Dl.putI, Dl.putD, Dl.setI, Dl.augO, Dl.getI, Dl.slotOf, Dl.slotsOf, Dl.lents, Dl.takeB, Dl.backS, Dl.useSel, Dl.back, Dl.gd, Dl.pyIx, atI, ixN, Dl.pyGet, Dl.pyMul, Dl.pyAdd, Dl.pyEq, Dl.pyNe, Dl.mulOk, Dl.powOk, Dl.pySlice, Dl.fLen, Dl.fList, Dl.fTuple, Dl.mAppend, Dl.mReverse, Dl.mClear, Dl.mExtend, Dl.mInsert, Dl.mkTup, Dl.mkLst, Dl.pyIsN, Dl.pyNotN, Dl.fNeg, Dl.pyRev, Dl.gN, Dl.gsNil, Dl.gsCons, Dl.gT, Dl.srcL, Dl.srcT, Dl.srcS, Dl.srcQ, Dl.srcR1, Dl.srcR2, Dl.hide, Dl.restore, sizeLine_eq, Dl.lockS]
        exact k .no d hd rfl (fun s h => by cases h)
    · have hp : 0 < ss.length := by cases ss with | nil => exact absurd rfl e2 | cons _ _ => simp
      simp -dsimp -implicitDefEqProofs [Dl.vI, Dl.vB, Dl.vS, Dl.run2, Dl.run1, Dl.deref, Dl.Slot.data?, Dl.useO, Dl.useAll, Dl.boolOf, Dl.putO, Dl.free, Dl.outO, Dl.withAll, Dl.runN, Dl.derefs, Dl.mutO, Dl.isLst, Dl.isDct, Dl.putI, Dl.putD, Dl.setI, Dl.augO, Dl.getI, Dl.slotOf, Dl.slotsOf, Dl.lents, Dl.takeB, Dl.backS, Dl.useSel, Dl.back, Dl.gd, Dl.pyIx, atI, ixN, Dl.pyGet, Dl.pyMul, Dl.pyAdd, Dl.pyEq, Dl.pyNe, Dl.mulOk, Dl.powOk, Dl.pySlice, Dl.fLen, Dl.fList, Dl.fTuple, Dl.mAppend, Dl.mReverse, Dl.mClear, Dl.mExtend, Dl.mInsert, Dl.mkTup, Dl.mkLst, Dl.pyIsN, Dl.pyNotN, Dl.fNeg, Dl.pyRev, Dl.gN, Dl.gsNil, Dl.gsCons, Dl.gT, Dl.srcL, Dl.srcT, Dl.srcS, Dl.srcQ, Dl.srcR1, Dl.srcR2, Dl.hide, Dl.restore, sizeLine_eq, Dl.lockS, e2]
      refine wp_draw hd (by omega) (by omega) fun w d hd w0 w1 => ?_
      obtain ⟨s, hs, ha⟩ := at_map ss w w0 w1
      simp -dsimp -implicitDefEqProofs [Dl.vI, Dl.vB, Dl.vS, Dl.run2, Dl.run1, Dl.deref, Dl.Slot.data?, Dl.useO, Dl.useAll, Dl.boolOf, Dl.putO, Dl.free, Dl.outO, Dl.withAll, Dl.runN, Dl.derefs, Dl.mutO, Dl.isLst, Dl.isDct, Dl.putI, Dl.putD, Dl.setI, Dl.augO, Dl.getI, Dl.slotOf, Dl.slotsOf, Dl.lents, Dl.takeB, Dl.backS, Dl.useSel, Dl.back, Dl.gd, Dl.pyIx, ixN, Dl.pyGet, Dl.pyMul, Dl.pyAdd, Dl.pyEq, Dl.pyNe, Dl.mulOk, Dl.powOk, Dl.pySlice, Dl.fLen, Dl.fList, Dl.fTuple, Dl.mAppend, Dl.mReverse, Dl.mClear, Dl.mExtend, Dl.mInsert, Dl.mkTup, Dl.mkLst, Dl.pyIsN, Dl.pyNotN, Dl.fNeg, Dl.pyRev, Dl.gN, Dl.gsNil, Dl.gsCons, Dl.gT, Dl.srcL, Dl.srcT, Dl.srcS, Dl.srcQ, Dl.srcR1, Dl.srcR2, Dl.hide, Dl.restore, sizeLine_eq, Dl.lockS, ha]
      exact k (.is s) d hd rfl (fun t h => by rw [List.mem_singleton.mp h]; exact hs)
theorem law_rule : ∀ (n : Nat) (deep : Int) (d : D) (ss : List Str) {Q : Opd → Rho → Prop} {X : Ex → Rho → Prop}, deep ≤ n → 1 ≤ deep → Hand d → ss.length ≤ 1000 →
    (∀ r d', Hand d' → (r.dep : Int) ≤ deep → (∀ s ∈ r.names, s ∈ ss) → Q (.val (Ru.toD r)) [.par d', .par (.list (ss.map .str)), .dat (.int deep)]) →
    wp (mLawRule n [.par d, .par (.list (ss.map .str)), .dat (.int deep)]) Q X
  | 0, deep, d, ss, Q, X, h, h1, _, _, _ => by omega
  | n + 1, deep, d, ss, Q, X, h, h1, hd, hl, k => by
    unfold mLawRule
    simp -dsimp -implicitDefEqProofs [Dl.vI, Dl.vB, Dl.vS, Dl.run2, Dl.run1, Dl.deref, Dl.Slot.data?, Dl.useO, Dl.useAll, Dl.boolOf, Dl.putO, Dl.free, Dl.outO, Dl.withAll, Dl.runN, Dl.derefs, Dl.mutO, Dl.isLst, Dl.isDct, Dl.putI, Dl.putD, Dl.setI, Dl.augO, Dl.getI, Dl.slotOf, Dl.slotsOf, Dl.lents, Dl.takeB, Dl.backS, Dl.useSel, Dl.back, Dl.gd, Dl.pyIx, atI, ixN, Dl.pyGet, Dl.pyMul, Dl.pyAdd, Dl.pyEq, Dl.pyNe, Dl.mulOk, Dl.powOk, Dl.pySlice, Dl.fLen, Dl.fList, Dl.fTuple, Dl.mAppend, Dl.mReverse, Dl.mClear, Dl.mExtend, Dl.mInsert, Dl.mkTup, Dl.mkLst, Dl.pyIsN, Dl.pyNotN, Dl.fNeg, Dl.pyRev, Dl.gN, Dl.gsNil, Dl.gsCons, Dl.gT, Dl.srcL, Dl.srcT, Dl.srcS, Dl.srcQ, Dl.srcR1, Dl.srcR2, Dl.hide, Dl.restore, sizeLine_eq, Dl.lockS]
    refine wp_draw hd (by decide) (by decide) fun w d hd w0 w1 => ?_
    simp -dsimp -implicitDefEqProofs [Dl.vI, Dl.vB, Dl.vS, Dl.run2, Dl.run1, Dl.deref, Dl.Slot.data?, Dl.useO, Dl.useAll, Dl.boolOf, Dl.putO, Dl.free, Dl.outO, Dl.withAll, Dl.runN, Dl.derefs, Dl.mutO, Dl.isLst, Dl.isDct, Dl.putI, Dl.putD, Dl.setI, Dl.augO, Dl.getI, Dl.slotOf, Dl.slotsOf, Dl.lents, Dl.takeB, Dl.backS, Dl.useSel, Dl.back, Dl.gd, Dl.pyIx, atI, ixN, Dl.pyGet, Dl.pyMul, Dl.pyAdd, Dl.pyEq, Dl.pyNe, Dl.mulOk, Dl.powOk, Dl.pySlice, Dl.fLen, Dl.fList, Dl.fTuple, Dl.mAppend, Dl.mReverse, Dl.mClear, Dl.mExtend, Dl.mInsert, Dl.mkTup, Dl.mkLst, Dl.pyIsN, Dl.pyNotN, Dl.fNeg, Dl.pyRev, Dl.gN, Dl.gsNil, Dl.gsCons, Dl.gT, Dl.srcL, Dl.srcT, Dl.srcS, Dl.srcQ, Dl.srcR1, Dl.srcR2, Dl.hide, Dl.restore, sizeLine_eq, Dl.lockS]
    by_cases e : deep = 1
    · simp -dsimp -implicitDefEqProofs [Dl.vI, Dl.vB, Dl.vS, Dl.run2, Dl.run1, Dl.deref, Dl.Slot.data?, Dl.useO, Dl.useAll, Dl.boolOf, Dl.putO, Dl.free, Dl.outO, Dl.withAll, Dl.runN, Dl.derefs, Dl.mutO, Dl.isLst, Dl.isDct, Dl.putI, Dl.putD, Dl.setI, Dl.augO, Dl.getI, Dl.slotOf, Dl.slotsOf, Dl.lents, Dl.takeB, Dl.backS, Dl.useSel, Dl.back, Dl.gd, Dl.pyIx, atI, ixN, Dl.pyGet, Dl.pyMul, Dl.pyAdd, Dl.pyEq, Dl.pyNe, Dl.mulOk, Dl.powOk, Dl.pySlice, Dl.fLen, Dl.fList, Dl.fTuple, Dl.mAppend, Dl.mReverse, Dl.mClear, Dl.mExtend, Dl.mInsert, Dl.mkTup, Dl.mkLst, Dl.pyIsN, Dl.pyNotN, Dl.fNeg, Dl.pyRev, Dl.gN, Dl.gsNil, Dl.gsCons, Dl.gT, Dl.srcL, Dl.srcT, Dl.srcS, Dl.srcQ, Dl.srcR1, Dl.srcR2, Dl.hide, Dl.restore, sizeLine_eq, Dl.lockS, e]
      subst e
      exact rule_leaf hd hl fun r d' h2 h3 h4 => k r d' h2 (by omega) h4
    · simp -dsimp -implicitDefEqProofs [Dl.vI, Dl.vB, Dl.vS, Dl.run2, Dl.run1, Dl.deref, Dl.Slot.data?, Dl.useO, Dl.useAll, Dl.boolOf, Dl.putO, Dl.free, Dl.outO, Dl.withAll, Dl.runN, Dl.derefs, Dl.mutO, Dl.isLst, Dl.isDct, Dl.putI, Dl.putD, Dl.setI, Dl.augO, Dl.getI, Dl.slotOf, Dl.slotsOf, Dl.lents, Dl.takeB, Dl.backS, Dl.useSel, Dl.back, Dl.gd, Dl.pyIx, atI, ixN, Dl.pyGet, Dl.pyMul, Dl.pyAdd, Dl.pyEq, Dl.pyNe, Dl.mulOk, Dl.powOk, Dl.pySlice, Dl.fLen, Dl.fList, Dl.fTuple, Dl.mAppend, Dl.mReverse, Dl.mClear, Dl.mExtend, Dl.mInsert, Dl.mkTup, Dl.mkLst, Dl.pyIsN, Dl.pyNotN, Dl.fNeg, Dl.pyRev, Dl.gN, Dl.gsNil, Dl.gsCons, Dl.gT, Dl.srcL, Dl.srcT, Dl.srcS, Dl.srcQ, Dl.srcR1, Dl.srcR2, Dl.hide, Dl.restore, sizeLine_eq, Dl.lockS, e]
      by_cases e2 : w < 2
      · simp -dsimp -implicitDefEqProofs [Dl.vI, Dl.vB, Dl.vS, Dl.run2, Dl.run1, Dl.deref, Dl.Slot.data?, Dl.useO, Dl.useAll, Dl.boolOf, Dl.putO, Dl.free, Dl.outO, Dl.withAll, Dl.runN, Dl.derefs, Dl.mutO, Dl.isLst, Dl.isDct, Dl.putI, Dl.putD, Dl.setI, Dl.augO, Dl.getI, Dl.slotOf, Dl.slotsOf, Dl.lents, Dl.takeB, Dl.backS, Dl.useSel, Dl.back, Dl.gd, Dl.pyIx, atI, ixN, Dl.pyGet, Dl.pyMul, Dl.pyAdd, Dl.pyEq, Dl.pyNe, Dl.mulOk, Dl.powOk, Dl.pySlice, Dl.fLen, Dl.fList, Dl.fTuple, Dl.mAppend, Dl.mReverse, Dl.mClear, Dl.mExtend, Dl.mInsert, Dl.mkTup, Dl.mkLst, Dl.pyIsN, Dl.pyNotN, Dl.fNeg, Dl.pyRev, Dl.gN, Dl.gsNil, Dl.gsCons, Dl.gT, Dl.srcL, Dl.srcT, Dl.srcS, Dl.srcQ, Dl.srcR1, Dl.srcR2, Dl.hide, Dl.restore, sizeLine_eq, Dl.lockS, e2]
        exact rule_leaf hd hl fun r d' h2 h3 h4 => k r d' h2 (by omega) h4
      · simp -dsimp -implicitDefEqProofs [Dl.vI, Dl.vB, Dl.vS, Dl.run2, Dl.run1, Dl.deref, Dl.Slot.data?, Dl.useO, Dl.useAll, Dl.boolOf, Dl.putO, Dl.free, Dl.outO, Dl.withAll, Dl.runN, Dl.derefs, Dl.mutO, Dl.isLst, Dl.isDct, Dl.putI, Dl.putD, Dl.setI, Dl.augO, Dl.getI, Dl.slotOf, Dl.slotsOf, Dl.lents, Dl.takeB, Dl.backS, Dl.useSel, Dl.back, Dl.gd, Dl.pyIx, atI, ixN, Dl.pyGet, Dl.pyMul, Dl.pyAdd, Dl.pyEq, Dl.pyNe, Dl.mulOk, Dl.powOk, Dl.pySlice, Dl.fLen, Dl.fList, Dl.fTuple, Dl.mAppend, Dl.mReverse, Dl.mClear, Dl.mExtend, Dl.mInsert, Dl.mkTup, Dl.mkLst, Dl.pyIsN, Dl.pyNotN, Dl.fNeg, Dl.pyRev, Dl.gN, Dl.gsNil, Dl.gsCons, Dl.gT, Dl.srcL, Dl.srcT, Dl.srcS, Dl.srcQ, Dl.srcR1, Dl.srcR2, Dl.hide, Dl.restore, sizeLine_eq, Dl.lockS, e2, mRuleRest]
        refine law_rule n (deep - 1) d ss (by omega) (by omega) hd hl fun r d hd h2 h3 => ?_
        simp -dsimp -implicitDefEqProofs [Dl.vI, Dl.vB, Dl.vS, Dl.run2, Dl.run1, Dl.deref, Dl.Slot.data?, Dl.useO, Dl.useAll, Dl.boolOf, Dl.putO, Dl.free, Dl.outO, Dl.withAll, Dl.runN, Dl.derefs, Dl.mutO, Dl.isLst, Dl.isDct, Dl.putI, Dl.putD, Dl.setI, Dl.augO, Dl.getI, Dl.slotOf, Dl.slotsOf, Dl.lents, Dl.takeB, Dl.backS, Dl.useSel, Dl.back, Dl.gd, Dl.pyIx, atI, ixN, Dl.pyGet, Dl.pyMul, Dl.pyAdd, Dl.pyEq, Dl.pyNe, Dl.mulOk, Dl.powOk, Dl.pySlice, Dl.fLen, Dl.fList, Dl.fTuple, Dl.mAppend, Dl.mReverse, Dl.mClear, Dl.mExtend, Dl.mInsert, Dl.mkTup, Dl.mkLst, Dl.pyIsN, Dl.pyNotN, Dl.fNeg, Dl.pyRev, Dl.gN, Dl.gsNil, Dl.gsCons, Dl.gT, Dl.srcL, Dl.srcT, Dl.srcS, Dl.srcQ, Dl.srcR1, Dl.srcR2, Dl.hide, Dl.restore, sizeLine_eq, Dl.lockS]
        by_cases e3 : w < 4
        · simp -dsimp -implicitDefEqProofs [Dl.vI, Dl.vB, Dl.vS, Dl.run2, Dl.run1, Dl.deref, Dl.Slot.data?, Dl.useO, Dl.useAll, Dl.boolOf, Dl.putO, Dl.free, Dl.outO, Dl.withAll, Dl.runN, Dl.derefs, Dl.mutO, Dl.isLst, Dl.isDct, Dl.putI, Dl.putD, Dl.setI, Dl.augO, Dl.getI, Dl.slotOf, Dl.slotsOf, Dl.lents, Dl.takeB, Dl.backS, Dl.useSel, Dl.back, Dl.gd, Dl.pyIx, atI, ixN, Dl.pyGet, Dl.pyMul, Dl.pyAdd, Dl.pyEq, Dl.pyNe, Dl.mulOk, Dl.powOk, Dl.pySlice, Dl.fLen, Dl.fList, Dl.fTuple, Dl.mAppend, Dl.mReverse, Dl.mClear, Dl.mExtend, Dl.mInsert, Dl.mkTup, Dl.mkLst, Dl.pyIsN, Dl.pyNotN, Dl.fNeg, Dl.pyRev, Dl.gN, Dl.gsNil, Dl.gsCons, Dl.gT, Dl.srcL, Dl.srcT, Dl.srcS, Dl.srcQ, Dl.srcR1, Dl.srcR2, Dl.hide, Dl.restore, sizeLine_eq, Dl.lockS, e3]
          exact k (.not r) d hd (by simp only [Ru.dep]; omega) h3
        · simp -dsimp -implicitDefEqProofs [Dl.vI, Dl.vB, Dl.vS, Dl.run2, Dl.run1, Dl.deref, Dl.Slot.data?, Dl.useO, Dl.useAll, Dl.boolOf, Dl.putO, Dl.free, Dl.outO, Dl.withAll, Dl.runN, Dl.derefs, Dl.mutO, Dl.isLst, Dl.isDct, Dl.putI, Dl.putD, Dl.setI, Dl.augO, Dl.getI, Dl.slotOf, Dl.slotsOf, Dl.lents, Dl.takeB, Dl.backS, Dl.useSel, Dl.back, Dl.gd, Dl.pyIx, atI, ixN, Dl.pyGet, Dl.pyMul, Dl.pyAdd, Dl.pyEq, Dl.pyNe, Dl.mulOk, Dl.powOk, Dl.pySlice, Dl.fLen, Dl.fList, Dl.fTuple, Dl.mAppend, Dl.mReverse, Dl.mClear, Dl.mExtend, Dl.mInsert, Dl.mkTup, Dl.mkLst, Dl.pyIsN, Dl.pyNotN, Dl.fNeg, Dl.pyRev, Dl.gN, Dl.gsNil, Dl.gsCons, Dl.gT, Dl.srcL, Dl.srcT, Dl.srcS, Dl.srcQ, Dl.srcR1, Dl.srcR2, Dl.hide, Dl.restore, sizeLine_eq, Dl.lockS, e3]
          have hw : w = 4 ∨ w = 5 ∨ w = 6 ∨ w = 7 := by omega
          have fin : ∀ o : Op4, ∀ r2 d', Hand d' → (r2.dep : Int) ≤ deep - 1 → (∀ s ∈ r2.names, s ∈ ss) → Q (.val (Ru.toD (.two o r r2))) [.par d', .par (.list (ss.map .str)), .dat (.int deep)] := fun o r2 d' hd' h4 h5 =>
            k (.two o r r2) d' hd' (by simp only [Ru.dep]; omega) (fun s h => (List.mem_append.mp h).elim (h3 s) (h5 s))
          rcases hw with rfl | rfl | rfl | rfl
          all_goals
            (simp -dsimp -implicitDefEqProofs [Dl.vI, Dl.vB, Dl.vS, Dl.run2, Dl.run1, Dl.deref, Dl.Slot.data?, Dl.useO, Dl.useAll, Dl.boolOf, Dl.putO, Dl.free, Dl.outO, Dl.withAll, Dl.runN, Dl.derefs, Dl.mutO, Dl.isLst, Dl.isDct, Dl.putI, Dl.putD, Dl.setI, Dl.augO, Dl.getI, Dl.slotOf, Dl.slotsOf, Dl.lents, Dl.takeB, Dl.backS, Dl.useSel, Dl.back, Dl.gd, Dl.pyIx, atI, ixN, Dl.pyGet, Dl.pyMul, Dl.pyAdd, Dl.pyEq, Dl.pyNe, Dl.mulOk, Dl.powOk, Dl.pySlice, Dl.fLen, Dl.fList, Dl.fTuple, Dl.mAppend, Dl.mReverse, Dl.mClear, Dl.mExtend, Dl.mInsert, Dl.mkTup, Dl.mkLst, Dl.pyIsN, Dl.pyNotN, Dl.fNeg, Dl.pyRev, Dl.gN, Dl.gsNil, Dl.gsCons, Dl.gT, Dl.srcL, Dl.srcT, Dl.srcS, Dl.srcQ, Dl.srcR1, Dl.srcR2, Dl.hide, Dl.restore, sizeLine_eq, Dl.lockS]
             refine law_rule n (deep - 1) d ss (by omega) (by omega) hd hl fun r2 d2 hd2 h4 h5 => ?_
             simp -dsimp -implicitDefEqProofs [Dl.vI, Dl.vB, Dl.vS, Dl.run2, Dl.run1, Dl.deref, Dl.Slot.data?, Dl.useO, Dl.useAll, Dl.boolOf, Dl.putO, Dl.free, Dl.outO, Dl.withAll, Dl.runN, Dl.derefs, Dl.mutO, Dl.isLst, Dl.isDct, Dl.putI, Dl.putD, Dl.setI, Dl.augO, Dl.getI, Dl.slotOf, Dl.slotsOf, Dl.lents, Dl.takeB, Dl.backS, Dl.useSel, Dl.back, Dl.gd, Dl.pyIx, atI, ixN, Dl.pyGet, Dl.pyMul, Dl.pyAdd, Dl.pyEq, Dl.pyNe, Dl.mulOk, Dl.powOk, Dl.pySlice, Dl.fLen, Dl.fList, Dl.fTuple, Dl.mAppend, Dl.mReverse, Dl.mClear, Dl.mExtend, Dl.mInsert, Dl.mkTup, Dl.mkLst, Dl.pyIsN, Dl.pyNotN, Dl.fNeg, Dl.pyRev, Dl.gN, Dl.gsNil, Dl.gsCons, Dl.gT, Dl.srcL, Dl.srcT, Dl.srcS, Dl.srcQ, Dl.srcR1, Dl.srcR2, Dl.hide, Dl.restore, sizeLine_eq, Dl.lockS])
          · exact fin .and r2 d2 hd2 h4 h5
          · exact fin .or r2 d2 hd2 h4 h5
          · exact fin .thn r2 d2 hd2 h4 h5
          · exact fin .same r2 d2 hd2 h4 h5
end Dl

set_option maxRecDepth 100000
set_option maxHeartbeats 4000000
namespace Dl
open PySem PySem.Spec L2
set_option autoImplicit false
abbrev abc : Str := "abcdefghijklmnopqrstuvwxyz"
theorem abc_ok : okC abc.cps.toList := by
  have h : abc.cps.toList.all (fun c => decide (c < 1114112)) = true := by decide +kernel
  exact fun c hc => of_decide_eq_true (List.all_eq_true.mp h c hc)
theorem abc_len : abc.cps.toList.length = 26 := by decide +kernel
theorem at_list {α : Type} (xs : List α) (i : Int) (h0 : 0 ≤ i) (h1 : i < xs.length) : ∃ x, x ∈ xs ∧ atI xs i = some x := by
  obtain ⟨s, hs⟩ : ∃ s, xs[i.toNat]? = some s := ⟨_, List.getElem?_eq_getElem (by omega)⟩
  refine ⟨s, List.mem_of_getElem? hs, ?_⟩
  unfold atI ixN
  rw [if_pos h0, if_pos h1]
  exact hs
def okL (cs : List Nat) : Prop := ∀ c ∈ cs, 97 ≤ c ∧ c ≤ 122
theorem okL.c {cs : List Nat} (h : okL cs) : okC cs := fun c hc => by have := h c hc; omega
theorem okL_nil : okL [] := fun c h => by cases h
theorem okL_app {a b : List Nat} (ha : okL a) (hb : okL b) : okL (a ++ b) := fun c h => (List.mem_append.mp h).elim (ha c) (hb c)
/-- a name of the tongue's letters -/
structure Lw (s : Str) : Prop where
  lo : 1 ≤ s.cps.toList.length
  hi : s.cps.toList.length ≤ 8
  ok : okL s.cps.toList
structure Gd (ss : List Str) : Prop where
  nd : ss.Nodup
  lw : ∀ s ∈ ss, Lw s
theorem Gd.nil : Gd [] := ⟨.nil, fun s h => by cases h⟩
theorem Gd.snoc {ss : List Str} {s : Str} (g : Gd ss) (h : Lw s) (n : s ∉ ss) : Gd (ss ++ [s]) :=
  ⟨List.nodup_append.mpr ⟨g.nd, by simp, fun a ha b hb => by rintro rfl; rw [List.mem_singleton.mp hb] at ha; exact n ha⟩, fun t ht => (List.mem_append.mp ht).elim (g.lw t) fun z => by rw [List.mem_singleton.mp z]; exact h⟩
theorem abc_list : abc.cps.toList = List.range' 97 26 := by decide +kernel
theorem at_abc {i : Int} (h0 : 0 ≤ i) (h1 : i < 26) : ∃ c, ((97 ≤ c ∧ c ≤ 122) ∧ c = 97 + i.toNat) ∧ pyAt (.str abc) (.int i) = some (.val (.str (one c))) := by
  refine ⟨97 + i.toNat, ⟨by omega, rfl⟩, ?_⟩
  have ha : atI abc.cps.toList i = some (97 + i.toNat) := by
    unfold atI ixN
    rw [if_pos h0, if_pos (by rw [abc_len]; exact h1), abc_list]
    show (List.range' 97 26)[i.toNat]? = _
    rw [List.getElem?_range' (by omega)]
    simp
  have hl : abc.length ≤ sizeLine := by rw [sizeLine_eq]; decide +kernel
  unfold pyAt orf pyIx
  dsimp only
  rw [if_pos hl, ha]
  rfl
abbrev range0 (k : Nat) : List D := (List.range k).map fun k : Nat => .int (k : Int)
theorem range_at {k i : Nat} {d : D} (h : (range0 k)[i]? = some d) : d = .int i ∧ i < k := by
  rw [List.getElem?_map, Option.map_eq_some_iff] at h
  obtain ⟨j, hj, rfl⟩ := h
  obtain ⟨h1, h2⟩ := List.getElem?_eq_some_iff.mp hj
  rw [List.getElem_range] at h2
  subst h2
  exact ⟨rfl, by simpa using h1⟩
theorem word_comp9 {d : D} {n : Int} {t3 t4 t5 t6 t7 t8 t9 t10 t11 t12 t13 t14 : Slot} {k : Nat} {QO : Opd → Rho → Prop} {X : Ex → Rho → Prop} (hd : Hand d) (hk : k ≤ 16)
    (h : ∀ cs d, Hand d → okL cs → cs.length = k → QO (.new (.list ((cs.map one).map .str))) [.par d, .dat (.int n), .dat (.str abc), t3, t4, t5, t6, t7, t8, t9, t10, t11, t12, t13, t14]) :
    wp (compL [9] (gN 9) tTrue (eOp2 pyAt (eVar 2) (eCall 2 [true, true] mDraw (aCons (eVar 0) (aCons (eC (.int 26)) aNil)))) (range0 k) [] [.par d, .dat (.int n), .dat (.str abc), t3, t4, t5, t6, t7, t8, t9, t10, t11, t12, t13, t14]) QO X := by
  refine wp_cmp (fun i acc ρ => ∃ cs d, Hand d ∧ okL cs ∧ cs.length = i ∧ acc = (cs.map one).map .str ∧ ρ = [.par d, .dat (.int n), .dat (.str abc), t3, t4, t5, t6, t7, t8, t9, t10, t11, t12, t13, t14]) ⟨[], d, hd, okL_nil, rfl, rfl, rfl⟩ (fun i x acc ρ hx hI => ?_) fun acc ρ hI => ?_
  · obtain ⟨cs, d, hd, ho, hl, rfl, rfl⟩ := hI
    obtain ⟨rfl, hi⟩ := range_at hx
    refine ⟨[.par d, .dat (.int n), .dat (.str abc), t3, t4, t5, t6, t7, t8, .dat (.int i), t10, t11, t12, t13, t14], rfl, ?_⟩
    simp -dsimp -implicitDefEqProofs [Dl.vI, Dl.vB, Dl.vS, Dl.run2, Dl.run1, Dl.deref, Dl.Slot.data?, Dl.useO, Dl.useAll, Dl.boolOf, Dl.putO, Dl.free, Dl.outO, Dl.withAll, Dl.runN, Dl.derefs, Dl.mutO, Dl.isLst, Dl.isDct, Dl.putI, Dl.putD, Dl.setI, Dl.augO, Dl.getI, Dl.slotOf, Dl.slotsOf, Dl.lents, Dl.takeB, Dl.backS, Dl.useSel, Dl.back, Dl.gd, Dl.pyIx, atI, ixN, Dl.pyGet, Dl.pyMul, Dl.pyAdd, Dl.pyEq, Dl.pyNe, Dl.mulOk, Dl.powOk, Dl.pySlice, Dl.fLen, Dl.fList, Dl.fTuple, Dl.mAppend, Dl.mReverse, Dl.mClear, Dl.mExtend, Dl.mInsert, Dl.mkTup, Dl.mkLst, Dl.pyIsN, Dl.pyNotN, Dl.fNeg, Dl.pyRev, Dl.gN, Dl.gsNil, Dl.gsCons, Dl.gT, Dl.srcL, Dl.srcT, Dl.srcS, Dl.srcQ, Dl.srcR1, Dl.srcR2, Dl.hide, Dl.restore, sizeLine_eq, Dl.lockS]
    refine wp_draw hd (by decide) (by decide) fun w d hd w0 w1 => ?_
    obtain ⟨c, hc, ha⟩ := at_abc w0 w1
    simp -dsimp -implicitDefEqProofs [Dl.vI, Dl.vB, Dl.vS, Dl.run2, Dl.run1, Dl.deref, Dl.Slot.data?, Dl.useO, Dl.useAll, Dl.boolOf, Dl.putO, Dl.free, Dl.outO, Dl.withAll, Dl.runN, Dl.derefs, Dl.mutO, Dl.isLst, Dl.isDct, Dl.putI, Dl.putD, Dl.setI, Dl.augO, Dl.getI, Dl.slotOf, Dl.slotsOf, Dl.lents, Dl.takeB, Dl.backS, Dl.useSel, Dl.back, Dl.gd, Dl.pyIx, atI, ixN, Dl.pyGet, Dl.pyMul, Dl.pyAdd, Dl.pyEq, Dl.pyNe, Dl.mulOk, Dl.powOk, Dl.pySlice, Dl.fLen, Dl.fList, Dl.fTuple, Dl.mAppend, Dl.mReverse, Dl.mClear, Dl.mExtend, Dl.mInsert, Dl.mkTup, Dl.mkLst, Dl.pyIsN, Dl.pyNotN, Dl.fNeg, Dl.pyRev, Dl.gN, Dl.gsNil, Dl.gsCons, Dl.gT, Dl.srcL, Dl.srcT, Dl.srcS, Dl.srcQ, Dl.srcR1, Dl.srcR2, Dl.hide, Dl.restore, sizeLine_eq, Dl.lockS, ha]
    refine ⟨_, _, ⟨rfl, rfl⟩, by omega, cs ++ [c], ⟨d, hd, okL_app ho (fun a h => by rw [List.mem_singleton.mp h]; exact hc.1), by rw [List.length_append, hl]; rfl, ?_⟩⟩
    simp
  · obtain ⟨cs, d, hd, ho, hl, rfl, rfl⟩ := hI
    exact h cs d hd ho (by rw [hl]; simp)
theorem word_comp13 {d : D} {n : Int} {t3 t4 t5 t6 t7 t8 t9 t10 t11 t12 t13 t14 : Slot} {k : Nat} {QO : Opd → Rho → Prop} {X : Ex → Rho → Prop} (hd : Hand d) (hk : k ≤ 16)
    (h : ∀ cs d, Hand d → okL cs → cs.length = k → QO (.new (.list ((cs.map one).map .str))) [.par d, .dat (.int n), .dat (.str abc), t3, t4, t5, t6, t7, t8, t9, t10, t11, t12, t13, t14]) :
    wp (compL [13] (gN 13) tTrue (eOp2 pyAt (eVar 2) (eCall 2 [true, true] mDraw (aCons (eVar 0) (aCons (eC (.int 26)) aNil)))) (range0 k) [] [.par d, .dat (.int n), .dat (.str abc), t3, t4, t5, t6, t7, t8, t9, t10, t11, t12, t13, t14]) QO X := by
  refine wp_cmp (fun i acc ρ => ∃ cs d, Hand d ∧ okL cs ∧ cs.length = i ∧ acc = (cs.map one).map .str ∧ ρ = [.par d, .dat (.int n), .dat (.str abc), t3, t4, t5, t6, t7, t8, t9, t10, t11, t12, t13, t14]) ⟨[], d, hd, okL_nil, rfl, rfl, rfl⟩ (fun i x acc ρ hx hI => ?_) fun acc ρ hI => ?_
  · obtain ⟨cs, d, hd, ho, hl, rfl, rfl⟩ := hI
    obtain ⟨rfl, hi⟩ := range_at hx
    refine ⟨[.par d, .dat (.int n), .dat (.str abc), t3, t4, t5, t6, t7, t8, t9, t10, t11, t12, .dat (.int i), t14], rfl, ?_⟩
    simp -dsimp -implicitDefEqProofs [Dl.vI, Dl.vB, Dl.vS, Dl.run2, Dl.run1, Dl.deref, Dl.Slot.data?, Dl.useO, Dl.useAll, Dl.boolOf, Dl.putO, Dl.free, Dl.outO, Dl.withAll, Dl.runN, Dl.derefs, Dl.mutO, Dl.isLst, Dl.isDct, Dl.putI, Dl.putD, Dl.setI, Dl.augO, Dl.getI, Dl.slotOf, Dl.slotsOf, Dl.lents, Dl.takeB, Dl.backS, Dl.useSel, Dl.back, Dl.gd, Dl.pyIx, atI, ixN, Dl.pyGet, Dl.pyMul, Dl.pyAdd, Dl.pyEq, Dl.pyNe, Dl.mulOk, Dl.powOk, Dl.pySlice, Dl.fLen, Dl.fList, Dl.fTuple, Dl.mAppend, Dl.mReverse, Dl.mClear, Dl.mExtend, Dl.mInsert, Dl.mkTup, Dl.mkLst, Dl.pyIsN, Dl.pyNotN, Dl.fNeg, Dl.pyRev, Dl.gN, Dl.gsNil, Dl.gsCons, Dl.gT, Dl.srcL, Dl.srcT, Dl.srcS, Dl.srcQ, Dl.srcR1, Dl.srcR2, Dl.hide, Dl.restore, sizeLine_eq, Dl.lockS]
    refine wp_draw hd (by decide) (by decide) fun w d hd w0 w1 => ?_
    obtain ⟨c, hc, ha⟩ := at_abc w0 w1
    simp -dsimp -implicitDefEqProofs [Dl.vI, Dl.vB, Dl.vS, Dl.run2, Dl.run1, Dl.deref, Dl.Slot.data?, Dl.useO, Dl.useAll, Dl.boolOf, Dl.putO, Dl.free, Dl.outO, Dl.withAll, Dl.runN, Dl.derefs, Dl.mutO, Dl.isLst, Dl.isDct, Dl.putI, Dl.putD, Dl.setI, Dl.augO, Dl.getI, Dl.slotOf, Dl.slotsOf, Dl.lents, Dl.takeB, Dl.backS, Dl.useSel, Dl.back, Dl.gd, Dl.pyIx, atI, ixN, Dl.pyGet, Dl.pyMul, Dl.pyAdd, Dl.pyEq, Dl.pyNe, Dl.mulOk, Dl.powOk, Dl.pySlice, Dl.fLen, Dl.fList, Dl.fTuple, Dl.mAppend, Dl.mReverse, Dl.mClear, Dl.mExtend, Dl.mInsert, Dl.mkTup, Dl.mkLst, Dl.pyIsN, Dl.pyNotN, Dl.fNeg, Dl.pyRev, Dl.gN, Dl.gsNil, Dl.gsCons, Dl.gT, Dl.srcL, Dl.srcT, Dl.srcS, Dl.srcQ, Dl.srcR1, Dl.srcR2, Dl.hide, Dl.restore, sizeLine_eq, Dl.lockS, ha]
    refine ⟨_, _, ⟨rfl, rfl⟩, by omega, cs ++ [c], ⟨d, hd, okL_app ho (fun a h => by rw [List.mem_singleton.mp h]; exact hc.1), by rw [List.length_append, hl]; rfl, ?_⟩⟩
    simp
  · obtain ⟨cs, d, hd, ho, hl, rfl, rfl⟩ := hI
    exact h cs d hd ho (by rw [hl]; simp)
abbrev tongue : List Str := ["is", "not", "and", "or", "then", "same", "yes", "no", "say", "fix", "isa", "nota", "a"]
theorem tongue_nm : ∀ s ∈ tongue, Nm s := by
  have h : tongue.all (fun s => s.cps.toList.all (fun c => decide (c < 1114112)) && decide (s.cps.toList.length ≤ 64)) = true := by decide +kernel
  intro s hs
  have := List.all_eq_true.mp h s hs
  simp only [Bool.and_eq_true, List.all_eq_true, decide_eq_true_eq] at this
  exact ⟨this.1, this.2⟩
theorem tongue_nodup : tongue.Nodup := by decide +kernel
def frS (s : Slot) : Bool := free [s] 0
theorem at_map2 (ss : List Str) (i : Int) (h0 : 0 ≤ i) (h1 : i < ss.length) : ∃ s, s ∈ ss ∧ atI (ss.map PyData.str) i = some (.str s) ∧ ss[i.toNat]? = some s := by
  obtain ⟨s, hs⟩ : ∃ s, ss[i.toNat]? = some s := ⟨_, List.getElem?_eq_getElem (by omega)⟩
  refine ⟨s, List.mem_of_getElem? hs, ?_, hs⟩
  unfold atI ixN
  rw [if_pos h0, List.length_map, if_pos h1]
  show (ss.map PyData.str)[i.toNat]? = _
  rw [List.getElem?_map, hs]
  rfl
theorem tongue_lw : ∀ s ∈ tongue, Lw s := by
  have h : tongue.all (fun s => s.cps.toList.all (fun c => decide (97 ≤ c) && decide (c ≤ 122)) && (decide (1 ≤ s.cps.toList.length) && decide (s.cps.toList.length ≤ 8))) = true := by decide +kernel
  intro s hs
  have := List.all_eq_true.mp h s hs
  simp only [Bool.and_eq_true, List.all_eq_true, decide_eq_true_eq] at this
  exact ⟨this.2.1, this.2.2, this.1⟩
theorem tongue_inj {a b : Nat} {s : Str} (ha : tongue[a]? = some s) (hb : tongue[b]? = some s) (la : a < 13) (lb : b < 13) : a = b := by
  have h : ∀ a : Fin 13, ∀ b : Fin 13, tongue[a.val]? = tongue[b.val]? → a = b := by decide +kernel
  exact congrArg Fin.val (h ⟨a, la⟩ ⟨b, lb⟩ (ha.trans hb.symm))
theorem names0 {d : D} {n : Int} {t4 : Slot} {tg : List D} (htg : tg = tongue.map .str) {O : Opd → Rho → Prop} {N : Rho → Prop} {X : Ex → Rho → Prop} (hd : Hand d) (h0 : 0 ≤ n) (h1 : n ≤ 1000)
    (h : ∀ (ss : List Str) (d : D) (r : Rho), Hand d → (∀ s ∈ ss, Nm s) → (n ≤ 8 → Gd ss) → (ss.length : Int) = n → O (.new (.list (ss.map .str))) (.par d :: .dat (.int n) :: r)) : wp (mNames0 [.par d, .dat (.int n), .dat (.str abc), .own (.list tg), t4, .un, .un, .un, .un, .un, .un, .un, .un, .un, .un]) (kf N (kr O)) X := by
  unfold mNames0
  simp -dsimp -implicitDefEqProofs [Dl.vI, Dl.vB, Dl.vS, Dl.run2, Dl.run1, Dl.deref, Dl.Slot.data?, Dl.useO, Dl.useAll, Dl.boolOf, Dl.putO, Dl.free, Dl.outO, Dl.withAll, Dl.runN, Dl.derefs, Dl.mutO, Dl.isLst, Dl.isDct, Dl.putI, Dl.putD, Dl.setI, Dl.augO, Dl.getI, Dl.slotOf, Dl.slotsOf, Dl.lents, Dl.takeB, Dl.backS, Dl.useSel, Dl.back, Dl.gd, Dl.pyIx, atI, ixN, Dl.pyGet, Dl.pyMul, Dl.pyAdd, Dl.pyEq, Dl.pyNe, Dl.mulOk, Dl.powOk, Dl.pySlice, Dl.fLen, Dl.fList, Dl.fTuple, Dl.mAppend, Dl.mReverse, Dl.mClear, Dl.mExtend, Dl.mInsert, Dl.mkTup, Dl.mkLst, Dl.pyIsN, Dl.pyNotN, Dl.fNeg, Dl.pyRev, Dl.gN, Dl.gsNil, Dl.gsCons, Dl.gT, Dl.srcL, Dl.srcT, Dl.srcS, Dl.srcQ, Dl.srcR1, Dl.srcR2, Dl.hide, Dl.restore, sizeLine_eq, Dl.lockS]
  refine wp_draw hd (by decide) (by decide) fun w d hd w0 w1 => ?_
  simp -dsimp -implicitDefEqProofs [Dl.vI, Dl.vB, Dl.vS, Dl.run2, Dl.run1, Dl.deref, Dl.Slot.data?, Dl.useO, Dl.useAll, Dl.boolOf, Dl.putO, Dl.free, Dl.outO, Dl.withAll, Dl.runN, Dl.derefs, Dl.mutO, Dl.isLst, Dl.isDct, Dl.putI, Dl.putD, Dl.setI, Dl.augO, Dl.getI, Dl.slotOf, Dl.slotsOf, Dl.lents, Dl.takeB, Dl.backS, Dl.useSel, Dl.back, Dl.gd, Dl.pyIx, atI, ixN, Dl.pyGet, Dl.pyMul, Dl.pyAdd, Dl.pyEq, Dl.pyNe, Dl.mulOk, Dl.powOk, Dl.pySlice, Dl.fLen, Dl.fList, Dl.fTuple, Dl.mAppend, Dl.mReverse, Dl.mClear, Dl.mExtend, Dl.mInsert, Dl.mkTup, Dl.mkLst, Dl.pyIsN, Dl.pyNotN, Dl.fNeg, Dl.pyRev, Dl.gN, Dl.gsNil, Dl.gsCons, Dl.gT, Dl.srcL, Dl.srcT, Dl.srcS, Dl.srcQ, Dl.srcR1, Dl.srcR2, Dl.hide, Dl.restore, sizeLine_eq, Dl.lockS, show -(4611686018427387904 : Int) ≤ n by omega, show n < 4611686018427387904 by omega]
  refine wp_cmp (fun i acc ρ => ∃ ss : List Str, (∀ s ∈ ss, Nm s) ∧ (n ≤ 8 → Gd ss ∧ ∀ s ∈ ss, ∃ k, k < i ∧ tongue[(w + 5 * (k : Int)).toNat % 13]? = some s) ∧ ss.length = i ∧ acc = ss.map .str ∧ ρ = [.par d, .dat (.int n), .dat (.str abc), .own (.list tg), t4, .un, .un, .un, .un, .un, .dat (.int w), .un, .un, .un, .un]) ⟨[], fun s h => (by cases h), fun _ => ⟨Gd.nil, fun s h => (by cases h)⟩, rfl, rfl, rfl⟩ (fun i x acc ρ hx hI => ?_) fun acc ρ hI => ?_
  · obtain ⟨ss, hn, hg, hl, rfl, rfl⟩ := hI
    obtain ⟨rfl, hi⟩ := range_at hx
    refine ⟨[.par d, .dat (.int n), .dat (.str abc), .own (.list tg), t4, .un, .un, .un, .un, .dat (.int i), .dat (.int w), .un, .un, .un, .un], rfl, ?_⟩
    have z0 : 0 ≤ (w + 5 * (i : Int)) % 13 := Int.emod_nonneg _ (by decide)
    have z1 : (w + 5 * (i : Int)) % 13 < 13 := Int.emod_lt_of_pos _ (by decide)
    obtain ⟨s, hs, ha, hq⟩ := at_map2 tongue ((w + 5 * (i : Int)) % 13) z0 (by have : tongue.length = 13 := rfl; omega)
    rw [← htg] at ha
    simp -dsimp -implicitDefEqProofs [Dl.vI, Dl.vB, Dl.vS, Dl.run2, Dl.run1, Dl.deref, Dl.Slot.data?, Dl.useO, Dl.useAll, Dl.boolOf, Dl.putO, Dl.free, Dl.outO, Dl.withAll, Dl.runN, Dl.derefs, Dl.mutO, Dl.isLst, Dl.isDct, Dl.putI, Dl.putD, Dl.setI, Dl.augO, Dl.getI, Dl.slotOf, Dl.slotsOf, Dl.lents, Dl.takeB, Dl.backS, Dl.useSel, Dl.back, Dl.gd, Dl.pyIx, Dl.pyGet, Dl.pyMul, Dl.pyAdd, Dl.pyEq, Dl.pyNe, Dl.mulOk, Dl.powOk, Dl.pySlice, Dl.fLen, Dl.fList, Dl.fTuple, Dl.mAppend, Dl.mReverse, Dl.mClear, Dl.mExtend, Dl.mInsert, Dl.mkTup, Dl.mkLst, Dl.pyIsN, Dl.pyNotN, Dl.fNeg, Dl.pyRev, Dl.gN, Dl.gsNil, Dl.gsCons, Dl.gT, Dl.srcL, Dl.srcT, Dl.srcS, Dl.srcQ, Dl.srcR1, Dl.srcR2, Dl.hide, Dl.restore, sizeLine_eq, Dl.lockS, ha]
    refine ⟨_, _, ⟨rfl, rfl⟩, by omega, ss ++ [s], fun t ht => ?_, fun h8 => ?_, by simp [hl], by simp, rfl⟩
    rcases List.mem_append.mp ht with ht | ht
    · exact hn t ht
    · rw [List.mem_singleton.mp ht]; exact tongue_nm s hs
    · obtain ⟨g, f⟩ := hg h8
      have e : ((w + 5 * (i : Int)) % 13).toNat = (w + 5 * (i : Int)).toNat % 13 := by omega
      rw [e] at hq
      refine ⟨g.snoc (tongue_lw s hs) fun z => ?_, fun t ht => ?_⟩
      · obtain ⟨k, hk, q⟩ := f s z
        have := tongue_inj hq q (by omega) (by omega)
        omega
      · rcases List.mem_append.mp ht with ht | ht
        · obtain ⟨k, hk, q⟩ := f t ht
          exact ⟨k, by omega, q⟩
        · rw [List.mem_singleton.mp ht]; exact ⟨i, by omega, hq⟩
  · obtain ⟨ss, hn, hg, hl, rfl, rfl⟩ := hI
    simp -dsimp -implicitDefEqProofs [Dl.vI, Dl.vB, Dl.vS, Dl.run2, Dl.run1, Dl.deref, Dl.Slot.data?, Dl.useO, Dl.useAll, Dl.boolOf, Dl.putO, Dl.free, Dl.outO, Dl.withAll, Dl.runN, Dl.derefs, Dl.mutO, Dl.isLst, Dl.isDct, Dl.putI, Dl.putD, Dl.setI, Dl.augO, Dl.getI, Dl.slotOf, Dl.slotsOf, Dl.lents, Dl.takeB, Dl.backS, Dl.useSel, Dl.back, Dl.gd, Dl.pyIx, atI, ixN, Dl.pyGet, Dl.pyMul, Dl.pyAdd, Dl.pyEq, Dl.pyNe, Dl.mulOk, Dl.powOk, Dl.pySlice, Dl.fLen, Dl.fList, Dl.fTuple, Dl.mAppend, Dl.mReverse, Dl.mClear, Dl.mExtend, Dl.mInsert, Dl.mkTup, Dl.mkLst, Dl.pyIsN, Dl.pyNotN, Dl.fNeg, Dl.pyRev, Dl.gN, Dl.gsNil, Dl.gsCons, Dl.gT, Dl.srcL, Dl.srcT, Dl.srcS, Dl.srcQ, Dl.srcR1, Dl.srcR2, Dl.hide, Dl.restore, sizeLine_eq, Dl.lockS]
    exact h ss d _ hd hn (fun h8 => (hg h8).1) (by rw [hl]; simp; omega)
theorem cut_pre (s : Str) {j : Int} (h : 0 ≤ j) : (cutS s none (some j)).cps.toList = s.cps.toList.take j.toNat := by
  unfold cutS HT.sIx
  dsimp only
  rw [if_neg (by omega)]
  simp only [List.drop_zero, Nat.sub_zero, List.toList_toArray]
  have e : s.length = s.cps.toList.length := Array.length_toList.symm
  rw [e, Nat.min_comm, ← List.take_take]
  exact List.take_of_length_le (by rw [List.length_take]; omega)
theorem cut_suf (s : Str) {j : Int} (h : 0 ≤ j) : (cutS s (some j) none).cps.toList = s.cps.toList.drop j.toNat := by
  unfold cutS HT.sIx
  dsimp only
  rw [if_neg (by omega)]
  have e : s.length = s.cps.toList.length := Array.length_toList.symm
  rw [e]
  by_cases q : j.toNat ≤ s.cps.toList.length
  · rw [Nat.min_eq_left q]
    exact List.take_of_length_le (by rw [List.length_drop]; omega)
  · rw [Nat.min_eq_right (by omega), List.drop_length, List.drop_of_length_le (by omega)]
    simp
theorem nm_cut {s : Str} (h : Nm s) (lo hi : Option Int) : Nm (cutS s lo hi) := by
  unfold cutS
  refine ⟨fun c hc => h.ok c ?_, ?_⟩
  · simp only [List.toList_toArray] at hc
    exact List.mem_of_mem_drop (List.mem_of_mem_take hc)
  · have := h.len
    have e : s.cps.toList.length = s.cps.size := Array.length_toList
    simp only [List.toList_toArray, List.length_take, List.length_drop]
    omega
theorem cut_len (s : Str) (lo hi : Option Int) : (cutS s lo hi).cps.toList.length ≤ s.cps.toList.length := by
  unfold cutS
  simp only [List.toList_toArray, List.length_take, List.length_drop]
  omega
theorem Nm.size {s : Str} (h : Nm s) : s.length ≤ 64 := by
  have := h.len
  show s.cps.size ≤ 64
  simpa using this
theorem nm_add {a b : Str} (ha : Nm a) (hb : Nm b) (h : a.cps.toList.length + b.cps.toList.length ≤ 64) : Nm (a ++ b) := by
  have e : (a ++ b).cps.toList = a.cps.toList ++ b.cps.toList := by
    show (a.cps ++ b.cps).toList = _
    simp
  exact ⟨by rw [e]; exact okC_app ha.ok hb.ok, by rw [e, List.length_append]; exact h⟩
theorem add_len (a b : Str) : (a ++ b).cps.toList.length = a.cps.toList.length + b.cps.toList.length := by
  show (a.cps ++ b.cps).toList.length = _
  simp
theorem nm_one {c : Nat} (h : c < 1114112) : Nm (one c) := ⟨fun a ha => by rw [show a = c from by simpa [one] using ha]; exact h, by simp [one]⟩
theorem names1 {d : D} {n : Int} {t4 t5 : Slot} {wd : Str} (hw : Nm wd) (hL : okL wd.cps.toList) (h8 : wd.cps.toList.length = 8) {tg : List D} {O : Opd → Rho → Prop} {N : Rho → Prop} {X : Ex → Rho → Prop} (hd : Hand d) (h0 : 0 ≤ n) (h1 : n ≤ 1000)
    (h : ∀ (ss : List Str) (d : D) (r : Rho), Hand d → (∀ s ∈ ss, Nm s) → (n ≤ 8 → Gd ss) → (ss.length : Int) = n → O (.new (.list (ss.map .str))) (.par d :: .dat (.int n) :: r)) : wp (mNames1 [.par d, .dat (.int n), .dat (.str abc), .own (.list tg), t4, t5, .dat (.str wd), .un, .un, .un, .un, .un, .un, .un, .un]) (kf N (kr O)) X := by
  unfold mNames1
  simp -dsimp -implicitDefEqProofs [Dl.vI, Dl.vB, Dl.vS, Dl.run2, Dl.run1, Dl.deref, Dl.Slot.data?, Dl.useO, Dl.useAll, Dl.boolOf, Dl.putO, Dl.free, Dl.outO, Dl.withAll, Dl.runN, Dl.derefs, Dl.mutO, Dl.isLst, Dl.isDct, Dl.putI, Dl.putD, Dl.setI, Dl.augO, Dl.getI, Dl.slotOf, Dl.slotsOf, Dl.lents, Dl.takeB, Dl.backS, Dl.useSel, Dl.back, Dl.gd, Dl.pyIx, atI, ixN, Dl.pyGet, Dl.pyMul, Dl.pyAdd, Dl.pyEq, Dl.pyNe, Dl.mulOk, Dl.powOk, Dl.pySlice, Dl.fLen, Dl.fList, Dl.fTuple, Dl.mAppend, Dl.mReverse, Dl.mClear, Dl.mExtend, Dl.mInsert, Dl.mkTup, Dl.mkLst, Dl.pyIsN, Dl.pyNotN, Dl.fNeg, Dl.pyRev, Dl.gN, Dl.gsNil, Dl.gsCons, Dl.gT, Dl.srcL, Dl.srcT, Dl.srcS, Dl.srcQ, Dl.srcR1, Dl.srcR2, Dl.hide, Dl.restore, sizeLine_eq, Dl.lockS]
  refine wp_draw hd (by decide) (by decide) fun w d hd w0 w1 => ?_
  simp -dsimp -implicitDefEqProofs [Dl.vI, Dl.vB, Dl.vS, Dl.run2, Dl.run1, Dl.deref, Dl.Slot.data?, Dl.useO, Dl.useAll, Dl.boolOf, Dl.putO, Dl.free, Dl.outO, Dl.withAll, Dl.runN, Dl.derefs, Dl.mutO, Dl.isLst, Dl.isDct, Dl.putI, Dl.putD, Dl.setI, Dl.augO, Dl.getI, Dl.slotOf, Dl.slotsOf, Dl.lents, Dl.takeB, Dl.backS, Dl.useSel, Dl.back, Dl.gd, Dl.pyIx, atI, ixN, Dl.pyGet, Dl.pyMul, Dl.pyAdd, Dl.pyEq, Dl.pyNe, Dl.mulOk, Dl.powOk, Dl.pySlice, Dl.fLen, Dl.fList, Dl.fTuple, Dl.mAppend, Dl.mReverse, Dl.mClear, Dl.mExtend, Dl.mInsert, Dl.mkTup, Dl.mkLst, Dl.pyIsN, Dl.pyNotN, Dl.fNeg, Dl.pyRev, Dl.gN, Dl.gsNil, Dl.gsCons, Dl.gT, Dl.srcL, Dl.srcT, Dl.srcS, Dl.srcQ, Dl.srcR1, Dl.srcR2, Dl.hide, Dl.restore, sizeLine_eq, Dl.lockS, show -(4611686018427387904 : Int) ≤ n by omega, show n < 4611686018427387904 by omega]
  refine wp_cmp (fun i acc ρ => ∃ ss : List Str, (∀ s ∈ ss, Nm s) ∧ (n ≤ 8 → Gd ss ∧ ∀ s ∈ ss, ∃ k : Nat, k < i ∧ s.cps.toList.length = ((w + 3 * (k : Int)) % 8 + 1).toNat) ∧ ss.length = i ∧ acc = ss.map .str ∧ ρ = [.par d, .dat (.int n), .dat (.str abc), .own (.list tg), t4, t5, .dat (.str wd), .un, .un, .un, .dat (.int w), .un, .un, .un, .un]) ⟨[], fun s h => (by cases h), fun _ => ⟨Gd.nil, fun s h => (by cases h)⟩, rfl, rfl, rfl⟩ (fun i x acc ρ hx hI => ?_) fun acc ρ hI => ?_
  · obtain ⟨ss, hn, hg, hl, rfl, rfl⟩ := hI
    obtain ⟨rfl, hi⟩ := range_at hx
    refine ⟨[.par d, .dat (.int n), .dat (.str abc), .own (.list tg), t4, t5, .dat (.str wd), .un, .un, .dat (.int i), .dat (.int w), .un, .un, .un, .un], rfl, ?_⟩
    have hz := hw.size
    simp -dsimp -implicitDefEqProofs [Dl.vI, Dl.vB, Dl.vS, Dl.run2, Dl.run1, Dl.deref, Dl.Slot.data?, Dl.useO, Dl.useAll, Dl.boolOf, Dl.putO, Dl.free, Dl.outO, Dl.withAll, Dl.runN, Dl.derefs, Dl.mutO, Dl.isLst, Dl.isDct, Dl.putI, Dl.putD, Dl.setI, Dl.augO, Dl.getI, Dl.slotOf, Dl.slotsOf, Dl.lents, Dl.takeB, Dl.backS, Dl.useSel, Dl.back, Dl.gd, Dl.pyIx, atI, ixN, Dl.pyGet, Dl.pyMul, Dl.pyAdd, Dl.pyEq, Dl.pyNe, Dl.mulOk, Dl.powOk, Dl.pySlice, Dl.fLen, Dl.fList, Dl.fTuple, Dl.mAppend, Dl.mReverse, Dl.mClear, Dl.mExtend, Dl.mInsert, Dl.mkTup, Dl.mkLst, Dl.pyIsN, Dl.pyNotN, Dl.fNeg, Dl.pyRev, Dl.gN, Dl.gsNil, Dl.gsCons, Dl.gT, Dl.srcL, Dl.srcT, Dl.srcS, Dl.srcQ, Dl.srcR1, Dl.srcR2, Dl.hide, Dl.restore, sizeLine_eq, Dl.lockS, show wd.length ≤ 16777216 by omega]
    refine ⟨_, _, ⟨rfl, rfl⟩, by omega, ss ++ [cutS wd none (some ((w + 3 * (i : Int)) % 8 + 1))], fun t ht => ?_, fun n8 => ?_, by simp [hl], by simp, rfl⟩
    rcases List.mem_append.mp ht with ht | ht
    · exact hn t ht
    · rw [List.mem_singleton.mp ht]; exact nm_cut hw _ _
    · obtain ⟨g, f⟩ := hg n8
      have ec := cut_pre wd (j := (w + 3 * (i : Int)) % 8 + 1) (by omega)
      have el : (cutS wd none (some ((w + 3 * (i : Int)) % 8 + 1))).cps.toList.length = ((w + 3 * (i : Int)) % 8 + 1).toNat := by
        rw [ec, List.length_take]
        omega
      refine ⟨g.snoc ⟨by omega, by omega, fun c hc => hL c (by rw [ec] at hc; exact List.mem_of_mem_take hc)⟩ fun z => ?_, fun t ht => ?_⟩
      · obtain ⟨k, hk, q⟩ := f _ z
        omega
      · rcases List.mem_append.mp ht with ht | ht
        · obtain ⟨k, hk, q⟩ := f t ht
          exact ⟨k, by omega, q⟩
        · rw [List.mem_singleton.mp ht]; exact ⟨i, by omega, el⟩
  · obtain ⟨ss, hn, hg, hl, rfl, rfl⟩ := hI
    simp -dsimp -implicitDefEqProofs [Dl.vI, Dl.vB, Dl.vS, Dl.run2, Dl.run1, Dl.deref, Dl.Slot.data?, Dl.useO, Dl.useAll, Dl.boolOf, Dl.putO, Dl.free, Dl.outO, Dl.withAll, Dl.runN, Dl.derefs, Dl.mutO, Dl.isLst, Dl.isDct, Dl.putI, Dl.putD, Dl.setI, Dl.augO, Dl.getI, Dl.slotOf, Dl.slotsOf, Dl.lents, Dl.takeB, Dl.backS, Dl.useSel, Dl.back, Dl.gd, Dl.pyIx, atI, ixN, Dl.pyGet, Dl.pyMul, Dl.pyAdd, Dl.pyEq, Dl.pyNe, Dl.mulOk, Dl.powOk, Dl.pySlice, Dl.fLen, Dl.fList, Dl.fTuple, Dl.mAppend, Dl.mReverse, Dl.mClear, Dl.mExtend, Dl.mInsert, Dl.mkTup, Dl.mkLst, Dl.pyIsN, Dl.pyNotN, Dl.fNeg, Dl.pyRev, Dl.gN, Dl.gsNil, Dl.gsCons, Dl.gT, Dl.srcL, Dl.srcT, Dl.srcS, Dl.srcQ, Dl.srcR1, Dl.srcR2, Dl.hide, Dl.restore, sizeLine_eq, Dl.lockS]
    exact h ss d _ hd hn (fun n8 => (hg n8).1) (by rw [hl]; simp; omega)
theorem names2 {d : D} {n : Int} {t4 : Slot} {wd : Str} (hw : Nm wd) (hL : okL wd.cps.toList) (h8 : wd.cps.toList.length = 8) (hw2 : wd.cps.toList.length ≤ 16) {tg : List D} {O : Opd → Rho → Prop} {N : Rho → Prop} {X : Ex → Rho → Prop} (hd : Hand d) (h0 : 0 ≤ n) (h1 : n ≤ 1000)
    (h : ∀ (ss : List Str) (d : D) (r : Rho), Hand d → (∀ s ∈ ss, Nm s) → (n ≤ 8 → Gd ss) → (ss.length : Int) = n → O (.new (.list (ss.map .str))) (.par d :: .dat (.int n) :: r)) : wp (mNames2 [.par d, .dat (.int n), .dat (.str abc), .own (.list tg), t4, .own (.list []), .dat (.str wd), .un, .un, .un, .un, .un, .un, .un, .un]) (kf N (kr O)) X := by
  unfold mNames2
  simp -dsimp -implicitDefEqProofs [Dl.vI, Dl.vB, Dl.vS, Dl.run2, Dl.run1, Dl.deref, Dl.Slot.data?, Dl.useO, Dl.useAll, Dl.boolOf, Dl.putO, Dl.free, Dl.outO, Dl.withAll, Dl.runN, Dl.derefs, Dl.mutO, Dl.isLst, Dl.isDct, Dl.putI, Dl.putD, Dl.setI, Dl.augO, Dl.getI, Dl.slotOf, Dl.slotsOf, Dl.lents, Dl.takeB, Dl.backS, Dl.useSel, Dl.back, Dl.gd, Dl.pyIx, atI, ixN, Dl.pyGet, Dl.pyMul, Dl.pyAdd, Dl.pyEq, Dl.pyNe, Dl.mulOk, Dl.powOk, Dl.pySlice, Dl.fLen, Dl.fList, Dl.fTuple, Dl.mAppend, Dl.mReverse, Dl.mClear, Dl.mExtend, Dl.mInsert, Dl.mkTup, Dl.mkLst, Dl.pyIsN, Dl.pyNotN, Dl.fNeg, Dl.pyRev, Dl.gN, Dl.gsNil, Dl.gsCons, Dl.gT, Dl.srcL, Dl.srcT, Dl.srcS, Dl.srcQ, Dl.srcR1, Dl.srcR2, Dl.hide, Dl.restore, sizeLine_eq, Dl.lockS]
  refine wp_draw hd (by decide) (by decide) fun sp d hd p0 p1 => ?_
  simp -dsimp -implicitDefEqProofs [Dl.vI, Dl.vB, Dl.vS, Dl.run2, Dl.run1, Dl.deref, Dl.Slot.data?, Dl.useO, Dl.useAll, Dl.boolOf, Dl.putO, Dl.free, Dl.outO, Dl.withAll, Dl.runN, Dl.derefs, Dl.mutO, Dl.isLst, Dl.isDct, Dl.putI, Dl.putD, Dl.setI, Dl.augO, Dl.getI, Dl.slotOf, Dl.slotsOf, Dl.lents, Dl.takeB, Dl.backS, Dl.useSel, Dl.back, Dl.gd, Dl.pyIx, atI, ixN, Dl.pyGet, Dl.pyMul, Dl.pyAdd, Dl.pyEq, Dl.pyNe, Dl.mulOk, Dl.powOk, Dl.pySlice, Dl.fLen, Dl.fList, Dl.fTuple, Dl.mAppend, Dl.mReverse, Dl.mClear, Dl.mExtend, Dl.mInsert, Dl.mkTup, Dl.mkLst, Dl.pyIsN, Dl.pyNotN, Dl.fNeg, Dl.pyRev, Dl.gN, Dl.gsNil, Dl.gsCons, Dl.gT, Dl.srcL, Dl.srcT, Dl.srcS, Dl.srcQ, Dl.srcR1, Dl.srcR2, Dl.hide, Dl.restore, sizeLine_eq, Dl.lockS]
  refine wp_draw hd (by decide) (by decide) fun st d hd q0 q1 => ?_
  simp -dsimp -implicitDefEqProofs [Dl.vI, Dl.vB, Dl.vS, Dl.run2, Dl.run1, Dl.deref, Dl.Slot.data?, Dl.useO, Dl.useAll, Dl.boolOf, Dl.putO, Dl.free, Dl.outO, Dl.withAll, Dl.runN, Dl.derefs, Dl.mutO, Dl.isLst, Dl.isDct, Dl.putI, Dl.putD, Dl.setI, Dl.augO, Dl.getI, Dl.slotOf, Dl.slotsOf, Dl.lents, Dl.takeB, Dl.backS, Dl.useSel, Dl.back, Dl.gd, Dl.pyIx, atI, ixN, Dl.pyGet, Dl.pyMul, Dl.pyAdd, Dl.pyEq, Dl.pyNe, Dl.mulOk, Dl.powOk, Dl.pySlice, Dl.fLen, Dl.fList, Dl.fTuple, Dl.mAppend, Dl.mReverse, Dl.mClear, Dl.mExtend, Dl.mInsert, Dl.mkTup, Dl.mkLst, Dl.pyIsN, Dl.pyNotN, Dl.fNeg, Dl.pyRev, Dl.gN, Dl.gsNil, Dl.gsCons, Dl.gT, Dl.srcL, Dl.srcT, Dl.srcS, Dl.srcQ, Dl.srcR1, Dl.srcR2, Dl.hide, Dl.restore, sizeLine_eq, Dl.lockS, show -(4611686018427387904 : Int) ≤ n by omega, show n < 4611686018427387904 by omega]
  obtain ⟨I, eI⟩ : ∃ I : Nat → Rho → Prop, I = fun i ρ => ∃ (ss : List Str) (d : D) (s9 s11 s12 : Slot), Hand d ∧ (∀ s ∈ ss, Nm s) ∧ (n ≤ 8 → Gd ss ∧ ∀ s ∈ ss, ∃ k : Nat, k < i ∧ s.cps.toList[sp.toNat]? = some (97 + ((st + 7 * (k : Int)) % 26).toNat)) ∧ ss.length = i ∧ (frS s9 = true ∧ frS s11 = true ∧ frS s12 = true) ∧ ρ = [.par d, .dat (.int n), .dat (.str abc), .own (.list tg), t4, .own (.list (ss.map .str)), .dat (.str wd), .dat (.int sp), .dat (.int st), s9, .un, s11, s12, .un, .un] := ⟨_, rfl⟩
  refine wp_for I (by rw [eI]; exact ⟨[], d, .un, .un, .un, hd, fun s h => (by cases h), fun _ => ⟨Gd.nil, fun s h => (by cases h)⟩, rfl, ⟨rfl, rfl, rfl⟩, rfl⟩) (fun i x ρ hx hI => ?_) fun ρ hI => ?_
  · rw [eI] at hI
    obtain ⟨ss, d, s9, s11, s12, hd, hn, hg, hl, ⟨f9, f11, f12⟩, rfl⟩ := hI
    obtain ⟨rfl, hi⟩ := range_at hx
    simp only [frS, free, List.getElem?_cons_zero] at f9 f11 f12
    refine ⟨[.par d, .dat (.int n), .dat (.str abc), .own (.list tg), t4, .own (.list (ss.map .str)), .dat (.str wd), .dat (.int sp), .dat (.int st), .dat (.int i), .un, s11, s12, .un, .un], ?_, ?_⟩
    · simp -dsimp -implicitDefEqProofs [Dl.vI, Dl.vB, Dl.vS, Dl.run2, Dl.run1, Dl.deref, Dl.Slot.data?, Dl.useO, Dl.useAll, Dl.boolOf, Dl.putO, Dl.free, Dl.outO, Dl.withAll, Dl.runN, Dl.derefs, Dl.mutO, Dl.isLst, Dl.isDct, Dl.putI, Dl.putD, Dl.setI, Dl.augO, Dl.getI, Dl.slotOf, Dl.slotsOf, Dl.lents, Dl.takeB, Dl.backS, Dl.useSel, Dl.back, Dl.gd, Dl.pyIx, atI, ixN, Dl.pyGet, Dl.pyMul, Dl.pyAdd, Dl.pyEq, Dl.pyNe, Dl.mulOk, Dl.powOk, Dl.pySlice, Dl.fLen, Dl.fList, Dl.fTuple, Dl.mAppend, Dl.mReverse, Dl.mClear, Dl.mExtend, Dl.mInsert, Dl.mkTup, Dl.mkLst, Dl.pyIsN, Dl.pyNotN, Dl.fNeg, Dl.pyRev, Dl.gN, Dl.gsNil, Dl.gsCons, Dl.gT, Dl.srcL, Dl.srcT, Dl.srcS, Dl.srcQ, Dl.srcR1, Dl.srcR2, Dl.hide, Dl.restore, sizeLine_eq, Dl.lockS, f9]
    have hz := hw.size
    have z0 : 0 ≤ (st + 7 * (i : Int)) % 26 := Int.emod_nonneg _ (by decide)
    have z1 : (st + 7 * (i : Int)) % 26 < 26 := Int.emod_lt_of_pos _ (by decide)
    obtain ⟨c, ⟨hc1, hc2⟩, ha⟩ := at_abc z0 z1
    have hc : c < 1114112 := by omega
    have n1 : Nm (cutS wd none (some sp) ++ one c) := nm_add (nm_cut hw _ _) (nm_one hc) (by have := cut_len wd none (some sp); have : (one c).cps.toList.length = 1 := rfl; omega)
    have n2 : Nm (cutS wd none (some sp) ++ one c ++ cutS wd (some (sp + 1)) none) := nm_add n1 (nm_cut hw _ _) (by
      have := cut_len wd none (some sp)
      have := cut_len wd (some (sp + 1)) none
      have : (one c).cps.toList.length = 1 := rfl
      rw [add_len]
      omega)
    have l1 := (nm_cut hw none (some sp)).size
    have l2 := (nm_one hc).size
    have l3 := n1.size
    have l4 := (nm_cut hw (some (sp + 1)) none).size
    have l5 := n2.size
    unfold mNames2L
    simp -dsimp -implicitDefEqProofs [Dl.vI, Dl.vB, Dl.vS, Dl.run2, Dl.run1, Dl.deref, Dl.Slot.data?, Dl.useO, Dl.useAll, Dl.boolOf, Dl.putO, Dl.free, Dl.outO, Dl.withAll, Dl.runN, Dl.derefs, Dl.mutO, Dl.isLst, Dl.isDct, Dl.putI, Dl.putD, Dl.setI, Dl.augO, Dl.getI, Dl.slotOf, Dl.slotsOf, Dl.lents, Dl.takeB, Dl.backS, Dl.useSel, Dl.back, Dl.gd, Dl.pyIx, atI, ixN, Dl.pyGet, Dl.pyMul, Dl.pyAdd, Dl.pyEq, Dl.pyNe, Dl.mulOk, Dl.powOk, Dl.pySlice, Dl.fLen, Dl.fList, Dl.fTuple, Dl.mAppend, Dl.mReverse, Dl.mClear, Dl.mExtend, Dl.mInsert, Dl.mkTup, Dl.mkLst, Dl.pyIsN, Dl.pyNotN, Dl.fNeg, Dl.pyRev, Dl.gN, Dl.gsNil, Dl.gsCons, Dl.gT, Dl.srcL, Dl.srcT, Dl.srcS, Dl.srcQ, Dl.srcR1, Dl.srcR2, Dl.hide, Dl.restore, sizeLine_eq, Dl.lockS, ha, f11, f12, show wd.length ≤ 16777216 by omega, show (cutS wd none (some sp)).length + (one c).length ≤ 16777216 by omega, show (cutS wd none (some sp) ++ one c).length + (cutS wd (some (sp + 1)) none).length ≤ 16777216 by omega]
    refine wp_draw (n := 8 - sp) hd (by omega) (by omega) fun e d hd e0 e1 => ?_
    simp -dsimp -implicitDefEqProofs [Dl.vI, Dl.vB, Dl.vS, Dl.run2, Dl.run1, Dl.deref, Dl.Slot.data?, Dl.useO, Dl.useAll, Dl.boolOf, Dl.putO, Dl.free, Dl.outO, Dl.withAll, Dl.runN, Dl.derefs, Dl.mutO, Dl.isLst, Dl.isDct, Dl.putI, Dl.putD, Dl.setI, Dl.augO, Dl.getI, Dl.slotOf, Dl.slotsOf, Dl.lents, Dl.takeB, Dl.backS, Dl.useSel, Dl.back, Dl.gd, Dl.pyIx, atI, ixN, Dl.pyGet, Dl.pyMul, Dl.pyAdd, Dl.pyEq, Dl.pyNe, Dl.mulOk, Dl.powOk, Dl.pySlice, Dl.fLen, Dl.fList, Dl.fTuple, Dl.mAppend, Dl.mReverse, Dl.mClear, Dl.mExtend, Dl.mInsert, Dl.mkTup, Dl.mkLst, Dl.pyIsN, Dl.pyNotN, Dl.fNeg, Dl.pyRev, Dl.gN, Dl.gsNil, Dl.gsCons, Dl.gT, Dl.srcL, Dl.srcT, Dl.srcS, Dl.srcQ, Dl.srcR1, Dl.srcR2, Dl.hide, Dl.restore, sizeLine_eq, Dl.lockS, show (cutS wd none (some sp) ++ one c ++ cutS wd (some (sp + 1)) none).length ≤ 16777216 by omega, show ss.length < 16777216 by omega]
    rw [eI]
    refine ⟨ss ++ [cutS (cutS wd none (some sp) ++ one c ++ cutS wd (some (sp + 1)) none) none (some (sp + 1 + e))], d, _, _, _, hd, fun t ht => ?_, fun n8 => ?_, by simp [hl], ⟨rfl, rfl, rfl⟩, by rw [List.map_append]; rfl⟩
    rcases List.mem_append.mp ht with ht | ht
    · exact hn t ht
    · rw [List.mem_singleton.mp ht]; exact nm_cut n2 _ _
    · obtain ⟨g, f⟩ := hg n8
      obtain ⟨nw, enw⟩ : ∃ nw, nw = cutS (cutS wd none (some sp) ++ one c ++ cutS wd (some (sp + 1)) none) none (some (sp + 1 + e)) := ⟨_, rfl⟩
      rw [← enw]
      have ec : nw.cps.toList = (wd.cps.toList.take sp.toNat ++ [c] ++ wd.cps.toList.drop (sp + 1).toNat).take (sp + 1 + e).toNat := by
        rw [enw, cut_pre _ (by omega)]
        congr 1
        show ((cutS wd none (some sp)).cps ++ (one c).cps ++ (cutS wd (some (sp + 1)) none).cps).toList = _
        rw [Array.toList_append, Array.toList_append, cut_pre _ p0, cut_suf _ (by omega)]
        rfl
      have lt : (wd.cps.toList.take sp.toNat).length = sp.toNat := by rw [List.length_take]; omega
      have el : nw.cps.toList.length = (sp + 1 + e).toNat := by
        rw [ec, List.length_take, List.length_append, List.length_append, lt, List.length_drop, List.length_singleton]
        omega
      have ea : nw.cps.toList[sp.toNat]? = some c := by
        rw [ec, List.getElem?_take, if_pos (by omega), List.append_assoc, List.getElem?_append_right (by omega), lt]
        simp
      refine ⟨g.snoc ⟨by omega, by omega, fun x hx => ?_⟩ fun z => ?_, fun t ht => ?_⟩
      · rw [ec] at hx
        have hx := List.mem_of_mem_take hx
        simp only [List.mem_append, List.mem_singleton] at hx
        rcases hx with (hx | hx) | hx
        · exact hL x (List.mem_of_mem_take hx)
        · rw [hx]; exact hc1
        · exact hL x (List.mem_of_mem_drop hx)
      · obtain ⟨k, hk, q⟩ := f _ z
        rw [ea] at q
        have q := Option.some.inj q
        omega
      · rcases List.mem_append.mp ht with ht | ht
        · obtain ⟨k, hk, q⟩ := f t ht
          exact ⟨k, by omega, q⟩
        · rw [List.mem_singleton.mp ht]; exact ⟨i, by omega, by rw [ea, hc2]⟩
  · rw [eI] at hI
    obtain ⟨ss, d, s9, s11, s12, hd, hn, hg, hl, _, rfl⟩ := hI
    simp -dsimp -implicitDefEqProofs [Dl.vI, Dl.vB, Dl.vS, Dl.run2, Dl.run1, Dl.deref, Dl.Slot.data?, Dl.useO, Dl.useAll, Dl.boolOf, Dl.putO, Dl.free, Dl.outO, Dl.withAll, Dl.runN, Dl.derefs, Dl.mutO, Dl.isLst, Dl.isDct, Dl.putI, Dl.putD, Dl.setI, Dl.augO, Dl.getI, Dl.slotOf, Dl.slotsOf, Dl.lents, Dl.takeB, Dl.backS, Dl.useSel, Dl.back, Dl.gd, Dl.pyIx, atI, ixN, Dl.pyGet, Dl.pyMul, Dl.pyAdd, Dl.pyEq, Dl.pyNe, Dl.mulOk, Dl.powOk, Dl.pySlice, Dl.fLen, Dl.fList, Dl.fTuple, Dl.mAppend, Dl.mReverse, Dl.mClear, Dl.mExtend, Dl.mInsert, Dl.mkTup, Dl.mkLst, Dl.pyIsN, Dl.pyNotN, Dl.fNeg, Dl.pyRev, Dl.gN, Dl.gsNil, Dl.gsCons, Dl.gT, Dl.srcL, Dl.srcT, Dl.srcS, Dl.srcQ, Dl.srcR1, Dl.srcR2, Dl.hide, Dl.restore, sizeLine_eq, Dl.lockS]
    exact h ss d _ hd hn (fun n8 => (hg n8).1) (by rw [hl]; simp; omega)
end Dl

set_option maxRecDepth 100000
set_option maxHeartbeats 4000000
namespace Dl
open PySem PySem.Spec L2
set_option autoImplicit false
theorem fresh14 {d : D} {n : Int} {t4 s9 s12 : Slot} {tg : List D} {ss : List Str} (h1 : ∀ s ∈ ss, Nm s) {QO : Opd → Rho → Prop} {X : Ex → Rho → Prop}
    (h : QO (.new (.list ((fresh ss tongue).map .str))) [.par d, .dat (.int n), .dat (.str abc), .lck (.list tg), t4, .own (.list (ss.map .str)), .un, .un, .un, s9, .un, .un, s12, .un, .un]) :
    wp (compL [14] (gN 14) (tVal (eOp2 (orf pyNotIn pyNotInK) (eVar 14) (eVar 5))) (eVar 14) (tongue.map .str) [] [.par d, .dat (.int n), .dat (.str abc), .lck (.list tg), t4, .own (.list (ss.map .str)), .un, .un, .un, s9, .un, .un, s12, .un, .un]) QO X := by
  obtain ⟨I, eI⟩ : ∃ I : Nat → List D → Rho → Prop, I = fun i out ρ => out = (fresh ss (tongue.take i)).map .str ∧ ρ = [.par d, .dat (.int n), .dat (.str abc), .lck (.list tg), t4, .own (.list (ss.map .str)), .un, .un, .un, s9, .un, .un, s12, .un, .un] := ⟨_, rfl⟩
  refine wp_cmp I (by rw [eI]; exact ⟨rfl, rfl⟩) (fun i d' out ρ hd hI => ?_) fun out ρ hI => ?_
  · rw [eI] at hI
    obtain ⟨rfl, rfl⟩ := hI
    rw [List.getElem?_map, Option.map_eq_some_iff] at hd
    obtain ⟨s, hs, rfl⟩ := hd
    refine ⟨[.par d, .dat (.int n), .dat (.str abc), .lck (.list tg), t4, .own (.list (ss.map .str)), .un, .un, .un, s9, .un, .un, s12, .un, .dat (.str s)], rfl, ?_⟩
    have hm := List.mem_of_getElem? hs
    have hin := in_names (tongue_nm s hm) h1
    have hn : fresh ss (tongue.take (i + 1)) = fresh ss (tongue.take i) ++ (if s ∈ ss then [] else [s]) := by
      unfold fresh
      rw [List.take_add_one, hs, List.filter_append]
      by_cases z : s ∈ ss <;> simp [z]
    have hlen : (fresh ss (tongue.take i)).length < 16777216 := by
      have := List.length_filter_le (fun s => decide (s ∉ ss)) (tongue.take i)
      have e : tongue.length = 13 := rfl
      unfold fresh
      rw [List.length_take] at this
      omega
    by_cases z : s ∈ ss
    · simp -dsimp -implicitDefEqProofs [Dl.vI, Dl.vB, Dl.vS, Dl.run2, Dl.run1, Dl.deref, Dl.Slot.data?, Dl.useO, Dl.useAll, Dl.boolOf, Dl.putO, Dl.free, Dl.outO, Dl.withAll, Dl.runN, Dl.derefs, Dl.mutO, Dl.isLst, Dl.isDct, Dl.putI, Dl.putD, Dl.setI, Dl.augO, Dl.getI, Dl.slotOf, Dl.slotsOf, Dl.lents, Dl.takeB, Dl.backS, Dl.useSel, Dl.back, Dl.gd, Dl.pyIx, atI, ixN, Dl.pyGet, Dl.pyMul, Dl.pyAdd, Dl.pyEq, Dl.pyNe, Dl.mulOk, Dl.powOk, Dl.pySlice, Dl.fLen, Dl.fList, Dl.fTuple, Dl.mAppend, Dl.mReverse, Dl.mClear, Dl.mExtend, Dl.mInsert, Dl.mkTup, Dl.mkLst, Dl.pyIsN, Dl.pyNotN, Dl.fNeg, Dl.pyRev, Dl.gN, Dl.gsNil, Dl.gsCons, Dl.gT, Dl.srcL, Dl.srcT, Dl.srcS, Dl.srcQ, Dl.srcR1, Dl.srcR2, Dl.hide, Dl.restore, sizeLine_eq, Dl.lockS, hin, z]
      rw [eI]
      exact ⟨by rw [hn, if_pos z, List.append_nil], rfl⟩
    · simp -dsimp -implicitDefEqProofs [Dl.vI, Dl.vB, Dl.vS, Dl.run2, Dl.run1, Dl.deref, Dl.Slot.data?, Dl.useO, Dl.useAll, Dl.boolOf, Dl.putO, Dl.free, Dl.outO, Dl.withAll, Dl.runN, Dl.derefs, Dl.mutO, Dl.isLst, Dl.isDct, Dl.putI, Dl.putD, Dl.setI, Dl.augO, Dl.getI, Dl.slotOf, Dl.slotsOf, Dl.lents, Dl.takeB, Dl.backS, Dl.useSel, Dl.back, Dl.gd, Dl.pyIx, atI, ixN, Dl.pyGet, Dl.pyMul, Dl.pyAdd, Dl.pyEq, Dl.pyNe, Dl.mulOk, Dl.powOk, Dl.pySlice, Dl.fLen, Dl.fList, Dl.fTuple, Dl.mAppend, Dl.mReverse, Dl.mClear, Dl.mExtend, Dl.mInsert, Dl.mkTup, Dl.mkLst, Dl.pyIsN, Dl.pyNotN, Dl.fNeg, Dl.pyRev, Dl.gN, Dl.gsNil, Dl.gsCons, Dl.gT, Dl.srcL, Dl.srcT, Dl.srcS, Dl.srcQ, Dl.srcR1, Dl.srcR2, Dl.hide, Dl.restore, sizeLine_eq, Dl.lockS, hin, z, hlen]
      refine ⟨_, _, ⟨rfl, rfl⟩, ?_⟩
      rw [eI]
      exact ⟨by rw [hn, if_neg z, List.map_append]; rfl, rfl⟩
  · rw [eI] at hI
    obtain ⟨rfl, rfl⟩ := hI
    exact h
theorem some_fresh {ss : List Str} (h : ss.length < 13) : ∃ s r, fresh ss tongue = s :: r ∧ s ∈ tongue ∧ s ∉ ss := by
  cases e : fresh ss tongue with
  | nil =>
    exfalso
    have sub : tongue ⊆ ss := fun s hs => by
      by_cases z : s ∈ ss
      · exact z
      · have : s ∈ fresh ss tongue := fresh_mem.mpr ⟨hs, z⟩
        rw [e] at this
        cases this
    have := tongue_nodup.length_le_of_subset sub
    have e : tongue.length = 13 := rfl
    omega
  | cons s r => exact ⟨s, r, rfl, (fresh_mem.mp (show s ∈ fresh ss tongue by rw [e]; exact List.mem_cons_self))⟩
theorem names3 {d : D} {n : Int} {t4 : Slot} {tg : List D} (htg : tg = tongue.map .str) {O : Opd → Rho → Prop} {N : Rho → Prop} {X : Ex → Rho → Prop} (hd : Hand d) (h0 : 0 ≤ n) (h1 : n ≤ 13)
    (h : ∀ (ss : List Str) (d : D) (r : Rho), Hand d → (∀ s ∈ ss, Nm s) → (n ≤ 8 → Gd ss) → (ss.length : Int) = n → O (.new (.list (ss.map .str))) (.par d :: .dat (.int n) :: r)) : wp (mNames3 [.par d, .dat (.int n), .dat (.str abc), .own (.list tg), t4, .own (.list []), .un, .un, .un, .un, .un, .un, .un, .un, .un]) (kf N (kr O)) X := by
  unfold mNames3
  simp -dsimp -implicitDefEqProofs [Dl.vI, Dl.vB, Dl.vS, Dl.run2, Dl.run1, Dl.deref, Dl.Slot.data?, Dl.useO, Dl.useAll, Dl.boolOf, Dl.putO, Dl.free, Dl.outO, Dl.withAll, Dl.runN, Dl.derefs, Dl.mutO, Dl.isLst, Dl.isDct, Dl.putI, Dl.putD, Dl.setI, Dl.augO, Dl.getI, Dl.slotOf, Dl.slotsOf, Dl.lents, Dl.takeB, Dl.backS, Dl.useSel, Dl.back, Dl.gd, Dl.pyIx, atI, ixN, Dl.pyGet, Dl.pyMul, Dl.pyAdd, Dl.pyEq, Dl.pyNe, Dl.mulOk, Dl.powOk, Dl.pySlice, Dl.fLen, Dl.fList, Dl.fTuple, Dl.mAppend, Dl.mReverse, Dl.mClear, Dl.mExtend, Dl.mInsert, Dl.mkTup, Dl.mkLst, Dl.pyIsN, Dl.pyNotN, Dl.fNeg, Dl.pyRev, Dl.gN, Dl.gsNil, Dl.gsCons, Dl.gT, Dl.srcL, Dl.srcT, Dl.srcS, Dl.srcQ, Dl.srcR1, Dl.srcR2, Dl.hide, Dl.restore, sizeLine_eq, Dl.lockS, show -(4611686018427387904 : Int) ≤ n by omega, show n < 4611686018427387904 by omega]
  obtain ⟨I, eI⟩ : ∃ I : Nat → Rho → Prop, I = fun i ρ => ∃ (ss : List Str) (d : D) (s9 s12 : Slot), Hand d ∧ (∀ s ∈ ss, Nm s) ∧ (n ≤ 8 → Gd ss) ∧ ss.length = i ∧ (frS s9 = true ∧ frS s12 = true) ∧ ρ = [.par d, .dat (.int n), .dat (.str abc), .own (.list tg), t4, .own (.list (ss.map .str)), .un, .un, .un, s9, .un, .un, s12, .un, .un] := ⟨_, rfl⟩
  refine wp_for I (by rw [eI]; exact ⟨[], d, .un, .un, hd, fun s h => (by cases h), fun _ => Gd.nil, rfl, ⟨rfl, rfl⟩, rfl⟩) (fun i x ρ hx hI => ?_) fun ρ hI => ?_
  · rw [eI] at hI
    obtain ⟨ss, d, s9, s12, hd, hn, hg, hl, ⟨f9, f12⟩, rfl⟩ := hI
    obtain ⟨rfl, hi⟩ := range_at hx
    simp only [frS, free, List.getElem?_cons_zero] at f9 f12
    refine ⟨[.par d, .dat (.int n), .dat (.str abc), .own (.list tg), t4, .own (.list (ss.map .str)), .un, .un, .un, .dat (.int i), .un, .un, s12, .un, .un], ?_, ?_⟩
    · simp -dsimp -implicitDefEqProofs [Dl.vI, Dl.vB, Dl.vS, Dl.run2, Dl.run1, Dl.deref, Dl.Slot.data?, Dl.useO, Dl.useAll, Dl.boolOf, Dl.putO, Dl.free, Dl.outO, Dl.withAll, Dl.runN, Dl.derefs, Dl.mutO, Dl.isLst, Dl.isDct, Dl.putI, Dl.putD, Dl.setI, Dl.augO, Dl.getI, Dl.slotOf, Dl.slotsOf, Dl.lents, Dl.takeB, Dl.backS, Dl.useSel, Dl.back, Dl.gd, Dl.pyIx, atI, ixN, Dl.pyGet, Dl.pyMul, Dl.pyAdd, Dl.pyEq, Dl.pyNe, Dl.mulOk, Dl.powOk, Dl.pySlice, Dl.fLen, Dl.fList, Dl.fTuple, Dl.mAppend, Dl.mReverse, Dl.mClear, Dl.mExtend, Dl.mInsert, Dl.mkTup, Dl.mkLst, Dl.pyIsN, Dl.pyNotN, Dl.fNeg, Dl.pyRev, Dl.gN, Dl.gsNil, Dl.gsCons, Dl.gT, Dl.srcL, Dl.srcT, Dl.srcS, Dl.srcQ, Dl.srcR1, Dl.srcR2, Dl.hide, Dl.restore, sizeLine_eq, Dl.lockS, f9]
    unfold mNames3L mWordC
    simp -dsimp -implicitDefEqProofs [Dl.vI, Dl.vB, Dl.vS, Dl.run2, Dl.run1, Dl.deref, Dl.Slot.data?, Dl.useO, Dl.useAll, Dl.boolOf, Dl.putO, Dl.free, Dl.outO, Dl.withAll, Dl.runN, Dl.derefs, Dl.mutO, Dl.isLst, Dl.isDct, Dl.putI, Dl.putD, Dl.setI, Dl.augO, Dl.getI, Dl.slotOf, Dl.slotsOf, Dl.lents, Dl.takeB, Dl.backS, Dl.useSel, Dl.back, Dl.gd, Dl.pyIx, atI, ixN, Dl.pyGet, Dl.pyMul, Dl.pyAdd, Dl.pyEq, Dl.pyNe, Dl.mulOk, Dl.powOk, Dl.pySlice, Dl.fLen, Dl.fList, Dl.fTuple, Dl.mAppend, Dl.mReverse, Dl.mClear, Dl.mExtend, Dl.mInsert, Dl.mkTup, Dl.mkLst, Dl.pyIsN, Dl.pyNotN, Dl.fNeg, Dl.pyRev, Dl.gN, Dl.gsNil, Dl.gsCons, Dl.gT, Dl.srcL, Dl.srcT, Dl.srcS, Dl.srcQ, Dl.srcR1, Dl.srcR2, Dl.hide, Dl.restore, sizeLine_eq, Dl.lockS]
    refine wp_draw hd (by decide) (by decide) fun w d hd w0 w1 => ?_
    simp -dsimp -implicitDefEqProofs [Dl.vI, Dl.vB, Dl.vS, Dl.run2, Dl.run1, Dl.deref, Dl.Slot.data?, Dl.useO, Dl.useAll, Dl.boolOf, Dl.putO, Dl.free, Dl.outO, Dl.withAll, Dl.runN, Dl.derefs, Dl.mutO, Dl.isLst, Dl.isDct, Dl.putI, Dl.putD, Dl.setI, Dl.augO, Dl.getI, Dl.slotOf, Dl.slotsOf, Dl.lents, Dl.takeB, Dl.backS, Dl.useSel, Dl.back, Dl.gd, Dl.pyIx, atI, ixN, Dl.pyGet, Dl.pyMul, Dl.pyAdd, Dl.pyEq, Dl.pyNe, Dl.mulOk, Dl.powOk, Dl.pySlice, Dl.fLen, Dl.fList, Dl.fTuple, Dl.mAppend, Dl.mReverse, Dl.mClear, Dl.mExtend, Dl.mInsert, Dl.mkTup, Dl.mkLst, Dl.pyIsN, Dl.pyNotN, Dl.fNeg, Dl.pyRev, Dl.gN, Dl.gsNil, Dl.gsCons, Dl.gT, Dl.srcL, Dl.srcT, Dl.srcS, Dl.srcQ, Dl.srcR1, Dl.srcR2, Dl.hide, Dl.restore, sizeLine_eq, Dl.lockS, show -(4611686018427387904 : Int) ≤ 1 + w by omega, show 1 + w < 4611686018427387904 by omega]
    refine word_comp13 hd (by omega) fun cs d hd ho hc => ?_
    have j := join_py cs (by omega)
    have hw : Nm (Txt.join "" (cs.map one)) := nm_join ho.c (by omega)
    have hlw : Lw (Txt.join "" (cs.map one)) := ⟨by rw [join_ones]; omega, by rw [join_ones]; omega, by rw [join_ones]; exact ho⟩
    have hin := in_names hw hn
    generalize Txt.join "" (cs.map one) = wd at *
    simp only [List.map_map] at j
    simp -dsimp -implicitDefEqProofs [Dl.vI, Dl.vB, Dl.vS, Dl.run2, Dl.run1, Dl.deref, Dl.Slot.data?, Dl.useO, Dl.useAll, Dl.boolOf, Dl.putO, Dl.free, Dl.outO, Dl.withAll, Dl.runN, Dl.derefs, Dl.mutO, Dl.isLst, Dl.isDct, Dl.putI, Dl.putD, Dl.setI, Dl.augO, Dl.getI, Dl.slotOf, Dl.slotsOf, Dl.lents, Dl.takeB, Dl.backS, Dl.useSel, Dl.back, Dl.gd, Dl.pyIx, atI, ixN, Dl.pyGet, Dl.pyMul, Dl.pyAdd, Dl.pyEq, Dl.pyNe, Dl.mulOk, Dl.powOk, Dl.pySlice, Dl.fLen, Dl.fList, Dl.fTuple, Dl.mAppend, Dl.mReverse, Dl.mClear, Dl.mExtend, Dl.mInsert, Dl.mkTup, Dl.mkLst, Dl.pyIsN, Dl.pyNotN, Dl.fNeg, Dl.pyRev, Dl.gN, Dl.gsNil, Dl.gsCons, Dl.gT, Dl.srcL, Dl.srcT, Dl.srcS, Dl.srcQ, Dl.srcR1, Dl.srcR2, Dl.hide, Dl.restore, sizeLine_eq, Dl.lockS, j, f12, hin]
    have hss : ss.length < 16777216 := by omega
    by_cases z : wd ∈ ss
    · simp -dsimp -implicitDefEqProofs [Dl.vI, Dl.vB, Dl.vS, Dl.run2, Dl.run1, Dl.deref, Dl.Slot.data?, Dl.useO, Dl.useAll, Dl.boolOf, Dl.putO, Dl.free, Dl.outO, Dl.withAll, Dl.runN, Dl.derefs, Dl.mutO, Dl.isLst, Dl.isDct, Dl.putI, Dl.putD, Dl.setI, Dl.augO, Dl.getI, Dl.slotOf, Dl.slotsOf, Dl.lents, Dl.takeB, Dl.backS, Dl.useSel, Dl.back, Dl.gd, Dl.pyIx, atI, ixN, Dl.pyGet, Dl.pyMul, Dl.pyAdd, Dl.pyEq, Dl.pyNe, Dl.mulOk, Dl.powOk, Dl.pySlice, Dl.fLen, Dl.fList, Dl.fTuple, Dl.mAppend, Dl.mReverse, Dl.mClear, Dl.mExtend, Dl.mInsert, Dl.mkTup, Dl.mkLst, Dl.pyIsN, Dl.pyNotN, Dl.fNeg, Dl.pyRev, Dl.gN, Dl.gsNil, Dl.gsCons, Dl.gT, Dl.srcL, Dl.srcT, Dl.srcS, Dl.srcQ, Dl.srcR1, Dl.srcR2, Dl.hide, Dl.restore, sizeLine_eq, Dl.lockS, z]
      rw [htg]
      refine fresh14 hn ?_
      obtain ⟨s, r, e, hs, hns⟩ := some_fresh (ss := ss) (by omega)
      rw [e]
      simp -dsimp -implicitDefEqProofs [Dl.vI, Dl.vB, Dl.vS, Dl.run2, Dl.run1, Dl.deref, Dl.Slot.data?, Dl.useO, Dl.useAll, Dl.boolOf, Dl.putO, Dl.free, Dl.outO, Dl.withAll, Dl.runN, Dl.derefs, Dl.mutO, Dl.isLst, Dl.isDct, Dl.putI, Dl.putD, Dl.setI, Dl.augO, Dl.getI, Dl.slotOf, Dl.slotsOf, Dl.lents, Dl.takeB, Dl.backS, Dl.useSel, Dl.back, Dl.gd, Dl.pyIx, atI, ixN, Dl.pyGet, Dl.pyMul, Dl.pyAdd, Dl.pyEq, Dl.pyNe, Dl.mulOk, Dl.powOk, Dl.pySlice, Dl.fLen, Dl.fList, Dl.fTuple, Dl.mAppend, Dl.mReverse, Dl.mClear, Dl.mExtend, Dl.mInsert, Dl.mkTup, Dl.mkLst, Dl.pyIsN, Dl.pyNotN, Dl.fNeg, Dl.pyRev, Dl.gN, Dl.gsNil, Dl.gsCons, Dl.gT, Dl.srcL, Dl.srcT, Dl.srcS, Dl.srcQ, Dl.srcR1, Dl.srcR2, Dl.hide, Dl.restore, sizeLine_eq, Dl.lockS, hss]
      rw [eI]
      refine ⟨ss ++ [s], d, _, _, hd, fun t ht => ?_, fun n8 => (hg n8).snoc (tongue_lw s hs) hns, by simp [hl], ⟨rfl, rfl⟩, by rw [List.map_append, htg]; rfl⟩
      rcases List.mem_append.mp ht with ht | ht
      · exact hn t ht
      · rw [List.mem_singleton.mp ht]; exact tongue_nm s hs
    · simp -dsimp -implicitDefEqProofs [Dl.vI, Dl.vB, Dl.vS, Dl.run2, Dl.run1, Dl.deref, Dl.Slot.data?, Dl.useO, Dl.useAll, Dl.boolOf, Dl.putO, Dl.free, Dl.outO, Dl.withAll, Dl.runN, Dl.derefs, Dl.mutO, Dl.isLst, Dl.isDct, Dl.putI, Dl.putD, Dl.setI, Dl.augO, Dl.getI, Dl.slotOf, Dl.slotsOf, Dl.lents, Dl.takeB, Dl.backS, Dl.useSel, Dl.back, Dl.gd, Dl.pyIx, atI, ixN, Dl.pyGet, Dl.pyMul, Dl.pyAdd, Dl.pyEq, Dl.pyNe, Dl.mulOk, Dl.powOk, Dl.pySlice, Dl.fLen, Dl.fList, Dl.fTuple, Dl.mAppend, Dl.mReverse, Dl.mClear, Dl.mExtend, Dl.mInsert, Dl.mkTup, Dl.mkLst, Dl.pyIsN, Dl.pyNotN, Dl.fNeg, Dl.pyRev, Dl.gN, Dl.gsNil, Dl.gsCons, Dl.gT, Dl.srcL, Dl.srcT, Dl.srcS, Dl.srcQ, Dl.srcR1, Dl.srcR2, Dl.hide, Dl.restore, sizeLine_eq, Dl.lockS, z, hss]
      rw [eI]
      refine ⟨ss ++ [wd], d, _, _, hd, fun t ht => ?_, fun n8 => (hg n8).snoc hlw z, by simp [hl], ⟨rfl, rfl⟩, by rw [List.map_append]; rfl⟩
      rcases List.mem_append.mp ht with ht | ht
      · exact hn t ht
      · rw [List.mem_singleton.mp ht]; exact hw
  · rw [eI] at hI
    obtain ⟨ss, d, s9, s12, hd, hn, hg, hl, _, rfl⟩ := hI
    simp -dsimp -implicitDefEqProofs [Dl.vI, Dl.vB, Dl.vS, Dl.run2, Dl.run1, Dl.deref, Dl.Slot.data?, Dl.useO, Dl.useAll, Dl.boolOf, Dl.putO, Dl.free, Dl.outO, Dl.withAll, Dl.runN, Dl.derefs, Dl.mutO, Dl.isLst, Dl.isDct, Dl.putI, Dl.putD, Dl.setI, Dl.augO, Dl.getI, Dl.slotOf, Dl.slotsOf, Dl.lents, Dl.takeB, Dl.backS, Dl.useSel, Dl.back, Dl.gd, Dl.pyIx, atI, ixN, Dl.pyGet, Dl.pyMul, Dl.pyAdd, Dl.pyEq, Dl.pyNe, Dl.mulOk, Dl.powOk, Dl.pySlice, Dl.fLen, Dl.fList, Dl.fTuple, Dl.mAppend, Dl.mReverse, Dl.mClear, Dl.mExtend, Dl.mInsert, Dl.mkTup, Dl.mkLst, Dl.pyIsN, Dl.pyNotN, Dl.fNeg, Dl.pyRev, Dl.gN, Dl.gsNil, Dl.gsCons, Dl.gT, Dl.srcL, Dl.srcT, Dl.srcS, Dl.srcQ, Dl.srcR1, Dl.srcR2, Dl.hide, Dl.restore, sizeLine_eq, Dl.lockS]
    exact h ss d _ hd hn hg (by rw [hl]; simp; omega)
theorem law_names {d : D} {n : Int} {Q : Opd → Rho → Prop} {X : Ex → Rho → Prop} (hd : Hand d) (h0 : 0 ≤ n) (h1 : n ≤ 13)
    (h : ∀ (ss : List Str) (d : D), Hand d → (∀ s ∈ ss, Nm s) → (n ≤ 8 → Gd ss) → (ss.length : Int) = n → Q (.new (.list (ss.map .str))) [.par d, .dat (.int n)]) : wp (mLawNames [.par d, .dat (.int n)]) Q X := by
  unfold mLawNames
  simp -dsimp -implicitDefEqProofs [Dl.vI, Dl.vB, Dl.vS, Dl.run2, Dl.run1, Dl.deref, Dl.Slot.data?, Dl.useO, Dl.useAll, Dl.boolOf, Dl.putO, Dl.free, Dl.outO, Dl.withAll, Dl.runN, Dl.derefs, Dl.mutO, Dl.isLst, Dl.isDct, Dl.putI, Dl.putD, Dl.setI, Dl.augO, Dl.getI, Dl.slotOf, Dl.slotsOf, Dl.lents, Dl.takeB, Dl.backS, Dl.useSel, Dl.back, Dl.gd, Dl.pyIx, atI, ixN, Dl.pyGet, Dl.pyMul, Dl.pyAdd, Dl.pyEq, Dl.pyNe, Dl.mulOk, Dl.powOk, Dl.pySlice, Dl.fLen, Dl.fList, Dl.fTuple, Dl.mAppend, Dl.mReverse, Dl.mClear, Dl.mExtend, Dl.mInsert, Dl.mkTup, Dl.mkLst, Dl.pyIsN, Dl.pyNotN, Dl.fNeg, Dl.pyRev, Dl.gN, Dl.gsNil, Dl.gsCons, Dl.gT, Dl.srcL, Dl.srcT, Dl.srcS, Dl.srcQ, Dl.srcR1, Dl.srcR2, Dl.hide, Dl.restore, sizeLine_eq, Dl.lockS]
  refine wp_draw hd (by decide) (by decide) fun w d hd w0 w1 => ?_
  obtain ⟨tg, htg⟩ : ∃ tg : List D, tg = tongue.map .str := ⟨_, rfl⟩
  have htg' := htg.symm
  simp only [tongue, List.map_cons, List.map_nil] at htg'
  simp -dsimp -implicitDefEqProofs [Dl.vI, Dl.vB, Dl.vS, Dl.run2, Dl.run1, Dl.deref, Dl.Slot.data?, Dl.useO, Dl.useAll, Dl.boolOf, Dl.putO, Dl.free, Dl.outO, Dl.withAll, Dl.runN, Dl.derefs, Dl.mutO, Dl.isLst, Dl.isDct, Dl.putI, Dl.putD, Dl.setI, Dl.augO, Dl.getI, Dl.slotOf, Dl.slotsOf, Dl.lents, Dl.takeB, Dl.backS, Dl.useSel, Dl.back, Dl.gd, Dl.pyIx, atI, ixN, Dl.pyGet, Dl.pyMul, Dl.pyAdd, Dl.pyEq, Dl.pyNe, Dl.mulOk, Dl.powOk, Dl.pySlice, Dl.fLen, Dl.fList, Dl.fTuple, Dl.mAppend, Dl.mReverse, Dl.mClear, Dl.mExtend, Dl.mInsert, Dl.mkTup, Dl.mkLst, Dl.pyIsN, Dl.pyNotN, Dl.fNeg, Dl.pyRev, Dl.gN, Dl.gsNil, Dl.gsCons, Dl.gT, Dl.srcL, Dl.srcT, Dl.srcS, Dl.srcQ, Dl.srcR1, Dl.srcR2, Dl.hide, Dl.restore, sizeLine_eq, Dl.lockS, htg']
  by_cases e0 : w = 0
  · simp -dsimp -implicitDefEqProofs [Dl.vI, Dl.vB, Dl.vS, Dl.run2, Dl.run1, Dl.deref, Dl.Slot.data?, Dl.useO, Dl.useAll, Dl.boolOf, Dl.putO, Dl.free, Dl.outO, Dl.withAll, Dl.runN, Dl.derefs, Dl.mutO, Dl.isLst, Dl.isDct, Dl.putI, Dl.putD, Dl.setI, Dl.augO, Dl.getI, Dl.slotOf, Dl.slotsOf, Dl.lents, Dl.takeB, Dl.backS, Dl.useSel, Dl.back, Dl.gd, Dl.pyIx, atI, ixN, Dl.pyGet, Dl.pyMul, Dl.pyAdd, Dl.pyEq, Dl.pyNe, Dl.mulOk, Dl.powOk, Dl.pySlice, Dl.fLen, Dl.fList, Dl.fTuple, Dl.mAppend, Dl.mReverse, Dl.mClear, Dl.mExtend, Dl.mInsert, Dl.mkTup, Dl.mkLst, Dl.pyIsN, Dl.pyNotN, Dl.fNeg, Dl.pyRev, Dl.gN, Dl.gsNil, Dl.gsCons, Dl.gT, Dl.srcL, Dl.srcT, Dl.srcS, Dl.srcQ, Dl.srcR1, Dl.srcR2, Dl.hide, Dl.restore, sizeLine_eq, Dl.lockS, e0, htg']
    exact names0 htg hd h0 (by omega) fun ss d r hd hn hg hl => h ss d hd hn hg hl
  · simp -dsimp -implicitDefEqProofs [Dl.vI, Dl.vB, Dl.vS, Dl.run2, Dl.run1, Dl.deref, Dl.Slot.data?, Dl.useO, Dl.useAll, Dl.boolOf, Dl.putO, Dl.free, Dl.outO, Dl.withAll, Dl.runN, Dl.derefs, Dl.mutO, Dl.isLst, Dl.isDct, Dl.putI, Dl.putD, Dl.setI, Dl.augO, Dl.getI, Dl.slotOf, Dl.slotsOf, Dl.lents, Dl.takeB, Dl.backS, Dl.useSel, Dl.back, Dl.gd, Dl.pyIx, atI, ixN, Dl.pyGet, Dl.pyMul, Dl.pyAdd, Dl.pyEq, Dl.pyNe, Dl.mulOk, Dl.powOk, Dl.pySlice, Dl.fLen, Dl.fList, Dl.fTuple, Dl.mAppend, Dl.mReverse, Dl.mClear, Dl.mExtend, Dl.mInsert, Dl.mkTup, Dl.mkLst, Dl.pyIsN, Dl.pyNotN, Dl.fNeg, Dl.pyRev, Dl.gN, Dl.gsNil, Dl.gsCons, Dl.gT, Dl.srcL, Dl.srcT, Dl.srcS, Dl.srcQ, Dl.srcR1, Dl.srcR2, Dl.hide, Dl.restore, sizeLine_eq, Dl.lockS, e0, htg']
    by_cases e3 : w = 3
    · simp -dsimp -implicitDefEqProofs [Dl.vI, Dl.vB, Dl.vS, Dl.run2, Dl.run1, Dl.deref, Dl.Slot.data?, Dl.useO, Dl.useAll, Dl.boolOf, Dl.putO, Dl.free, Dl.outO, Dl.withAll, Dl.runN, Dl.derefs, Dl.mutO, Dl.isLst, Dl.isDct, Dl.putI, Dl.putD, Dl.setI, Dl.augO, Dl.getI, Dl.slotOf, Dl.slotsOf, Dl.lents, Dl.takeB, Dl.backS, Dl.useSel, Dl.back, Dl.gd, Dl.pyIx, atI, ixN, Dl.pyGet, Dl.pyMul, Dl.pyAdd, Dl.pyEq, Dl.pyNe, Dl.mulOk, Dl.powOk, Dl.pySlice, Dl.fLen, Dl.fList, Dl.fTuple, Dl.mAppend, Dl.mReverse, Dl.mClear, Dl.mExtend, Dl.mInsert, Dl.mkTup, Dl.mkLst, Dl.pyIsN, Dl.pyNotN, Dl.fNeg, Dl.pyRev, Dl.gN, Dl.gsNil, Dl.gsCons, Dl.gT, Dl.srcL, Dl.srcT, Dl.srcS, Dl.srcQ, Dl.srcR1, Dl.srcR2, Dl.hide, Dl.restore, sizeLine_eq, Dl.lockS, e3, htg']
      exact names3 htg hd h0 h1 fun ss d r hd hn hg hl => h ss d hd hn hg hl
    · simp -dsimp -implicitDefEqProofs [Dl.vI, Dl.vB, Dl.vS, Dl.run2, Dl.run1, Dl.deref, Dl.Slot.data?, Dl.useO, Dl.useAll, Dl.boolOf, Dl.putO, Dl.free, Dl.outO, Dl.withAll, Dl.runN, Dl.derefs, Dl.mutO, Dl.isLst, Dl.isDct, Dl.putI, Dl.putD, Dl.setI, Dl.augO, Dl.getI, Dl.slotOf, Dl.slotsOf, Dl.lents, Dl.takeB, Dl.backS, Dl.useSel, Dl.back, Dl.gd, Dl.pyIx, atI, ixN, Dl.pyGet, Dl.pyMul, Dl.pyAdd, Dl.pyEq, Dl.pyNe, Dl.mulOk, Dl.powOk, Dl.pySlice, Dl.fLen, Dl.fList, Dl.fTuple, Dl.mAppend, Dl.mReverse, Dl.mClear, Dl.mExtend, Dl.mInsert, Dl.mkTup, Dl.mkLst, Dl.pyIsN, Dl.pyNotN, Dl.fNeg, Dl.pyRev, Dl.gN, Dl.gsNil, Dl.gsCons, Dl.gT, Dl.srcL, Dl.srcT, Dl.srcS, Dl.srcQ, Dl.srcR1, Dl.srcR2, Dl.hide, Dl.restore, sizeLine_eq, Dl.lockS, e3, htg', mNamesR, mWordC]
      refine word_comp9 hd (by decide) fun cs d hd ho hc => ?_
      have j := join_py cs (by omega)
      have hw : Nm (Txt.join "" (cs.map one)) := nm_join ho.c (by omega)
      have hL : okL (Txt.join "" (cs.map one)).cps.toList := by rw [join_ones]; exact ho
      have h8 : (Txt.join "" (cs.map one)).cps.toList.length = 8 := by rw [join_ones]; exact hc
      have hw2 : (Txt.join "" (cs.map one)).cps.toList.length ≤ 16 := by rw [join_ones]; omega
      generalize Txt.join "" (cs.map one) = wd at *
      simp only [List.map_map] at j
      simp -dsimp -implicitDefEqProofs [Dl.vI, Dl.vB, Dl.vS, Dl.run2, Dl.run1, Dl.deref, Dl.Slot.data?, Dl.useO, Dl.useAll, Dl.boolOf, Dl.putO, Dl.free, Dl.outO, Dl.withAll, Dl.runN, Dl.derefs, Dl.mutO, Dl.isLst, Dl.isDct, Dl.putI, Dl.putD, Dl.setI, Dl.augO, Dl.getI, Dl.slotOf, Dl.slotsOf, Dl.lents, Dl.takeB, Dl.backS, Dl.useSel, Dl.back, Dl.gd, Dl.pyIx, atI, ixN, Dl.pyGet, Dl.pyMul, Dl.pyAdd, Dl.pyEq, Dl.pyNe, Dl.mulOk, Dl.powOk, Dl.pySlice, Dl.fLen, Dl.fList, Dl.fTuple, Dl.mAppend, Dl.mReverse, Dl.mClear, Dl.mExtend, Dl.mInsert, Dl.mkTup, Dl.mkLst, Dl.pyIsN, Dl.pyNotN, Dl.fNeg, Dl.pyRev, Dl.gN, Dl.gsNil, Dl.gsCons, Dl.gT, Dl.srcL, Dl.srcT, Dl.srcS, Dl.srcQ, Dl.srcR1, Dl.srcR2, Dl.hide, Dl.restore, sizeLine_eq, Dl.lockS, j]
      by_cases e1 : w = 1
      · simp -dsimp -implicitDefEqProofs [Dl.vI, Dl.vB, Dl.vS, Dl.run2, Dl.run1, Dl.deref, Dl.Slot.data?, Dl.useO, Dl.useAll, Dl.boolOf, Dl.putO, Dl.free, Dl.outO, Dl.withAll, Dl.runN, Dl.derefs, Dl.mutO, Dl.isLst, Dl.isDct, Dl.putI, Dl.putD, Dl.setI, Dl.augO, Dl.getI, Dl.slotOf, Dl.slotsOf, Dl.lents, Dl.takeB, Dl.backS, Dl.useSel, Dl.back, Dl.gd, Dl.pyIx, atI, ixN, Dl.pyGet, Dl.pyMul, Dl.pyAdd, Dl.pyEq, Dl.pyNe, Dl.mulOk, Dl.powOk, Dl.pySlice, Dl.fLen, Dl.fList, Dl.fTuple, Dl.mAppend, Dl.mReverse, Dl.mClear, Dl.mExtend, Dl.mInsert, Dl.mkTup, Dl.mkLst, Dl.pyIsN, Dl.pyNotN, Dl.fNeg, Dl.pyRev, Dl.gN, Dl.gsNil, Dl.gsCons, Dl.gT, Dl.srcL, Dl.srcT, Dl.srcS, Dl.srcQ, Dl.srcR1, Dl.srcR2, Dl.hide, Dl.restore, sizeLine_eq, Dl.lockS, e1]
        exact names1 hw hL h8 hd h0 (by omega) fun ss d r hd hn hg hl => h ss d hd hn hg hl
      · simp -dsimp -implicitDefEqProofs [Dl.vI, Dl.vB, Dl.vS, Dl.run2, Dl.run1, Dl.deref, Dl.Slot.data?, Dl.useO, Dl.useAll, Dl.boolOf, Dl.putO, Dl.free, Dl.outO, Dl.withAll, Dl.runN, Dl.derefs, Dl.mutO, Dl.isLst, Dl.isDct, Dl.putI, Dl.putD, Dl.setI, Dl.augO, Dl.getI, Dl.slotOf, Dl.slotsOf, Dl.lents, Dl.takeB, Dl.backS, Dl.useSel, Dl.back, Dl.gd, Dl.pyIx, atI, ixN, Dl.pyGet, Dl.pyMul, Dl.pyAdd, Dl.pyEq, Dl.pyNe, Dl.mulOk, Dl.powOk, Dl.pySlice, Dl.fLen, Dl.fList, Dl.fTuple, Dl.mAppend, Dl.mReverse, Dl.mClear, Dl.mExtend, Dl.mInsert, Dl.mkTup, Dl.mkLst, Dl.pyIsN, Dl.pyNotN, Dl.fNeg, Dl.pyRev, Dl.gN, Dl.gsNil, Dl.gsCons, Dl.gT, Dl.srcL, Dl.srcT, Dl.srcS, Dl.srcQ, Dl.srcR1, Dl.srcR2, Dl.hide, Dl.restore, sizeLine_eq, Dl.lockS, e1]
        exact names2 hw hL h8 hw2 hd h0 (by omega) fun ss d r hd hn hg hl => h ss d hd hn hg hl
end Dl

set_option maxRecDepth 100000
set_option maxHeartbeats 4000000
namespace Dl
open PySem PySem.Spec L2
set_option autoImplicit false
/-! ### dict(d): a dict of its own -/
def fDict : List D → Option Opd
  | [.dict ps] => some (.new (.dict ps))
  | _ => none
theorem snd_dict {K : PySem.W.Frag} : SndC K (fun xs H Q => ∃ (a : Addr) (kvs : List (Key × V)), xs = [.ref a] ∧ Rd H a (.dK kvs) ∧ ∀ p, H p = none → Q (.ref p) (upd H p (.dK kvs))) fDict := by
  intro F H vs ds o Q s c hf k
  match ds, hf, c with
  | [.dict ps], hf, c =>
    cases hf
    cases c with
    | cons c1 r =>
      cases r
      obtain ⟨a, kvs, rfl, hh, r⟩ := c1.dict s
      refine ⟨a, kvs, rfl, hh, fun p np => ?_⟩
      obtain ⟨f, g, _⟩ := upd_fresh (K := K) (o := .dK kvs) s np trivial
      exact k _ _ _ g ⟨p, rfl, np, f, kvs, upd_same, r⟩
/-! ### a < b < c -/
def eChain (f g : D → D → Option Opd) (a b c : ME) : ME := fun ρ => (a ρ).bind fun x ρ1 => (b ρ1).bind fun y ρ2 => match run2 f ρ2 x y with
  | .ok (.val (.bool true)) ρ2 => (c ρ2).bind fun z ρ3 => run2 g ρ3 y z
  | .ok (.val (.bool false)) ρ2 => .ok (.val (.bool false)) ρ2
  | _ => .fail
theorem chain_ok {X : Cx} {W : WX} {r r' : R2} {f g : D → D → Option Opd} {a b c : ME} {ta tb tc : TE} (hs : Snd2 X.K r f) (hs' : Snd2 X.K r' g) (ha : ∀ F σ H ρ Q, Rel X.K F σ H ρ → EPost X.K W F H σ ρ Q (a ρ) → ta σ H Q) (hb : ∀ F σ H ρ Q, Rel X.K F σ H ρ → EPost X.K W F H σ ρ Q (b ρ) → tb σ H Q)
    (hc : ∀ F σ H ρ Q, Rel X.K F σ H ρ → EPost X.K W F H σ ρ Q (c ρ) → tc σ H Q) : ∀ F σ H ρ Q, Rel X.K F σ H ρ → EPost X.K W F H σ ρ Q (eChain f g a b c ρ) → tChain r r' ta tb tc σ H Q := by
  intro F σ H ρ Q R h
  refine ha F σ H ρ _ R ?_
  unfold eChain at h
  refine bindEE h fun x ρ1 v F1 H1 s1 R1 ro1 ns1 h1 => ?_
  refine hb F1 σ H1 ρ1 _ R1 ?_
  refine bindEE h1 fun y ρ2 w F2 H2 s2 R2' ro2 ns2 h2 => ?_
  have ro1' := ro1.step s2
  unfold run2 at h2
  cases dx : deref ρ2 x with
  | none => rw [dx] at h2; exact False.elim h2
  | some d =>
    cases dy : deref ρ2 y with
    | none => rw [dx, dy] at h2; exact False.elim h2
    | some e =>
      rw [dx, dy] at h2
      dsimp only at h2
      cases ef : f d e with
      | none => rw [ef] at h2; exact False.elim h2
      | some o =>
        rw [ef] at h2
        refine hs F2 H2 v w d e o _ R2'.sub (ro1'.ct R2' dx) (ro2.ct R2' dy) ef fun u F' H' g' rn => ?_
        dsimp only at h2
        have R3 := g'.rel R2'
        have st := g'.step (σ := σ) (ρ := ρ2)
        cases o with
        | loc i => exact False.elim h2
        | new d => exact False.elim h2
        | val d' =>
          cases d' <;> try (exact False.elim h2)
          rename_i k
          have rn : Rp X.K F' u (.bool k) := rn
          cases rn
          refine ⟨k, rfl, ?_⟩
          cases k with
          | false =>
            rw [if_neg (by decide)]
            exact h2 (.bl false) F' H' st R3 (.bl false) (fun z => nomatch z)
          | true =>
            rw [if_pos rfl]
            have h3 : EPost X.K W F' H' σ ρ2 Q ((c ρ2).bind fun z ρ3 => run2 g ρ3 y z) := EPost.step st h2
            refine hc F' σ H' ρ2 _ R3 ?_
            refine bindEE h3 fun z ρ3 w' F3 H3 s3 R4 ro3 ns3 h4 => ?_
            have ro2' := (ro2.step st).step s3
            unfold run2 at h4
            cases dy3 : deref ρ3 y with
            | none => rw [dy3] at h4; exact False.elim h4
            | some e3 =>
              cases dz : deref ρ3 z with
              | none => rw [dy3, dz] at h4; exact False.elim h4
              | some e4 =>
                rw [dy3, dz] at h4
                dsimp only at h4
                cases eg : g e3 e4 with
                | none => rw [eg] at h4; exact False.elim h4
                | some o4 =>
                  rw [eg] at h4
                  refine hs' F3 H3 w w' e3 e4 o4 Q R4.sub (ro2'.ct R4 dy3) (ro3.ct R4 dz) eg fun u F' H' g rn => ?_
                  obtain ⟨q1, q2⟩ := rn.ro R4
                  exact h4 u F' H' g.step (g.rel R4) q1 q2
theorem de_chain {X : Cx} {W : WX} {e1 e2 e3 : Expr} {op op' : CmpOp} {pos : Pos} {r r' : R2} {f g : D → D → Option Opd} {a b c : ME} (ho : OpR X (compareOp op) r) (hs : Snd2 X.K r f) (ho' : OpR X (compareOp op') r') (hs' : Snd2 X.K r' g) (ha : DE X W e1 a) (hb : DE X W e2 b) (hc : DE X W e3 c)
    (hm : lastMarks [op, op'] [e2, e3] = false := by with_unfolding_all rfl) : DE X W (.Compare e1 [op, op'] [e2, e3] pos) (eChain f g a b c) := by
  obtain ⟨ta, pa, qa⟩ := ha
  obtain ⟨tb, pb, qb⟩ := hb
  obtain ⟨tc, pc, qc⟩ := hc
  exact ⟨_, pe_chain ho ho' pa pb pc hm, chain_ok hs hs' qa qb qc⟩
theorem dt_chain {X : Cx} {W : WX} {e1 e2 e3 : Expr} {op op' : CmpOp} {pos : Pos} {r r' : R2} {f g : D → D → Option Opd} {a b c : ME} (ho : OpR X (compareOp op) r) (hs : Snd2 X.K r f) (ho' : OpR X (compareOp op') r') (hs' : Snd2 X.K r' g) (ha : DE X W e1 a) (hb : DE X W e2 b) (hc : DE X W e3 c)
    (hm : lastMarks [op, op'] [e2, e3] = false := by with_unfolding_all rfl) : DT X W (.Compare e1 [op, op'] [e2, e3] pos) (tVal (eChain f g a b c)) := by
  obtain ⟨ta, pa, qa⟩ := ha
  obtain ⟨tb, pb, qb⟩ := hb
  obtain ⟨tc, pc, qc⟩ := hc
  refine ⟨_, pt_chain ho ho' pa pb pc hm, fun F σ H ρ Q R h => ?_⟩
  exact chain_ok hs hs' qa qb qc F σ H ρ _ R (bindET h fun o ρ1 v F1 H1 s1 R1 ro ns hp => boolOf_ok R1 ro hp)
end Dl

set_option maxRecDepth 100000
set_option maxHeartbeats 4000000
namespace Dl
open PySem PySem.Spec L2
set_option autoImplicit false
/-! ### d.setdefault(k, v), d a name -/
def setdO (i : Nat) (k : Opd) (v : D) (ρ : Rho) : Rs Opd := match deref ρ k with
  | some κ => (match keyOf κ with
    | some κ => (match ρ[i]? with
      | some (.own (.dict ps)) => if ps.length < sizeLine then (match dlook ps κ with
        | some d => .ok (.val d) ρ
        | none => .ok (.val v) (ρ.set i (.own (.dict (dput ps κ v))))) else .fail
      | some (.par (.dict ps)) => if ps.length < sizeLine then (match dlook ps κ with
        | some d => .ok (.val d) ρ
        | none => .ok (.val v) (ρ.set i (.par (.dict (dput ps κ v))))) else .fail
      | _ => .fail)
    | none => .fail)
  | none => .fail
def eSetd (i : Nat) (mk mv : ME) : ME := fun ρ => if isDct ρ i = true then (mk ρ).bind fun k ρ1 => (mv ρ1).bind fun v ρ2 => match useO ρ2 v with
  | some (d, ρ3) => setdO i k d ρ3
  | none => .fail else .fail
section
variable {X : Cx} {W : WX}
theorem setd_ok {F0 H0 F H : Hp} {σ : Sg} {ρ0 ρ : Rho} {i : Nat} {k : Opd} {v : D} {a : Addr} {y w : V} {Q : VK} (R : Rel X.K F σ H ρ) (st : Step F0 H0 σ ρ0 F H ρ) (rk : RO X.K F H σ ρ y k) (rv : Rp X.K F w v) (hv : σ[i]? = some (some (.ref a))) (h : EPost X.K W F0 H0 σ ρ0 Q (setdO i k v ρ)) :
    ∃ (kvs : List (Key × V)) (κ : Key), H a = some (.dK kvs) ∧ y = kV κ ∧ kvs.length < sizeLine ∧ (∀ u, valV kvs κ = some u → Q u H) ∧ (valV kvs κ = none → Q w (upd H a (.dK (putK kvs κ w)))) := by
  unfold setdO at h
  cases ek : deref ρ k with
  | none => rw [ek] at h; exact False.elim h
  | some κ0 =>
    rw [ek] at h
    dsimp only at h
    have ck := rk.ct R ek
    cases eκ : keyOf κ0 with
    | none => rw [eκ] at h; exact False.elim h
    | some κ =>
      rw [eκ] at h
      dsimp only at h
      have go : ∀ (s : Slot) (ps : List (D × D)) (mk : D → Slot), ρ[i]? = some s → s.mine = true → s.data? = some (.dict ps) → (∀ d', (mk d').mine = true ∧ (mk d').data? = some d' ∧ KpS s (mk d')) → EPost X.K W F0 H0 σ ρ0 Q (if ps.length < sizeLine then (match dlook ps κ with
          | some d => .ok (.val d) ρ
          | none => .ok (.val v) (ρ.set i (mk (.dict (dput ps κ v))))) else .fail) → ∃ (kvs : List (Key × V)) (κ : Key), H a = some (.dK kvs) ∧ y = kV κ ∧ kvs.length < sizeLine ∧ (∀ u, valV kvs κ = some u → Q u H) ∧ (valV kvs κ = none → Q w (upd H a (.dK (putK kvs κ w)))) := fun s ps mk e m q hm h => by
        obtain ⟨a', g1, g2, kvs, hh, r⟩ := R.own i s _ e m q
        rw [hv] at g1; cases g1
        split at h
        · rename_i hlt
          cases keyOf_v ck eκ
          obtain ⟨l1, l2⟩ := look_rel (k := κ) r
          refine ⟨kvs, κ, hh, rfl, by rw [r.length]; exact hlt, fun u hu => ?_, fun hn => ?_⟩
          · cases ed : dlook ps κ with
            | none => rw [l2 ed] at hu; cases hu
            | some d =>
              rw [ed] at h
              obtain ⟨u', hu', ru⟩ := l1 d ed
              rw [hu] at hu'; cases hu'
              exact h u F H st R ru (fun z => nomatch z)
          · cases ed : dlook ps κ with
            | some d => obtain ⟨u', hu', _⟩ := l1 d ed; rw [hn] at hu'; cases hu'
            | none =>
              rw [ed] at h
              obtain ⟨m1, m2, m3⟩ := hm (.dict (dput ps κ v))
              obtain ⟨R3, s3⟩ := mut_rel (o' := .dK (putK kvs κ w)) (d' := .dict (dput ps κ v)) R e m m1 m3 hv g2 ⟨_, upd_same, r.put rv⟩ m2
              exact h w F _ (st.trans s3) R3 rv (fun z => nomatch z)
        · exact False.elim h
      cases es : ρ[i]? with
      | none => rw [es] at h; exact False.elim h
      | some s =>
        rw [es] at h
        cases s with
        | un => exact False.elim h
        | dat d => exact False.elim h
        | lck d => exact False.elim h
        | own d => cases d <;> first | exact False.elim h | exact go _ _ .own es rfl rfl (fun d' => ⟨rfl, rfl, trivial⟩) h
        | par d => cases d <;> first | exact False.elim h | exact go _ _ .par es rfl rfl (fun d' => ⟨rfl, rfl, trivial⟩) h
theorem de_setd {i : Nat} {x : Str} {xp apos cpos : Pos} {e f : Expr} {mk mv : ME} (hp : PE X (.Name x xp) (tVar i)) (hk : DE X W e mk) (hf : DE X W f mv) (m : M2 X (.Name x xp) "setdefault" apos e f cpos) :
    DE X W (.Call (.Attribute (.Name x xp) "setdefault" apos) [e, f] [] cpos) (eSetd i mk mv) := by
  obtain ⟨t, pk, qk⟩ := hk
  obtain ⟨u, pv, qv⟩ := hf
  refine ⟨_, pe_dsetd hp pk pv m, fun F σ H ρ Q R h => ?_⟩
  unfold eSetd at h
  split at h
  · rename_i hl
    obtain ⟨a, hx, kvs0, hd0⟩ := isDct_ty R hl
    refine ⟨.ref a, hx, a, rfl, by exact .inl ⟨kvs0, .inl hd0⟩, ?_⟩
    refine qk F σ H ρ _ R (bindEE h fun k ρ1 y F1 H1 s1 R1 ro1 ns1 h1 => ?_)
    refine qv F1 σ H1 ρ1 _ R1 ?_
    cases ev : mv ρ1 with
    | fail => rw [ev] at h1; exact h1
    | ex x ρ' => rw [ev] at h1; exact h1
    | ok v ρ2 =>
      rw [ev] at h1
      intro z F2 H2 s2 R2 ro2 ns2
      dsimp only [Rs.bind] at h1
      cases eu : useO ρ2 v with
      | none => rw [eu] at h1; exact False.elim h1
      | some p =>
        obtain ⟨d, ρ3⟩ := p
        rw [eu] at h1
        dsimp only at h1
        obtain ⟨F3, s3, R3, rp, _⟩ := use_ok R2 s2 ro2 ns2 eu
        exact setd_ok R3 s3 (ro1.step s3) rp hx h1
  · exact False.elim h
end
end Dl

set_option maxRecDepth 100000
set_option maxHeartbeats 4000000
namespace Dl
open PySem PySem.Spec L2
set_option autoImplicit false
/-! ### max and min of two, str of an int -/
def fMax2 : List D → Option Opd
  | [.int i, .int j] => some (.val (.int (if j > i then j else i)))
  | _ => none
def fMin2 : List D → Option Opd
  | [.int i, .int j] => some (.val (.int (if j < i then j else i)))
  | _ => none
theorem two_ints {K : PySem.W.Frag} {F H : Hp} {vs : List V} {i j : Int} (c : Paired (Ct K F H) vs [.int i, .int j]) : vs = [.int i, .int j] := by
  cases c with
  | cons c1 r => cases r with
    | cons c2 r => cases r; cases c1.int; cases c2.int; rfl
theorem snd_max2 {K : PySem.W.Frag} : SndC K (fun xs H Q => ∃ i j, xs = [.int i, .int j] ∧ Q (.int (if j > i then j else i)) H) fMax2 := by
  intro F H vs ds o Q s c hf k
  match ds, hf, c with
  | [.int i, .int j], hf, c =>
    cases hf
    exact ⟨i, j, two_ints c, same s (.int _) k⟩
theorem snd_min2 {K : PySem.W.Frag} : SndC K (fun xs H Q => ∃ i j, xs = [.int i, .int j] ∧ Q (.int (if j < i then j else i)) H) fMin2 := by
  intro F H vs ds o Q s c hf k
  match ds, hf, c with
  | [.int i, .int j], hf, c =>
    cases hf
    exact ⟨i, j, two_ints c, same s (.int _) k⟩
def fStr : List D → Option Opd
  | [.int i] => if i.natAbs.log2 < 1920 then some (.val (.str (toString i))) else none
  | _ => none
theorem snd_str {K : PySem.W.Frag} : SndC K (fun xs H Q => ∃ i : Int, xs = [.int i] ∧ i.natAbs.log2 < 1920 ∧ Q (.str (toString i)) H) fStr := by
  intro F H vs ds o Q s c hf k
  match ds, hf, c with
  | [.int i], hf, c =>
    unfold fStr at hf
    dsimp only at hf
    split at hf
    · rename_i hl
      cases hf
      cases c with
      | cons c1 r => cases r; cases c1.int; exact ⟨i, rfl, hl, same s (.str _) k⟩
    · cases hf
end Dl

set_option maxRecDepth 100000
set_option maxHeartbeats 4000000
namespace Dl
open PySem PySem.Spec L2
set_option autoImplicit false
/-! ### dicts of flat values that are alike: == and != -/
def sameF : D → D → Bool
  | .none, .none => true
  | .bool a, .bool b => a == b
  | .int a, .int b => a == b
  | .str a, .str b => a == b
  | _, _ => false
def alike (ps qs : List (D × D)) : Bool := decide (ps.length = qs.length) && ps.all fun p => match keyOf p.1 with
  | some κ => (match dlook qs κ with
    | some d => sameF p.2 d
    | none => false)
  | none => false
def pyEqK (d e : D) : Option Opd := match d, e with
  | .dict ps, .dict qs => gd (alike ps qs) (vB true)
  | _, _ => none
def pyNeK (d e : D) : Option Opd := match d, e with
  | .dict ps, .dict qs => gd (alike ps qs) (vB false)
  | _, _ => none
def rKK (r : Bool) : R2 := fun x y H Q => ∃ a b ks ls, x = .ref a ∧ y = .ref b ∧ Rd H a (.dK ks) ∧ Rd H b (.dK ls) ∧ ks.length = ls.length ∧ (∀ p ∈ ks, valV ls p.1 = some p.2 ∧ flatB p.2 = true) ∧ Q (.bl r) H
section
variable {X : Cx}
theorem op_eqK (hu : X.A.units < cLine) : OpR X (compareOp .Eq) (rKK true) := by
  intro pins s σ H x y v u Q I rx ry h
  obtain ⟨a, b, ks, ls, rfl, rfl, ea, eb, hlen, hp, q⟩ := h
  obtain rfl : v = Value.ref a := rx
  obtain rfl : u = Value.ref b := ry
  obtain ⟨_, ya, va, ra, da⟩ := dk_rd I.hok ea
  obtain ⟨_, yb, vb, rb, db⟩ := dk_rd I.hok eb
  have hl : va.length = vb.length := by rw [← ra.length, ← rb.length]; exact hlen
  exact PySem.W.keq_eq (knd := mixKind X.prog X.w) (r := true) ya yb da db hu (fun _ => hits_all rb ra hp) (fin_bl I q (by simp [hl]))
theorem op_neK (hu : X.A.units < cLine) : OpR X (compareOp .NotEq) (rKK false) := by
  intro pins s σ H x y v u Q I rx ry h
  obtain ⟨a, b, ks, ls, rfl, rfl, ea, eb, hlen, hp, q⟩ := h
  obtain rfl : v = Value.ref a := rx
  obtain rfl : u = Value.ref b := ry
  obtain ⟨_, ya, va, ra, da⟩ := dk_rd I.hok ea
  obtain ⟨_, yb, vb, rb, db⟩ := dk_rd I.hok eb
  have hl : va.length = vb.length := by rw [← ra.length, ← rb.length]; exact hlen
  exact PySem.W.keq_ne (knd := mixKind X.prog X.w) (r := true) ya yb da db hu (fun _ => hits_all rb ra hp) (fin_bl I q (by simp [hl]))
end
theorem same_flat {K : PySem.W.Frag} {F : Hp} {v w : V} {d e : D} (hv : Rp K F v d) (hw : Rp K F w e) (h : sameF d e = true) : v = w ∧ flatB v = true := by
  cases d <;> cases e <;> first | (cases h; done) | (cases hv; cases hw; first | exact ⟨rfl, rfl⟩ | (have := (beq_iff_eq ..).mp h; subst this; exact ⟨rfl, rfl⟩))
theorem alike_rel {K : PySem.W.Frag} {F : Hp} {qs : List (D × D)} {ls : List (Key × V)} (r' : RpD K F ls qs) : ∀ {ks : List (Key × V)} {ps : List (D × D)}, RpD K F ks ps → (ps.all fun p => match keyOf p.1 with
    | some κ => (match dlook qs κ with
      | some d => sameF p.2 d
      | none => false)
    | none => false) = true → ∀ p ∈ ks, valV ls p.1 = some p.2 ∧ flatB p.2 = true
  | [], _, _, _, p, hp => by cases hp
  | _ :: _, [], r, _, _, _ => by cases r
  | (k, v) :: ks, (c, d) :: ps, r, h, p, hp => by
    obtain ⟨e, hd, r2⟩ := r.key
    subst e
    rw [List.all_cons, Bool.and_eq_true, keyOf_D] at h
    rcases List.mem_cons.mp hp with rfl | hp
    · obtain ⟨h1, _⟩ := h
      dsimp only at h1
      obtain ⟨l1, l2⟩ := look_rel (k := k) r'
      cases ed : dlook qs k with
      | none => rw [ed] at h1; cases h1
      | some d' =>
        rw [ed] at h1
        obtain ⟨w, hw, rw'⟩ := l1 d' ed
        obtain ⟨e1, e2⟩ := same_flat hd rw' h1
        exact ⟨by rw [hw, e1], e2⟩
    · exact alike_rel r' r2 h.2 p hp
theorem snd_KK {K : PySem.W.Frag} (r : Bool) : Snd2 K (rKK r) (fun d e => match d, e with
    | .dict ps, .dict qs => gd (alike ps qs) (vB r)
    | _, _ => none) := by
  intro F H v w d e o Q s cv cw hf k
  cases d <;> cases e <;> try (cases hf; done)
  rename_i ps qs
  dsimp only [gd] at hf
  split at hf
  · rename_i ha
    cases hf
    obtain ⟨a, ks, rfl, h1, r1⟩ := cv.dict s
    obtain ⟨b, ls, rfl, h2, r2⟩ := cw.dict s
    unfold alike at ha
    rw [Bool.and_eq_true, decide_eq_true_eq] at ha
    exact ⟨a, b, ks, ls, rfl, rfl, h1, h2, by rw [r1.length, r2.length]; exact ha.1, alike_rel r2 r1 ha.2, same s (.bl _) k⟩
  · cases hf
theorem snd_eqK {K : PySem.W.Frag} : Snd2 K (rKK true) pyEqK := snd_KK true
theorem snd_neK {K : PySem.W.Frag} : Snd2 K (rKK false) pyNeK := snd_KK false
end Dl

set_option maxRecDepth 100000
set_option maxHeartbeats 4000000
namespace Dl
open PySem PySem.Spec L2
set_option autoImplicit false
/-! ### names with truths: literals, and dicts of them -/
abbrev Li := List (Str × Bool)
def liD (p : Str × Bool) : D := .tuple [.str p.1, .bool p.2]
def tr (ks : Li) : List (D × D) := ks.map fun p => (.str p.1, .bool p.2)
def look (ks : Li) (s : Str) : Option Bool := (ks.find? fun p => decide (p.1 = s)).map (·.2)
theorem dlook_tr (s : Str) : ∀ ks : Li, dlook (tr ks) (.inr s) = (look ks s).map .bool
  | [] => rfl
  | (k, b) :: ks => by
    show dlook ((.str k, .bool b) :: tr ks) (.inr s) = _
    unfold dlook look
    rw [List.find?_cons]
    by_cases h : k = s
    · subst h
      simp [keyOf]
    · have ih := dlook_tr s ks
      unfold look at ih
      simp [keyOf, h, ih]
theorem tr_len (ks : Li) : (tr ks).length = ks.length := List.length_map ..
def putB (ks : Li) (s : Str) (b : Bool) : Li := if ks.any (fun p => decide (p.1 = s)) = true then ks.map (fun p => if p.1 = s then (p.1, b) else p) else ks ++ [(s, b)]
theorem dput_tr (ks : Li) (s : Str) (b : Bool) : dput (tr ks) (.inr s) (.bool b) = tr (putB ks s b) := by
  have ha : (tr ks).any (fun p => decide (keyOf p.1 = some (.inr s))) = ks.any (fun p => decide (p.1 = s)) := by
    unfold tr
    rw [List.any_map]
    congr 1
    funext p
    simp [keyOf]
  unfold dput putB
  rw [ha]
  split
  · unfold tr
    rw [List.map_map, List.map_map]
    refine List.map_congr_left fun p _ => ?_
    by_cases h : p.1 = s
    · simp [keyOf, h]
    · simp [keyOf, h]
  · unfold tr
    rw [List.map_append]
    rfl
theorem look_put (ks : Li) (s t : Str) (b : Bool) : look (putB ks s b) t = if t = s then some b else look ks t := by
  have key : ∀ ks : Li, look (ks.map (fun p => if p.1 = s then (p.1, b) else p)) t = if t = s then (look ks t).map (fun _ => b) else look ks t := by
    intro ks
    induction ks with
    | nil => unfold look; split <;> rfl
    | cons p ks ih =>
      obtain ⟨k, c⟩ := p
      unfold look at ih ⊢
      rw [List.map_cons, List.find?_cons, List.find?_cons]
      by_cases hk : k = s
      · subst hk
        by_cases ht : t = k
        · subst ht; simp
        · have : ¬ k = t := fun e => ht e.symm
          simp [this, ht] at ih ⊢
          exact ih
      · by_cases ht : k = t
        · subst ht
          simp [hk]
        · simp [hk, ht] at ih ⊢
          exact ih
  unfold putB
  by_cases ha : ks.any (fun p => decide (p.1 = s)) = true
  · rw [if_pos ha, key]
    by_cases ht : t = s
    · subst ht
      rw [if_pos rfl, if_pos rfl]
      obtain ⟨p, hp, he⟩ := List.any_eq_true.mp ha
      have : (look ks t).isSome := by
        unfold look
        rw [Option.isSome_map, List.find?_isSome]
        exact ⟨p, hp, he⟩
      obtain ⟨c, hc⟩ := Option.isSome_iff_exists.mp this
      rw [hc]; rfl
    · rw [if_neg ht, if_neg ht]
  · rw [if_neg ha]
    have hn : ∀ p ∈ ks, p.1 ≠ s := fun p hp e => ha (List.any_eq_true.mpr ⟨p, hp, decide_eq_true e⟩)
    unfold look
    rw [List.find?_append]
    by_cases ht : t = s
    · subst ht
      rw [if_pos rfl]
      have : ks.find? (fun p => decide (p.1 = t)) = none := List.find?_eq_none.mpr fun p hp => by simpa using hn p hp
      rw [this]
      simp
    · rw [if_neg ht]
      have : ¬ s = t := fun e => ht e.symm
      cases ks.find? (fun p => decide (p.1 = t)) <;> simp [this]
@[simp ↓] theorem wp_eSetd {QO : Opd → Rho → Prop} {X : Ex → Rho → Prop} {ρ : Rho} (i : Nat) (mk mv : ME) : wp (eSetd i mk mv ρ) QO X = if isDct ρ i = true then wp (mk ρ) (fun k ρ1 => wp (mv ρ1) (fun v ρ2 => wp (match useO ρ2 v with
    | some (d, ρ3) => setdO i k d ρ3
    | none => .fail) QO X) X) X else False := by
  unfold eSetd
  split
  · rw [wp_bind]
    exact wp_ext fun k ρ1 => by rw [wp_bind] <;> rfl
  · rfl
@[simp] theorem shaped_bl (b : Bool) : SeqAt.shaped (.bool b) = true := rfl
@[simp] theorem eqv_bl (a b : Bool) : PyData.eqv (.bool a) (.bool b) = (a == b) := rfl
theorem look_some {ks : Li} {s : Str} {b : Bool} (h : look ks s = some b) : (s, b) ∈ ks := by
  unfold look at h
  obtain ⟨p, hp, he⟩ := Option.map_eq_some_iff.mp h
  have h1 := List.find?_some hp
  have h2 := List.mem_of_find?_eq_some hp
  obtain ⟨k, c⟩ := p
  have : k = s := of_decide_eq_true h1
  subst this
  cases he
  exact h2
theorem nodup_val : ∀ {ks : Li} {s : Str} {b c : Bool}, (ks.map (·.1)).Nodup → (s, b) ∈ ks → (s, c) ∈ ks → b = c
  | [], _, _, _, _, h, _ => by cases h
  | (k, d) :: ks, s, b, c, nd, h1, h2 => by
    rw [List.map_cons, List.nodup_cons] at nd
    rcases List.mem_cons.mp h1 with e1 | h1
    · rcases List.mem_cons.mp h2 with e2 | h2
      · cases e1; cases e2; rfl
      · cases e1; exact absurd (List.mem_map_of_mem (f := (·.1)) h2) nd.1
    · rcases List.mem_cons.mp h2 with e2 | h2
      · cases e2; exact absurd (List.mem_map_of_mem (f := (·.1)) h1) nd.1
      · exact nodup_val nd.2 h1 h2
theorem putB_same {ks : Li} {s : Str} {b : Bool} (nd : (ks.map (·.1)).Nodup) (h : look ks s = some b) : putB ks s b = ks := by
  have hm := look_some h
  unfold putB
  rw [if_pos (List.any_eq_true.mpr ⟨_, hm, decide_eq_true rfl⟩)]
  have : ks.map (fun p => if p.1 = s then (p.1, b) else p) = ks.map id := List.map_congr_left fun p hp => by
    obtain ⟨k, c⟩ := p
    by_cases hk : k = s
    · subst hk
      rw [if_pos rfl, nodup_val nd hm hp]
      rfl
    · rw [if_neg hk]; rfl
  rw [this, List.map_id]
end Dl

set_option maxRecDepth 100000
set_option maxHeartbeats 4000000
namespace Dl
open PySem PySem.Spec L2
set_option autoImplicit false
/-! ### what is never reached -/
def sNo : MS := fun _ => .fail
theorem ds_never {X : Cx} {W : WX} {st : Stmt} : DS X W st sNo := ⟨_, ps_never, fun F σ H ρ Z R h => h⟩
/-! ### zip of two tuples -/
def zipDs (xs ys : List D) : List D := (xs.zip ys).map fun p => .tuple [p.1, p.2]
theorem good_zip {K : PySem.W.Frag} {F1 : Hp} {a b : Addr} {us vs : List V} {ds es : List D} (h : F1 a = some (.tup us)) (r : RpA K F1 us ds) (h' : F1 b = some (.tup vs)) (r' : RpA K F1 vs es) : Good K (RZ.ItzT K a b) F1 (fun _ _ => True) (zipDs ds es) where
  go := fun i F H e s _ hi => by
    have hi : i < ds.length ∧ i < es.length := by unfold zipDs at hi; rw [List.length_map, List.length_zip] at hi; omega
    have hl : i < us.length := by rw [r.length]; exact hi.1
    have hl' : i < vs.length := by rw [r'.length]; exact hi.2
    have q : SqT K H a us := SqT.of (s.tup (e _ _ h))
    have q' : SqT K H b vs := SqT.of (s.tup (e _ _ h'))
    refine ⟨⟨us, vs, us[i], vs[i], q, q', List.getElem?_eq_getElem hl, List.getElem?_eq_getElem hl'⟩, fun x H' y => ?_⟩
    obtain ⟨T, x1, y1, ex, hT, eH, hx, hy⟩ := y
    subst ex eH
    obtain ⟨d, h1, h2⟩ := (r.mono e).getv (hx us q)
    obtain ⟨d', h1', h2'⟩ := (r'.mono e).getv (hy vs q')
    obtain ⟨f, _, g⟩ := upd_fresh (K := K) s hT (o := .tup [x1, y1]) trivial
    refine ⟨_, .tuple [d, d'], ?_, g, .tup upd_same (.cons (h2.mono g.ext) (.cons (h2'.mono g.ext) .nil))⟩
    unfold zipDs
    rw [List.getElem?_map, List.getElem?_zip_eq_some (z := (d, d')) |>.mpr ⟨h1, h1'⟩]
    rfl
  stop := fun i F H e s _ hi => by
    unfold zipDs at hi; rw [List.length_map, List.length_zip] at hi
    refine ⟨us, vs, SqT.of (s.tup (e _ _ h)), SqT.of (s.tup (e _ _ h')), ?_⟩
    rw [r.length, r'.length]
    omega
def srcZ (os : List Opd) (ρ : Rho) : Rs Src := match derefs ρ os with
  | some [.tuple ds, .tuple es] => .ok ⟨zipDs ds es, none⟩ ρ
  | _ => .fail
def iZipM (a : MA) : MI := fun ρ => (a ρ).bind srcZ
theorem di_zip {X : Cx} {W : WX} {a b : Expr} {m : MA} {p pos tpos : Pos} {elts : List Expr} {kk : Nat} (hg : Gl X "zip") (hm : X.mg "zip" = none) (ha : DA X W [a, b] m) (hs : starEach [a, b] X.env = (false, eval a X.env) :: starEach [b] X.env := by rfl) (hpl : (backTo pos (starEach [b] X.env)).any (·.1) = false := by rfl) :
    DI X W (.Tuple elts kk tpos) (.Call (.Name "zip" p) [a, b] [] pos) (iZipM m) := by
  obtain ⟨t, pa, q⟩ := ha
  refine ⟨_, RZ.pi_zipA hg hm pa hs hpl, fun F σ H ρ Z R h => q F σ H ρ _ R (AI h fun os ρ1 vs F1 H1 s1 R1 ro ns hp => ?_)⟩
  unfold srcZ at hp
  cases e : derefs ρ1 os with
  | none => rw [e] at hp; exact False.elim hp
  | some ds =>
    rw [e] at hp
    have ct := derefs_ct R1 ro.all e
    match ds, hp, ct with
    | [.tuple xs, .tuple ys], hp, ct =>
      dsimp only at hp
      cases ct with
      | cons c1 r => cases r with
        | cons c2 r =>
          cases r
          obtain ⟨a1, us, e1, f1, r1⟩ := c1.tuple.tuple
          obtain ⟨a2, us2, e2, f2, r2⟩ := c2.tuple.tuple
          subst e1 e2
          exact ⟨a1, a2, us, us2, rfl, .inr ⟨SqT.of (R1.sub.tup f1), SqT.of (R1.sub.tup f2), hp _ F1 H1 s1 R1 (good_zip f1 r1 f2 r2) (fun _ _ z => nomatch z)⟩⟩
/-! ### text.split(sign) -/
def eSplit (a b : ME) : ME := fun ρ => (a ρ).bind fun x ρ1 => match deref ρ1 x with
  | some (.str s) => (b ρ1).bind fun y ρ2 => (match deref ρ2 y with
    | some (.str t) => if (t.length == 0) = false ∧ s.length + 2 ≤ 16777216 then .ok (.new (.list ((Txt.split s t).map .str))) ρ2 else .fail
    | _ => .fail)
  | _ => .fail
theorem de_split {X : Cx} {W : WX} {pos apos : Pos} {o e : Expr} {mo me : ME} (ho : DE X W o mo) (he : DE X W e me) (hs : starEach [e] X.env = [(false, eval e X.env)] := by rfl) (hbase : attributeBase o "split" X.env (eval o X.env) = eval o X.env := by rfl) (hline : (apos.endLine == pos.line) = true := by rfl) :
    DE X W (.Call (.Attribute o "split" apos) [e] [] pos) (eSplit mo me) := by
  obtain ⟨t, p, q⟩ := ho
  obtain ⟨u, p2, q2⟩ := he
  refine ⟨_, pe_split p p2 hs hbase hline, fun F σ H ρ Q R h => ?_⟩
  refine q F σ H ρ _ R ?_
  refine bindEE h fun oo ρ1 v F1 H1 s1 R1 ro ns h1 => ?_
  cases ed : deref ρ1 oo with
  | none => rw [ed] at h1; exact False.elim h1
  | some d =>
    rw [ed] at h1
    cases d <;> try exact False.elim h1
    rename_i a
    dsimp only at h1
    cases (ro.ct R1 ed).str
    refine ⟨⟨_, rfl⟩, q2 F1 σ H1 ρ1 _ R1 ?_⟩
    refine bindEE h1 fun o2 ρ2 w F2 H2 s2 R2 ro2 ns2 h2 => ?_
    cases ed2 : deref ρ2 o2 with
    | none => rw [ed2] at h2; exact False.elim h2
    | some d =>
      rw [ed2] at h2
      cases d <;> try exact False.elim h2
      rename_i b
      dsimp only at h2
      cases (ro2.ct R2 ed2).str
      split at h2
      · rename_i hz
        refine ⟨a, b, rfl, rfl, hz.1, by rw [sizeLine_eq]; exact hz.2, ?_⟩
        exact newL R2.sub (strs_rp (Txt.split a b)) fun u F' H' g rn => by
          obtain ⟨z1, z2⟩ := rn.ro R2
          exact h2 u F' H' g.step (g.rel R2) z1 z2
      · exact False.elim h2
end Dl

set_option maxRecDepth 100000
set_option maxHeartbeats 4000000
namespace Dl
open PySem PySem.Spec L2
set_option autoImplicit false
/-! ### values as plain Lean: f lays x as a tree of depth n at most -/
structure Enc {α : Type} [DecidableEq α] (f : α → D) (P : α → Prop) (n : Nat) : Prop where
  eq : ∀ x y, PyData.eqv (f x) (f y) = decide (x = y)
  can : ∀ x, P x → PyData.canLay0 (f x) = true
  dep : ∀ x, (f x).depth ≤ n
theorem enc_str : Enc PyData.str Nm 0 := ⟨fun x y => by show (x == y) = _; by_cases h : x = y <;> simp [h], fun x h => strOk_of h.ok, fun x => Nat.le_of_eq rfl⟩
theorem enc_bool : Enc PyData.bool (fun _ => True) 0 := ⟨fun x y => by cases x <;> cases y <;> rfl, fun x h => rfl, fun x => Nat.le_of_eq rfl⟩
theorem enc_li : Enc liD (fun p => Nm p.1) 1 := ⟨fun x y => by
  obtain ⟨a, b⟩ := x
  obtain ⟨c, d⟩ := y
  show (PyData.eqv (.str a) (.str c) && (PyData.eqv (.bool b) (.bool d) && true)) = _
  by_cases h : a = c
  · subst h
    cases b <;> cases d <;> simp
  · simp [h], fun x h => by
  obtain ⟨a, b⟩ := x
  show (PyData.canLay0 (.str a) && (PyData.canLay0 (.bool b) && true)) = true
  rw [strOk_of h.ok]
  rfl, fun x => Nat.le_of_eq rfl⟩
section
variable {α : Type} [DecidableEq α] {f : α → D} {P : α → Prop} {n : Nat}
theorem Enc.eqAll (E : Enc f P n) : ∀ (a b : List α), PyData.eqvAll (a.map f) (b.map f) = decide (a = b)
  | [], [] => by simp [PyData.eqvAll]
  | [], _ :: _ => by simp [PyData.eqvAll]
  | _ :: _, [] => by simp [PyData.eqvAll]
  | x :: a, y :: b => by
    rw [List.map_cons, List.map_cons]
    show (PyData.eqv (f x) (f y) && PyData.eqvAll (a.map f) (b.map f)) = _
    rw [E.eqAll a b, E.eq]
    by_cases h : x = y
    · subst h; by_cases h2 : a = b <;> simp [h2]
    · simp [h]
theorem Enc.canAll (E : Enc f P n) : ∀ {xs : List α}, (∀ x ∈ xs, P x) → PyData.canLayAll0 (xs.map f) = true
  | [], _ => rfl
  | x :: xs, h => by
    show (PyData.canLay0 (f x) && PyData.canLayAll0 (xs.map f)) = true
    rw [E.can x (h x List.mem_cons_self), E.canAll fun t ht => h t (List.mem_cons_of_mem _ ht)]
    rfl
theorem Enc.depAll (E : Enc f P n) : ∀ xs : List α, PyData.depthAll (xs.map f) ≤ n
  | [] => by simp [PyData.depthAll]
  | x :: xs => by
    rw [List.map_cons, PyData.depthAll]
    have := E.depAll xs
    have := E.dep x
    omega
theorem enc_list (E : Enc f P n) : Enc (fun xs : List α => .list (xs.map f)) (fun xs => ∀ x ∈ xs, P x) (n + 1) := ⟨fun x y => E.eqAll x y, fun x h => E.canAll h, fun x => by
  show PyData.depth (.list (x.map f)) ≤ _
  rw [PyData.depth]
  have := E.depAll x
  omega⟩
theorem enc_tup (E : Enc f P n) : Enc (fun xs : List α => .tuple (xs.map f)) (fun xs => ∀ x ∈ xs, P x) (n + 1) := ⟨fun x y => E.eqAll x y, fun x h => E.canAll h, fun x => by
  show PyData.depth (.tuple (x.map f)) ≤ _
  rw [PyData.depth]
  have := E.depAll x
  omega⟩
theorem Enc.shaped (E : Enc f P n) (hn : n ≤ 63) {x : α} (h : P x) : SeqAt.shaped (f x) = true := by
  unfold SeqAt.shaped
  rw [E.can x h]
  have := E.dep x
  simp
  omega
theorem Enc.pyEq (E : Enc f P n) (hn : n ≤ 63) {x y : α} (hx : P x) (hy : P y) : pyEq (f x) (f y) = some (.val (.bool (decide (x = y)))) := by
  unfold Dl.pyEq
  rw [E.shaped hn hx, E.shaped hn hy, E.eq]
  rfl
theorem Enc.pyNe (E : Enc f P n) (hn : n ≤ 63) {x y : α} (hx : P x) (hy : P y) : pyNe (f x) (f y) = some (.val (.bool (!decide (x = y)))) := by
  unfold Dl.pyNe
  rw [E.shaped hn hx, E.shaped hn hy, E.eq]
  rfl
theorem Enc.any (E : Enc f P n) (x : α) : ∀ xs : List α, (xs.map f).any (fun z => PyData.eqv z (f x)) = decide (x ∈ xs)
  | [] => by simp
  | t :: xs => by
    rw [List.map_cons, List.any_cons, E.any x xs, E.eq]
    by_cases h : t = x
    · subst h; simp
    · have : ¬ x = t := fun e => h e.symm
      simp [h, this]
theorem Enc.hasL (E : Enc f P n) (hn : n ≤ 62) {x : α} {xs : List α} (h : P x) (hx : ∀ x ∈ xs, P x) : hasD (f x) (.list (xs.map f)) = some (decide (x ∈ xs)) := by
  unfold hasD
  dsimp only
  rw [(enc_list E).shaped (x := xs) (by omega) hx, E.shaped (by omega) h]
  simp only [Bool.and_self, if_true, E.any]
theorem Enc.hasT (E : Enc f P n) (hn : n ≤ 62) {x : α} {xs : List α} (h : P x) (hx : ∀ x ∈ xs, P x) : hasD (f x) (.tuple (xs.map f)) = some (decide (x ∈ xs)) := by
  unfold hasD
  dsimp only
  rw [(enc_list E).shaped (x := xs) (by omega) hx, E.shaped (by omega) h]
  simp only [Bool.and_self, if_true, E.any]
end
/-! ### places of a list of laid things -/
theorem at_enc {α : Type} {f : α → D} {xs : List α} {i : Int} {x : α} (h0 : 0 ≤ i) (h : xs[i.toNat]? = some x) : pyAt (.list (xs.map f)) (.int i) = some (.val (f x)) := by
  have hl := (List.getElem?_eq_some_iff.mp h).1
  rw [pyAt_list]
  unfold atI ixN
  rw [if_pos h0, if_pos (by rw [List.length_map]; omega), Option.map_eq_some_iff]
  exact ⟨_, by show (xs.map f)[i.toNat]? = _; rw [List.getElem?_map, h]; rfl, rfl⟩
theorem at_encT {α : Type} {f : α → D} {xs : List α} {i : Int} {x : α} (h0 : 0 ≤ i) (h : xs[i.toNat]? = some x) : pyAt (.tuple (xs.map f)) (.int i) = some (.val (f x)) := by
  have hl := (List.getElem?_eq_some_iff.mp h).1
  rw [pyAt_tuple]
  unfold atI ixN
  rw [if_pos h0, if_pos (by rw [List.length_map]; omega), Option.map_eq_some_iff]
  exact ⟨_, by show (xs.map f)[i.toNat]? = _; rw [List.getElem?_map, h]; rfl, rfl⟩
/-! ### the order of names -/
theorem strLe_lt {a b : Str} (h : strLe a b = true) (n : a ≠ b) : a.cps.toList < b.cps.toList := by
  unfold strLe at h
  simp only [Bool.not_eq_true', decide_eq_false_iff_not] at h
  have : strLe b a ≠ true := fun z => n (strLe_anti (by unfold strLe; simpa using h) z)
  unfold strLe at this
  simp only [ne_eq, Bool.not_eq_true', decide_eq_false_iff_not, Classical.not_not] at this
  exact this
theorem sortStr_pw (ss : List Str) : (sortStr ss).Pairwise fun a b => strLe a b = true := List.pairwise_mergeSort strLe_trans strLe_total ss
theorem sortStr_lt {ss : List Str} (h : ss.Nodup) : (sortStr ss).Pairwise fun a b => a.cps.toList < b.cps.toList :=
  ((sortStr_pw ss).and (sort_nodup h)).imp fun ⟨a, b⟩ => strLe_lt a b
end Dl

set_option maxRecDepth 100000
set_option maxHeartbeats 4000000
namespace Dl
open PySem PySem.Spec L2
set_option autoImplicit false
def mClauseOf : ME := fnSem 1 4
     (sSeq (sSet 1 (fun ρ => .ok (.new (.dict [])) ρ))
     (sSeq (lkd 0 (sFor (iSeq (eVar 0)) (gT 2 (gsCons (gN 2) (gsCons (gN 3) gsNil)))
     (sIf (tVal (eOp2 pyNe (eSetd 1 (eVar 2) (eVar 3)) (eVar 3)))
     (sRet (eC .none))
     sNil)))
     (sRet (eBlt fTuple (aCons (eComp [2] (iLst (eBlt fSorted (aCons (eVar 1) aNil))) (gN 2) tTrue (eUse mkTup (aCons (eVar 2) (aCons (eOp2 pyAt (eVar 1) (eVar 2)) aNil)))) aNil)))))
def mLawIsClause : ME := fnSem 1 3
     (sSeq (sIf (tNotM (tVal (eOp1 (isD "tuple") (eVar 0))))
     (sRet (eC (.bool false)))
     sNil)
     (sSeq (lkd 0 (sFor (iSeq (eVar 0)) (gN 1)
     (sIf (tOrM (tNotM (tVal (eOp1 (isD "tuple") (eVar 1)))) (tOrM (tVal (eOp2 pyNe (eBlt fLen (aCons (eVar 1) aNil)) (eC (.int 2)))) (tOrM (tNotM (tVal (eOp1 (isD "str") (eOp2 pyAt (eVar 1) (eC (.int 0)))))) (tNotM (tVal (eOp1 (isD "bool") (eOp2 pyAt (eVar 1) (eC (.int 1)))))))))
     (sRet (eC (.bool false)))
     sNil)))
     (sRet (eBlt fAll (aCons (eComp [2] (iRng (aCons (eOp2 pySub (eBlt fLen (aCons (eVar 0) aNil)) (eC (.int 1))) aNil)) (gN 2) tTrue (eOp2 pyLt (eOp2 pyAt (eOp2 pyAt (eVar 0) (eVar 2)) (eC (.int 0))) (eOp2 pyAt (eOp2 pyAt (eVar 0) (eOp2 pyAdd (eVar 2) (eC (.int 1)))) (eC (.int 0))))) aNil)))))
def mLawClause : ME := fnSem 2 5
     (sSeq (sSet 2 (eUse mkLst aNil))
     (sSeq (sFor (iLst (eBlt fSorted (aCons (eVar 1) aNil))) (gN 3)
     (sSeq (sSet 4 (eCall 2 [true, true] mDraw (aCons (eVar 0) (aCons (eC (.int 3)) aNil))))
     (sIf (tVal (eOp2 pyLt (eVar 4) (eC (.int 2))))
     (sExp (eMut 2 mAppend (aCons (eUse mkTup (aCons (eVar 3) (aCons (eOp2 pyEq (eVar 4) (eC (.int 1))) aNil))) aNil)))
     sNil)))
     (sRet (eBlt fTuple (aCons (eVar 2) aNil)))))
def mLawToldClause : ME := fnSem 2 2
     (sRet (eAnd (eCall 1 [true] mLawIsClause (aCons (eVar 0) aNil)) (eOp2 pyEq (eVar 0) (eVar 1))))
def mLeftOf : ME := fnSem 2 5
     (sSeq (sSet 2 (eUse mkLst aNil))
     (sSeq (lkd 0 (sFor (iSeq (eVar 0)) (gT 2 (gsCons (gN 3) (gsCons (gN 4) gsNil)))
     (sIf (tVal (eOp2 (orf pyNotIn pyNotInK) (eVar 3) (eVar 1)))
     (sExp (eMut 2 mAppend (aCons (eUse mkTup (aCons (eVar 3) (aCons (eVar 4) aNil))) aNil)))
     (sIf (tVal (eOp2 pyEq (eOp2 pyAt (eVar 1) (eVar 3)) (eVar 4)))
     (sRet (eC .none))
     sNil))))
     (sRet (eBlt fTuple (aCons (eVar 2) aNil)))))
theorem cut_map {α β : Type} (f : α → β) (xs : List α) (lo hi : Option Int) : cutD (xs.map f) lo hi = (cutD xs lo hi).map f := by
  unfold cutD
  rw [List.length_map, List.map_take, List.map_drop]
theorem cut_mem {α : Type} {xs : List α} {lo hi : Option Int} {x : α} (h : x ∈ cutD xs lo hi) : x ∈ xs := by
  unfold cutD at h
  exact List.mem_of_mem_drop (List.mem_of_mem_take h)
theorem cut_le {α : Type} (xs : List α) (lo hi : Option Int) : (cutD xs lo hi).length ≤ xs.length := by
  unfold cutD
  rw [List.length_take, List.length_drop]
  omega
def step (ks : Li) (p : Str × Bool) : Option Li := match look ks p.1 with
  | some b => if b = p.2 then some ks else none
  | none => some (ks ++ [p])
def runS : Li → Li → Option Li
  | ks, [] => some ks
  | ks, p :: ps => (step ks p).bind fun ks => runS ks ps
theorem clause_loop {t0 : Slot} {QF : Flow → Rho → Prop} {X : Ex → Rho → Prop} : ∀ (lits ks : Li) (s2 s3 : Slot), free [s2] 0 = true → free [s3] 0 = true → ks.length + lits.length < 1000 →
    (match runS ks lits with
      | some ks' => ∀ s2 s3, QF .nx [t0, .own (.dict (tr ks')), s2, s3]
      | none => ∀ d s2 s3, QF (.rt (.val .none)) [t0, .own d, s2, s3]) →
    wp (sLoop (gT 2 (gsCons (gN 2) (gsCons (gN 3) gsNil))) (sIf (tVal (eOp2 pyNe (eSetd 1 (eVar 2) (eVar 3)) (eVar 3))) (sRet (eC PyData.none)) sNil) (lits.map liD) [t0, .own (.dict (tr ks)), s2, s3]) QF X
  | [], ks, s2, s3, _, _, _, h => h s2 s3
  | (n, b) :: lits, ks, s2, s3, f2, f3, hl, h => by
    simp only [free, List.getElem?_cons_zero] at f2 f3
    have hk : (tr ks).length < 16777216 := by rw [tr_len]; omega
    rw [List.map_cons]
    unfold liD
    simp only [List.length_cons] at hl
    unfold runS step at h
    cases e : look ks n with
    | none =>
      rw [e] at h
      have hd := dlook_tr n ks
      rw [e] at hd
      have hp := dput_tr ks n b
      have hq : putB ks n b = ks ++ [(n, b)] := by
        unfold putB
        rw [if_neg]
        intro ha
        obtain ⟨p, hp, he⟩ := List.any_eq_true.mp ha
        unfold look at e
        rw [Option.map_eq_none_iff, List.find?_eq_none] at e
        exact e p hp he
      rw [hq] at hp
      simp -dsimp -implicitDefEqProofs [Dl.vI, Dl.vB, Dl.vS, Dl.run2, Dl.run1, Dl.deref, Dl.Slot.data?, Dl.useO, Dl.useAll, Dl.boolOf, Dl.putO, Dl.free, Dl.outO, Dl.withAll, Dl.runN, Dl.derefs, Dl.mutO, Dl.isLst, Dl.isDct, Dl.putI, Dl.putD, Dl.setI, Dl.augO, Dl.getI, Dl.slotOf, Dl.slotsOf, Dl.lents, Dl.takeB, Dl.backS, Dl.useSel, Dl.back, Dl.gd, Dl.pyIx, atI, ixN, Dl.pyGet, Dl.pyMul, Dl.pyAdd, Dl.pyEq, Dl.pyNe, Dl.mulOk, Dl.powOk, Dl.pySlice, Dl.fLen, Dl.fList, Dl.fTuple, Dl.mAppend, Dl.mReverse, Dl.mClear, Dl.mExtend, Dl.mInsert, Dl.mkTup, Dl.mkLst, Dl.pyIsN, Dl.pyNotN, Dl.fNeg, Dl.pyRev, Dl.gN, Dl.gsNil, Dl.gsCons, Dl.gT, Dl.srcL, Dl.srcT, Dl.srcS, Dl.srcQ, Dl.srcR1, Dl.srcR2, Dl.hide, Dl.restore, sizeLine_eq, Dl.lockS, f2, f3, hk, hd, hp, setdO, Dl.keyOf]
      exact clause_loop lits (ks ++ [(n, b)]) _ _ rfl rfl (by rw [List.length_append]; simp; omega) h
    | some c =>
      rw [e] at h
      have hd := dlook_tr n ks
      rw [e] at hd
      by_cases hc : c = b
      · subst hc
        simp only [if_true] at h
        simp -dsimp -implicitDefEqProofs [Dl.vI, Dl.vB, Dl.vS, Dl.run2, Dl.run1, Dl.deref, Dl.Slot.data?, Dl.useO, Dl.useAll, Dl.boolOf, Dl.putO, Dl.free, Dl.outO, Dl.withAll, Dl.runN, Dl.derefs, Dl.mutO, Dl.isLst, Dl.isDct, Dl.putI, Dl.putD, Dl.setI, Dl.augO, Dl.getI, Dl.slotOf, Dl.slotsOf, Dl.lents, Dl.takeB, Dl.backS, Dl.useSel, Dl.back, Dl.gd, Dl.pyIx, atI, ixN, Dl.pyGet, Dl.pyMul, Dl.pyAdd, Dl.pyEq, Dl.pyNe, Dl.mulOk, Dl.powOk, Dl.pySlice, Dl.fLen, Dl.fList, Dl.fTuple, Dl.mAppend, Dl.mReverse, Dl.mClear, Dl.mExtend, Dl.mInsert, Dl.mkTup, Dl.mkLst, Dl.pyIsN, Dl.pyNotN, Dl.fNeg, Dl.pyRev, Dl.gN, Dl.gsNil, Dl.gsCons, Dl.gT, Dl.srcL, Dl.srcT, Dl.srcS, Dl.srcQ, Dl.srcR1, Dl.srcR2, Dl.hide, Dl.restore, sizeLine_eq, Dl.lockS, f2, f3, hk, hd, setdO, Dl.keyOf]
        exact clause_loop lits ks _ _ rfl rfl (by omega) h
      · simp only [hc, if_false, Option.bind_none] at h
        simp -dsimp -implicitDefEqProofs [Dl.vI, Dl.vB, Dl.vS, Dl.run2, Dl.run1, Dl.deref, Dl.Slot.data?, Dl.useO, Dl.useAll, Dl.boolOf, Dl.putO, Dl.free, Dl.outO, Dl.withAll, Dl.runN, Dl.derefs, Dl.mutO, Dl.isLst, Dl.isDct, Dl.putI, Dl.putD, Dl.setI, Dl.augO, Dl.getI, Dl.slotOf, Dl.slotsOf, Dl.lents, Dl.takeB, Dl.backS, Dl.useSel, Dl.back, Dl.gd, Dl.pyIx, atI, ixN, Dl.pyGet, Dl.pyMul, Dl.pyAdd, Dl.pyEq, Dl.pyNe, Dl.mulOk, Dl.powOk, Dl.pySlice, Dl.fLen, Dl.fList, Dl.fTuple, Dl.mAppend, Dl.mReverse, Dl.mClear, Dl.mExtend, Dl.mInsert, Dl.mkTup, Dl.mkLst, Dl.pyIsN, Dl.pyNotN, Dl.fNeg, Dl.pyRev, Dl.gN, Dl.gsNil, Dl.gsCons, Dl.gT, Dl.srcL, Dl.srcT, Dl.srcS, Dl.srcQ, Dl.srcR1, Dl.srcR2, Dl.hide, Dl.restore, sizeLine_eq, Dl.lockS, f2, f3, hk, hd, setdO, Dl.keyOf, hc]
        exact h _ _ _
/-- names in order, each with its truth -/
def canonL (ks : Li) : Li := (sortStr (ks.map (·.1))).map fun s => (s, (look ks s).getD false)
theorem tail_comp {t0 : Slot} {ks : Li} {s2 s3 : Slot} {QO : Opd → Rho → Prop} {X : Ex → Rho → Prop} (hl : ks.length < 64)
    (h : QO (.new (.list ((canonL ks).map liD))) [t0, .own (.dict (tr ks)), s2, s3]) :
    wp (compL [2] (gN 2) tTrue (eUse mkTup (aCons (eVar 2) (aCons (eOp2 pyAt (eVar 1) (eVar 2)) aNil))) ((sortStr (ks.map (·.1))).map .str) [] [t0, .own (.dict (tr ks)), s2, s3]) QO X := by
  obtain ⟨I, eI⟩ : ∃ I : Nat → List D → Rho → Prop, I = fun i out ρ => out = ((canonL ks).take i).map liD ∧ ρ = [t0, .own (.dict (tr ks)), s2, s3] := ⟨_, rfl⟩
  refine wp_cmp I (by rw [eI]; exact ⟨rfl, rfl⟩) (fun i d out ρ hd hI => ?_) fun out ρ hI => ?_
  · rw [eI] at hI
    obtain ⟨rfl, rfl⟩ := hI
    rw [List.getElem?_map, Option.map_eq_some_iff] at hd
    obtain ⟨s, hs, rfl⟩ := hd
    have hm : s ∈ ks.map (·.1) := sort_mem.mp (List.mem_of_getElem? hs)
    obtain ⟨b, hb⟩ : ∃ b, look ks s = some b := by
      obtain ⟨p, hp, he⟩ := List.mem_map.mp hm
      have : (look ks s).isSome := by
        unfold look
        rw [Option.isSome_map, List.find?_isSome]
        exact ⟨p, hp, decide_eq_true he⟩
      exact Option.isSome_iff_exists.mp this
    have hat : pyAt (.dict (tr ks)) (.str s) = some (.val (.bool b)) := by
      rw [pyAt_dict]
      unfold pyGet
      dsimp only [Dl.keyOf]
      rw [dlook_tr, hb]
      rfl
    refine ⟨[t0, .own (.dict (tr ks)), .dat (.str s), s3], rfl, ?_⟩
    have hlen : ((canonL ks).take i).length < 16777216 := by
      rw [List.length_take]
      have : (canonL ks).length = ks.length := by unfold canonL; rw [List.length_map, sort_len, List.length_map]
      omega
    simp -dsimp -implicitDefEqProofs [Dl.vI, Dl.vB, Dl.vS, Dl.run2, Dl.run1, Dl.deref, Dl.Slot.data?, Dl.useO, Dl.useAll, Dl.boolOf, Dl.putO, Dl.free, Dl.outO, Dl.withAll, Dl.runN, Dl.derefs, Dl.mutO, Dl.isLst, Dl.isDct, Dl.putI, Dl.putD, Dl.setI, Dl.augO, Dl.getI, Dl.slotOf, Dl.slotsOf, Dl.lents, Dl.takeB, Dl.backS, Dl.useSel, Dl.back, Dl.gd, Dl.pyIx, atI, ixN, Dl.pyGet, Dl.pyMul, Dl.pyAdd, Dl.pyEq, Dl.pyNe, Dl.mulOk, Dl.powOk, Dl.pySlice, Dl.fLen, Dl.fList, Dl.fTuple, Dl.mAppend, Dl.mReverse, Dl.mClear, Dl.mExtend, Dl.mInsert, Dl.mkTup, Dl.mkLst, Dl.pyIsN, Dl.pyNotN, Dl.fNeg, Dl.pyRev, Dl.gN, Dl.gsNil, Dl.gsCons, Dl.gT, Dl.srcL, Dl.srcT, Dl.srcS, Dl.srcQ, Dl.srcR1, Dl.srcR2, Dl.hide, Dl.restore, sizeLine_eq, Dl.lockS, hat]
    refine ⟨_, _, ⟨rfl, rfl⟩, by simpa using hlen, ?_⟩
    rw [eI]
    refine ⟨?_, rfl⟩
    have hg : (canonL ks)[i]? = some (s, b) := by
      unfold canonL
      rw [List.getElem?_map, hs]
      simp [hb]
    rw [List.take_add_one, hg, List.map_append, List.map_take]
    rfl
  · rw [eI] at hI
    obtain ⟨rfl, rfl⟩ := hI
    have : ((canonL ks).take ((sortStr (ks.map (·.1))).map PyData.str).length) = canonL ks := by
      rw [List.length_map]
      exact List.take_of_length_le (by unfold canonL; rw [List.length_map]; exact Nat.le_refl _)
    rw [this]
    exact h
def toldL : Option Li → D
  | some ks => .tuple ((canonL ks).map liD)
  | none => .none
theorem runS_len : ∀ (lits ks ks' : Li), runS ks lits = some ks' → ks'.length ≤ ks.length + lits.length
  | [], ks, ks', h => by cases h; simp
  | p :: lits, ks, ks', h => by
    unfold runS at h
    cases e : step ks p with
    | none => rw [e] at h; cases h
    | some k1 =>
      rw [e] at h
      have ih := runS_len lits k1 ks' h
      have : k1.length ≤ ks.length + 1 := by
        unfold step at e
        split at e
        · split at e
          · cases e; omega
          · cases e
        · cases e; simp
      simp only [List.length_cons]
      omega
theorem sorted_tr {ks : Li} (h : ks.length < 64) : fSorted [.dict (tr ks)] = some (.new (.list ((sortStr (ks.map (·.1))).map .str))) := by
  unfold fSorted
  dsimp only
  rw [tr_len, if_pos h]
  unfold tr
  rw [List.map_map]
  rw [show ((fun x : D × D => x.1) ∘ fun p : Str × Bool => (PyData.str p.1, PyData.bool p.2)) = PyData.str ∘ (fun p : Str × Bool => p.1) from rfl, ← List.map_map, sortDs_str (by rw [List.length_map]; exact h)]
  rfl
theorem clause_of_par {lits : Li} (hl : lits.length < 64) {Q : Opd → Rho → Prop} {X : Ex → Rho → Prop} (h : Q (.val (toldL (runS [] lits))) [.par (.list (lits.map liD))]) : wp (mClauseOf [.par (.list (lits.map liD))]) Q X := by
  unfold mClauseOf
  simp -dsimp -implicitDefEqProofs [Dl.vI, Dl.vB, Dl.vS, Dl.run2, Dl.run1, Dl.deref, Dl.Slot.data?, Dl.useO, Dl.useAll, Dl.boolOf, Dl.putO, Dl.free, Dl.outO, Dl.withAll, Dl.runN, Dl.derefs, Dl.mutO, Dl.isLst, Dl.isDct, Dl.putI, Dl.putD, Dl.setI, Dl.augO, Dl.getI, Dl.slotOf, Dl.slotsOf, Dl.lents, Dl.takeB, Dl.backS, Dl.useSel, Dl.back, Dl.gd, Dl.pyIx, atI, ixN, Dl.pyGet, Dl.pyMul, Dl.pyAdd, Dl.pyEq, Dl.pyNe, Dl.mulOk, Dl.powOk, Dl.pySlice, Dl.fLen, Dl.fList, Dl.fTuple, Dl.mAppend, Dl.mReverse, Dl.mClear, Dl.mExtend, Dl.mInsert, Dl.mkTup, Dl.mkLst, Dl.pyIsN, Dl.pyNotN, Dl.fNeg, Dl.pyRev, Dl.gN, Dl.gsNil, Dl.gsCons, Dl.gT, Dl.srcL, Dl.srcT, Dl.srcS, Dl.srcQ, Dl.srcR1, Dl.srcR2, Dl.hide, Dl.restore, sizeLine_eq, Dl.lockS]
  refine clause_loop lits [] .un .un rfl rfl (by simp; omega) ?_
  cases e : runS [] lits with
  | none =>
    rw [e] at h
    dsimp only
    intro d s2 s3
    simp -dsimp -implicitDefEqProofs [Dl.vI, Dl.vB, Dl.vS, Dl.run2, Dl.run1, Dl.deref, Dl.Slot.data?, Dl.useO, Dl.useAll, Dl.boolOf, Dl.putO, Dl.free, Dl.outO, Dl.withAll, Dl.runN, Dl.derefs, Dl.mutO, Dl.isLst, Dl.isDct, Dl.putI, Dl.putD, Dl.setI, Dl.augO, Dl.getI, Dl.slotOf, Dl.slotsOf, Dl.lents, Dl.takeB, Dl.backS, Dl.useSel, Dl.back, Dl.gd, Dl.pyIx, atI, ixN, Dl.pyGet, Dl.pyMul, Dl.pyAdd, Dl.pyEq, Dl.pyNe, Dl.mulOk, Dl.powOk, Dl.pySlice, Dl.fLen, Dl.fList, Dl.fTuple, Dl.mAppend, Dl.mReverse, Dl.mClear, Dl.mExtend, Dl.mInsert, Dl.mkTup, Dl.mkLst, Dl.pyIsN, Dl.pyNotN, Dl.fNeg, Dl.pyRev, Dl.gN, Dl.gsNil, Dl.gsCons, Dl.gT, Dl.srcL, Dl.srcT, Dl.srcS, Dl.srcQ, Dl.srcR1, Dl.srcR2, Dl.hide, Dl.restore, sizeLine_eq, Dl.lockS]
    exact h
  | some ks =>
    rw [e] at h
    have hk := runS_len lits [] ks e
    simp only [List.length_nil] at hk
    dsimp only
    intro s2 s3
    have hs := sorted_tr (ks := ks) (by omega)
    simp -dsimp -implicitDefEqProofs [Dl.vI, Dl.vB, Dl.vS, Dl.run2, Dl.run1, Dl.deref, Dl.Slot.data?, Dl.useO, Dl.useAll, Dl.boolOf, Dl.putO, Dl.free, Dl.outO, Dl.withAll, Dl.runN, Dl.derefs, Dl.mutO, Dl.isLst, Dl.isDct, Dl.putI, Dl.putD, Dl.setI, Dl.augO, Dl.getI, Dl.slotOf, Dl.slotsOf, Dl.lents, Dl.takeB, Dl.backS, Dl.useSel, Dl.back, Dl.gd, Dl.pyIx, atI, ixN, Dl.pyGet, Dl.pyMul, Dl.pyAdd, Dl.pyEq, Dl.pyNe, Dl.mulOk, Dl.powOk, Dl.pySlice, Dl.fLen, Dl.fList, Dl.fTuple, Dl.mAppend, Dl.mReverse, Dl.mClear, Dl.mExtend, Dl.mInsert, Dl.mkTup, Dl.mkLst, Dl.pyIsN, Dl.pyNotN, Dl.fNeg, Dl.pyRev, Dl.gN, Dl.gsNil, Dl.gsCons, Dl.gT, Dl.srcL, Dl.srcT, Dl.srcS, Dl.srcQ, Dl.srcR1, Dl.srcR2, Dl.hide, Dl.restore, sizeLine_eq, Dl.lockS, hs]
    refine tail_comp (by omega) ?_
    simp -dsimp -implicitDefEqProofs [Dl.vI, Dl.vB, Dl.vS, Dl.run2, Dl.run1, Dl.deref, Dl.Slot.data?, Dl.useO, Dl.useAll, Dl.boolOf, Dl.putO, Dl.free, Dl.outO, Dl.withAll, Dl.runN, Dl.derefs, Dl.mutO, Dl.isLst, Dl.isDct, Dl.putI, Dl.putD, Dl.setI, Dl.augO, Dl.getI, Dl.slotOf, Dl.slotsOf, Dl.lents, Dl.takeB, Dl.backS, Dl.useSel, Dl.back, Dl.gd, Dl.pyIx, atI, ixN, Dl.pyGet, Dl.pyMul, Dl.pyAdd, Dl.pyEq, Dl.pyNe, Dl.mulOk, Dl.powOk, Dl.pySlice, Dl.fLen, Dl.fList, Dl.fTuple, Dl.mAppend, Dl.mReverse, Dl.mClear, Dl.mExtend, Dl.mInsert, Dl.mkTup, Dl.mkLst, Dl.pyIsN, Dl.pyNotN, Dl.fNeg, Dl.pyRev, Dl.gN, Dl.gsNil, Dl.gsCons, Dl.gT, Dl.srcL, Dl.srcT, Dl.srcS, Dl.srcQ, Dl.srcR1, Dl.srcR2, Dl.hide, Dl.restore, sizeLine_eq, Dl.lockS]
    exact h
def leftS (fs : Li) : Li → Li → Option Li
  | acc, [] => some acc
  | acc, (n, b) :: r => match look fs n with
    | none => leftS fs (acc ++ [(n, b)]) r
    | some c => if c = b then none else leftS fs acc r
theorem in_tr (ks : Li) (n : Str) : orf pyIn pyInK (.str n) (.dict (tr ks)) = some (.val (.bool (look ks n).isSome)) := by
  unfold orf pyIn pyInK hasD hasK
  dsimp only [Dl.keyOf, Option.map]
  rw [dlook_tr]
  cases look ks n <;> rfl
theorem nin_tr (ks : Li) (n : Str) : orf pyNotIn pyNotInK (.str n) (.dict (tr ks)) = some (.val (.bool (!(look ks n).isSome))) := by
  unfold orf pyNotIn pyNotInK hasD hasK
  dsimp only [Dl.keyOf, Option.map]
  rw [dlook_tr]
  cases look ks n <;> rfl
theorem at_tr {ks : Li} {n : Str} {c : Bool} (e : look ks n = some c) : pyAt (.dict (tr ks)) (.str n) = some (.val (.bool c)) := by
  rw [pyAt_dict]
  unfold pyGet
  dsimp only [Dl.keyOf]
  rw [dlook_tr, e]
  rfl
theorem left_loop {c0 : D} {fs : Li} {QF : Flow → Rho → Prop} {X : Ex → Rho → Prop} : ∀ (lits acc : Li) (s3 s4 : Slot), free [s3] 0 = true → free [s4] 0 = true → acc.length + lits.length < 1000 →
    (match leftS fs acc lits with
      | some l => ∀ s3 s4, QF .nx [.dat c0, .par (.dict (tr fs)), .own (.list (l.map liD)), s3, s4]
      | none => ∀ d s3 s4, QF (.rt (.val .none)) [.dat c0, .par (.dict (tr fs)), .own d, s3, s4]) →
    wp (sLoop (gT 2 (gsCons (gN 3) (gsCons (gN 4) gsNil))) (sIf (tVal (eOp2 (orf pyNotIn pyNotInK) (eVar 3) (eVar 1))) (sExp (eMut 2 mAppend (aCons (eUse mkTup (aCons (eVar 3) (aCons (eVar 4) aNil))) aNil))) (sIf (tVal (eOp2 pyEq (eOp2 pyAt (eVar 1) (eVar 3)) (eVar 4))) (sRet (eC .none)) sNil)) (lits.map liD) [.dat c0, .par (.dict (tr fs)), .own (.list (acc.map liD)), s3, s4]) QF X
  | [], acc, s3, s4, _, _, _, h => h s3 s4
  | (n, b) :: lits, acc, s3, s4, f3, f4, hl, h => by
    simp only [free, List.getElem?_cons_zero] at f3 f4
    rw [List.map_cons]
    have e0 : liD (n, b) = .tuple [.str n, .bool b] := rfl
    rw [e0]
    simp only [List.length_cons] at hl
    unfold leftS at h
    have hin := nin_tr fs n
    have hin2 := in_tr fs n
    cases e : look fs n with
    | none =>
      rw [e] at h hin hin2
      simp -dsimp -implicitDefEqProofs [Dl.vI, Dl.vB, Dl.vS, Dl.run2, Dl.run1, Dl.deref, Dl.Slot.data?, Dl.useO, Dl.useAll, Dl.boolOf, Dl.putO, Dl.free, Dl.outO, Dl.withAll, Dl.runN, Dl.derefs, Dl.mutO, Dl.isLst, Dl.isDct, Dl.putI, Dl.putD, Dl.setI, Dl.augO, Dl.getI, Dl.slotOf, Dl.slotsOf, Dl.lents, Dl.takeB, Dl.backS, Dl.useSel, Dl.back, Dl.gd, Dl.pyIx, atI, ixN, Dl.pyGet, Dl.pyMul, Dl.pyAdd, Dl.pyEq, Dl.pyNe, Dl.mulOk, Dl.powOk, Dl.pySlice, Dl.fLen, Dl.fList, Dl.fTuple, Dl.mAppend, Dl.mReverse, Dl.mClear, Dl.mExtend, Dl.mInsert, Dl.mkTup, Dl.mkLst, Dl.pyIsN, Dl.pyNotN, Dl.fNeg, Dl.pyRev, Dl.gN, Dl.gsNil, Dl.gsCons, Dl.gT, Dl.srcL, Dl.srcT, Dl.srcS, Dl.srcQ, Dl.srcR1, Dl.srcR2, Dl.hide, Dl.restore, sizeLine_eq, Dl.lockS, f3, f4, hin, hin2, show acc.length < 16777216 by omega]
      have := left_loop (X := X) lits (acc ++ [(n, b)]) (.dat (.str n)) (.dat (.bool b)) rfl rfl (by rw [List.length_append]; simp; omega) h
      rw [List.map_append] at this
      exact this
    | some c =>
      rw [e] at h hin hin2
      have hat := at_tr e
      by_cases hc : c = b
      · subst hc
        simp only [if_true] at h
        simp -dsimp -implicitDefEqProofs [Dl.vI, Dl.vB, Dl.vS, Dl.run2, Dl.run1, Dl.deref, Dl.Slot.data?, Dl.useO, Dl.useAll, Dl.boolOf, Dl.putO, Dl.free, Dl.outO, Dl.withAll, Dl.runN, Dl.derefs, Dl.mutO, Dl.isLst, Dl.isDct, Dl.putI, Dl.putD, Dl.setI, Dl.augO, Dl.getI, Dl.slotOf, Dl.slotsOf, Dl.lents, Dl.takeB, Dl.backS, Dl.useSel, Dl.back, Dl.gd, Dl.pyIx, atI, ixN, Dl.pyGet, Dl.pyMul, Dl.pyAdd, Dl.pyEq, Dl.pyNe, Dl.mulOk, Dl.powOk, Dl.pySlice, Dl.fLen, Dl.fList, Dl.fTuple, Dl.mAppend, Dl.mReverse, Dl.mClear, Dl.mExtend, Dl.mInsert, Dl.mkTup, Dl.mkLst, Dl.pyIsN, Dl.pyNotN, Dl.fNeg, Dl.pyRev, Dl.gN, Dl.gsNil, Dl.gsCons, Dl.gT, Dl.srcL, Dl.srcT, Dl.srcS, Dl.srcQ, Dl.srcR1, Dl.srcR2, Dl.hide, Dl.restore, sizeLine_eq, Dl.lockS, f3, f4, hin, hin2, hat]
        exact h _ _ _
      · simp only [hc, if_false] at h
        simp -dsimp -implicitDefEqProofs [Dl.vI, Dl.vB, Dl.vS, Dl.run2, Dl.run1, Dl.deref, Dl.Slot.data?, Dl.useO, Dl.useAll, Dl.boolOf, Dl.putO, Dl.free, Dl.outO, Dl.withAll, Dl.runN, Dl.derefs, Dl.mutO, Dl.isLst, Dl.isDct, Dl.putI, Dl.putD, Dl.setI, Dl.augO, Dl.getI, Dl.slotOf, Dl.slotsOf, Dl.lents, Dl.takeB, Dl.backS, Dl.useSel, Dl.back, Dl.gd, Dl.pyIx, atI, ixN, Dl.pyGet, Dl.pyMul, Dl.pyAdd, Dl.pyEq, Dl.pyNe, Dl.mulOk, Dl.powOk, Dl.pySlice, Dl.fLen, Dl.fList, Dl.fTuple, Dl.mAppend, Dl.mReverse, Dl.mClear, Dl.mExtend, Dl.mInsert, Dl.mkTup, Dl.mkLst, Dl.pyIsN, Dl.pyNotN, Dl.fNeg, Dl.pyRev, Dl.gN, Dl.gsNil, Dl.gsCons, Dl.gT, Dl.srcL, Dl.srcT, Dl.srcS, Dl.srcQ, Dl.srcR1, Dl.srcR2, Dl.hide, Dl.restore, sizeLine_eq, Dl.lockS, f3, f4, hin, hin2, hat, hc]
        exact left_loop lits acc _ _ rfl rfl (by omega) h
def toldC : Option Li → D
  | some l => .tuple (l.map liD)
  | none => .none
theorem left_eq {cl fs : Li} (hl : cl.length < 900) {Q : Opd → Rho → Prop} {X : Ex → Rho → Prop} (h : Q (.val (toldC (leftS fs [] cl))) [.dat (.tuple (cl.map liD)), .par (.dict (tr fs))]) : wp (mLeftOf [.dat (.tuple (cl.map liD)), .par (.dict (tr fs))]) Q X := by
  unfold mLeftOf
  simp -dsimp -implicitDefEqProofs [Dl.vI, Dl.vB, Dl.vS, Dl.run2, Dl.run1, Dl.deref, Dl.Slot.data?, Dl.useO, Dl.useAll, Dl.boolOf, Dl.putO, Dl.free, Dl.outO, Dl.withAll, Dl.runN, Dl.derefs, Dl.mutO, Dl.isLst, Dl.isDct, Dl.putI, Dl.putD, Dl.setI, Dl.augO, Dl.getI, Dl.slotOf, Dl.slotsOf, Dl.lents, Dl.takeB, Dl.backS, Dl.useSel, Dl.back, Dl.gd, Dl.pyIx, atI, ixN, Dl.pyGet, Dl.pyMul, Dl.pyAdd, Dl.pyEq, Dl.pyNe, Dl.mulOk, Dl.powOk, Dl.pySlice, Dl.fLen, Dl.fList, Dl.fTuple, Dl.mAppend, Dl.mReverse, Dl.mClear, Dl.mExtend, Dl.mInsert, Dl.mkTup, Dl.mkLst, Dl.pyIsN, Dl.pyNotN, Dl.fNeg, Dl.pyRev, Dl.gN, Dl.gsNil, Dl.gsCons, Dl.gT, Dl.srcL, Dl.srcT, Dl.srcS, Dl.srcQ, Dl.srcR1, Dl.srcR2, Dl.hide, Dl.restore, sizeLine_eq, Dl.lockS]
  refine left_loop cl [] .un .un rfl rfl (by simp; omega) ?_
  cases e : leftS fs [] cl with
  | none =>
    rw [e] at h
    dsimp only
    intro d s3 s4
    simp -dsimp -implicitDefEqProofs [Dl.vI, Dl.vB, Dl.vS, Dl.run2, Dl.run1, Dl.deref, Dl.Slot.data?, Dl.useO, Dl.useAll, Dl.boolOf, Dl.putO, Dl.free, Dl.outO, Dl.withAll, Dl.runN, Dl.derefs, Dl.mutO, Dl.isLst, Dl.isDct, Dl.putI, Dl.putD, Dl.setI, Dl.augO, Dl.getI, Dl.slotOf, Dl.slotsOf, Dl.lents, Dl.takeB, Dl.backS, Dl.useSel, Dl.back, Dl.gd, Dl.pyIx, atI, ixN, Dl.pyGet, Dl.pyMul, Dl.pyAdd, Dl.pyEq, Dl.pyNe, Dl.mulOk, Dl.powOk, Dl.pySlice, Dl.fLen, Dl.fList, Dl.fTuple, Dl.mAppend, Dl.mReverse, Dl.mClear, Dl.mExtend, Dl.mInsert, Dl.mkTup, Dl.mkLst, Dl.pyIsN, Dl.pyNotN, Dl.fNeg, Dl.pyRev, Dl.gN, Dl.gsNil, Dl.gsCons, Dl.gT, Dl.srcL, Dl.srcT, Dl.srcS, Dl.srcQ, Dl.srcR1, Dl.srcR2, Dl.hide, Dl.restore, sizeLine_eq, Dl.lockS]
    exact h
  | some l =>
    rw [e] at h
    dsimp only
    intro s3 s4
    simp -dsimp -implicitDefEqProofs [Dl.vI, Dl.vB, Dl.vS, Dl.run2, Dl.run1, Dl.deref, Dl.Slot.data?, Dl.useO, Dl.useAll, Dl.boolOf, Dl.putO, Dl.free, Dl.outO, Dl.withAll, Dl.runN, Dl.derefs, Dl.mutO, Dl.isLst, Dl.isDct, Dl.putI, Dl.putD, Dl.setI, Dl.augO, Dl.getI, Dl.slotOf, Dl.slotsOf, Dl.lents, Dl.takeB, Dl.backS, Dl.useSel, Dl.back, Dl.gd, Dl.pyIx, atI, ixN, Dl.pyGet, Dl.pyMul, Dl.pyAdd, Dl.pyEq, Dl.pyNe, Dl.mulOk, Dl.powOk, Dl.pySlice, Dl.fLen, Dl.fList, Dl.fTuple, Dl.mAppend, Dl.mReverse, Dl.mClear, Dl.mExtend, Dl.mInsert, Dl.mkTup, Dl.mkLst, Dl.pyIsN, Dl.pyNotN, Dl.fNeg, Dl.pyRev, Dl.gN, Dl.gsNil, Dl.gsCons, Dl.gT, Dl.srcL, Dl.srcT, Dl.srcS, Dl.srcQ, Dl.srcR1, Dl.srcR2, Dl.hide, Dl.restore, sizeLine_eq, Dl.lockS]
    exact h
/-- strictly rising names -/
def Rise (l : Li) : Prop := ∀ i a b, l[i]? = some a → l[i + 1]? = some b → a.1.cps.toList < b.1.cps.toList
theorem isD_tup (ds : List D) : isD "tuple" (.tuple ds) = some (.val (.bool true)) := by
  have h : kitB "tuple" "tuple" = some true := by decide +kernel
  unfold isD tyN
  rw [h]
  rfl
theorem isD_s (s : Str) : isD "str" (.str s) = some (.val (.bool true)) := by
  have h : kitB "str" "str" = some true := by decide +kernel
  unfold isD tyN
  rw [h]
  rfl
theorem isD_b (b : Bool) : isD "bool" (.bool b) = some (.val (.bool true)) := by
  have h : kitB "bool" "bool" = some true := by decide +kernel
  unfold isD tyN
  rw [h]
  rfl
theorem isD_none : isD "tuple" .none = some (.val (.bool false)) := by
  have h : kitB (tyN .none) "tuple" = some false := by decide +kernel
  unfold isD
  rw [h]
  rfl
theorem allTrue : ∀ (k : Nat), boolsOf (List.replicate k (PyData.bool true)) = some (List.replicate k true)
  | 0 => rfl
  | k + 1 => by
    rw [List.replicate_succ]
    unfold boolsOf
    rw [allTrue k]
    rfl
theorem all_rep (k : Nat) : fAll [.list (List.replicate k (.bool true))] = some (.val (.bool true)) := by
  unfold fAll
  dsimp only
  rw [allTrue]
  simp
theorem is_clause_eq {l : Li} (hl : l.length < 900) (hr : Rise l) {Q : Opd → Rho → Prop} {X : Ex → Rho → Prop} (h : Q (.val (.bool true)) [.dat (.tuple (l.map liD))]) : wp (mLawIsClause [.dat (.tuple (l.map liD))]) Q X := by
  unfold mLawIsClause
  simp -dsimp -implicitDefEqProofs [Dl.vI, Dl.vB, Dl.vS, Dl.run2, Dl.run1, Dl.deref, Dl.Slot.data?, Dl.useO, Dl.useAll, Dl.boolOf, Dl.putO, Dl.free, Dl.outO, Dl.withAll, Dl.runN, Dl.derefs, Dl.mutO, Dl.isLst, Dl.isDct, Dl.putI, Dl.putD, Dl.setI, Dl.augO, Dl.getI, Dl.slotOf, Dl.slotsOf, Dl.lents, Dl.takeB, Dl.backS, Dl.useSel, Dl.back, Dl.gd, Dl.pyIx, atI, ixN, Dl.pyGet, Dl.pyMul, Dl.pyAdd, Dl.pyEq, Dl.pyNe, Dl.mulOk, Dl.powOk, Dl.pySlice, Dl.fLen, Dl.fList, Dl.fTuple, Dl.mAppend, Dl.mReverse, Dl.mClear, Dl.mExtend, Dl.mInsert, Dl.mkTup, Dl.mkLst, Dl.pyIsN, Dl.pyNotN, Dl.fNeg, Dl.pyRev, Dl.gN, Dl.gsNil, Dl.gsCons, Dl.gT, Dl.srcL, Dl.srcT, Dl.srcS, Dl.srcQ, Dl.srcR1, Dl.srcR2, Dl.hide, Dl.restore, sizeLine_eq, Dl.lockS, isD_tup]
  obtain ⟨I, eI⟩ : ∃ I : Nat → Rho → Prop, I = fun _ ρ => ∃ s1, free [s1] 0 = true ∧ ρ = [.dat (.tuple (l.map liD)), s1, .un] := ⟨_, rfl⟩
  refine wp_for I (by rw [eI]; exact ⟨.un, rfl, rfl⟩) (fun i x ρ hx hI => ?_) fun ρ hI => ?_
  · rw [eI] at hI
    obtain ⟨s1, f1, rfl⟩ := hI
    simp only [free, List.getElem?_cons_zero] at f1
    rw [List.getElem?_map, Option.map_eq_some_iff] at hx
    obtain ⟨⟨n, b⟩, hp, rfl⟩ := hx
    have e0 : liD (n, b) = .tuple [.str n, .bool b] := rfl
    rw [e0]
    refine ⟨[.dat (.tuple (l.map liD)), .dat (.tuple [.str n, .bool b]), .un], ?_, ?_⟩
    · simp -dsimp -implicitDefEqProofs [Dl.vI, Dl.vB, Dl.vS, Dl.run2, Dl.run1, Dl.deref, Dl.Slot.data?, Dl.useO, Dl.useAll, Dl.boolOf, Dl.putO, Dl.free, Dl.outO, Dl.withAll, Dl.runN, Dl.derefs, Dl.mutO, Dl.isLst, Dl.isDct, Dl.putI, Dl.putD, Dl.setI, Dl.augO, Dl.getI, Dl.slotOf, Dl.slotsOf, Dl.lents, Dl.takeB, Dl.backS, Dl.useSel, Dl.back, Dl.gd, Dl.pyIx, atI, ixN, Dl.pyGet, Dl.pyMul, Dl.pyAdd, Dl.pyEq, Dl.pyNe, Dl.mulOk, Dl.powOk, Dl.pySlice, Dl.fLen, Dl.fList, Dl.fTuple, Dl.mAppend, Dl.mReverse, Dl.mClear, Dl.mExtend, Dl.mInsert, Dl.mkTup, Dl.mkLst, Dl.pyIsN, Dl.pyNotN, Dl.fNeg, Dl.pyRev, Dl.gN, Dl.gsNil, Dl.gsCons, Dl.gT, Dl.srcL, Dl.srcT, Dl.srcS, Dl.srcQ, Dl.srcR1, Dl.srcR2, Dl.hide, Dl.restore, sizeLine_eq, Dl.lockS, f1]
    simp -dsimp -implicitDefEqProofs [Dl.vI, Dl.vB, Dl.vS, Dl.run2, Dl.run1, Dl.deref, Dl.Slot.data?, Dl.useO, Dl.useAll, Dl.boolOf, Dl.putO, Dl.free, Dl.outO, Dl.withAll, Dl.runN, Dl.derefs, Dl.mutO, Dl.isLst, Dl.isDct, Dl.putI, Dl.putD, Dl.setI, Dl.augO, Dl.getI, Dl.slotOf, Dl.slotsOf, Dl.lents, Dl.takeB, Dl.backS, Dl.useSel, Dl.back, Dl.gd, Dl.pyIx, atI, ixN, Dl.pyGet, Dl.pyMul, Dl.pyAdd, Dl.pyEq, Dl.pyNe, Dl.mulOk, Dl.powOk, Dl.pySlice, Dl.fLen, Dl.fList, Dl.fTuple, Dl.mAppend, Dl.mReverse, Dl.mClear, Dl.mExtend, Dl.mInsert, Dl.mkTup, Dl.mkLst, Dl.pyIsN, Dl.pyNotN, Dl.fNeg, Dl.pyRev, Dl.gN, Dl.gsNil, Dl.gsCons, Dl.gT, Dl.srcL, Dl.srcT, Dl.srcS, Dl.srcQ, Dl.srcR1, Dl.srcR2, Dl.hide, Dl.restore, sizeLine_eq, Dl.lockS, isD_tup, isD_s, isD_b]
    rw [eI]
    exact ⟨_, rfl, rfl⟩
  · rw [eI] at hI
    obtain ⟨s1, f1, rfl⟩ := hI
    simp -dsimp -implicitDefEqProofs [Dl.vI, Dl.vB, Dl.vS, Dl.run2, Dl.run1, Dl.deref, Dl.Slot.data?, Dl.useO, Dl.useAll, Dl.boolOf, Dl.putO, Dl.free, Dl.outO, Dl.withAll, Dl.runN, Dl.derefs, Dl.mutO, Dl.isLst, Dl.isDct, Dl.putI, Dl.putD, Dl.setI, Dl.augO, Dl.getI, Dl.slotOf, Dl.slotsOf, Dl.lents, Dl.takeB, Dl.backS, Dl.useSel, Dl.back, Dl.gd, Dl.pyIx, atI, ixN, Dl.pyGet, Dl.pyMul, Dl.pyAdd, Dl.pyEq, Dl.pyNe, Dl.mulOk, Dl.powOk, Dl.pySlice, Dl.fLen, Dl.fList, Dl.fTuple, Dl.mAppend, Dl.mReverse, Dl.mClear, Dl.mExtend, Dl.mInsert, Dl.mkTup, Dl.mkLst, Dl.pyIsN, Dl.pyNotN, Dl.fNeg, Dl.pyRev, Dl.gN, Dl.gsNil, Dl.gsCons, Dl.gT, Dl.srcL, Dl.srcT, Dl.srcS, Dl.srcQ, Dl.srcR1, Dl.srcR2, Dl.hide, Dl.restore, sizeLine_eq, Dl.lockS]
    refine ⟨by omega, ?_⟩
    obtain ⟨J, eJ⟩ : ∃ J : Nat → List D → Rho → Prop, J = fun i out ρ => out = List.replicate i (.bool true) ∧ ρ = [.dat (.tuple (l.map liD)), s1, .un] := ⟨_, rfl⟩
    refine wp_cmp J (by rw [eJ]; exact ⟨rfl, rfl⟩) (fun i d out ρ hx hJ => ?_) fun out ρ hJ => ?_
    · rw [eJ] at hJ
      obtain ⟨rfl, rfl⟩ := hJ
      obtain ⟨rfl, hi⟩ := range_at hx
      refine ⟨[.dat (.tuple (l.map liD)), s1, .dat (.int i)], rfl, ?_⟩
      obtain ⟨a, ha⟩ : ∃ a, l[i]? = some a := ⟨_, List.getElem?_eq_getElem (by omega)⟩
      obtain ⟨b, hb⟩ : ∃ b, l[i + 1]? = some b := ⟨_, List.getElem?_eq_getElem (by omega)⟩
      have hlt := hr i a b ha hb
      obtain ⟨an, at_⟩ := a
      obtain ⟨bn, bt⟩ := b
      have at1 : pyAt (.tuple (l.map liD)) (.int i) = some (.val (.tuple [.str an, .bool at_])) := by
        rw [pyAt_tuple]
        unfold atI ixN
        rw [if_pos (by omega), if_pos (by rw [List.length_map]; omega), Option.map_eq_some_iff]
        exact ⟨_, by show (l.map liD)[((i : Int)).toNat]? = _; rw [Int.toNat_natCast, List.getElem?_map, ha]; rfl, rfl⟩
      have at2 : pyAt (.tuple (l.map liD)) (.int ((i : Int) + 1)) = some (.val (.tuple [.str bn, .bool bt])) := by
        rw [pyAt_tuple]
        unfold atI ixN
        rw [if_pos (by omega), if_pos (by rw [List.length_map]; omega), Option.map_eq_some_iff]
        exact ⟨_, by show (l.map liD)[((i : Int) + 1).toNat]? = _; rw [show ((i : Int) + 1).toNat = i + 1 by omega, List.getElem?_map, hb]; rfl, rfl⟩
      have c0 : ∀ (n : Str) (t : Bool), pyAt (.tuple [.str n, .bool t]) (.int 0) = some (.val (.str n)) := fun n t => by simp -dsimp -implicitDefEqProofs [Dl.vI, Dl.vB, Dl.vS, Dl.run2, Dl.run1, Dl.deref, Dl.Slot.data?, Dl.useO, Dl.useAll, Dl.boolOf, Dl.putO, Dl.free, Dl.outO, Dl.withAll, Dl.runN, Dl.derefs, Dl.mutO, Dl.isLst, Dl.isDct, Dl.putI, Dl.putD, Dl.setI, Dl.augO, Dl.getI, Dl.slotOf, Dl.slotsOf, Dl.lents, Dl.takeB, Dl.backS, Dl.useSel, Dl.back, Dl.gd, Dl.pyIx, atI, ixN, Dl.pyGet, Dl.pyMul, Dl.pyAdd, Dl.pyEq, Dl.pyNe, Dl.mulOk, Dl.powOk, Dl.pySlice, Dl.fLen, Dl.fList, Dl.fTuple, Dl.mAppend, Dl.mReverse, Dl.mClear, Dl.mExtend, Dl.mInsert, Dl.mkTup, Dl.mkLst, Dl.pyIsN, Dl.pyNotN, Dl.fNeg, Dl.pyRev, Dl.gN, Dl.gsNil, Dl.gsCons, Dl.gT, Dl.srcL, Dl.srcT, Dl.srcS, Dl.srcQ, Dl.srcR1, Dl.srcR2, Dl.hide, Dl.restore, sizeLine_eq, Dl.lockS]
      have lt : pyLt (.str an) (.str bn) = some (.val (.bool true)) := by
        show some (Opd.val (.bool (decide (an.cps.toList < bn.cps.toList)))) = _
        rw [decide_eq_true hlt]
      simp -dsimp -implicitDefEqProofs [Dl.vI, Dl.vB, Dl.vS, Dl.run2, Dl.run1, Dl.deref, Dl.Slot.data?, Dl.useO, Dl.useAll, Dl.boolOf, Dl.putO, Dl.free, Dl.outO, Dl.withAll, Dl.runN, Dl.derefs, Dl.mutO, Dl.isLst, Dl.isDct, Dl.putI, Dl.putD, Dl.setI, Dl.augO, Dl.getI, Dl.slotOf, Dl.slotsOf, Dl.lents, Dl.takeB, Dl.backS, Dl.useSel, Dl.back, Dl.gd, Dl.pyIx, atI, ixN, Dl.pyGet, Dl.pyMul, Dl.pyAdd, Dl.pyEq, Dl.pyNe, Dl.mulOk, Dl.powOk, Dl.pySlice, Dl.fLen, Dl.fList, Dl.fTuple, Dl.mAppend, Dl.mReverse, Dl.mClear, Dl.mExtend, Dl.mInsert, Dl.mkTup, Dl.mkLst, Dl.pyIsN, Dl.pyNotN, Dl.fNeg, Dl.pyRev, Dl.gN, Dl.gsNil, Dl.gsCons, Dl.gT, Dl.srcL, Dl.srcT, Dl.srcS, Dl.srcQ, Dl.srcR1, Dl.srcR2, Dl.hide, Dl.restore, sizeLine_eq, Dl.lockS, at1, at2, c0, lt, show i < 16777216 by omega, -pyAt_tuple]
      refine ⟨_, _, ⟨rfl, rfl⟩, ?_⟩
      rw [eJ]
      exact ⟨by rw [List.replicate_succ'], rfl⟩
    · rw [eJ] at hJ
      obtain ⟨rfl, rfl⟩ := hJ
      simp -dsimp -implicitDefEqProofs [Dl.vI, Dl.vB, Dl.vS, Dl.run2, Dl.run1, Dl.deref, Dl.Slot.data?, Dl.useO, Dl.useAll, Dl.boolOf, Dl.putO, Dl.free, Dl.outO, Dl.withAll, Dl.runN, Dl.derefs, Dl.mutO, Dl.isLst, Dl.isDct, Dl.putI, Dl.putD, Dl.setI, Dl.augO, Dl.getI, Dl.slotOf, Dl.slotsOf, Dl.lents, Dl.takeB, Dl.backS, Dl.useSel, Dl.back, Dl.gd, Dl.pyIx, atI, ixN, Dl.pyGet, Dl.pyMul, Dl.pyAdd, Dl.pyEq, Dl.pyNe, Dl.mulOk, Dl.powOk, Dl.pySlice, Dl.fLen, Dl.fList, Dl.fTuple, Dl.mAppend, Dl.mReverse, Dl.mClear, Dl.mExtend, Dl.mInsert, Dl.mkTup, Dl.mkLst, Dl.pyIsN, Dl.pyNotN, Dl.fNeg, Dl.pyRev, Dl.gN, Dl.gsNil, Dl.gsCons, Dl.gT, Dl.srcL, Dl.srcT, Dl.srcS, Dl.srcQ, Dl.srcR1, Dl.srcR2, Dl.hide, Dl.restore, sizeLine_eq, Dl.lockS, all_rep]
      exact h

theorem rise_canon {ks : Li} (h : (ks.map (·.1)).Nodup) : Rise (canonL ks) := fun i a b ha hb => by
  have pw := sortStr_lt h
  unfold canonL at ha hb
  rw [List.getElem?_map, Option.map_eq_some_iff] at ha hb
  obtain ⟨s, hs, rfl⟩ := ha
  obtain ⟨t, ht, rfl⟩ := hb
  obtain ⟨l1, e1⟩ := List.getElem?_eq_some_iff.mp hs
  obtain ⟨l2, e2⟩ := List.getElem?_eq_some_iff.mp ht
  have := List.pairwise_iff_getElem.mp pw i (i + 1) l1 l2 (by omega)
  rw [e1, e2] at this
  exact this
theorem canonL_len (ks : Li) : (canonL ks).length = ks.length := by unfold canonL; rw [List.length_map, sort_len, List.length_map]
theorem canonL_nm {ks : Li} (h : ∀ p ∈ ks, Nm p.1) : ∀ p ∈ canonL ks, Nm p.1 := fun p hp => by
  unfold canonL at hp
  obtain ⟨s, hs, rfl⟩ := List.mem_map.mp hp
  obtain ⟨q, hq, rfl⟩ := List.mem_map.mp (sort_mem.mp hs)
  exact h q hq
/-- what is good of an outcome -/
structure OkL (o : Option Li) : Prop where
  len : ∀ ks, o = some ks → ks.length < 64
  nd : ∀ ks, o = some ks → (ks.map (·.1)).Nodup
  nm : ∀ ks, o = some ks → ∀ p ∈ ks, Nm p.1
theorem told_clause_eq {l : Li} (hl : l.length < 64) (hr : Rise l) (hn : ∀ p ∈ l, Nm p.1) {Q : Opd → Rho → Prop} {X : Ex → Rho → Prop} (h : Q (.val (.bool true)) [.dat (.tuple (l.map liD)), .dat (.tuple (l.map liD))]) : wp (mLawToldClause [.dat (.tuple (l.map liD)), .dat (.tuple (l.map liD))]) Q X := by
  unfold mLawToldClause
  have e := (enc_tup enc_li).pyEq (x := l) (y := l) (by decide) hn hn
  simp -dsimp -implicitDefEqProofs [Dl.vI, Dl.vB, Dl.vS, Dl.run2, Dl.run1, Dl.deref, Dl.Slot.data?, Dl.useO, Dl.useAll, Dl.boolOf, Dl.putO, Dl.free, Dl.outO, Dl.withAll, Dl.runN, Dl.derefs, Dl.mutO, Dl.isLst, Dl.isDct, Dl.putI, Dl.putD, Dl.setI, Dl.augO, Dl.getI, Dl.slotOf, Dl.slotsOf, Dl.lents, Dl.takeB, Dl.backS, Dl.useSel, Dl.back, Dl.gd, Dl.pyIx, atI, ixN, Dl.pyGet, Dl.pyMul, Dl.pyAdd, Dl.pyEq, Dl.pyNe, Dl.mulOk, Dl.powOk, Dl.pySlice, Dl.fLen, Dl.fList, Dl.fTuple, Dl.mAppend, Dl.mReverse, Dl.mClear, Dl.mExtend, Dl.mInsert, Dl.mkTup, Dl.mkLst, Dl.pyIsN, Dl.pyNotN, Dl.fNeg, Dl.pyRev, Dl.gN, Dl.gsNil, Dl.gsCons, Dl.gT, Dl.srcL, Dl.srcT, Dl.srcS, Dl.srcQ, Dl.srcR1, Dl.srcR2, Dl.hide, Dl.restore, sizeLine_eq, Dl.lockS]
  refine is_clause_eq (by omega) hr ?_
  simp -dsimp -implicitDefEqProofs [Dl.vI, Dl.vB, Dl.vS, Dl.run2, Dl.run1, Dl.deref, Dl.Slot.data?, Dl.useO, Dl.useAll, Dl.boolOf, Dl.putO, Dl.free, Dl.outO, Dl.withAll, Dl.runN, Dl.derefs, Dl.mutO, Dl.isLst, Dl.isDct, Dl.putI, Dl.putD, Dl.setI, Dl.augO, Dl.getI, Dl.slotOf, Dl.slotsOf, Dl.lents, Dl.takeB, Dl.backS, Dl.useSel, Dl.back, Dl.gd, Dl.pyIx, atI, ixN, Dl.pyGet, Dl.pyMul, Dl.pyAdd, Dl.pyNe, Dl.mulOk, Dl.powOk, Dl.pySlice, Dl.fLen, Dl.fList, Dl.fTuple, Dl.mAppend, Dl.mReverse, Dl.mClear, Dl.mExtend, Dl.mInsert, Dl.mkTup, Dl.mkLst, Dl.pyIsN, Dl.pyNotN, Dl.fNeg, Dl.pyRev, Dl.gN, Dl.gsNil, Dl.gsCons, Dl.gT, Dl.srcL, Dl.srcT, Dl.srcS, Dl.srcQ, Dl.srcR1, Dl.srcR2, Dl.hide, Dl.restore, sizeLine_eq, Dl.lockS, e]
  exact h
/-! ### a clause of sorted names -/
def RiseP (l : Li) : Prop := l.Pairwise fun a b => a.1.cps.toList < b.1.cps.toList
theorem RiseP.rise {l : Li} (h : RiseP l) : Rise l := fun i a b ha hb => by
  obtain ⟨l1, e1⟩ := List.getElem?_eq_some_iff.mp ha
  obtain ⟨l2, e2⟩ := List.getElem?_eq_some_iff.mp hb
  have := List.pairwise_iff_getElem.mp h i (i + 1) l1 l2 (by omega)
  rw [e1, e2] at this
  exact this
theorem lt_irr (xs : List Nat) : ¬ xs < xs := fun h => List.lt_irrefl _ h
theorem RiseP.nd {l : Li} (h : RiseP l) : (l.map (·.1)).Nodup := List.pairwise_map.mpr (h.imp fun {a b} z e => by rw [e] at z; exact lt_irr _ z)
theorem riseP_canon {ks : Li} (h : (ks.map (·.1)).Nodup) : RiseP (canonL ks) := List.pairwise_map.mpr (sortStr_lt h)
theorem sorted_strs {ss : List Str} (h : ss.length < 64) : fSorted [.list (ss.map .str)] = some (.new (.list ((sortStr ss).map .str))) := by
  unfold fSorted
  dsimp only
  rw [sortDs_str h]
  rfl
theorem law_clause {d : D} {ss : List Str} {Q : Opd → Rho → Prop} {X : Ex → Rho → Prop} (hd : Hand d) (hl : ss.length < 64) (nd : ss.Nodup)
    (h : ∀ (l : Li) (d : D), Hand d → RiseP l → (∀ p ∈ l, p.1 ∈ ss) → l.length ≤ ss.length → Q (.val (.tuple (l.map liD))) [.par d, .par (.list (ss.map .str))]) : wp (mLawClause [.par d, .par (.list (ss.map .str))]) Q X := by
  unfold mLawClause
  simp -dsimp -implicitDefEqProofs [Dl.vI, Dl.vB, Dl.vS, Dl.run2, Dl.run1, Dl.deref, Dl.Slot.data?, Dl.useO, Dl.useAll, Dl.boolOf, Dl.putO, Dl.free, Dl.outO, Dl.withAll, Dl.runN, Dl.derefs, Dl.mutO, Dl.isLst, Dl.isDct, Dl.putI, Dl.putD, Dl.setI, Dl.augO, Dl.getI, Dl.slotOf, Dl.slotsOf, Dl.lents, Dl.takeB, Dl.backS, Dl.useSel, Dl.back, Dl.gd, Dl.pyIx, atI, ixN, Dl.pyGet, Dl.pyMul, Dl.pyAdd, Dl.pyEq, Dl.pyNe, Dl.mulOk, Dl.powOk, Dl.pySlice, Dl.fLen, Dl.fList, Dl.fTuple, Dl.mAppend, Dl.mReverse, Dl.mClear, Dl.mExtend, Dl.mInsert, Dl.mkTup, Dl.mkLst, Dl.pyIsN, Dl.pyNotN, Dl.fNeg, Dl.pyRev, Dl.gN, Dl.gsNil, Dl.gsCons, Dl.gT, Dl.srcL, Dl.srcT, Dl.srcS, Dl.srcQ, Dl.srcR1, Dl.srcR2, Dl.hide, Dl.restore, sizeLine_eq, Dl.lockS, sorted_strs hl]
  obtain ⟨I, eI⟩ : ∃ I : Nat → Rho → Prop, I = fun i ρ => ∃ (d : D) (l : Li) (s3 s4 : Slot), Hand d ∧ (l.map (·.1)).Sublist ((sortStr ss).take i) ∧ (frS s3 = true ∧ frS s4 = true) ∧ ρ = [.par d, .par (.list (ss.map .str)), .own (.list (l.map liD)), s3, s4] := ⟨_, rfl⟩
  refine wp_for I (by rw [eI]; exact ⟨d, [], .un, .un, hd, by simp, ⟨rfl, rfl⟩, rfl⟩) (fun i x ρ hx hI => ?_) fun ρ hI => ?_
  · rw [eI] at hI
    obtain ⟨d, l, s3, s4, hd, hs, ⟨f3, f4⟩, rfl⟩ := hI
    simp only [frS, free, List.getElem?_cons_zero] at f3 f4
    rw [List.getElem?_map, Option.map_eq_some_iff] at hx
    obtain ⟨s, hs2, rfl⟩ := hx
    have ht : (sortStr ss).take (i + 1) = (sortStr ss).take i ++ [s] := by rw [List.take_add_one, hs2]; rfl
    have hll : l.length ≤ i := by
      have := hs.length_le
      rw [List.length_map, List.length_take] at this
      omega
    have hi : i < ss.length := by have := (List.getElem?_eq_some_iff.mp hs2).1; rw [sort_len] at this; exact this
    refine ⟨[.par d, .par (.list (ss.map .str)), .own (.list (l.map liD)), .dat (.str s), s4], ?_, ?_⟩
    · simp -dsimp -implicitDefEqProofs [Dl.vI, Dl.vB, Dl.vS, Dl.run2, Dl.run1, Dl.deref, Dl.Slot.data?, Dl.useO, Dl.useAll, Dl.boolOf, Dl.putO, Dl.free, Dl.outO, Dl.withAll, Dl.runN, Dl.derefs, Dl.mutO, Dl.isLst, Dl.isDct, Dl.putI, Dl.putD, Dl.setI, Dl.augO, Dl.getI, Dl.slotOf, Dl.slotsOf, Dl.lents, Dl.takeB, Dl.backS, Dl.useSel, Dl.back, Dl.gd, Dl.pyIx, atI, ixN, Dl.pyGet, Dl.pyMul, Dl.pyAdd, Dl.pyEq, Dl.pyNe, Dl.mulOk, Dl.powOk, Dl.pySlice, Dl.fLen, Dl.fList, Dl.fTuple, Dl.mAppend, Dl.mReverse, Dl.mClear, Dl.mExtend, Dl.mInsert, Dl.mkTup, Dl.mkLst, Dl.pyIsN, Dl.pyNotN, Dl.fNeg, Dl.pyRev, Dl.gN, Dl.gsNil, Dl.gsCons, Dl.gT, Dl.srcL, Dl.srcT, Dl.srcS, Dl.srcQ, Dl.srcR1, Dl.srcR2, Dl.hide, Dl.restore, sizeLine_eq, Dl.lockS, f3]
    simp -dsimp -implicitDefEqProofs [Dl.vI, Dl.vB, Dl.vS, Dl.run2, Dl.run1, Dl.deref, Dl.Slot.data?, Dl.useO, Dl.useAll, Dl.boolOf, Dl.putO, Dl.free, Dl.outO, Dl.withAll, Dl.runN, Dl.derefs, Dl.mutO, Dl.isLst, Dl.isDct, Dl.putI, Dl.putD, Dl.setI, Dl.augO, Dl.getI, Dl.slotOf, Dl.slotsOf, Dl.lents, Dl.takeB, Dl.backS, Dl.useSel, Dl.back, Dl.gd, Dl.pyIx, atI, ixN, Dl.pyGet, Dl.pyMul, Dl.pyAdd, Dl.pyEq, Dl.pyNe, Dl.mulOk, Dl.powOk, Dl.pySlice, Dl.fLen, Dl.fList, Dl.fTuple, Dl.mAppend, Dl.mReverse, Dl.mClear, Dl.mExtend, Dl.mInsert, Dl.mkTup, Dl.mkLst, Dl.pyIsN, Dl.pyNotN, Dl.fNeg, Dl.pyRev, Dl.gN, Dl.gsNil, Dl.gsCons, Dl.gT, Dl.srcL, Dl.srcT, Dl.srcS, Dl.srcQ, Dl.srcR1, Dl.srcR2, Dl.hide, Dl.restore, sizeLine_eq, Dl.lockS]
    refine wp_draw hd (by decide) (by decide) fun w d hd w0 w1 => ?_
    simp -dsimp -implicitDefEqProofs [Dl.vI, Dl.vB, Dl.vS, Dl.run2, Dl.run1, Dl.deref, Dl.Slot.data?, Dl.useO, Dl.useAll, Dl.boolOf, Dl.putO, Dl.free, Dl.outO, Dl.withAll, Dl.runN, Dl.derefs, Dl.mutO, Dl.isLst, Dl.isDct, Dl.putI, Dl.putD, Dl.setI, Dl.augO, Dl.getI, Dl.slotOf, Dl.slotsOf, Dl.lents, Dl.takeB, Dl.backS, Dl.useSel, Dl.back, Dl.gd, Dl.pyIx, atI, ixN, Dl.pyGet, Dl.pyMul, Dl.pyAdd, Dl.pyEq, Dl.pyNe, Dl.mulOk, Dl.powOk, Dl.pySlice, Dl.fLen, Dl.fList, Dl.fTuple, Dl.mAppend, Dl.mReverse, Dl.mClear, Dl.mExtend, Dl.mInsert, Dl.mkTup, Dl.mkLst, Dl.pyIsN, Dl.pyNotN, Dl.fNeg, Dl.pyRev, Dl.gN, Dl.gsNil, Dl.gsCons, Dl.gT, Dl.srcL, Dl.srcT, Dl.srcS, Dl.srcQ, Dl.srcR1, Dl.srcR2, Dl.hide, Dl.restore, sizeLine_eq, Dl.lockS, f4]
    by_cases hw : w < 2
    · simp -dsimp -implicitDefEqProofs [Dl.vI, Dl.vB, Dl.vS, Dl.run2, Dl.run1, Dl.deref, Dl.Slot.data?, Dl.useO, Dl.useAll, Dl.boolOf, Dl.putO, Dl.free, Dl.outO, Dl.withAll, Dl.runN, Dl.derefs, Dl.mutO, Dl.isLst, Dl.isDct, Dl.putI, Dl.putD, Dl.setI, Dl.augO, Dl.getI, Dl.slotOf, Dl.slotsOf, Dl.lents, Dl.takeB, Dl.backS, Dl.useSel, Dl.back, Dl.gd, Dl.pyIx, atI, ixN, Dl.pyGet, Dl.pyMul, Dl.pyAdd, Dl.pyEq, Dl.pyNe, Dl.mulOk, Dl.powOk, Dl.pySlice, Dl.fLen, Dl.fList, Dl.fTuple, Dl.mAppend, Dl.mReverse, Dl.mClear, Dl.mExtend, Dl.mInsert, Dl.mkTup, Dl.mkLst, Dl.pyIsN, Dl.pyNotN, Dl.fNeg, Dl.pyRev, Dl.gN, Dl.gsNil, Dl.gsCons, Dl.gT, Dl.srcL, Dl.srcT, Dl.srcS, Dl.srcQ, Dl.srcR1, Dl.srcR2, Dl.hide, Dl.restore, sizeLine_eq, Dl.lockS, hw, show l.length < 16777216 by omega]
      rw [eI]
      refine ⟨d, l ++ [(s, decide (w = 1))], .dat (.str s), .dat (.int w), hd, by rw [ht, List.map_append]; exact hs.append (List.Sublist.refl _), ⟨rfl, rfl⟩, ?_⟩
      rw [List.map_append]
      rfl
    · simp -dsimp -implicitDefEqProofs [Dl.vI, Dl.vB, Dl.vS, Dl.run2, Dl.run1, Dl.deref, Dl.Slot.data?, Dl.useO, Dl.useAll, Dl.boolOf, Dl.putO, Dl.free, Dl.outO, Dl.withAll, Dl.runN, Dl.derefs, Dl.mutO, Dl.isLst, Dl.isDct, Dl.putI, Dl.putD, Dl.setI, Dl.augO, Dl.getI, Dl.slotOf, Dl.slotsOf, Dl.lents, Dl.takeB, Dl.backS, Dl.useSel, Dl.back, Dl.gd, Dl.pyIx, atI, ixN, Dl.pyGet, Dl.pyMul, Dl.pyAdd, Dl.pyEq, Dl.pyNe, Dl.mulOk, Dl.powOk, Dl.pySlice, Dl.fLen, Dl.fList, Dl.fTuple, Dl.mAppend, Dl.mReverse, Dl.mClear, Dl.mExtend, Dl.mInsert, Dl.mkTup, Dl.mkLst, Dl.pyIsN, Dl.pyNotN, Dl.fNeg, Dl.pyRev, Dl.gN, Dl.gsNil, Dl.gsCons, Dl.gT, Dl.srcL, Dl.srcT, Dl.srcS, Dl.srcQ, Dl.srcR1, Dl.srcR2, Dl.hide, Dl.restore, sizeLine_eq, Dl.lockS, hw]
      rw [eI]
      exact ⟨d, l, .dat (.str s), .dat (.int w), hd, by rw [ht]; exact hs.trans (List.sublist_append_left _ _), ⟨rfl, rfl⟩, rfl⟩
  · rw [eI] at hI
    obtain ⟨d, l, s3, s4, hd, hs, _, rfl⟩ := hI
    have hs := hs.trans (List.take_sublist _ _)
    simp -dsimp -implicitDefEqProofs [Dl.vI, Dl.vB, Dl.vS, Dl.run2, Dl.run1, Dl.deref, Dl.Slot.data?, Dl.useO, Dl.useAll, Dl.boolOf, Dl.putO, Dl.free, Dl.outO, Dl.withAll, Dl.runN, Dl.derefs, Dl.mutO, Dl.isLst, Dl.isDct, Dl.putI, Dl.putD, Dl.setI, Dl.augO, Dl.getI, Dl.slotOf, Dl.slotsOf, Dl.lents, Dl.takeB, Dl.backS, Dl.useSel, Dl.back, Dl.gd, Dl.pyIx, atI, ixN, Dl.pyGet, Dl.pyMul, Dl.pyAdd, Dl.pyEq, Dl.pyNe, Dl.mulOk, Dl.powOk, Dl.pySlice, Dl.fLen, Dl.fList, Dl.fTuple, Dl.mAppend, Dl.mReverse, Dl.mClear, Dl.mExtend, Dl.mInsert, Dl.mkTup, Dl.mkLst, Dl.pyIsN, Dl.pyNotN, Dl.fNeg, Dl.pyRev, Dl.gN, Dl.gsNil, Dl.gsCons, Dl.gT, Dl.srcL, Dl.srcT, Dl.srcS, Dl.srcQ, Dl.srcR1, Dl.srcR2, Dl.hide, Dl.restore, sizeLine_eq, Dl.lockS]
    refine h l d hd ?_ (fun p hp => sort_mem.mp (hs.subset (List.mem_map.mpr ⟨p, hp, rfl⟩))) (by have := hs.length_le; rw [List.length_map, sort_len] at this; exact this)
    have z : (l.map (·.1)).Pairwise fun a b => a.cps.toList < b.cps.toList := (sortStr_lt nd).sublist hs
    exact (List.pairwise_map (f := fun p : Str × Bool => p.1) (R := fun a b => a.cps.toList < b.cps.toList)).mp z
/-! ### what is left of a clause -/
theorem leftS_sub (fs : Li) : ∀ (l acc r : Li), leftS fs acc l = some r → ∃ l', List.Sublist l' l ∧ r = acc ++ l'
  | [], acc, r, h => by cases h; exact ⟨[], List.Sublist.refl _, by simp⟩
  | (n, b) :: l, acc, r, h => by
    unfold leftS at h
    split at h
    · obtain ⟨l', h1, h2⟩ := leftS_sub fs l _ r h
      exact ⟨(n, b) :: l', h1.cons₂ _, by rw [h2, List.append_assoc]; rfl⟩
    · split at h
      · cases h
      · obtain ⟨l', h1, h2⟩ := leftS_sub fs l _ r h
        exact ⟨l', h1.cons _, h2⟩
theorem leftS_none {fs : Li} : ∀ {l acc : Li}, (∀ p ∈ l, look fs p.1 = some (!p.2)) → leftS fs acc l = some acc
  | [], acc, _ => rfl
  | (n, b) :: l, acc, h => by
    unfold leftS
    rw [h (n, b) List.mem_cons_self]
    dsimp only
    rw [if_neg (by cases b <;> decide)]
    exact leftS_none fun p hp => h p (List.mem_cons_of_mem _ hp)
/-! ### what the clause of literals is -/
theorem step_spec {ks ks' : Li} {p : Str × Bool} (h : step ks p = some ks') (nd : (ks.map (·.1)).Nodup) : (ks'.map (·.1)).Nodup ∧ (∀ n b, look ks' n = some b ↔ look ks n = some b ∨ (n, b) = p) ∧ ∀ q ∈ ks', q ∈ ks ∨ q = p := by
  obtain ⟨m, c⟩ := p
  unfold step at h
  dsimp only at h
  cases e : look ks m with
  | some d =>
    rw [e] at h
    dsimp only at h
    split at h
    · rename_i hd
      cases h
      subst hd
      refine ⟨nd, fun n b => ⟨.inl, fun z => z.elim id fun z => ?_⟩, fun q hq => .inl hq⟩
      cases z
      exact e
    · cases h
  | none =>
    rw [e] at h
    cases h
    have hn : m ∉ ks.map (·.1) := fun hm => by
      obtain ⟨q, hq, hqe⟩ := List.mem_map.mp hm
      unfold look at e
      rw [Option.map_eq_none_iff, List.find?_eq_none] at e
      exact e q hq (by simpa using hqe)
    refine ⟨?_, fun n b => ?_, fun q hq => by simpa using hq⟩
    · rw [List.map_append]
      exact List.nodup_append.mpr ⟨nd, by simp, fun a ha b hb => by rintro rfl; rw [List.mem_singleton.mp hb] at ha; exact hn ha⟩
    · have : putB ks m c = ks ++ [(m, c)] := by
        unfold putB
        rw [if_neg]
        intro z
        obtain ⟨q, hq, hqe⟩ := List.any_eq_true.mp z
        exact hn (List.mem_map.mpr ⟨q, hq, of_decide_eq_true hqe⟩)
      rw [← this, look_put]
      by_cases hnm : n = m
      · subst hnm
        rw [if_pos rfl, e]
        simp [eq_comm]
      · rw [if_neg hnm]
        simp [hnm]
theorem runS_spec : ∀ {lits ks ks' : Li}, runS ks lits = some ks' → (ks.map (·.1)).Nodup → (ks'.map (·.1)).Nodup ∧ (∀ n b, look ks' n = some b ↔ look ks n = some b ∨ (n, b) ∈ lits) ∧ ∀ q ∈ ks', q ∈ ks ∨ q ∈ lits
  | [], ks, ks', h, nd => by cases h; exact ⟨nd, fun n b => by simp, fun q hq => .inl hq⟩
  | p :: lits, ks, ks', h, nd => by
    unfold runS at h
    cases e : step ks p with
    | none => rw [e] at h; cases h
    | some k1 =>
      rw [e] at h
      obtain ⟨a1, a2, a3⟩ := step_spec e nd
      obtain ⟨b1, b2, b3⟩ := runS_spec h a1
      refine ⟨b1, fun n b => ?_, fun q hq => ?_⟩
      · rw [b2, a2, List.mem_cons, or_assoc]
      · rcases b3 q hq with z | z
        · rcases a3 q z with z | z
          · exact .inl z
          · exact .inr (by rw [z]; exact List.mem_cons_self)
        · exact .inr (List.mem_cons_of_mem _ z)
theorem runS_no : ∀ {lits ks : Li}, runS ks lits = none → (ks.map (·.1)).Nodup → ∃ n, (look ks n = some true ∨ (n, true) ∈ lits) ∧ (look ks n = some false ∨ (n, false) ∈ lits)
  | [], ks, h, nd => by cases h
  | (m, c) :: lits, ks, h, nd => by
    unfold runS at h
    cases e : step ks (m, c) with
    | none =>
      unfold step at e
      dsimp only at e
      cases e2 : look ks m with
      | none => rw [e2] at e; cases e
      | some d =>
        rw [e2] at e
        dsimp only at e
        split at e
        · cases e
        · rename_i hd
          refine ⟨m, ?_⟩
          cases d <;> cases c <;> simp_all
    | some k1 =>
      rw [e] at h
      obtain ⟨a1, a2, a3⟩ := step_spec e nd
      obtain ⟨n, h1, h2⟩ := runS_no h a1
      refine ⟨n, ?_, ?_⟩
      · rw [a2] at h1
        rcases h1 with (z | z) | z
        · exact .inl z
        · exact .inr (by rw [z]; exact List.mem_cons_self)
        · exact .inr (List.mem_cons_of_mem _ z)
      · rw [a2] at h2
        rcases h2 with (z | z) | z
        · exact .inl z
        · exact .inr (by rw [z]; exact List.mem_cons_self)
        · exact .inr (List.mem_cons_of_mem _ z)
theorem canonL_congr {a b : Li} (ha : (a.map (·.1)).Nodup) (hb : (b.map (·.1)).Nodup) (h : ∀ n c, look a n = some c ↔ look b n = some c) : canonL a = canonL b := by
  have hm : ∀ (ks : Li) s, s ∈ ks.map (·.1) ↔ ∃ c, look ks s = some c := fun ks s => by
    constructor
    · intro hs
      obtain ⟨p, hp, rfl⟩ := List.mem_map.mp hs
      have : (look ks p.1).isSome := by
        unfold look
        rw [Option.isSome_map, List.find?_isSome]
        exact ⟨p, hp, decide_eq_true rfl⟩
      exact Option.isSome_iff_exists.mp this
    · rintro ⟨c, hc⟩
      exact List.mem_map.mpr ⟨_, look_some hc, rfl⟩
  unfold canonL
  rw [sort_same ha hb fun s => by rw [hm, hm]; exact exists_congr fun c => h s c]
  refine List.map_congr_left fun s hs => ?_
  have : look a s = look b s := Option.ext fun c => h s c
  rw [this]
/-- the same literals, the same outcome -/
theorem runS_same {a b : Li} (h : ∀ p, p ∈ a ↔ p ∈ b) : toldL (runS [] a) = toldL (runS [] b) := by
  have key : ∀ {a b ka : Li}, (∀ p, p ∈ a ↔ p ∈ b) → runS [] a = some ka → runS [] b ≠ none := fun {a b ka} h e1 e2 => by
    obtain ⟨n, h1, h2⟩ := runS_no e2 .nil
    obtain ⟨_, q, _⟩ := runS_spec e1 .nil
    have z1 := (q n true).mpr (h1.imp id fun z => (h _).mpr z)
    have z2 := (q n false).mpr (h2.imp id fun z => (h _).mpr z)
    rw [z1] at z2
    cases z2
  cases e1 : runS [] a with
  | none =>
    cases e2 : runS [] b with
    | none => rfl
    | some kb => exact absurd e1 (key (fun p => (h p).symm) e2)
  | some ka =>
    cases e2 : runS [] b with
    | none => exact absurd e2 (key h e1)
    | some kb =>
      obtain ⟨n1, q1, _⟩ := runS_spec e1 .nil
      obtain ⟨n2, q2, _⟩ := runS_spec e2 .nil
      have : canonL ka = canonL kb := canonL_congr n1 n2 fun n c => by rw [q1, q2, h]
      show PyData.tuple ((canonL ka).map liD) = .tuple ((canonL kb).map liD)
      rw [this]
end Dl

set_option maxRecDepth 100000
set_option maxHeartbeats 400000
namespace Dl
open PySem PySem.Spec L2
set_option autoImplicit false
def mWordB : MA → ME := fun k => eComp [8] (iRng k) (gN 8) tTrue (eOp2 pyAt (eVar 2) (eCall 2 [true, true] mDraw (aCons (eVar 0) (aCons (eC (.int 26)) aNil))))
def mNamesB0 : MS :=
     (sSeq (sSet 9 (eUse mkLst (aCons (eC (.str "is")) (aCons (eC (.str "not")) (aCons (eC (.str "and")) (aCons (eC (.str "or")) (aCons (eC (.str "then")) (aCons (eC (.str "same")) (aCons (eC (.str "yes")) (aCons (eC (.str "no")) (aCons (eC (.str "say")) (aCons (eC (.str "fix")) (aCons (eC (.str "isa")) (aCons (eC (.str "nota")) (aCons (eC (.str "a")) aNil)))))))))))))))
     (sSeq (sSet 10 (eCall 2 [true, true] mDraw (aCons (eVar 0) (aCons (eC (.int 13)) aNil))))
     (sRet (eComp [8] (iRng (aCons (eVar 1) aNil)) (gN 8) tTrue (eOp2 pyAt (eVar 9) (eOp2 pyMod (eOp2 pyAdd (eVar 10) (eOp2 pyMul (eC (.int 5)) (eVar 8))) (eC (.int 13))))))))
def mNamesB1 : MS :=
     (sSeq (sSet 10 (eCall 2 [true, true] mDraw (aCons (eVar 0) (aCons (eC (.int 8)) aNil))))
     (sRet (eComp [8] (iRng (aCons (eVar 1) aNil)) (gN 8) tTrue (eSlice (eVar 4) oNone (oSome (eOp2 pyAdd (eOp2 pyMod (eOp2 pyAdd (eVar 10) (eOp2 pyMul (eC (.int 3)) (eVar 8))) (eC (.int 8))) (eC (.int 1))))))))
def mNamesB2L : MS :=
     (sSeq (sSet 11 (eOp2 pyAt (eVar 2) (eOp2 pyMod (eOp2 pyAdd (eVar 6) (eOp2 pyMul (eC (.int 7)) (eVar 8))) (eC (.int 26)))))
     (sSeq (sSet 12 (eOp2 pyAdd (eOp2 pyAdd (eSlice (eVar 4) oNone (oSome (eVar 5))) (eVar 11)) (eSlice (eVar 4) (oSome (eOp2 pyAdd (eVar 5) (eC (.int 1)))) oNone)))
     (sExp (eMut 7 mAppend (aCons (eSlice (eVar 12) oNone (oSome (eOp2 pyAdd (eOp2 pyAdd (eVar 5) (eC (.int 1))) (eCall 2 [true, true] mDraw (aCons (eVar 0) (aCons (eOp2 pySub (eC (.int 8)) (eVar 5)) aNil)))))) aNil)))))
def mNamesB2 : MS :=
     (sSeq (sSet 5 (eCall 2 [true, true] mDraw (aCons (eVar 0) (aCons (eC (.int 8)) aNil))))
     (sSeq (sSet 6 (eCall 2 [true, true] mDraw (aCons (eVar 0) (aCons (eC (.int 26)) aNil))))
     (sSeq (sSet 7 (eUse mkLst aNil))
     (sSeq (sFor (iRng (aCons (eVar 1) aNil)) (gN 8)
     mNamesB2L)
     (sRet (eVar 7))))))
def mNamesBR : MS :=
     (sSeq (sSet 4 (eOp2 pyJoin (eC (.str "")) (mWordB (aCons (eC (.int 8)) aNil))))
     (sSeq (sIf (tVal (eOp2 pyEq (eVar 3) (eC (.int 1)))) mNamesB1 sNil)
     mNamesB2))
def mLawNamesB : ME := fnSem 2 13
     (sSeq (sSet 2 (eC (.str "abcdefghijklmnopqrstuvwxyz")))
     (sSeq (sSet 3 (eCall 2 [true, true] mDraw (aCons (eVar 0) (aCons (eC (.int 3)) aNil))))
     (sSeq (sIf (tVal (eOp2 pyEq (eVar 3) (eC (.int 0)))) mNamesB0 sNil)
     mNamesBR)))
theorem word_compB {d : D} {n : Int} {t3 t4 t5 t6 t7 t8 t9 t10 t11 t12 : Slot} {k : Nat} {QO : Opd → Rho → Prop} {X : Ex → Rho → Prop} (hd : Hand d) (hk : k ≤ 16)
    (h : ∀ cs d, Hand d → okL cs → cs.length = k → QO (.new (.list ((cs.map one).map .str))) [.par d, .dat (.int n), .dat (.str abc), t3, t4, t5, t6, t7, t8, t9, t10, t11, t12]) :
    wp (compL [8] (gN 8) tTrue (eOp2 pyAt (eVar 2) (eCall 2 [true, true] mDraw (aCons (eVar 0) (aCons (eC (.int 26)) aNil)))) (range0 k) [] [.par d, .dat (.int n), .dat (.str abc), t3, t4, t5, t6, t7, t8, t9, t10, t11, t12]) QO X := by
  refine wp_cmp (fun i acc ρ => ∃ cs d, Hand d ∧ okL cs ∧ cs.length = i ∧ acc = (cs.map one).map .str ∧ ρ = [.par d, .dat (.int n), .dat (.str abc), t3, t4, t5, t6, t7, t8, t9, t10, t11, t12]) ⟨[], d, hd, okL_nil, rfl, rfl, rfl⟩ (fun i x acc ρ hx hI => ?_) fun acc ρ hI => ?_
  · obtain ⟨cs, d, hd, ho, hl, rfl, rfl⟩ := hI
    obtain ⟨rfl, hi⟩ := range_at hx
    refine ⟨[.par d, .dat (.int n), .dat (.str abc), t3, t4, t5, t6, t7, .dat (.int i), t9, t10, t11, t12], rfl, ?_⟩
    simp -dsimp -implicitDefEqProofs [Dl.vI, Dl.vB, Dl.vS, Dl.run2, Dl.run1, Dl.deref, Dl.Slot.data?, Dl.useO, Dl.useAll, Dl.boolOf, Dl.putO, Dl.free, Dl.outO, Dl.withAll, Dl.runN, Dl.derefs, Dl.mutO, Dl.isLst, Dl.isDct, Dl.putI, Dl.putD, Dl.setI, Dl.augO, Dl.getI, Dl.slotOf, Dl.slotsOf, Dl.lents, Dl.takeB, Dl.backS, Dl.useSel, Dl.back, Dl.gd, Dl.pyIx, atI, ixN, Dl.pyGet, Dl.pyMul, Dl.pyAdd, Dl.pyEq, Dl.pyNe, Dl.mulOk, Dl.powOk, Dl.pySlice, Dl.fLen, Dl.fList, Dl.fTuple, Dl.mAppend, Dl.mReverse, Dl.mClear, Dl.mExtend, Dl.mInsert, Dl.mkTup, Dl.mkLst, Dl.pyIsN, Dl.pyNotN, Dl.fNeg, Dl.pyRev, Dl.gN, Dl.gsNil, Dl.gsCons, Dl.gT, Dl.srcL, Dl.srcT, Dl.srcS, Dl.srcQ, Dl.srcR1, Dl.srcR2, Dl.hide, Dl.restore, sizeLine_eq, Dl.lockS]
    refine wp_draw hd (by decide) (by decide) fun w d hd w0 w1 => ?_
    obtain ⟨c, hc, ha⟩ := at_abc w0 w1
    simp -dsimp -implicitDefEqProofs [Dl.vI, Dl.vB, Dl.vS, Dl.run2, Dl.run1, Dl.deref, Dl.Slot.data?, Dl.useO, Dl.useAll, Dl.boolOf, Dl.putO, Dl.free, Dl.outO, Dl.withAll, Dl.runN, Dl.derefs, Dl.mutO, Dl.isLst, Dl.isDct, Dl.putI, Dl.putD, Dl.setI, Dl.augO, Dl.getI, Dl.slotOf, Dl.slotsOf, Dl.lents, Dl.takeB, Dl.backS, Dl.useSel, Dl.back, Dl.gd, Dl.pyIx, atI, ixN, Dl.pyGet, Dl.pyMul, Dl.pyAdd, Dl.pyEq, Dl.pyNe, Dl.mulOk, Dl.powOk, Dl.pySlice, Dl.fLen, Dl.fList, Dl.fTuple, Dl.mAppend, Dl.mReverse, Dl.mClear, Dl.mExtend, Dl.mInsert, Dl.mkTup, Dl.mkLst, Dl.pyIsN, Dl.pyNotN, Dl.fNeg, Dl.pyRev, Dl.gN, Dl.gsNil, Dl.gsCons, Dl.gT, Dl.srcL, Dl.srcT, Dl.srcS, Dl.srcQ, Dl.srcR1, Dl.srcR2, Dl.hide, Dl.restore, sizeLine_eq, Dl.lockS, ha]
    refine ⟨_, _, ⟨rfl, rfl⟩, by omega, cs ++ [c], ⟨d, hd, okL_app ho (fun a h => by rw [List.mem_singleton.mp h]; exact hc.1), by rw [List.length_append, hl]; rfl, ?_⟩⟩
    simp
  · obtain ⟨cs, d, hd, ho, hl, rfl, rfl⟩ := hI
    exact h cs d hd ho (by rw [hl]; simp)
theorem namesB0 {d : D} {n : Int} {t4 : Slot} {O : Opd → Rho → Prop} {N : Rho → Prop} {X : Ex → Rho → Prop} (hd : Hand d) (h0 : 0 ≤ n) (h1 : n ≤ 1000)
    (h : ∀ (ss : List Str) (d : D) (r : Rho), Hand d → (∀ s ∈ ss, Nm s) → (n ≤ 8 → Gd ss) → (ss.length : Int) = n → O (.new (.list (ss.map .str))) (.par d :: .dat (.int n) :: r)) : wp (mNamesB0 [.par d, .dat (.int n), .dat (.str abc), t4, .un, .un, .un, .un, .un, .un, .un, .un, .un]) (kf N (kr O)) X := by
  unfold mNamesB0
  obtain ⟨tg, htg⟩ : ∃ tg : List D, tg = tongue.map .str := ⟨_, rfl⟩
  have htg' := htg.symm
  simp only [tongue, List.map_cons, List.map_nil] at htg'
  have htl : tg.length ≤ 16777216 := by rw [htg, List.length_map]; decide
  simp -dsimp -implicitDefEqProofs [Dl.vI, Dl.vB, Dl.vS, Dl.run2, Dl.run1, Dl.deref, Dl.Slot.data?, Dl.useO, Dl.useAll, Dl.boolOf, Dl.putO, Dl.free, Dl.outO, Dl.withAll, Dl.runN, Dl.derefs, Dl.mutO, Dl.isLst, Dl.isDct, Dl.putI, Dl.putD, Dl.setI, Dl.augO, Dl.getI, Dl.slotOf, Dl.slotsOf, Dl.lents, Dl.takeB, Dl.backS, Dl.useSel, Dl.back, Dl.gd, Dl.pyIx, atI, ixN, Dl.pyGet, Dl.pyMul, Dl.pyAdd, Dl.pyEq, Dl.pyNe, Dl.mulOk, Dl.powOk, Dl.pySlice, Dl.fLen, Dl.fList, Dl.fTuple, Dl.mAppend, Dl.mReverse, Dl.mClear, Dl.mExtend, Dl.mInsert, Dl.mkTup, Dl.mkLst, Dl.pyIsN, Dl.pyNotN, Dl.fNeg, Dl.pyRev, Dl.gN, Dl.gsNil, Dl.gsCons, Dl.gT, Dl.srcL, Dl.srcT, Dl.srcS, Dl.srcQ, Dl.srcR1, Dl.srcR2, Dl.hide, Dl.restore, sizeLine_eq, Dl.lockS, htg', htl]
  refine wp_draw hd (by decide) (by decide) fun w d hd w0 w1 => ?_
  simp -dsimp -implicitDefEqProofs [Dl.vI, Dl.vB, Dl.vS, Dl.run2, Dl.run1, Dl.deref, Dl.Slot.data?, Dl.useO, Dl.useAll, Dl.boolOf, Dl.putO, Dl.free, Dl.outO, Dl.withAll, Dl.runN, Dl.derefs, Dl.mutO, Dl.isLst, Dl.isDct, Dl.putI, Dl.putD, Dl.setI, Dl.augO, Dl.getI, Dl.slotOf, Dl.slotsOf, Dl.lents, Dl.takeB, Dl.backS, Dl.useSel, Dl.back, Dl.gd, Dl.pyIx, atI, ixN, Dl.pyGet, Dl.pyMul, Dl.pyAdd, Dl.pyEq, Dl.pyNe, Dl.mulOk, Dl.powOk, Dl.pySlice, Dl.fLen, Dl.fList, Dl.fTuple, Dl.mAppend, Dl.mReverse, Dl.mClear, Dl.mExtend, Dl.mInsert, Dl.mkTup, Dl.mkLst, Dl.pyIsN, Dl.pyNotN, Dl.fNeg, Dl.pyRev, Dl.gN, Dl.gsNil, Dl.gsCons, Dl.gT, Dl.srcL, Dl.srcT, Dl.srcS, Dl.srcQ, Dl.srcR1, Dl.srcR2, Dl.hide, Dl.restore, sizeLine_eq, Dl.lockS, show -(4611686018427387904 : Int) ≤ n by omega, show n < 4611686018427387904 by omega]
  refine wp_cmp (fun i acc ρ => ∃ ss : List Str, (∀ s ∈ ss, Nm s) ∧ (n ≤ 8 → Gd ss ∧ ∀ s ∈ ss, ∃ k, k < i ∧ tongue[(w + 5 * (k : Int)).toNat % 13]? = some s) ∧ ss.length = i ∧ acc = ss.map .str ∧ ρ = [.par d, .dat (.int n), .dat (.str abc), t4, .un, .un, .un, .un, .un, .own (.list tg), .dat (.int w), .un, .un]) ⟨[], fun s h => (by cases h), fun _ => ⟨Gd.nil, fun s h => (by cases h)⟩, rfl, rfl, rfl⟩ (fun i x acc ρ hx hI => ?_) fun acc ρ hI => ?_
  · obtain ⟨ss, hn, hg, hl, rfl, rfl⟩ := hI
    obtain ⟨rfl, hi⟩ := range_at hx
    refine ⟨[.par d, .dat (.int n), .dat (.str abc), t4, .un, .un, .un, .un, .dat (.int i), .own (.list tg), .dat (.int w), .un, .un], rfl, ?_⟩
    have z0 : 0 ≤ (w + 5 * (i : Int)) % 13 := Int.emod_nonneg _ (by decide)
    have z1 : (w + 5 * (i : Int)) % 13 < 13 := Int.emod_lt_of_pos _ (by decide)
    obtain ⟨s, hs, ha, hq⟩ := at_map2 tongue ((w + 5 * (i : Int)) % 13) z0 (by have : tongue.length = 13 := rfl; omega)
    rw [← htg] at ha
    simp -dsimp -implicitDefEqProofs [Dl.vI, Dl.vB, Dl.vS, Dl.run2, Dl.run1, Dl.deref, Dl.Slot.data?, Dl.useO, Dl.useAll, Dl.boolOf, Dl.putO, Dl.free, Dl.outO, Dl.withAll, Dl.runN, Dl.derefs, Dl.mutO, Dl.isLst, Dl.isDct, Dl.putI, Dl.putD, Dl.setI, Dl.augO, Dl.getI, Dl.slotOf, Dl.slotsOf, Dl.lents, Dl.takeB, Dl.backS, Dl.useSel, Dl.back, Dl.gd, Dl.pyIx, Dl.pyGet, Dl.pyMul, Dl.pyAdd, Dl.pyEq, Dl.pyNe, Dl.mulOk, Dl.powOk, Dl.pySlice, Dl.fLen, Dl.fList, Dl.fTuple, Dl.mAppend, Dl.mReverse, Dl.mClear, Dl.mExtend, Dl.mInsert, Dl.mkTup, Dl.mkLst, Dl.pyIsN, Dl.pyNotN, Dl.fNeg, Dl.pyRev, Dl.gN, Dl.gsNil, Dl.gsCons, Dl.gT, Dl.srcL, Dl.srcT, Dl.srcS, Dl.srcQ, Dl.srcR1, Dl.srcR2, Dl.hide, Dl.restore, sizeLine_eq, Dl.lockS, ha]
    refine ⟨_, _, ⟨rfl, rfl⟩, by omega, ss ++ [s], fun t ht => ?_, fun h8 => ?_, by simp [hl], by simp, rfl⟩
    rcases List.mem_append.mp ht with ht | ht
    · exact hn t ht
    · rw [List.mem_singleton.mp ht]; exact tongue_nm s hs
    · obtain ⟨g, f⟩ := hg h8
      have e : ((w + 5 * (i : Int)) % 13).toNat = (w + 5 * (i : Int)).toNat % 13 := by omega
      rw [e] at hq
      refine ⟨g.snoc (tongue_lw s hs) fun z => ?_, fun t ht => ?_⟩
      · obtain ⟨k, hk, q⟩ := f s z
        have := tongue_inj hq q (by omega) (by omega)
        omega
      · rcases List.mem_append.mp ht with ht | ht
        · obtain ⟨k, hk, q⟩ := f t ht
          exact ⟨k, by omega, q⟩
        · rw [List.mem_singleton.mp ht]; exact ⟨i, by omega, hq⟩
  · obtain ⟨ss, hn, hg, hl, rfl, rfl⟩ := hI
    simp -dsimp -implicitDefEqProofs [Dl.vI, Dl.vB, Dl.vS, Dl.run2, Dl.run1, Dl.deref, Dl.Slot.data?, Dl.useO, Dl.useAll, Dl.boolOf, Dl.putO, Dl.free, Dl.outO, Dl.withAll, Dl.runN, Dl.derefs, Dl.mutO, Dl.isLst, Dl.isDct, Dl.putI, Dl.putD, Dl.setI, Dl.augO, Dl.getI, Dl.slotOf, Dl.slotsOf, Dl.lents, Dl.takeB, Dl.backS, Dl.useSel, Dl.back, Dl.gd, Dl.pyIx, atI, ixN, Dl.pyGet, Dl.pyMul, Dl.pyAdd, Dl.pyEq, Dl.pyNe, Dl.mulOk, Dl.powOk, Dl.pySlice, Dl.fLen, Dl.fList, Dl.fTuple, Dl.mAppend, Dl.mReverse, Dl.mClear, Dl.mExtend, Dl.mInsert, Dl.mkTup, Dl.mkLst, Dl.pyIsN, Dl.pyNotN, Dl.fNeg, Dl.pyRev, Dl.gN, Dl.gsNil, Dl.gsCons, Dl.gT, Dl.srcL, Dl.srcT, Dl.srcS, Dl.srcQ, Dl.srcR1, Dl.srcR2, Dl.hide, Dl.restore, sizeLine_eq, Dl.lockS]
    exact h ss d _ hd hn (fun h8 => (hg h8).1) (by rw [hl]; simp; omega)
theorem namesB1 {d : D} {n : Int} {t4 : Slot} {wd : Str} (hw : Nm wd) (hL : okL wd.cps.toList) (h8 : wd.cps.toList.length = 8) {O : Opd → Rho → Prop} {N : Rho → Prop} {X : Ex → Rho → Prop} (hd : Hand d) (h0 : 0 ≤ n) (h1 : n ≤ 1000)
    (h : ∀ (ss : List Str) (d : D) (r : Rho), Hand d → (∀ s ∈ ss, Nm s) → (n ≤ 8 → Gd ss) → (ss.length : Int) = n → O (.new (.list (ss.map .str))) (.par d :: .dat (.int n) :: r)) : wp (mNamesB1 [.par d, .dat (.int n), .dat (.str abc), t4, .dat (.str wd), .un, .un, .un, .un, .un, .un, .un, .un]) (kf N (kr O)) X := by
  unfold mNamesB1
  simp -dsimp -implicitDefEqProofs [Dl.vI, Dl.vB, Dl.vS, Dl.run2, Dl.run1, Dl.deref, Dl.Slot.data?, Dl.useO, Dl.useAll, Dl.boolOf, Dl.putO, Dl.free, Dl.outO, Dl.withAll, Dl.runN, Dl.derefs, Dl.mutO, Dl.isLst, Dl.isDct, Dl.putI, Dl.putD, Dl.setI, Dl.augO, Dl.getI, Dl.slotOf, Dl.slotsOf, Dl.lents, Dl.takeB, Dl.backS, Dl.useSel, Dl.back, Dl.gd, Dl.pyIx, atI, ixN, Dl.pyGet, Dl.pyMul, Dl.pyAdd, Dl.pyEq, Dl.pyNe, Dl.mulOk, Dl.powOk, Dl.pySlice, Dl.fLen, Dl.fList, Dl.fTuple, Dl.mAppend, Dl.mReverse, Dl.mClear, Dl.mExtend, Dl.mInsert, Dl.mkTup, Dl.mkLst, Dl.pyIsN, Dl.pyNotN, Dl.fNeg, Dl.pyRev, Dl.gN, Dl.gsNil, Dl.gsCons, Dl.gT, Dl.srcL, Dl.srcT, Dl.srcS, Dl.srcQ, Dl.srcR1, Dl.srcR2, Dl.hide, Dl.restore, sizeLine_eq, Dl.lockS]
  refine wp_draw hd (by decide) (by decide) fun w d hd w0 w1 => ?_
  simp -dsimp -implicitDefEqProofs [Dl.vI, Dl.vB, Dl.vS, Dl.run2, Dl.run1, Dl.deref, Dl.Slot.data?, Dl.useO, Dl.useAll, Dl.boolOf, Dl.putO, Dl.free, Dl.outO, Dl.withAll, Dl.runN, Dl.derefs, Dl.mutO, Dl.isLst, Dl.isDct, Dl.putI, Dl.putD, Dl.setI, Dl.augO, Dl.getI, Dl.slotOf, Dl.slotsOf, Dl.lents, Dl.takeB, Dl.backS, Dl.useSel, Dl.back, Dl.gd, Dl.pyIx, atI, ixN, Dl.pyGet, Dl.pyMul, Dl.pyAdd, Dl.pyEq, Dl.pyNe, Dl.mulOk, Dl.powOk, Dl.pySlice, Dl.fLen, Dl.fList, Dl.fTuple, Dl.mAppend, Dl.mReverse, Dl.mClear, Dl.mExtend, Dl.mInsert, Dl.mkTup, Dl.mkLst, Dl.pyIsN, Dl.pyNotN, Dl.fNeg, Dl.pyRev, Dl.gN, Dl.gsNil, Dl.gsCons, Dl.gT, Dl.srcL, Dl.srcT, Dl.srcS, Dl.srcQ, Dl.srcR1, Dl.srcR2, Dl.hide, Dl.restore, sizeLine_eq, Dl.lockS, show -(4611686018427387904 : Int) ≤ n by omega, show n < 4611686018427387904 by omega]
  refine wp_cmp (fun i acc ρ => ∃ ss : List Str, (∀ s ∈ ss, Nm s) ∧ (n ≤ 8 → Gd ss ∧ ∀ s ∈ ss, ∃ k : Nat, k < i ∧ s.cps.toList.length = ((w + 3 * (k : Int)) % 8 + 1).toNat) ∧ ss.length = i ∧ acc = ss.map .str ∧ ρ = [.par d, .dat (.int n), .dat (.str abc), t4, .dat (.str wd), .un, .un, .un, .un, .un, .dat (.int w), .un, .un]) ⟨[], fun s h => (by cases h), fun _ => ⟨Gd.nil, fun s h => (by cases h)⟩, rfl, rfl, rfl⟩ (fun i x acc ρ hx hI => ?_) fun acc ρ hI => ?_
  · obtain ⟨ss, hn, hg, hl, rfl, rfl⟩ := hI
    obtain ⟨rfl, hi⟩ := range_at hx
    refine ⟨[.par d, .dat (.int n), .dat (.str abc), t4, .dat (.str wd), .un, .un, .un, .dat (.int i), .un, .dat (.int w), .un, .un], rfl, ?_⟩
    have hz := hw.size
    simp -dsimp -implicitDefEqProofs [Dl.vI, Dl.vB, Dl.vS, Dl.run2, Dl.run1, Dl.deref, Dl.Slot.data?, Dl.useO, Dl.useAll, Dl.boolOf, Dl.putO, Dl.free, Dl.outO, Dl.withAll, Dl.runN, Dl.derefs, Dl.mutO, Dl.isLst, Dl.isDct, Dl.putI, Dl.putD, Dl.setI, Dl.augO, Dl.getI, Dl.slotOf, Dl.slotsOf, Dl.lents, Dl.takeB, Dl.backS, Dl.useSel, Dl.back, Dl.gd, Dl.pyIx, atI, ixN, Dl.pyGet, Dl.pyMul, Dl.pyAdd, Dl.pyEq, Dl.pyNe, Dl.mulOk, Dl.powOk, Dl.pySlice, Dl.fLen, Dl.fList, Dl.fTuple, Dl.mAppend, Dl.mReverse, Dl.mClear, Dl.mExtend, Dl.mInsert, Dl.mkTup, Dl.mkLst, Dl.pyIsN, Dl.pyNotN, Dl.fNeg, Dl.pyRev, Dl.gN, Dl.gsNil, Dl.gsCons, Dl.gT, Dl.srcL, Dl.srcT, Dl.srcS, Dl.srcQ, Dl.srcR1, Dl.srcR2, Dl.hide, Dl.restore, sizeLine_eq, Dl.lockS, show wd.length ≤ 16777216 by omega]
    refine ⟨_, _, ⟨rfl, rfl⟩, by omega, ss ++ [cutS wd none (some ((w + 3 * (i : Int)) % 8 + 1))], fun t ht => ?_, fun n8 => ?_, by simp [hl], by simp, rfl⟩
    rcases List.mem_append.mp ht with ht | ht
    · exact hn t ht
    · rw [List.mem_singleton.mp ht]; exact nm_cut hw _ _
    · obtain ⟨g, f⟩ := hg n8
      have ec := cut_pre wd (j := (w + 3 * (i : Int)) % 8 + 1) (by omega)
      have el : (cutS wd none (some ((w + 3 * (i : Int)) % 8 + 1))).cps.toList.length = ((w + 3 * (i : Int)) % 8 + 1).toNat := by
        rw [ec, List.length_take]
        omega
      refine ⟨g.snoc ⟨by omega, by omega, fun c hc => hL c (by rw [ec] at hc; exact List.mem_of_mem_take hc)⟩ fun z => ?_, fun t ht => ?_⟩
      · obtain ⟨k, hk, q⟩ := f _ z
        omega
      · rcases List.mem_append.mp ht with ht | ht
        · obtain ⟨k, hk, q⟩ := f t ht
          exact ⟨k, by omega, q⟩
        · rw [List.mem_singleton.mp ht]; exact ⟨i, by omega, el⟩
  · obtain ⟨ss, hn, hg, hl, rfl, rfl⟩ := hI
    simp -dsimp -implicitDefEqProofs [Dl.vI, Dl.vB, Dl.vS, Dl.run2, Dl.run1, Dl.deref, Dl.Slot.data?, Dl.useO, Dl.useAll, Dl.boolOf, Dl.putO, Dl.free, Dl.outO, Dl.withAll, Dl.runN, Dl.derefs, Dl.mutO, Dl.isLst, Dl.isDct, Dl.putI, Dl.putD, Dl.setI, Dl.augO, Dl.getI, Dl.slotOf, Dl.slotsOf, Dl.lents, Dl.takeB, Dl.backS, Dl.useSel, Dl.back, Dl.gd, Dl.pyIx, atI, ixN, Dl.pyGet, Dl.pyMul, Dl.pyAdd, Dl.pyEq, Dl.pyNe, Dl.mulOk, Dl.powOk, Dl.pySlice, Dl.fLen, Dl.fList, Dl.fTuple, Dl.mAppend, Dl.mReverse, Dl.mClear, Dl.mExtend, Dl.mInsert, Dl.mkTup, Dl.mkLst, Dl.pyIsN, Dl.pyNotN, Dl.fNeg, Dl.pyRev, Dl.gN, Dl.gsNil, Dl.gsCons, Dl.gT, Dl.srcL, Dl.srcT, Dl.srcS, Dl.srcQ, Dl.srcR1, Dl.srcR2, Dl.hide, Dl.restore, sizeLine_eq, Dl.lockS]
    exact h ss d _ hd hn (fun n8 => (hg n8).1) (by rw [hl]; simp; omega)
theorem namesB2 {d : D} {n : Int} {t4 : Slot} {wd : Str} (hw : Nm wd) (hL : okL wd.cps.toList) (h8 : wd.cps.toList.length = 8) (hw2 : wd.cps.toList.length ≤ 16) {O : Opd → Rho → Prop} {N : Rho → Prop} {X : Ex → Rho → Prop} (hd : Hand d) (h0 : 0 ≤ n) (h1 : n ≤ 1000)
    (h : ∀ (ss : List Str) (d : D) (r : Rho), Hand d → (∀ s ∈ ss, Nm s) → (n ≤ 8 → Gd ss) → (ss.length : Int) = n → O (.new (.list (ss.map .str))) (.par d :: .dat (.int n) :: r)) : wp (mNamesB2 [.par d, .dat (.int n), .dat (.str abc), t4, .dat (.str wd), .un, .un, .un, .un, .un, .un, .un, .un]) (kf N (kr O)) X := by
  unfold mNamesB2
  simp -dsimp -implicitDefEqProofs [Dl.vI, Dl.vB, Dl.vS, Dl.run2, Dl.run1, Dl.deref, Dl.Slot.data?, Dl.useO, Dl.useAll, Dl.boolOf, Dl.putO, Dl.free, Dl.outO, Dl.withAll, Dl.runN, Dl.derefs, Dl.mutO, Dl.isLst, Dl.isDct, Dl.putI, Dl.putD, Dl.setI, Dl.augO, Dl.getI, Dl.slotOf, Dl.slotsOf, Dl.lents, Dl.takeB, Dl.backS, Dl.useSel, Dl.back, Dl.gd, Dl.pyIx, atI, ixN, Dl.pyGet, Dl.pyMul, Dl.pyAdd, Dl.pyEq, Dl.pyNe, Dl.mulOk, Dl.powOk, Dl.pySlice, Dl.fLen, Dl.fList, Dl.fTuple, Dl.mAppend, Dl.mReverse, Dl.mClear, Dl.mExtend, Dl.mInsert, Dl.mkTup, Dl.mkLst, Dl.pyIsN, Dl.pyNotN, Dl.fNeg, Dl.pyRev, Dl.gN, Dl.gsNil, Dl.gsCons, Dl.gT, Dl.srcL, Dl.srcT, Dl.srcS, Dl.srcQ, Dl.srcR1, Dl.srcR2, Dl.hide, Dl.restore, sizeLine_eq, Dl.lockS]
  refine wp_draw hd (by decide) (by decide) fun sp d hd p0 p1 => ?_
  simp -dsimp -implicitDefEqProofs [Dl.vI, Dl.vB, Dl.vS, Dl.run2, Dl.run1, Dl.deref, Dl.Slot.data?, Dl.useO, Dl.useAll, Dl.boolOf, Dl.putO, Dl.free, Dl.outO, Dl.withAll, Dl.runN, Dl.derefs, Dl.mutO, Dl.isLst, Dl.isDct, Dl.putI, Dl.putD, Dl.setI, Dl.augO, Dl.getI, Dl.slotOf, Dl.slotsOf, Dl.lents, Dl.takeB, Dl.backS, Dl.useSel, Dl.back, Dl.gd, Dl.pyIx, atI, ixN, Dl.pyGet, Dl.pyMul, Dl.pyAdd, Dl.pyEq, Dl.pyNe, Dl.mulOk, Dl.powOk, Dl.pySlice, Dl.fLen, Dl.fList, Dl.fTuple, Dl.mAppend, Dl.mReverse, Dl.mClear, Dl.mExtend, Dl.mInsert, Dl.mkTup, Dl.mkLst, Dl.pyIsN, Dl.pyNotN, Dl.fNeg, Dl.pyRev, Dl.gN, Dl.gsNil, Dl.gsCons, Dl.gT, Dl.srcL, Dl.srcT, Dl.srcS, Dl.srcQ, Dl.srcR1, Dl.srcR2, Dl.hide, Dl.restore, sizeLine_eq, Dl.lockS]
  refine wp_draw hd (by decide) (by decide) fun st d hd q0 q1 => ?_
  simp -dsimp -implicitDefEqProofs [Dl.vI, Dl.vB, Dl.vS, Dl.run2, Dl.run1, Dl.deref, Dl.Slot.data?, Dl.useO, Dl.useAll, Dl.boolOf, Dl.putO, Dl.free, Dl.outO, Dl.withAll, Dl.runN, Dl.derefs, Dl.mutO, Dl.isLst, Dl.isDct, Dl.putI, Dl.putD, Dl.setI, Dl.augO, Dl.getI, Dl.slotOf, Dl.slotsOf, Dl.lents, Dl.takeB, Dl.backS, Dl.useSel, Dl.back, Dl.gd, Dl.pyIx, atI, ixN, Dl.pyGet, Dl.pyMul, Dl.pyAdd, Dl.pyEq, Dl.pyNe, Dl.mulOk, Dl.powOk, Dl.pySlice, Dl.fLen, Dl.fList, Dl.fTuple, Dl.mAppend, Dl.mReverse, Dl.mClear, Dl.mExtend, Dl.mInsert, Dl.mkTup, Dl.mkLst, Dl.pyIsN, Dl.pyNotN, Dl.fNeg, Dl.pyRev, Dl.gN, Dl.gsNil, Dl.gsCons, Dl.gT, Dl.srcL, Dl.srcT, Dl.srcS, Dl.srcQ, Dl.srcR1, Dl.srcR2, Dl.hide, Dl.restore, sizeLine_eq, Dl.lockS, show -(4611686018427387904 : Int) ≤ n by omega, show n < 4611686018427387904 by omega]
  obtain ⟨I, eI⟩ : ∃ I : Nat → Rho → Prop, I = fun i ρ => ∃ (ss : List Str) (d : D) (s9 s11 s12 : Slot), Hand d ∧ (∀ s ∈ ss, Nm s) ∧ (n ≤ 8 → Gd ss ∧ ∀ s ∈ ss, ∃ k : Nat, k < i ∧ s.cps.toList[sp.toNat]? = some (97 + ((st + 7 * (k : Int)) % 26).toNat)) ∧ ss.length = i ∧ (frS s9 = true ∧ frS s11 = true ∧ frS s12 = true) ∧ ρ = [.par d, .dat (.int n), .dat (.str abc), t4, .dat (.str wd), .dat (.int sp), .dat (.int st), .own (.list (ss.map .str)), s9, .un, .un, s11, s12] := ⟨_, rfl⟩
  refine wp_for I (by rw [eI]; exact ⟨[], d, .un, .un, .un, hd, fun s h => (by cases h), fun _ => ⟨Gd.nil, fun s h => (by cases h)⟩, rfl, ⟨rfl, rfl, rfl⟩, rfl⟩) (fun i x ρ hx hI => ?_) fun ρ hI => ?_
  · rw [eI] at hI
    obtain ⟨ss, d, s9, s11, s12, hd, hn, hg, hl, ⟨f9, f11, f12⟩, rfl⟩ := hI
    obtain ⟨rfl, hi⟩ := range_at hx
    simp only [frS, free, List.getElem?_cons_zero] at f9 f11 f12
    refine ⟨[.par d, .dat (.int n), .dat (.str abc), t4, .dat (.str wd), .dat (.int sp), .dat (.int st), .own (.list (ss.map .str)), .dat (.int i), .un, .un, s11, s12], ?_, ?_⟩
    · simp -dsimp -implicitDefEqProofs [Dl.vI, Dl.vB, Dl.vS, Dl.run2, Dl.run1, Dl.deref, Dl.Slot.data?, Dl.useO, Dl.useAll, Dl.boolOf, Dl.putO, Dl.free, Dl.outO, Dl.withAll, Dl.runN, Dl.derefs, Dl.mutO, Dl.isLst, Dl.isDct, Dl.putI, Dl.putD, Dl.setI, Dl.augO, Dl.getI, Dl.slotOf, Dl.slotsOf, Dl.lents, Dl.takeB, Dl.backS, Dl.useSel, Dl.back, Dl.gd, Dl.pyIx, atI, ixN, Dl.pyGet, Dl.pyMul, Dl.pyAdd, Dl.pyEq, Dl.pyNe, Dl.mulOk, Dl.powOk, Dl.pySlice, Dl.fLen, Dl.fList, Dl.fTuple, Dl.mAppend, Dl.mReverse, Dl.mClear, Dl.mExtend, Dl.mInsert, Dl.mkTup, Dl.mkLst, Dl.pyIsN, Dl.pyNotN, Dl.fNeg, Dl.pyRev, Dl.gN, Dl.gsNil, Dl.gsCons, Dl.gT, Dl.srcL, Dl.srcT, Dl.srcS, Dl.srcQ, Dl.srcR1, Dl.srcR2, Dl.hide, Dl.restore, sizeLine_eq, Dl.lockS, f9]
    have hz := hw.size
    have z0 : 0 ≤ (st + 7 * (i : Int)) % 26 := Int.emod_nonneg _ (by decide)
    have z1 : (st + 7 * (i : Int)) % 26 < 26 := Int.emod_lt_of_pos _ (by decide)
    obtain ⟨c, ⟨hc1, hc2⟩, ha⟩ := at_abc z0 z1
    have hc : c < 1114112 := by omega
    have n1 : Nm (cutS wd none (some sp) ++ one c) := nm_add (nm_cut hw _ _) (nm_one hc) (by have := cut_len wd none (some sp); have : (one c).cps.toList.length = 1 := rfl; omega)
    have n2 : Nm (cutS wd none (some sp) ++ one c ++ cutS wd (some (sp + 1)) none) := nm_add n1 (nm_cut hw _ _) (by
      have := cut_len wd none (some sp)
      have := cut_len wd (some (sp + 1)) none
      have : (one c).cps.toList.length = 1 := rfl
      rw [add_len]
      omega)
    have l1 := (nm_cut hw none (some sp)).size
    have l2 := (nm_one hc).size
    have l3 := n1.size
    have l4 := (nm_cut hw (some (sp + 1)) none).size
    have l5 := n2.size
    unfold mNamesB2L
    simp -dsimp -implicitDefEqProofs [Dl.vI, Dl.vB, Dl.vS, Dl.run2, Dl.run1, Dl.deref, Dl.Slot.data?, Dl.useO, Dl.useAll, Dl.boolOf, Dl.putO, Dl.free, Dl.outO, Dl.withAll, Dl.runN, Dl.derefs, Dl.mutO, Dl.isLst, Dl.isDct, Dl.putI, Dl.putD, Dl.setI, Dl.augO, Dl.getI, Dl.slotOf, Dl.slotsOf, Dl.lents, Dl.takeB, Dl.backS, Dl.useSel, Dl.back, Dl.gd, Dl.pyIx, atI, ixN, Dl.pyGet, Dl.pyMul, Dl.pyAdd, Dl.pyEq, Dl.pyNe, Dl.mulOk, Dl.powOk, Dl.pySlice, Dl.fLen, Dl.fList, Dl.fTuple, Dl.mAppend, Dl.mReverse, Dl.mClear, Dl.mExtend, Dl.mInsert, Dl.mkTup, Dl.mkLst, Dl.pyIsN, Dl.pyNotN, Dl.fNeg, Dl.pyRev, Dl.gN, Dl.gsNil, Dl.gsCons, Dl.gT, Dl.srcL, Dl.srcT, Dl.srcS, Dl.srcQ, Dl.srcR1, Dl.srcR2, Dl.hide, Dl.restore, sizeLine_eq, Dl.lockS, ha, f11, f12, show wd.length ≤ 16777216 by omega, show (cutS wd none (some sp)).length + (one c).length ≤ 16777216 by omega, show (cutS wd none (some sp) ++ one c).length + (cutS wd (some (sp + 1)) none).length ≤ 16777216 by omega]
    refine wp_draw (n := 8 - sp) hd (by omega) (by omega) fun e d hd e0 e1 => ?_
    simp -dsimp -implicitDefEqProofs [Dl.vI, Dl.vB, Dl.vS, Dl.run2, Dl.run1, Dl.deref, Dl.Slot.data?, Dl.useO, Dl.useAll, Dl.boolOf, Dl.putO, Dl.free, Dl.outO, Dl.withAll, Dl.runN, Dl.derefs, Dl.mutO, Dl.isLst, Dl.isDct, Dl.putI, Dl.putD, Dl.setI, Dl.augO, Dl.getI, Dl.slotOf, Dl.slotsOf, Dl.lents, Dl.takeB, Dl.backS, Dl.useSel, Dl.back, Dl.gd, Dl.pyIx, atI, ixN, Dl.pyGet, Dl.pyMul, Dl.pyAdd, Dl.pyEq, Dl.pyNe, Dl.mulOk, Dl.powOk, Dl.pySlice, Dl.fLen, Dl.fList, Dl.fTuple, Dl.mAppend, Dl.mReverse, Dl.mClear, Dl.mExtend, Dl.mInsert, Dl.mkTup, Dl.mkLst, Dl.pyIsN, Dl.pyNotN, Dl.fNeg, Dl.pyRev, Dl.gN, Dl.gsNil, Dl.gsCons, Dl.gT, Dl.srcL, Dl.srcT, Dl.srcS, Dl.srcQ, Dl.srcR1, Dl.srcR2, Dl.hide, Dl.restore, sizeLine_eq, Dl.lockS, show (cutS wd none (some sp) ++ one c ++ cutS wd (some (sp + 1)) none).length ≤ 16777216 by omega, show ss.length < 16777216 by omega]
    rw [eI]
    refine ⟨ss ++ [cutS (cutS wd none (some sp) ++ one c ++ cutS wd (some (sp + 1)) none) none (some (sp + 1 + e))], d, _, _, _, hd, fun t ht => ?_, fun n8 => ?_, by simp [hl], ⟨rfl, rfl, rfl⟩, by rw [List.map_append]; rfl⟩
    rcases List.mem_append.mp ht with ht | ht
    · exact hn t ht
    · rw [List.mem_singleton.mp ht]; exact nm_cut n2 _ _
    · obtain ⟨g, f⟩ := hg n8
      obtain ⟨nw, enw⟩ : ∃ nw, nw = cutS (cutS wd none (some sp) ++ one c ++ cutS wd (some (sp + 1)) none) none (some (sp + 1 + e)) := ⟨_, rfl⟩
      rw [← enw]
      have ec : nw.cps.toList = (wd.cps.toList.take sp.toNat ++ [c] ++ wd.cps.toList.drop (sp + 1).toNat).take (sp + 1 + e).toNat := by
        rw [enw, cut_pre _ (by omega)]
        congr 1
        show ((cutS wd none (some sp)).cps ++ (one c).cps ++ (cutS wd (some (sp + 1)) none).cps).toList = _
        rw [Array.toList_append, Array.toList_append, cut_pre _ p0, cut_suf _ (by omega)]
        rfl
      have lt : (wd.cps.toList.take sp.toNat).length = sp.toNat := by rw [List.length_take]; omega
      have el : nw.cps.toList.length = (sp + 1 + e).toNat := by
        rw [ec, List.length_take, List.length_append, List.length_append, lt, List.length_drop, List.length_singleton]
        omega
      have ea : nw.cps.toList[sp.toNat]? = some c := by
        rw [ec, List.getElem?_take, if_pos (by omega), List.append_assoc, List.getElem?_append_right (by omega), lt]
        simp
      refine ⟨g.snoc ⟨by omega, by omega, fun x hx => ?_⟩ fun z => ?_, fun t ht => ?_⟩
      · rw [ec] at hx
        have hx := List.mem_of_mem_take hx
        simp only [List.mem_append, List.mem_singleton] at hx
        rcases hx with (hx | hx) | hx
        · exact hL x (List.mem_of_mem_take hx)
        · rw [hx]; exact hc1
        · exact hL x (List.mem_of_mem_drop hx)
      · obtain ⟨k, hk, q⟩ := f _ z
        rw [ea] at q
        have q := Option.some.inj q
        omega
      · rcases List.mem_append.mp ht with ht | ht
        · obtain ⟨k, hk, q⟩ := f t ht
          exact ⟨k, by omega, q⟩
        · rw [List.mem_singleton.mp ht]; exact ⟨i, by omega, by rw [ea, hc2]⟩
  · rw [eI] at hI
    obtain ⟨ss, d, s9, s11, s12, hd, hn, hg, hl, _, rfl⟩ := hI
    simp -dsimp -implicitDefEqProofs [Dl.vI, Dl.vB, Dl.vS, Dl.run2, Dl.run1, Dl.deref, Dl.Slot.data?, Dl.useO, Dl.useAll, Dl.boolOf, Dl.putO, Dl.free, Dl.outO, Dl.withAll, Dl.runN, Dl.derefs, Dl.mutO, Dl.isLst, Dl.isDct, Dl.putI, Dl.putD, Dl.setI, Dl.augO, Dl.getI, Dl.slotOf, Dl.slotsOf, Dl.lents, Dl.takeB, Dl.backS, Dl.useSel, Dl.back, Dl.gd, Dl.pyIx, atI, ixN, Dl.pyGet, Dl.pyMul, Dl.pyAdd, Dl.pyEq, Dl.pyNe, Dl.mulOk, Dl.powOk, Dl.pySlice, Dl.fLen, Dl.fList, Dl.fTuple, Dl.mAppend, Dl.mReverse, Dl.mClear, Dl.mExtend, Dl.mInsert, Dl.mkTup, Dl.mkLst, Dl.pyIsN, Dl.pyNotN, Dl.fNeg, Dl.pyRev, Dl.gN, Dl.gsNil, Dl.gsCons, Dl.gT, Dl.srcL, Dl.srcT, Dl.srcS, Dl.srcQ, Dl.srcR1, Dl.srcR2, Dl.hide, Dl.restore, sizeLine_eq, Dl.lockS]
    exact h ss d _ hd hn (fun n8 => (hg n8).1) (by rw [hl]; simp; omega)
theorem law_namesB {d : D} {n : Int} {Q : Opd → Rho → Prop} {X : Ex → Rho → Prop} (hd : Hand d) (h0 : 0 ≤ n) (h1 : n ≤ 13)
    (h : ∀ (ss : List Str) (d : D), Hand d → (∀ s ∈ ss, Nm s) → (n ≤ 8 → Gd ss) → (ss.length : Int) = n → Q (.new (.list (ss.map .str))) [.par d, .dat (.int n)]) : wp (mLawNamesB [.par d, .dat (.int n)]) Q X := by
  unfold mLawNamesB
  simp -dsimp -implicitDefEqProofs [Dl.vI, Dl.vB, Dl.vS, Dl.run2, Dl.run1, Dl.deref, Dl.Slot.data?, Dl.useO, Dl.useAll, Dl.boolOf, Dl.putO, Dl.free, Dl.outO, Dl.withAll, Dl.runN, Dl.derefs, Dl.mutO, Dl.isLst, Dl.isDct, Dl.putI, Dl.putD, Dl.setI, Dl.augO, Dl.getI, Dl.slotOf, Dl.slotsOf, Dl.lents, Dl.takeB, Dl.backS, Dl.useSel, Dl.back, Dl.gd, Dl.pyIx, atI, ixN, Dl.pyGet, Dl.pyMul, Dl.pyAdd, Dl.pyEq, Dl.pyNe, Dl.mulOk, Dl.powOk, Dl.pySlice, Dl.fLen, Dl.fList, Dl.fTuple, Dl.mAppend, Dl.mReverse, Dl.mClear, Dl.mExtend, Dl.mInsert, Dl.mkTup, Dl.mkLst, Dl.pyIsN, Dl.pyNotN, Dl.fNeg, Dl.pyRev, Dl.gN, Dl.gsNil, Dl.gsCons, Dl.gT, Dl.srcL, Dl.srcT, Dl.srcS, Dl.srcQ, Dl.srcR1, Dl.srcR2, Dl.hide, Dl.restore, sizeLine_eq, Dl.lockS]
  refine wp_draw hd (by decide) (by decide) fun w d hd w0 w1 => ?_
  by_cases e0 : w = 0
  · simp -dsimp -implicitDefEqProofs [Dl.vI, Dl.vB, Dl.vS, Dl.run2, Dl.run1, Dl.deref, Dl.Slot.data?, Dl.useO, Dl.useAll, Dl.boolOf, Dl.putO, Dl.free, Dl.outO, Dl.withAll, Dl.runN, Dl.derefs, Dl.mutO, Dl.isLst, Dl.isDct, Dl.putI, Dl.putD, Dl.setI, Dl.augO, Dl.getI, Dl.slotOf, Dl.slotsOf, Dl.lents, Dl.takeB, Dl.backS, Dl.useSel, Dl.back, Dl.gd, Dl.pyIx, atI, ixN, Dl.pyGet, Dl.pyMul, Dl.pyAdd, Dl.pyEq, Dl.pyNe, Dl.mulOk, Dl.powOk, Dl.pySlice, Dl.fLen, Dl.fList, Dl.fTuple, Dl.mAppend, Dl.mReverse, Dl.mClear, Dl.mExtend, Dl.mInsert, Dl.mkTup, Dl.mkLst, Dl.pyIsN, Dl.pyNotN, Dl.fNeg, Dl.pyRev, Dl.gN, Dl.gsNil, Dl.gsCons, Dl.gT, Dl.srcL, Dl.srcT, Dl.srcS, Dl.srcQ, Dl.srcR1, Dl.srcR2, Dl.hide, Dl.restore, sizeLine_eq, Dl.lockS, e0]
    exact namesB0 hd h0 (by omega) fun ss d r hd hn hg hl => h ss d hd hn hg hl
  · simp -dsimp -implicitDefEqProofs [Dl.vI, Dl.vB, Dl.vS, Dl.run2, Dl.run1, Dl.deref, Dl.Slot.data?, Dl.useO, Dl.useAll, Dl.boolOf, Dl.putO, Dl.free, Dl.outO, Dl.withAll, Dl.runN, Dl.derefs, Dl.mutO, Dl.isLst, Dl.isDct, Dl.putI, Dl.putD, Dl.setI, Dl.augO, Dl.getI, Dl.slotOf, Dl.slotsOf, Dl.lents, Dl.takeB, Dl.backS, Dl.useSel, Dl.back, Dl.gd, Dl.pyIx, atI, ixN, Dl.pyGet, Dl.pyMul, Dl.pyAdd, Dl.pyEq, Dl.pyNe, Dl.mulOk, Dl.powOk, Dl.pySlice, Dl.fLen, Dl.fList, Dl.fTuple, Dl.mAppend, Dl.mReverse, Dl.mClear, Dl.mExtend, Dl.mInsert, Dl.mkTup, Dl.mkLst, Dl.pyIsN, Dl.pyNotN, Dl.fNeg, Dl.pyRev, Dl.gN, Dl.gsNil, Dl.gsCons, Dl.gT, Dl.srcL, Dl.srcT, Dl.srcS, Dl.srcQ, Dl.srcR1, Dl.srcR2, Dl.hide, Dl.restore, sizeLine_eq, Dl.lockS, e0, mNamesBR, mWordB]
    refine word_compB hd (by decide) fun cs d hd ho hc => ?_
    have j := join_py cs (by omega)
    have hw : Nm (Txt.join "" (cs.map one)) := nm_join ho.c (by omega)
    have hL : okL (Txt.join "" (cs.map one)).cps.toList := by rw [join_ones]; exact ho
    have h8 : (Txt.join "" (cs.map one)).cps.toList.length = 8 := by rw [join_ones]; exact hc
    have hw2 : (Txt.join "" (cs.map one)).cps.toList.length ≤ 16 := by rw [join_ones]; omega
    generalize Txt.join "" (cs.map one) = wd at *
    simp only [List.map_map] at j
    simp -dsimp -implicitDefEqProofs [Dl.vI, Dl.vB, Dl.vS, Dl.run2, Dl.run1, Dl.deref, Dl.Slot.data?, Dl.useO, Dl.useAll, Dl.boolOf, Dl.putO, Dl.free, Dl.outO, Dl.withAll, Dl.runN, Dl.derefs, Dl.mutO, Dl.isLst, Dl.isDct, Dl.putI, Dl.putD, Dl.setI, Dl.augO, Dl.getI, Dl.slotOf, Dl.slotsOf, Dl.lents, Dl.takeB, Dl.backS, Dl.useSel, Dl.back, Dl.gd, Dl.pyIx, atI, ixN, Dl.pyGet, Dl.pyMul, Dl.pyAdd, Dl.pyEq, Dl.pyNe, Dl.mulOk, Dl.powOk, Dl.pySlice, Dl.fLen, Dl.fList, Dl.fTuple, Dl.mAppend, Dl.mReverse, Dl.mClear, Dl.mExtend, Dl.mInsert, Dl.mkTup, Dl.mkLst, Dl.pyIsN, Dl.pyNotN, Dl.fNeg, Dl.pyRev, Dl.gN, Dl.gsNil, Dl.gsCons, Dl.gT, Dl.srcL, Dl.srcT, Dl.srcS, Dl.srcQ, Dl.srcR1, Dl.srcR2, Dl.hide, Dl.restore, sizeLine_eq, Dl.lockS, j]
    by_cases e1 : w = 1
    · simp -dsimp -implicitDefEqProofs [Dl.vI, Dl.vB, Dl.vS, Dl.run2, Dl.run1, Dl.deref, Dl.Slot.data?, Dl.useO, Dl.useAll, Dl.boolOf, Dl.putO, Dl.free, Dl.outO, Dl.withAll, Dl.runN, Dl.derefs, Dl.mutO, Dl.isLst, Dl.isDct, Dl.putI, Dl.putD, Dl.setI, Dl.augO, Dl.getI, Dl.slotOf, Dl.slotsOf, Dl.lents, Dl.takeB, Dl.backS, Dl.useSel, Dl.back, Dl.gd, Dl.pyIx, atI, ixN, Dl.pyGet, Dl.pyMul, Dl.pyAdd, Dl.pyEq, Dl.pyNe, Dl.mulOk, Dl.powOk, Dl.pySlice, Dl.fLen, Dl.fList, Dl.fTuple, Dl.mAppend, Dl.mReverse, Dl.mClear, Dl.mExtend, Dl.mInsert, Dl.mkTup, Dl.mkLst, Dl.pyIsN, Dl.pyNotN, Dl.fNeg, Dl.pyRev, Dl.gN, Dl.gsNil, Dl.gsCons, Dl.gT, Dl.srcL, Dl.srcT, Dl.srcS, Dl.srcQ, Dl.srcR1, Dl.srcR2, Dl.hide, Dl.restore, sizeLine_eq, Dl.lockS, e1]
      exact namesB1 hw hL h8 hd h0 (by omega) fun ss d r hd hn hg hl => h ss d hd hn hg hl
    · simp -dsimp -implicitDefEqProofs [Dl.vI, Dl.vB, Dl.vS, Dl.run2, Dl.run1, Dl.deref, Dl.Slot.data?, Dl.useO, Dl.useAll, Dl.boolOf, Dl.putO, Dl.free, Dl.outO, Dl.withAll, Dl.runN, Dl.derefs, Dl.mutO, Dl.isLst, Dl.isDct, Dl.putI, Dl.putD, Dl.setI, Dl.augO, Dl.getI, Dl.slotOf, Dl.slotsOf, Dl.lents, Dl.takeB, Dl.backS, Dl.useSel, Dl.back, Dl.gd, Dl.pyIx, atI, ixN, Dl.pyGet, Dl.pyMul, Dl.pyAdd, Dl.pyEq, Dl.pyNe, Dl.mulOk, Dl.powOk, Dl.pySlice, Dl.fLen, Dl.fList, Dl.fTuple, Dl.mAppend, Dl.mReverse, Dl.mClear, Dl.mExtend, Dl.mInsert, Dl.mkTup, Dl.mkLst, Dl.pyIsN, Dl.pyNotN, Dl.fNeg, Dl.pyRev, Dl.gN, Dl.gsNil, Dl.gsCons, Dl.gT, Dl.srcL, Dl.srcT, Dl.srcS, Dl.srcQ, Dl.srcR1, Dl.srcR2, Dl.hide, Dl.restore, sizeLine_eq, Dl.lockS, e1]
      exact namesB2 hw hL h8 hw2 hd h0 (by omega) fun ss d r hd hn hg hl => h ss d hd hn hg hl
end Dl

set_option maxRecDepth 100000
set_option maxHeartbeats 400000
namespace Dl
open PySem PySem.Spec L2
set_option autoImplicit false
/-! ### dicts of names with truths -/
theorem dict_tr (fs : Li) : fDict [.dict (tr fs)] = some (.new (.dict (tr fs))) := rfl
theorem mem_look {fs : Li} (nd : (fs.map (·.1)).Nodup) {p : Str × Bool} (h : p ∈ fs) : look fs p.1 = some p.2 := by
  induction fs with
  | nil => cases h
  | cons q fs ih =>
    rw [List.map_cons, List.nodup_cons] at nd
    unfold look
    rw [List.find?_cons]
    rcases List.mem_cons.mp h with e | e
    · subst e
      simp
    · have : ¬ q.1 = p.1 := fun z => nd.1 (by rw [z]; exact List.mem_map.mpr ⟨p, e, rfl⟩)
      simp only [this, decide_false]
      exact ih nd.2 e
theorem look_iff {fs : Li} (nd : (fs.map (·.1)).Nodup) {s : Str} {b : Bool} : look fs s = some b ↔ (s, b) ∈ fs := ⟨look_some, fun h => mem_look nd h⟩
theorem look_none {fs : Li} {s : Str} : look fs s = none ↔ s ∉ fs.map (·.1) := by
  unfold look
  rw [Option.map_eq_none_iff, List.find?_eq_none]
  simp only [decide_eq_true_eq, List.mem_map, not_exists, not_and]
theorem alike_tr {fs : Li} (nd : (fs.map (·.1)).Nodup) : alike (tr fs) (tr fs) = true := by
  unfold alike
  rw [decide_eq_true rfl, Bool.true_and, List.all_eq_true]
  intro p hp
  obtain ⟨q, hq, rfl⟩ := List.mem_map.mp hp
  have : keyOf (PyData.str q.1) = some (.inr q.1) := rfl
  rw [this]
  dsimp only
  rw [dlook_tr, mem_look nd hq]
  cases q.2 <;> rfl
theorem ne_tr {fs : Li} (nd : (fs.map (·.1)).Nodup) : pyNeK (.dict (tr fs)) (.dict (tr fs)) = some (.val (.bool false)) := by
  unfold pyNeK
  dsimp only
  rw [alike_tr nd]
  rfl
theorem eq_tr {fs : Li} (nd : (fs.map (·.1)).Nodup) : pyEqK (.dict (tr fs)) (.dict (tr fs)) = some (.val (.bool true)) := by
  unfold pyEqK
  dsimp only
  rw [alike_tr nd]
  rfl
theorem putB_keys (fs : Li) (s : Str) (b : Bool) : (putB fs s b).map (·.1) = if s ∈ fs.map (·.1) then fs.map (·.1) else fs.map (·.1) ++ [s] := by
  unfold putB
  have e : fs.any (fun p => decide (p.1 = s)) = true ↔ s ∈ fs.map (·.1) := by
    rw [List.any_eq_true]
    simp only [decide_eq_true_eq, List.mem_map]
  by_cases h : s ∈ fs.map (·.1)
  · rw [if_pos (e.mpr h), if_pos h, List.map_map]
    refine List.map_congr_left fun p _ => ?_
    dsimp only [Function.comp]
    split <;> rfl
  · rw [if_neg (fun z => h (e.mp z)), if_neg h, List.map_append]
    rfl
theorem putB_nd {fs : Li} {s : Str} {b : Bool} (nd : (fs.map (·.1)).Nodup) : ((putB fs s b).map (·.1)).Nodup := by
  rw [putB_keys]
  split
  · exact nd
  · rename_i h
    exact List.nodup_append.mpr ⟨nd, by simp, fun a ha b hb => by rintro rfl; rw [List.mem_singleton.mp hb] at ha; exact h ha⟩
theorem putB_len (fs : Li) (s : Str) (b : Bool) : (putB fs s b).length ≤ fs.length + 1 := by
  have := congrArg List.length (putB_keys fs s b)
  rw [List.length_map] at this
  rw [this]
  split <;> simp
theorem putB_new {fs : Li} {s : Str} (b : Bool) (h : s ∉ fs.map (·.1)) : putB fs s b = fs ++ [(s, b)] := by
  unfold putB
  rw [if_neg]
  intro z
  obtain ⟨p, hp, e⟩ := List.any_eq_true.mp z
  exact h (List.mem_map.mpr ⟨p, hp, of_decide_eq_true e⟩)
theorem setK_tr {fs : Li} {s : Str} {b : Bool} (h : fs.length < 16777216) : setK (.dict (tr fs)) (.str s) (.bool b) = some (.dict (tr (putB fs s b))) := by
  unfold setK
  have : keyOf (PyData.str s) = some (.inr s) := rfl
  dsimp only
  rw [this]
  dsimp only
  rw [if_pos (by rw [tr_len, sizeLine_eq]; omega), dput_tr]
end Dl

set_option maxRecDepth 100000
set_option maxHeartbeats 400000
namespace Dl
open PySem PySem.Spec L2
set_option autoImplicit false
def mHoldsUnder : Nat → ME
 | 0 => fun _ => .fail
 | n + 1 => fnSem 2 5
     (sSeq (sSet 2 (eOp2 pyAt (eVar 0) (eC (.int 0))))
     (sSeq (sIf (tVal (eOp2 pyEq (eVar 2) (eC (.str "yes"))))
     (sRet (eC (.bool true)))
     sNil)
     (sSeq (sIf (tVal (eOp2 pyEq (eVar 2) (eC (.str "no"))))
     (sRet (eC (.bool false)))
     sNil)
     (sSeq (sIf (tVal (eOp2 pyEq (eVar 2) (eC (.str "is"))))
     (sRet (eOp2 pyAt (eVar 1) (eOp2 pyAt (eVar 0) (eC (.int 1)))))
     sNil)
     (sSeq (sIf (tVal (eOp2 pyEq (eVar 2) (eC (.str "not"))))
     (sRet (eNot (eCall 2 [true, true] (mHoldsUnder n) (aCons (eOp2 pyAt (eVar 0) (eC (.int 1))) (aCons (eVar 1) aNil)))))
     sNil)
     (sSeq (sSet 3 (eCall 2 [true, true] (mHoldsUnder n) (aCons (eOp2 pyAt (eVar 0) (eC (.int 1))) (aCons (eVar 1) aNil))))
     (sSeq (sSet 4 (eCall 2 [true, true] (mHoldsUnder n) (aCons (eOp2 pyAt (eVar 0) (eC (.int 2))) (aCons (eVar 1) aNil))))
     (sSeq (sIf (tVal (eOp2 pyEq (eVar 2) (eC (.str "and"))))
     (sRet (eAnd (eVar 3) (eVar 4)))
     sNil)
     (sSeq (sIf (tVal (eOp2 pyEq (eVar 2) (eC (.str "or"))))
     (sRet (eOr (eVar 3) (eVar 4)))
     sNil)
     (sSeq (sIf (tVal (eOp2 pyEq (eVar 2) (eC (.str "then"))))
     (sRet (eOr (eVar 4) (eNot (eVar 3))))
     sNil)
     (sRet (eOp2 pyEq (eVar 3) (eVar 4)))))))))))))
def mHolds : ME := fnSem 2 3
     (sSeq (sFor (iSeq (eCall 1 [true] mNamesOf (aCons (eVar 0) aNil))) (gN 2)
     (sIf (tVal (eOp2 (orf pyNotIn pyNotInK) (eVar 2) (eVar 1)))
     sNo
     sNil))
     (sRet (eCall 2 [true, true] (mHoldsUnder 7) (aCons (eVar 0) (aCons (eVar 1) aNil)))))
def mAllFacts : ME := fnSem 1 7
     (sSeq (sSet 1 (eUse mkLst (aCons (fun ρ => .ok (.new (.dict [])) ρ) aNil)))
     (sSeq (sFor (iLst (eBlt fSorted (aCons (eVar 0) aNil))) (gN 2)
     (sSeq (sSet 3 (eUse mkLst aNil))
     (sSeq (lkd 1 (sFor (iLst (eVar 1)) (gN 4)
     (sFor (iTpl (eUse mkTup (aCons (eC (.bool false)) (aCons (eC (.bool true)) aNil)))) (gN 5)
     (sSeq (sSet 6 (eBlt fDict (aCons (eVar 4) aNil)))
     (sSeq (sPutD 6 (eVar 2) (eVar 5))
     (sExp (eMut 3 mAppend (aCons (eVar 6) aNil))))))))
     (sSet 1 (eVar 3)))))
     (sRet (eVar 1))))
def mRowsUnder : ME := fnSem 1 2
     (sRet (eComp [1] (iSeq (eCall 1 [true] mAllFacts (aCons (eCall 1 [true] mNamesOf (aCons (eVar 0) aNil)) aNil))) (gN 1) (tVal (eCall 2 [true, true] mHolds (aCons (eVar 0) (aCons (eVar 1) aNil)))) (eVar 1)))
def mStandsIn : ME := fnSem 2 5
     (sSeq (lkd 0 (sFor (iSeq (eVar 0)) (gN 2)
     (sIf (tNotM (tVal (eBlt fAny (aCons (lkd 1 (eComp [3, 4] (iSeq (eVar 1)) (gT 2 (gsCons (gN 3) (gsCons (gN 4) gsNil))) tTrue (eAnd (eOp2 (orf pyIn pyInK) (eVar 3) (eVar 2)) (eOp2 pyEq (eOp2 pyAt (eVar 2) (eVar 3)) (eVar 4))))) aNil))))
     (sRet (eC (.bool false)))
     sNil)))
     (sRet (eC (.bool true))))
def mFollows : ME := fnSem 2 2
     (sRet (eCall 2 [true, true] mStandsIn (aCons (eCall 1 [true] mRowsUnder (aCons (eVar 0) aNil)) (aCons (eVar 1) aNil))))
def mLawHolds : Nat → ME
 | 0 => fun _ => .fail
 | n + 1 => fnSem 2 5
     (sSeq (sSet 2 (eOp2 pyAt (eVar 0) (eC (.int 0))))
     (sSeq (sIf (tOrM (tVal (eOp2 pyEq (eVar 2) (eC (.str "yes")))) (tVal (eOp2 pyEq (eVar 2) (eC (.str "no")))))
     (sRet (eOp2 pyEq (eVar 2) (eC (.str "yes"))))
     sNil)
     (sSeq (sIf (tVal (eOp2 pyEq (eVar 2) (eC (.str "is"))))
     (sRet (eOp2 pyAt (eVar 1) (eOp2 pyAt (eVar 0) (eC (.int 1)))))
     sNil)
     (sSeq (sSet 3 (eCall 2 [true, true] (mLawHolds n) (aCons (eOp2 pyAt (eVar 0) (eC (.int 1))) (aCons (eVar 1) aNil))))
     (sSeq (sIf (tVal (eOp2 pyEq (eVar 2) (eC (.str "not"))))
     (sRet (eNot (eVar 3)))
     sNil)
     (sSeq (sSet 4 (eCall 2 [true, true] (mLawHolds n) (aCons (eOp2 pyAt (eVar 0) (eC (.int 2))) (aCons (eVar 1) aNil))))
     (sSeq (sIf (tVal (eOp2 pyEq (eVar 2) (eC (.str "and"))))
     (sRet (eAnd (eVar 3) (eVar 4)))
     sNil)
     (sSeq (sIf (tVal (eOp2 pyEq (eVar 2) (eC (.str "or"))))
     (sRet (eOr (eVar 3) (eVar 4)))
     sNil)
     (sSeq (sIf (tVal (eOp2 pyEq (eVar 2) (eC (.str "then"))))
     (sRet (eOr (eNot (eVar 3)) (eVar 4)))
     sNil)
     (sRet (eOp2 pyEq (eVar 3) (eVar 4))))))))))))
def mLawAllFacts : ME := fnSem 1 7
     (sSeq (sSet 1 (eUse mkLst (aCons (fun ρ => .ok (.new (.dict [])) ρ) aNil)))
     (sSeq (lkd 0 (sFor (iSeq (eVar 0)) (gN 2)
     (sSeq (sSet 3 (eUse mkLst aNil))
     (sSeq (lkd 1 (sFor (iLst (eVar 1)) (gN 4)
     (sFor (iTpl (eUse mkTup (aCons (eC (.bool false)) (aCons (eC (.bool true)) aNil)))) (gN 5)
     (sSeq (sSet 6 (eBlt fDict (aCons (eVar 4) aNil)))
     (sSeq (sPutD 6 (eVar 2) (eVar 5))
     (sExp (eMut 3 mAppend (aCons (eVar 6) aNil))))))))
     (sSet 1 (eVar 3))))))
     (sRet (eVar 1))))
def mLawStands : ME := fnSem 2 4
     (sSeq (lkd 0 (sFor (iSeq (eVar 0)) (gT 2 (gsCons (gN 2) (gsCons (gN 3) gsNil)))
     (sIf (tVal (eOp2 pyEq (eOp2 pyAt (eVar 1) (eVar 2)) (eVar 3)))
     (sRet (eC (.bool true)))
     sNil)))
     (sRet (eC (.bool false))))
@[simp] theorem wd_is_yes : (("is" : Str) == "yes") = false := by decide +kernel
@[simp] theorem wd_is_no : (("is" : Str) == "no") = false := by decide +kernel
@[simp] theorem wd_is_not : (("is" : Str) == "not") = false := by decide +kernel
@[simp] theorem wd_is_and : (("is" : Str) == "and") = false := by decide +kernel
@[simp] theorem wd_is_or : (("is" : Str) == "or") = false := by decide +kernel
@[simp] theorem wd_is_then : (("is" : Str) == "then") = false := by decide +kernel
@[simp] theorem wd_is_same : (("is" : Str) == "same") = false := by decide +kernel
@[simp] theorem wd_yes_is : (("yes" : Str) == "is") = false := by decide +kernel
@[simp] theorem wd_yes_no : (("yes" : Str) == "no") = false := by decide +kernel
@[simp] theorem wd_yes_not : (("yes" : Str) == "not") = false := by decide +kernel
@[simp] theorem wd_yes_and : (("yes" : Str) == "and") = false := by decide +kernel
@[simp] theorem wd_yes_or : (("yes" : Str) == "or") = false := by decide +kernel
@[simp] theorem wd_yes_then : (("yes" : Str) == "then") = false := by decide +kernel
@[simp] theorem wd_yes_same : (("yes" : Str) == "same") = false := by decide +kernel
@[simp] theorem wd_no_is : (("no" : Str) == "is") = false := by decide +kernel
@[simp] theorem wd_no_yes : (("no" : Str) == "yes") = false := by decide +kernel
@[simp] theorem wd_no_not : (("no" : Str) == "not") = false := by decide +kernel
@[simp] theorem wd_no_and : (("no" : Str) == "and") = false := by decide +kernel
@[simp] theorem wd_no_or : (("no" : Str) == "or") = false := by decide +kernel
@[simp] theorem wd_no_then : (("no" : Str) == "then") = false := by decide +kernel
@[simp] theorem wd_no_same : (("no" : Str) == "same") = false := by decide +kernel
@[simp] theorem wd_not_is : (("not" : Str) == "is") = false := by decide +kernel
@[simp] theorem wd_not_yes : (("not" : Str) == "yes") = false := by decide +kernel
@[simp] theorem wd_not_no : (("not" : Str) == "no") = false := by decide +kernel
@[simp] theorem wd_not_and : (("not" : Str) == "and") = false := by decide +kernel
@[simp] theorem wd_not_or : (("not" : Str) == "or") = false := by decide +kernel
@[simp] theorem wd_not_then : (("not" : Str) == "then") = false := by decide +kernel
@[simp] theorem wd_not_same : (("not" : Str) == "same") = false := by decide +kernel
@[simp] theorem wd_and_is : (("and" : Str) == "is") = false := by decide +kernel
@[simp] theorem wd_and_yes : (("and" : Str) == "yes") = false := by decide +kernel
@[simp] theorem wd_and_no : (("and" : Str) == "no") = false := by decide +kernel
@[simp] theorem wd_and_not : (("and" : Str) == "not") = false := by decide +kernel
@[simp] theorem wd_and_or : (("and" : Str) == "or") = false := by decide +kernel
@[simp] theorem wd_and_then : (("and" : Str) == "then") = false := by decide +kernel
@[simp] theorem wd_and_same : (("and" : Str) == "same") = false := by decide +kernel
@[simp] theorem wd_or_is : (("or" : Str) == "is") = false := by decide +kernel
@[simp] theorem wd_or_yes : (("or" : Str) == "yes") = false := by decide +kernel
@[simp] theorem wd_or_no : (("or" : Str) == "no") = false := by decide +kernel
@[simp] theorem wd_or_not : (("or" : Str) == "not") = false := by decide +kernel
@[simp] theorem wd_or_and : (("or" : Str) == "and") = false := by decide +kernel
@[simp] theorem wd_or_then : (("or" : Str) == "then") = false := by decide +kernel
@[simp] theorem wd_or_same : (("or" : Str) == "same") = false := by decide +kernel
@[simp] theorem wd_then_is : (("then" : Str) == "is") = false := by decide +kernel
@[simp] theorem wd_then_yes : (("then" : Str) == "yes") = false := by decide +kernel
@[simp] theorem wd_then_no : (("then" : Str) == "no") = false := by decide +kernel
@[simp] theorem wd_then_not : (("then" : Str) == "not") = false := by decide +kernel
@[simp] theorem wd_then_and : (("then" : Str) == "and") = false := by decide +kernel
@[simp] theorem wd_then_or : (("then" : Str) == "or") = false := by decide +kernel
@[simp] theorem wd_then_same : (("then" : Str) == "same") = false := by decide +kernel
@[simp] theorem wd_same_is : (("same" : Str) == "is") = false := by decide +kernel
@[simp] theorem wd_same_yes : (("same" : Str) == "yes") = false := by decide +kernel
@[simp] theorem wd_same_no : (("same" : Str) == "no") = false := by decide +kernel
@[simp] theorem wd_same_not : (("same" : Str) == "not") = false := by decide +kernel
@[simp] theorem wd_same_and : (("same" : Str) == "and") = false := by decide +kernel
@[simp] theorem wd_same_or : (("same" : Str) == "or") = false := by decide +kernel
@[simp] theorem wd_same_then : (("same" : Str) == "then") = false := by decide +kernel
@[simp] theorem shw_and : SeqAt.shaped (.str "and") = true := by decide +kernel
@[simp] theorem shw_or : SeqAt.shaped (.str "or") = true := by decide +kernel
@[simp] theorem shw_then : SeqAt.shaped (.str "then") = true := by decide +kernel
@[simp] theorem shw_same : SeqAt.shaped (.str "same") = true := by decide +kernel

/-! ### rules under facts -/
def Ru.val (f : Str → Bool) : Ru → Bool
  | .is s => f s
  | .yes => true
  | .no => false
  | .not r => !(r.val f)
  | .two .and a b => a.val f && b.val f
  | .two .or a b => a.val f || b.val f
  | .two .thn a b => !(a.val f) || b.val f
  | .two .same a b => a.val f == b.val f
def ev (fs : Li) (s : Str) : Bool := (look fs s).getD false
/-- the facts' place -/
def FS (s : Slot) (fs : Li) : Prop := s = .dat (.dict (tr fs)) ∨ s = .par (.dict (tr fs)) ∨ s = .lck (.dict (tr fs))
theorem ev_look {fs : Li} {s : Str} {b : Bool} (h : look fs s = some b) : ev fs s = b := by unfold ev; rw [h]; rfl
theorem holds_under_eq {fs : Li} : ∀ (n : Nat) (r : Ru) {s : Slot}, FS s fs → r.dep ≤ n → (∀ x ∈ r.names, (look fs x).isSome) → mHoldsUnder n [.dat r.toD, s] = .ok (.val (.bool (r.val (ev fs)))) [.dat r.toD, s]
  | 0, r, s, _, h, _ => by cases r <;> simp [Ru.dep] at h
  | n + 1, r, s, hs, h, hk => by
    have : wp (mHoldsUnder (n + 1) [.dat r.toD, s]) (fun o ρ => o = .val (.bool (r.val (ev fs))) ∧ ρ = [.dat r.toD, s]) NoX := by
      unfold mHoldsUnder
      cases r with
      | yes => rcases hs with rfl | rfl | rfl <;> simp -dsimp -implicitDefEqProofs [Dl.vI, Dl.vB, Dl.vS, Dl.run2, Dl.run1, Dl.deref, Dl.Slot.data?, Dl.useO, Dl.useAll, Dl.boolOf, Dl.putO, Dl.free, Dl.outO, Dl.withAll, Dl.runN, Dl.derefs, Dl.mutO, Dl.isLst, Dl.isDct, Dl.putI, Dl.putD, Dl.setI, Dl.augO, Dl.getI, Dl.slotOf, Dl.slotsOf, Dl.lents, Dl.takeB, Dl.backS, Dl.useSel, Dl.back, Dl.gd, Dl.pyIx, atI, ixN, Dl.pyGet, Dl.pyMul, Dl.pyAdd, Dl.pyEq, Dl.pyNe, Dl.mulOk, Dl.powOk, Dl.pySlice, Dl.fLen, Dl.fList, Dl.fTuple, Dl.mAppend, Dl.mReverse, Dl.mClear, Dl.mExtend, Dl.mInsert, Dl.mkTup, Dl.mkLst, Dl.pyIsN, Dl.pyNotN, Dl.fNeg, Dl.pyRev, Dl.gN, Dl.gsNil, Dl.gsCons, Dl.gT, Dl.srcL, Dl.srcT, Dl.srcS, Dl.srcQ, Dl.srcR1, Dl.srcR2, Dl.hide, Dl.restore, sizeLine_eq, Dl.lockS, Ru.toD, Ru.val]
      | no => rcases hs with rfl | rfl | rfl <;> simp -dsimp -implicitDefEqProofs [Dl.vI, Dl.vB, Dl.vS, Dl.run2, Dl.run1, Dl.deref, Dl.Slot.data?, Dl.useO, Dl.useAll, Dl.boolOf, Dl.putO, Dl.free, Dl.outO, Dl.withAll, Dl.runN, Dl.derefs, Dl.mutO, Dl.isLst, Dl.isDct, Dl.putI, Dl.putD, Dl.setI, Dl.augO, Dl.getI, Dl.slotOf, Dl.slotsOf, Dl.lents, Dl.takeB, Dl.backS, Dl.useSel, Dl.back, Dl.gd, Dl.pyIx, atI, ixN, Dl.pyGet, Dl.pyMul, Dl.pyAdd, Dl.pyEq, Dl.pyNe, Dl.mulOk, Dl.powOk, Dl.pySlice, Dl.fLen, Dl.fList, Dl.fTuple, Dl.mAppend, Dl.mReverse, Dl.mClear, Dl.mExtend, Dl.mInsert, Dl.mkTup, Dl.mkLst, Dl.pyIsN, Dl.pyNotN, Dl.fNeg, Dl.pyRev, Dl.gN, Dl.gsNil, Dl.gsCons, Dl.gT, Dl.srcL, Dl.srcT, Dl.srcS, Dl.srcQ, Dl.srcR1, Dl.srcR2, Dl.hide, Dl.restore, sizeLine_eq, Dl.lockS, Ru.toD, Ru.val]
      | is x =>
        obtain ⟨b, hb⟩ := Option.isSome_iff_exists.mp (hk x (by simp [Ru.names]))
        have a := at_tr hb
        have e := ev_look hb
        rcases hs with rfl | rfl | rfl <;> simp -dsimp -implicitDefEqProofs [Dl.vI, Dl.vB, Dl.vS, Dl.run2, Dl.run1, Dl.deref, Dl.Slot.data?, Dl.useO, Dl.useAll, Dl.boolOf, Dl.putO, Dl.free, Dl.outO, Dl.withAll, Dl.runN, Dl.derefs, Dl.mutO, Dl.isLst, Dl.isDct, Dl.putI, Dl.putD, Dl.setI, Dl.augO, Dl.getI, Dl.slotOf, Dl.slotsOf, Dl.lents, Dl.takeB, Dl.backS, Dl.useSel, Dl.back, Dl.gd, Dl.pyIx, atI, ixN, Dl.pyGet, Dl.pyMul, Dl.pyAdd, Dl.pyEq, Dl.pyNe, Dl.mulOk, Dl.powOk, Dl.pySlice, Dl.fLen, Dl.fList, Dl.fTuple, Dl.mAppend, Dl.mReverse, Dl.mClear, Dl.mExtend, Dl.mInsert, Dl.mkTup, Dl.mkLst, Dl.pyIsN, Dl.pyNotN, Dl.fNeg, Dl.pyRev, Dl.gN, Dl.gsNil, Dl.gsCons, Dl.gT, Dl.srcL, Dl.srcT, Dl.srcS, Dl.srcQ, Dl.srcR1, Dl.srcR2, Dl.hide, Dl.restore, sizeLine_eq, Dl.lockS, Ru.toD, Ru.val, a, e]
      | not r =>
        have ih := holds_under_eq n r hs (by simp only [Ru.dep] at h; omega) hk
        rcases hs with rfl | rfl | rfl <;> simp -dsimp -implicitDefEqProofs [Dl.vI, Dl.vB, Dl.vS, Dl.run2, Dl.run1, Dl.deref, Dl.Slot.data?, Dl.useO, Dl.useAll, Dl.boolOf, Dl.putO, Dl.free, Dl.outO, Dl.withAll, Dl.runN, Dl.derefs, Dl.mutO, Dl.isLst, Dl.isDct, Dl.putI, Dl.putD, Dl.setI, Dl.augO, Dl.getI, Dl.slotOf, Dl.slotsOf, Dl.lents, Dl.takeB, Dl.backS, Dl.useSel, Dl.back, Dl.gd, Dl.pyIx, atI, ixN, Dl.pyGet, Dl.pyMul, Dl.pyAdd, Dl.pyEq, Dl.pyNe, Dl.mulOk, Dl.powOk, Dl.pySlice, Dl.fLen, Dl.fList, Dl.fTuple, Dl.mAppend, Dl.mReverse, Dl.mClear, Dl.mExtend, Dl.mInsert, Dl.mkTup, Dl.mkLst, Dl.pyIsN, Dl.pyNotN, Dl.fNeg, Dl.pyRev, Dl.gN, Dl.gsNil, Dl.gsCons, Dl.gT, Dl.srcL, Dl.srcT, Dl.srcS, Dl.srcQ, Dl.srcR1, Dl.srcR2, Dl.hide, Dl.restore, sizeLine_eq, Dl.lockS, Ru.toD, Ru.val, ih]
      | two o a b =>
        have ia := holds_under_eq n a hs (by simp only [Ru.dep] at h; omega) fun x hx => hk x (List.mem_append_left _ hx)
        have ib := holds_under_eq n b hs (by simp only [Ru.dep] at h; omega) fun x hx => hk x (List.mem_append_right _ hx)
        cases va : a.val (ev fs) <;> cases vb : b.val (ev fs) <;> rw [va] at ia <;> rw [vb] at ib <;> rcases hs with rfl | rfl | rfl <;> cases o <;> simp -dsimp -implicitDefEqProofs [Dl.vI, Dl.vB, Dl.vS, Dl.run2, Dl.run1, Dl.deref, Dl.Slot.data?, Dl.useO, Dl.useAll, Dl.boolOf, Dl.putO, Dl.free, Dl.outO, Dl.withAll, Dl.runN, Dl.derefs, Dl.mutO, Dl.isLst, Dl.isDct, Dl.putI, Dl.putD, Dl.setI, Dl.augO, Dl.getI, Dl.slotOf, Dl.slotsOf, Dl.lents, Dl.takeB, Dl.backS, Dl.useSel, Dl.back, Dl.gd, Dl.pyIx, atI, ixN, Dl.pyGet, Dl.pyMul, Dl.pyAdd, Dl.pyEq, Dl.pyNe, Dl.mulOk, Dl.powOk, Dl.pySlice, Dl.fLen, Dl.fList, Dl.fTuple, Dl.mAppend, Dl.mReverse, Dl.mClear, Dl.mExtend, Dl.mInsert, Dl.mkTup, Dl.mkLst, Dl.pyIsN, Dl.pyNotN, Dl.fNeg, Dl.pyRev, Dl.gN, Dl.gsNil, Dl.gsCons, Dl.gT, Dl.srcL, Dl.srcT, Dl.srcS, Dl.srcQ, Dl.srcR1, Dl.srcR2, Dl.hide, Dl.restore, sizeLine_eq, Dl.lockS, Ru.toD, Op4.str, Ru.val, ia, ib, va, vb]
    obtain ⟨o, ρ, e, rfl, rfl⟩ := wp_out this
    exact e
theorem law_holds_eq {fs : Li} : ∀ (n : Nat) (r : Ru) {s : Slot}, FS s fs → r.dep ≤ n → (∀ x ∈ r.names, (look fs x).isSome) → mLawHolds n [.dat r.toD, s] = .ok (.val (.bool (r.val (ev fs)))) [.dat r.toD, s]
  | 0, r, s, _, h, _ => by cases r <;> simp [Ru.dep] at h
  | n + 1, r, s, hs, h, hk => by
    have : wp (mLawHolds (n + 1) [.dat r.toD, s]) (fun o ρ => o = .val (.bool (r.val (ev fs))) ∧ ρ = [.dat r.toD, s]) NoX := by
      unfold mLawHolds
      cases r with
      | yes => rcases hs with rfl | rfl | rfl <;> simp -dsimp -implicitDefEqProofs [Dl.vI, Dl.vB, Dl.vS, Dl.run2, Dl.run1, Dl.deref, Dl.Slot.data?, Dl.useO, Dl.useAll, Dl.boolOf, Dl.putO, Dl.free, Dl.outO, Dl.withAll, Dl.runN, Dl.derefs, Dl.mutO, Dl.isLst, Dl.isDct, Dl.putI, Dl.putD, Dl.setI, Dl.augO, Dl.getI, Dl.slotOf, Dl.slotsOf, Dl.lents, Dl.takeB, Dl.backS, Dl.useSel, Dl.back, Dl.gd, Dl.pyIx, atI, ixN, Dl.pyGet, Dl.pyMul, Dl.pyAdd, Dl.pyEq, Dl.pyNe, Dl.mulOk, Dl.powOk, Dl.pySlice, Dl.fLen, Dl.fList, Dl.fTuple, Dl.mAppend, Dl.mReverse, Dl.mClear, Dl.mExtend, Dl.mInsert, Dl.mkTup, Dl.mkLst, Dl.pyIsN, Dl.pyNotN, Dl.fNeg, Dl.pyRev, Dl.gN, Dl.gsNil, Dl.gsCons, Dl.gT, Dl.srcL, Dl.srcT, Dl.srcS, Dl.srcQ, Dl.srcR1, Dl.srcR2, Dl.hide, Dl.restore, sizeLine_eq, Dl.lockS, Ru.toD, Ru.val]
      | no => rcases hs with rfl | rfl | rfl <;> simp -dsimp -implicitDefEqProofs [Dl.vI, Dl.vB, Dl.vS, Dl.run2, Dl.run1, Dl.deref, Dl.Slot.data?, Dl.useO, Dl.useAll, Dl.boolOf, Dl.putO, Dl.free, Dl.outO, Dl.withAll, Dl.runN, Dl.derefs, Dl.mutO, Dl.isLst, Dl.isDct, Dl.putI, Dl.putD, Dl.setI, Dl.augO, Dl.getI, Dl.slotOf, Dl.slotsOf, Dl.lents, Dl.takeB, Dl.backS, Dl.useSel, Dl.back, Dl.gd, Dl.pyIx, atI, ixN, Dl.pyGet, Dl.pyMul, Dl.pyAdd, Dl.pyEq, Dl.pyNe, Dl.mulOk, Dl.powOk, Dl.pySlice, Dl.fLen, Dl.fList, Dl.fTuple, Dl.mAppend, Dl.mReverse, Dl.mClear, Dl.mExtend, Dl.mInsert, Dl.mkTup, Dl.mkLst, Dl.pyIsN, Dl.pyNotN, Dl.fNeg, Dl.pyRev, Dl.gN, Dl.gsNil, Dl.gsCons, Dl.gT, Dl.srcL, Dl.srcT, Dl.srcS, Dl.srcQ, Dl.srcR1, Dl.srcR2, Dl.hide, Dl.restore, sizeLine_eq, Dl.lockS, Ru.toD, Ru.val]
      | is x =>
        obtain ⟨b, hb⟩ := Option.isSome_iff_exists.mp (hk x (by simp [Ru.names]))
        have a := at_tr hb
        have e := ev_look hb
        rcases hs with rfl | rfl | rfl <;> simp -dsimp -implicitDefEqProofs [Dl.vI, Dl.vB, Dl.vS, Dl.run2, Dl.run1, Dl.deref, Dl.Slot.data?, Dl.useO, Dl.useAll, Dl.boolOf, Dl.putO, Dl.free, Dl.outO, Dl.withAll, Dl.runN, Dl.derefs, Dl.mutO, Dl.isLst, Dl.isDct, Dl.putI, Dl.putD, Dl.setI, Dl.augO, Dl.getI, Dl.slotOf, Dl.slotsOf, Dl.lents, Dl.takeB, Dl.backS, Dl.useSel, Dl.back, Dl.gd, Dl.pyIx, atI, ixN, Dl.pyGet, Dl.pyMul, Dl.pyAdd, Dl.pyEq, Dl.pyNe, Dl.mulOk, Dl.powOk, Dl.pySlice, Dl.fLen, Dl.fList, Dl.fTuple, Dl.mAppend, Dl.mReverse, Dl.mClear, Dl.mExtend, Dl.mInsert, Dl.mkTup, Dl.mkLst, Dl.pyIsN, Dl.pyNotN, Dl.fNeg, Dl.pyRev, Dl.gN, Dl.gsNil, Dl.gsCons, Dl.gT, Dl.srcL, Dl.srcT, Dl.srcS, Dl.srcQ, Dl.srcR1, Dl.srcR2, Dl.hide, Dl.restore, sizeLine_eq, Dl.lockS, Ru.toD, Ru.val, a, e]
      | not r =>
        have ih := law_holds_eq n r hs (by simp only [Ru.dep] at h; omega) hk
        rcases hs with rfl | rfl | rfl <;> simp -dsimp -implicitDefEqProofs [Dl.vI, Dl.vB, Dl.vS, Dl.run2, Dl.run1, Dl.deref, Dl.Slot.data?, Dl.useO, Dl.useAll, Dl.boolOf, Dl.putO, Dl.free, Dl.outO, Dl.withAll, Dl.runN, Dl.derefs, Dl.mutO, Dl.isLst, Dl.isDct, Dl.putI, Dl.putD, Dl.setI, Dl.augO, Dl.getI, Dl.slotOf, Dl.slotsOf, Dl.lents, Dl.takeB, Dl.backS, Dl.useSel, Dl.back, Dl.gd, Dl.pyIx, atI, ixN, Dl.pyGet, Dl.pyMul, Dl.pyAdd, Dl.pyEq, Dl.pyNe, Dl.mulOk, Dl.powOk, Dl.pySlice, Dl.fLen, Dl.fList, Dl.fTuple, Dl.mAppend, Dl.mReverse, Dl.mClear, Dl.mExtend, Dl.mInsert, Dl.mkTup, Dl.mkLst, Dl.pyIsN, Dl.pyNotN, Dl.fNeg, Dl.pyRev, Dl.gN, Dl.gsNil, Dl.gsCons, Dl.gT, Dl.srcL, Dl.srcT, Dl.srcS, Dl.srcQ, Dl.srcR1, Dl.srcR2, Dl.hide, Dl.restore, sizeLine_eq, Dl.lockS, Ru.toD, Ru.val, ih]
      | two o a b =>
        have ia := law_holds_eq n a hs (by simp only [Ru.dep] at h; omega) fun x hx => hk x (List.mem_append_left _ hx)
        have ib := law_holds_eq n b hs (by simp only [Ru.dep] at h; omega) fun x hx => hk x (List.mem_append_right _ hx)
        cases va : a.val (ev fs) <;> cases vb : b.val (ev fs) <;> rw [va] at ia <;> rw [vb] at ib <;> rcases hs with rfl | rfl | rfl <;> cases o <;> simp -dsimp -implicitDefEqProofs [Dl.vI, Dl.vB, Dl.vS, Dl.run2, Dl.run1, Dl.deref, Dl.Slot.data?, Dl.useO, Dl.useAll, Dl.boolOf, Dl.putO, Dl.free, Dl.outO, Dl.withAll, Dl.runN, Dl.derefs, Dl.mutO, Dl.isLst, Dl.isDct, Dl.putI, Dl.putD, Dl.setI, Dl.augO, Dl.getI, Dl.slotOf, Dl.slotsOf, Dl.lents, Dl.takeB, Dl.backS, Dl.useSel, Dl.back, Dl.gd, Dl.pyIx, atI, ixN, Dl.pyGet, Dl.pyMul, Dl.pyAdd, Dl.pyEq, Dl.pyNe, Dl.mulOk, Dl.powOk, Dl.pySlice, Dl.fLen, Dl.fList, Dl.fTuple, Dl.mAppend, Dl.mReverse, Dl.mClear, Dl.mExtend, Dl.mInsert, Dl.mkTup, Dl.mkLst, Dl.pyIsN, Dl.pyNotN, Dl.fNeg, Dl.pyRev, Dl.gN, Dl.gsNil, Dl.gsCons, Dl.gT, Dl.srcL, Dl.srcT, Dl.srcS, Dl.srcQ, Dl.srcR1, Dl.srcR2, Dl.hide, Dl.restore, sizeLine_eq, Dl.lockS, Ru.toD, Op4.str, Ru.val, ia, ib, va, vb]
    obtain ⟨o, ρ, e, rfl, rfl⟩ := wp_out this
    exact e
end Dl

set_option maxRecDepth 100000
set_option maxHeartbeats 400000
namespace Dl
open PySem PySem.Spec L2
set_option autoImplicit false
theorem holds_eq {fs : Li} {r : Ru} {s : Slot} (hs : FS s fs) (h : r.dep ≤ 6) (hk : ∀ x ∈ r.names, (look fs x).isSome) : mHolds [.dat r.toD, s] = .ok (.val (.bool (r.val (ev fs)))) [.dat r.toD, s] := by
  have : wp (mHolds [.dat r.toD, s]) (fun o ρ => o = .val (.bool (r.val (ev fs))) ∧ ρ = [.dat r.toD, s]) NoX := by
    unfold mHolds
    have e := names_of_eq r h
    have hh := holds_under_eq 7 r hs (by omega) hk
    obtain ⟨I, eI⟩ : ∃ I : Nat → Rho → Prop, I = fun _ ρ => ∃ s2, frS s2 = true ∧ ρ = [.dat r.toD, s, s2] := ⟨_, rfl⟩
    have step : ∀ (x : Str) (s2 : Slot), x ∈ r.names → orf pyNotIn pyNotInK (.str x) (.dict (tr fs)) = some (.val (.bool false)) := fun x s2 hx => by
      rw [nin_tr, hk x hx]
      rfl
    simp -dsimp -implicitDefEqProofs [Dl.vI, Dl.vB, Dl.vS, Dl.run2, Dl.run1, Dl.deref, Dl.Slot.data?, Dl.useO, Dl.useAll, Dl.boolOf, Dl.putO, Dl.free, Dl.outO, Dl.withAll, Dl.runN, Dl.derefs, Dl.mutO, Dl.isLst, Dl.isDct, Dl.putI, Dl.putD, Dl.setI, Dl.augO, Dl.getI, Dl.slotOf, Dl.slotsOf, Dl.lents, Dl.takeB, Dl.backS, Dl.useSel, Dl.back, Dl.gd, Dl.pyIx, atI, ixN, Dl.pyGet, Dl.pyMul, Dl.pyAdd, Dl.pyEq, Dl.pyNe, Dl.mulOk, Dl.powOk, Dl.pySlice, Dl.fLen, Dl.fList, Dl.fTuple, Dl.mAppend, Dl.mReverse, Dl.mClear, Dl.mExtend, Dl.mInsert, Dl.mkTup, Dl.mkLst, Dl.pyIsN, Dl.pyNotN, Dl.fNeg, Dl.pyRev, Dl.gN, Dl.gsNil, Dl.gsCons, Dl.gT, Dl.srcL, Dl.srcT, Dl.srcS, Dl.srcQ, Dl.srcR1, Dl.srcR2, Dl.hide, Dl.restore, sizeLine_eq, Dl.lockS, e]
    refine wp_for I (by rw [eI]; exact ⟨.un, rfl, rfl⟩) (fun i x ρ hx hI => ?_) fun ρ hI => ?_
    · rw [eI] at hI
      obtain ⟨s2, f2, rfl⟩ := hI
      simp only [frS, free, List.getElem?_cons_zero] at f2
      rw [List.getElem?_map, Option.map_eq_some_iff] at hx
      obtain ⟨y, hy, rfl⟩ := hx
      have hm := step y s2 (canon_mem.mp (List.mem_of_getElem? hy))
      refine ⟨[.dat r.toD, s, .dat (.str y)], ?_, ?_⟩
      · simp -dsimp -implicitDefEqProofs [Dl.vI, Dl.vB, Dl.vS, Dl.run2, Dl.run1, Dl.deref, Dl.Slot.data?, Dl.useO, Dl.useAll, Dl.boolOf, Dl.putO, Dl.free, Dl.outO, Dl.withAll, Dl.runN, Dl.derefs, Dl.mutO, Dl.isLst, Dl.isDct, Dl.putI, Dl.putD, Dl.setI, Dl.augO, Dl.getI, Dl.slotOf, Dl.slotsOf, Dl.lents, Dl.takeB, Dl.backS, Dl.useSel, Dl.back, Dl.gd, Dl.pyIx, atI, ixN, Dl.pyGet, Dl.pyMul, Dl.pyAdd, Dl.pyEq, Dl.pyNe, Dl.mulOk, Dl.powOk, Dl.pySlice, Dl.fLen, Dl.fList, Dl.fTuple, Dl.mAppend, Dl.mReverse, Dl.mClear, Dl.mExtend, Dl.mInsert, Dl.mkTup, Dl.mkLst, Dl.pyIsN, Dl.pyNotN, Dl.fNeg, Dl.pyRev, Dl.gN, Dl.gsNil, Dl.gsCons, Dl.gT, Dl.srcL, Dl.srcT, Dl.srcS, Dl.srcQ, Dl.srcR1, Dl.srcR2, Dl.hide, Dl.restore, sizeLine_eq, Dl.lockS, f2]
      rcases hs with rfl | rfl | rfl <;> simp -dsimp -implicitDefEqProofs [Dl.vI, Dl.vB, Dl.vS, Dl.run2, Dl.run1, Dl.deref, Dl.Slot.data?, Dl.useO, Dl.useAll, Dl.boolOf, Dl.putO, Dl.free, Dl.outO, Dl.withAll, Dl.runN, Dl.derefs, Dl.mutO, Dl.isLst, Dl.isDct, Dl.putI, Dl.putD, Dl.setI, Dl.augO, Dl.getI, Dl.slotOf, Dl.slotsOf, Dl.lents, Dl.takeB, Dl.backS, Dl.useSel, Dl.back, Dl.gd, Dl.pyIx, atI, ixN, Dl.pyGet, Dl.pyMul, Dl.pyAdd, Dl.pyEq, Dl.pyNe, Dl.mulOk, Dl.powOk, Dl.pySlice, Dl.fLen, Dl.fList, Dl.fTuple, Dl.mAppend, Dl.mReverse, Dl.mClear, Dl.mExtend, Dl.mInsert, Dl.mkTup, Dl.mkLst, Dl.pyIsN, Dl.pyNotN, Dl.fNeg, Dl.pyRev, Dl.gN, Dl.gsNil, Dl.gsCons, Dl.gT, Dl.srcL, Dl.srcT, Dl.srcS, Dl.srcQ, Dl.srcR1, Dl.srcR2, Dl.hide, Dl.restore, sizeLine_eq, Dl.lockS, hm] <;> (rw [eI]; exact ⟨_, rfl, rfl⟩)
    · rw [eI] at hI
      obtain ⟨s2, f2, rfl⟩ := hI
      rcases hs with rfl | rfl | rfl <;> simp -dsimp -implicitDefEqProofs [Dl.vI, Dl.vB, Dl.vS, Dl.run2, Dl.run1, Dl.deref, Dl.Slot.data?, Dl.useO, Dl.useAll, Dl.boolOf, Dl.putO, Dl.free, Dl.outO, Dl.withAll, Dl.runN, Dl.derefs, Dl.mutO, Dl.isLst, Dl.isDct, Dl.putI, Dl.putD, Dl.setI, Dl.augO, Dl.getI, Dl.slotOf, Dl.slotsOf, Dl.lents, Dl.takeB, Dl.backS, Dl.useSel, Dl.back, Dl.gd, Dl.pyIx, atI, ixN, Dl.pyGet, Dl.pyMul, Dl.pyAdd, Dl.pyEq, Dl.pyNe, Dl.mulOk, Dl.powOk, Dl.pySlice, Dl.fLen, Dl.fList, Dl.fTuple, Dl.mAppend, Dl.mReverse, Dl.mClear, Dl.mExtend, Dl.mInsert, Dl.mkTup, Dl.mkLst, Dl.pyIsN, Dl.pyNotN, Dl.fNeg, Dl.pyRev, Dl.gN, Dl.gsNil, Dl.gsCons, Dl.gT, Dl.srcL, Dl.srcT, Dl.srcS, Dl.srcQ, Dl.srcR1, Dl.srcR2, Dl.hide, Dl.restore, sizeLine_eq, Dl.lockS, hh]
  obtain ⟨o, ρ, e, rfl, rfl⟩ := wp_out this
  exact e
/-! ### all facts over names -/
def fD (f : Li) : D := .dict (tr f)
def ext (rows : List Li) (n : Str) : List Li := rows.flatMap fun f => [putB f n false, putB f n true]
def allF (names : List Str) : List Li := names.foldl ext [[]]
theorem ext_len (rows : List Li) (n : Str) : (ext rows n).length = 2 * rows.length := by
  induction rows with
  | nil => rfl
  | cons f rows ih =>
    unfold ext at ih ⊢
    rw [List.flatMap_cons, List.length_append, ih]
    simp
    omega
theorem ext_all {rows : List Li} {n : Str} {P P' : Li → Prop} (h : ∀ f ∈ rows, P f) (hp : ∀ f b, P f → P' (putB f n b)) : ∀ f ∈ ext rows n, P' f := fun f hf => by
  unfold ext at hf
  obtain ⟨g, hg, hm⟩ := List.mem_flatMap.mp hf
  rcases List.mem_cons.mp hm with rfl | hm
  · exact hp g _ (h g hg)
  · rw [List.mem_singleton.mp hm]
    exact hp g _ (h g hg)
theorem facts_loop {p0 s1 s4 s5 s6 : Slot} {n : Str} {rows : List Li} {QF : Flow → Rho → Prop} {X : Ex → Rho → Prop} (hl : rows.length ≤ 4096) (hr : ∀ f ∈ rows, f.length ≤ 100) (f4 : frS s4 = true) (f5 : frS s5 = true) (f6 : frS s6 = true)
    (h : ∀ s4 s5 s6, frS s4 = true → frS s5 = true → frS s6 = true → QF .nx [p0, s1, .dat (.str n), .own (.list ((ext rows n).map fD)), s4, s5, s6]) :
    wp (sLoop (gN 4) (sFor (iTpl (eUse mkTup (aCons (eC (.bool false)) (aCons (eC (.bool true)) aNil)))) (gN 5)
     (sSeq (sSet 6 (eBlt fDict (aCons (eVar 4) aNil)))
     (sSeq (sPutD 6 (eVar 2) (eVar 5))
     (sExp (eMut 3 mAppend (aCons (eVar 6) aNil)))))) (rows.map fD) [p0, s1, .dat (.str n), .own (.list []), s4, s5, s6]) QF X := by
  obtain ⟨I, eI⟩ : ∃ I : Nat → Rho → Prop, I = fun i ρ => ∃ s4 s5 s6, (frS s4 = true ∧ frS s5 = true ∧ frS s6 = true) ∧ ρ = [p0, s1, .dat (.str n), .own (.list ((ext (rows.take i) n).map fD)), s4, s5, s6] := ⟨_, rfl⟩
  refine wp_for I (by rw [eI]; exact ⟨s4, s5, s6, ⟨f4, f5, f6⟩, rfl⟩) (fun i x ρ hx hI => ?_) fun ρ hI => ?_
  · rw [eI] at hI
    obtain ⟨s4, s5, s6, ⟨f4, f5, f6⟩, rfl⟩ := hI
    simp only [frS, free, List.getElem?_cons_zero] at f4 f5 f6
    rw [List.getElem?_map, Option.map_eq_some_iff] at hx
    obtain ⟨f, hf, rfl⟩ := hx
    have hfl := hr f (List.mem_of_getElem? hf)
    have hil := (List.getElem?_eq_some_iff.mp hf).1
    have hel : (ext (rows.take i) n).length ≤ 8192 := by rw [ext_len, List.length_take]; omega
    have het : ext (rows.take (i + 1)) n = ext (rows.take i) n ++ [putB f n false, putB f n true] := by
      rw [List.take_add_one, hf]
      unfold ext
      rw [List.flatMap_append]
      rfl
    have hd : fDict [fD f] = some (.new (.dict (tr f))) := rfl
    generalize ext (rows.take i) n = E at *
    refine ⟨[p0, s1, .dat (.str n), .own (.list (E.map fD)), .dat (fD f), s5, s6], ?_, ?_⟩
    · simp -dsimp -implicitDefEqProofs [Dl.vI, Dl.vB, Dl.vS, Dl.run2, Dl.run1, Dl.deref, Dl.Slot.data?, Dl.useO, Dl.useAll, Dl.boolOf, Dl.putO, Dl.free, Dl.outO, Dl.withAll, Dl.runN, Dl.derefs, Dl.mutO, Dl.isLst, Dl.isDct, Dl.putI, Dl.putD, Dl.setI, Dl.augO, Dl.getI, Dl.slotOf, Dl.slotsOf, Dl.lents, Dl.takeB, Dl.backS, Dl.useSel, Dl.back, Dl.gd, Dl.pyIx, atI, ixN, Dl.pyGet, Dl.pyMul, Dl.pyAdd, Dl.pyEq, Dl.pyNe, Dl.mulOk, Dl.powOk, Dl.pySlice, Dl.fLen, Dl.fList, Dl.fTuple, Dl.mAppend, Dl.mReverse, Dl.mClear, Dl.mExtend, Dl.mInsert, Dl.mkTup, Dl.mkLst, Dl.pyIsN, Dl.pyNotN, Dl.fNeg, Dl.pyRev, Dl.gN, Dl.gsNil, Dl.gsCons, Dl.gT, Dl.srcL, Dl.srcT, Dl.srcS, Dl.srcQ, Dl.srcR1, Dl.srcR2, Dl.hide, Dl.restore, sizeLine_eq, Dl.lockS, f4]
    simp -dsimp -implicitDefEqProofs [Dl.vI, Dl.vB, Dl.vS, Dl.run2, Dl.run1, Dl.deref, Dl.Slot.data?, Dl.useO, Dl.useAll, Dl.boolOf, Dl.putO, Dl.free, Dl.outO, Dl.withAll, Dl.runN, Dl.derefs, Dl.mutO, Dl.isLst, Dl.isDct, Dl.putI, Dl.putD, Dl.setI, Dl.augO, Dl.getI, Dl.slotOf, Dl.slotsOf, Dl.lents, Dl.takeB, Dl.backS, Dl.useSel, Dl.back, Dl.gd, Dl.pyIx, atI, ixN, Dl.pyGet, Dl.pyMul, Dl.pyAdd, Dl.pyEq, Dl.pyNe, Dl.mulOk, Dl.powOk, Dl.pySlice, Dl.fLen, Dl.fList, Dl.fTuple, Dl.mAppend, Dl.mReverse, Dl.mClear, Dl.mExtend, Dl.mInsert, Dl.mkTup, Dl.mkLst, Dl.pyIsN, Dl.pyNotN, Dl.fNeg, Dl.pyRev, Dl.gN, Dl.gsNil, Dl.gsCons, Dl.gT, Dl.srcL, Dl.srcT, Dl.srcS, Dl.srcQ, Dl.srcR1, Dl.srcR2, Dl.hide, Dl.restore, sizeLine_eq, Dl.lockS, f5, f6, hd, setK_tr (show f.length < 16777216 by omega), show E.length < 16777216 by omega, show E.length + 1 < 16777216 by omega]
    rw [eI]
    refine ⟨.dat (fD f), .dat (.bool true), .dat (.dict (tr (putB f n true))), ⟨rfl, rfl, rfl⟩, ?_⟩
    rw [het]
    simp [fD]
  · rw [eI] at hI
    obtain ⟨s4, s5, s6, ⟨f4, f5, f6⟩, rfl⟩ := hI
    rw [List.length_map, List.take_length]
    exact h s4 s5 s6 f4 f5 f6
theorem allF_len (names : List Str) : (allF names).length = 2 ^ names.length := by
  have key : ∀ (names : List Str) (rows : List Li), (names.foldl ext rows).length = 2 ^ names.length * rows.length := by
    intro names
    induction names with
    | nil => intro rows; simp
    | cons n names ih =>
      intro rows
      rw [List.foldl_cons, ih, ext_len, List.length_cons, Nat.pow_succ, Nat.mul_assoc]
  unfold allF
  rw [key]
  simp
theorem allF_snoc (names : List Str) (n : Str) : allF (names ++ [n]) = ext (allF names) n := by
  unfold allF
  rw [List.foldl_append]
  rfl
theorem allF_ind {P : List Str → Li → Prop} (h0 : P [] []) (hs : ∀ ns n f b, P ns f → P (ns ++ [n]) (putB f n b)) (names : List Str) : ∀ f ∈ allF names, P names f := by
  have key : ∀ k, k ≤ names.length → ∀ f ∈ allF (names.take k), P (names.take k) f := by
    intro k
    induction k with
    | zero =>
      intro _ f hf
      have hf : f ∈ ([[]] : List Li) := hf
      rw [List.mem_singleton.mp hf]
      exact h0
    | succ k ih =>
      intro hk f hf
      have hg : names[k]? = some names[k] := List.getElem?_eq_getElem (by omega)
      have e : names.take (k + 1) = names.take k ++ [names[k]] := by rw [List.take_add_one, hg]; rfl
      rw [e] at hf ⊢
      rw [allF_snoc] at hf
      exact ext_all (P := P (names.take k)) (P' := P (names.take k ++ [names[k]])) (ih (by omega)) (fun f b hp => hs _ _ f b hp) f hf
  have := key names.length (Nat.le_refl _)
  rw [List.take_length] at this
  exact this
theorem allF_short (names : List Str) : ∀ f ∈ allF names, f.length ≤ names.length := allF_ind (P := fun ns f => f.length ≤ ns.length) (Nat.le_refl _) (fun ns n f b h => by
  have := putB_len f n b
  rw [List.length_append]
  simp
  omega) names
theorem outer_loop {p0 s1 s2 s3 s4 s5 s6 : Slot} {names : List Str} {QF : Flow → Rho → Prop} {X : Ex → Rho → Prop} (hn : names.length ≤ 12) (e1 : s1 = .own (.list ([[]].map fD)) ∨ s1 = .dat (.list ([[]].map fD))) (f2 : frS s2 = true) (f3 : frS s3 = true) (f4 : frS s4 = true) (f5 : frS s5 = true) (f6 : frS s6 = true)
    (h : ∀ s1 s2 s3 s4 s5 s6, (s1 = .own (.list ((allF names).map fD)) ∨ s1 = .dat (.list ((allF names).map fD))) → QF .nx [p0, s1, s2, s3, s4, s5, s6]) :
    wp (sLoop (gN 2) (sSeq (sSet 3 (eUse mkLst aNil))
     (sSeq (lkd 1 (sFor (iLst (eVar 1)) (gN 4)
     (sFor (iTpl (eUse mkTup (aCons (eC (.bool false)) (aCons (eC (.bool true)) aNil)))) (gN 5)
     (sSeq (sSet 6 (eBlt fDict (aCons (eVar 4) aNil)))
     (sSeq (sPutD 6 (eVar 2) (eVar 5))
     (sExp (eMut 3 mAppend (aCons (eVar 6) aNil))))))))
     (sSet 1 (eVar 3)))) (names.map .str) [p0, s1, s2, s3, s4, s5, s6]) QF X := by
  obtain ⟨I, eI⟩ : ∃ I : Nat → Rho → Prop, I = fun i ρ => ∃ s1 s2 s3 s4 s5 s6, (s1 = .own (.list ((allF (names.take i)).map fD)) ∨ s1 = .dat (.list ((allF (names.take i)).map fD))) ∧ (frS s2 = true ∧ frS s3 = true ∧ frS s4 = true ∧ frS s5 = true ∧ frS s6 = true) ∧ ρ = [p0, s1, s2, s3, s4, s5, s6] := ⟨_, rfl⟩
  refine wp_for I (by rw [eI]; exact ⟨s1, s2, s3, s4, s5, s6, e1, ⟨f2, f3, f4, f5, f6⟩, rfl⟩) (fun i x ρ hx hI => ?_) fun ρ hI => ?_
  · rw [eI] at hI
    obtain ⟨s1, s2, s3, s4, s5, s6, e1, ⟨f2, f3, f4, f5, f6⟩, rfl⟩ := hI
    have g4 := f4
    have g5 := f5
    have g6 := f6
    simp only [frS, free, List.getElem?_cons_zero] at f2 f3 f4 f5 f6
    rw [List.getElem?_map, Option.map_eq_some_iff] at hx
    obtain ⟨n, hn2, rfl⟩ := hx
    have hil := (List.getElem?_eq_some_iff.mp hn2).1
    have het : allF (names.take (i + 1)) = ext (allF (names.take i)) n := by
      rw [List.take_add_one, hn2]
      exact allF_snoc _ n
    have hlen : (allF (names.take i)).length ≤ 4096 := by
      rw [allF_len, List.length_take]
      exact Nat.le_trans (Nat.pow_le_pow_right (by decide) (show min i names.length ≤ 12 by omega)) (by decide)
    have hsh : ∀ f ∈ allF (names.take i), f.length ≤ 100 := fun f hf => by
      have := allF_short _ f hf
      rw [List.length_take] at this
      omega
    generalize allF (names.take i) = rows at *
    have fin : ∀ s4 s5 s6, frS s4 = true → frS s5 = true → frS s6 = true → I (i + 1) [p0, .dat (.list ((ext rows n).map fD)), .dat (.str n), .dat (.list ((ext rows n).map fD)), s4, s5, s6] := fun s4 s5 s6 f4 f5 f6 => by
      rw [eI]
      exact ⟨_, _, _, _, _, _, .inr (by rw [het]), ⟨rfl, rfl, f4, f5, f6⟩, rfl⟩
    refine ⟨[p0, s1, .dat (.str n), s3, s4, s5, s6], ?_, ?_⟩
    · simp -dsimp -implicitDefEqProofs [Dl.vI, Dl.vB, Dl.vS, Dl.run2, Dl.run1, Dl.deref, Dl.Slot.data?, Dl.useO, Dl.useAll, Dl.boolOf, Dl.putO, Dl.free, Dl.outO, Dl.withAll, Dl.runN, Dl.derefs, Dl.mutO, Dl.isLst, Dl.isDct, Dl.putI, Dl.putD, Dl.setI, Dl.augO, Dl.getI, Dl.slotOf, Dl.slotsOf, Dl.lents, Dl.takeB, Dl.backS, Dl.useSel, Dl.back, Dl.gd, Dl.pyIx, atI, ixN, Dl.pyGet, Dl.pyMul, Dl.pyAdd, Dl.pyEq, Dl.pyNe, Dl.mulOk, Dl.powOk, Dl.pySlice, Dl.fLen, Dl.fList, Dl.fTuple, Dl.mAppend, Dl.mReverse, Dl.mClear, Dl.mExtend, Dl.mInsert, Dl.mkTup, Dl.mkLst, Dl.pyIsN, Dl.pyNotN, Dl.fNeg, Dl.pyRev, Dl.gN, Dl.gsNil, Dl.gsCons, Dl.gT, Dl.srcL, Dl.srcT, Dl.srcS, Dl.srcQ, Dl.srcR1, Dl.srcR2, Dl.hide, Dl.restore, sizeLine_eq, Dl.lockS, f2]
    rcases e1 with rfl | rfl
    · simp -dsimp -implicitDefEqProofs [Dl.vI, Dl.vB, Dl.vS, Dl.run2, Dl.run1, Dl.deref, Dl.Slot.data?, Dl.useO, Dl.useAll, Dl.boolOf, Dl.putO, Dl.free, Dl.outO, Dl.withAll, Dl.runN, Dl.derefs, Dl.mutO, Dl.isLst, Dl.isDct, Dl.putI, Dl.putD, Dl.setI, Dl.augO, Dl.getI, Dl.slotOf, Dl.slotsOf, Dl.lents, Dl.takeB, Dl.backS, Dl.useSel, Dl.back, Dl.gd, Dl.pyIx, atI, ixN, Dl.pyGet, Dl.pyMul, Dl.pyAdd, Dl.pyEq, Dl.pyNe, Dl.mulOk, Dl.powOk, Dl.pySlice, Dl.fLen, Dl.fList, Dl.fTuple, Dl.mAppend, Dl.mReverse, Dl.mClear, Dl.mExtend, Dl.mInsert, Dl.mkTup, Dl.mkLst, Dl.pyIsN, Dl.pyNotN, Dl.fNeg, Dl.pyRev, Dl.gN, Dl.gsNil, Dl.gsCons, Dl.gT, Dl.srcL, Dl.srcT, Dl.srcS, Dl.srcQ, Dl.srcR1, Dl.srcR2, Dl.hide, Dl.restore, sizeLine_eq, Dl.lockS, f3]
      refine facts_loop hlen hsh g4 g5 g6 fun s4 s5 s6 f4 f5 f6 => ?_
      simp -dsimp -implicitDefEqProofs [Dl.vI, Dl.vB, Dl.vS, Dl.run2, Dl.run1, Dl.deref, Dl.Slot.data?, Dl.useO, Dl.useAll, Dl.boolOf, Dl.putO, Dl.free, Dl.outO, Dl.withAll, Dl.runN, Dl.derefs, Dl.mutO, Dl.isLst, Dl.isDct, Dl.putI, Dl.putD, Dl.setI, Dl.augO, Dl.getI, Dl.slotOf, Dl.slotsOf, Dl.lents, Dl.takeB, Dl.backS, Dl.useSel, Dl.back, Dl.gd, Dl.pyIx, atI, ixN, Dl.pyGet, Dl.pyMul, Dl.pyAdd, Dl.pyEq, Dl.pyNe, Dl.mulOk, Dl.powOk, Dl.pySlice, Dl.fLen, Dl.fList, Dl.fTuple, Dl.mAppend, Dl.mReverse, Dl.mClear, Dl.mExtend, Dl.mInsert, Dl.mkTup, Dl.mkLst, Dl.pyIsN, Dl.pyNotN, Dl.fNeg, Dl.pyRev, Dl.gN, Dl.gsNil, Dl.gsCons, Dl.gT, Dl.srcL, Dl.srcT, Dl.srcS, Dl.srcQ, Dl.srcR1, Dl.srcR2, Dl.hide, Dl.restore, sizeLine_eq, Dl.lockS]
      exact fin s4 s5 s6 f4 f5 f6
    · simp -dsimp -implicitDefEqProofs [Dl.vI, Dl.vB, Dl.vS, Dl.run2, Dl.run1, Dl.deref, Dl.Slot.data?, Dl.useO, Dl.useAll, Dl.boolOf, Dl.putO, Dl.free, Dl.outO, Dl.withAll, Dl.runN, Dl.derefs, Dl.mutO, Dl.isLst, Dl.isDct, Dl.putI, Dl.putD, Dl.setI, Dl.augO, Dl.getI, Dl.slotOf, Dl.slotsOf, Dl.lents, Dl.takeB, Dl.backS, Dl.useSel, Dl.back, Dl.gd, Dl.pyIx, atI, ixN, Dl.pyGet, Dl.pyMul, Dl.pyAdd, Dl.pyEq, Dl.pyNe, Dl.mulOk, Dl.powOk, Dl.pySlice, Dl.fLen, Dl.fList, Dl.fTuple, Dl.mAppend, Dl.mReverse, Dl.mClear, Dl.mExtend, Dl.mInsert, Dl.mkTup, Dl.mkLst, Dl.pyIsN, Dl.pyNotN, Dl.fNeg, Dl.pyRev, Dl.gN, Dl.gsNil, Dl.gsCons, Dl.gT, Dl.srcL, Dl.srcT, Dl.srcS, Dl.srcQ, Dl.srcR1, Dl.srcR2, Dl.hide, Dl.restore, sizeLine_eq, Dl.lockS, f3]
      refine facts_loop hlen hsh g4 g5 g6 fun s4 s5 s6 f4 f5 f6 => ?_
      simp -dsimp -implicitDefEqProofs [Dl.vI, Dl.vB, Dl.vS, Dl.run2, Dl.run1, Dl.deref, Dl.Slot.data?, Dl.useO, Dl.useAll, Dl.boolOf, Dl.putO, Dl.free, Dl.outO, Dl.withAll, Dl.runN, Dl.derefs, Dl.mutO, Dl.isLst, Dl.isDct, Dl.putI, Dl.putD, Dl.setI, Dl.augO, Dl.getI, Dl.slotOf, Dl.slotsOf, Dl.lents, Dl.takeB, Dl.backS, Dl.useSel, Dl.back, Dl.gd, Dl.pyIx, atI, ixN, Dl.pyGet, Dl.pyMul, Dl.pyAdd, Dl.pyEq, Dl.pyNe, Dl.mulOk, Dl.powOk, Dl.pySlice, Dl.fLen, Dl.fList, Dl.fTuple, Dl.mAppend, Dl.mReverse, Dl.mClear, Dl.mExtend, Dl.mInsert, Dl.mkTup, Dl.mkLst, Dl.pyIsN, Dl.pyNotN, Dl.fNeg, Dl.pyRev, Dl.gN, Dl.gsNil, Dl.gsCons, Dl.gT, Dl.srcL, Dl.srcT, Dl.srcS, Dl.srcQ, Dl.srcR1, Dl.srcR2, Dl.hide, Dl.restore, sizeLine_eq, Dl.lockS]
      exact fin s4 s5 s6 f4 f5 f6
  · rw [eI] at hI
    obtain ⟨s1, s2, s3, s4, s5, s6, e1, _, rfl⟩ := hI
    rw [List.length_map, List.take_length] at e1
    exact h s1 s2 s3 s4 s5 s6 e1
/-- what all_facts tells: a list, made or known -/
def TL (Q : Opd → Rho → Prop) (ds : List D) (ρ : Rho) : Prop := Q (.new (.list ds)) ρ ∧ Q (.val (.list ds)) ρ
theorem all_facts_eq {names : List Str} {Q : Opd → Rho → Prop} {X : Ex → Rho → Prop} (hn : names.length ≤ 12) (h : TL Q ((allF (sortStr names)).map fD) [.par (.list (names.map .str))]) : wp (mAllFacts [.par (.list (names.map .str))]) Q X := by
  unfold mAllFacts
  have e0 : ([PyData.dict []] : List D) = [[]].map fD := rfl
  simp -dsimp -implicitDefEqProofs [Dl.vI, Dl.vB, Dl.vS, Dl.run2, Dl.run1, Dl.deref, Dl.Slot.data?, Dl.useO, Dl.useAll, Dl.boolOf, Dl.putO, Dl.free, Dl.outO, Dl.withAll, Dl.runN, Dl.derefs, Dl.mutO, Dl.isLst, Dl.isDct, Dl.putI, Dl.putD, Dl.setI, Dl.augO, Dl.getI, Dl.slotOf, Dl.slotsOf, Dl.lents, Dl.takeB, Dl.backS, Dl.useSel, Dl.back, Dl.gd, Dl.pyIx, atI, ixN, Dl.pyGet, Dl.pyMul, Dl.pyAdd, Dl.pyEq, Dl.pyNe, Dl.mulOk, Dl.powOk, Dl.pySlice, Dl.fLen, Dl.fList, Dl.fTuple, Dl.mAppend, Dl.mReverse, Dl.mClear, Dl.mExtend, Dl.mInsert, Dl.mkTup, Dl.mkLst, Dl.pyIsN, Dl.pyNotN, Dl.fNeg, Dl.pyRev, Dl.gN, Dl.gsNil, Dl.gsCons, Dl.gT, Dl.srcL, Dl.srcT, Dl.srcS, Dl.srcQ, Dl.srcR1, Dl.srcR2, Dl.hide, Dl.restore, sizeLine_eq, Dl.lockS, sorted_strs (ss := names) (by omega)]
  refine outer_loop (by rw [sort_len]; exact hn) (.inl rfl) rfl rfl rfl rfl rfl fun s1 s2 s3 s4 s5 s6 e1 => ?_
  rcases e1 with rfl | rfl <;> simp -dsimp -implicitDefEqProofs [Dl.vI, Dl.vB, Dl.vS, Dl.run2, Dl.run1, Dl.deref, Dl.Slot.data?, Dl.useO, Dl.useAll, Dl.boolOf, Dl.putO, Dl.free, Dl.outO, Dl.withAll, Dl.runN, Dl.derefs, Dl.mutO, Dl.isLst, Dl.isDct, Dl.putI, Dl.putD, Dl.setI, Dl.augO, Dl.getI, Dl.slotOf, Dl.slotsOf, Dl.lents, Dl.takeB, Dl.backS, Dl.useSel, Dl.back, Dl.gd, Dl.pyIx, atI, ixN, Dl.pyGet, Dl.pyMul, Dl.pyAdd, Dl.pyEq, Dl.pyNe, Dl.mulOk, Dl.powOk, Dl.pySlice, Dl.fLen, Dl.fList, Dl.fTuple, Dl.mAppend, Dl.mReverse, Dl.mClear, Dl.mExtend, Dl.mInsert, Dl.mkTup, Dl.mkLst, Dl.pyIsN, Dl.pyNotN, Dl.fNeg, Dl.pyRev, Dl.gN, Dl.gsNil, Dl.gsCons, Dl.gT, Dl.srcL, Dl.srcT, Dl.srcS, Dl.srcQ, Dl.srcR1, Dl.srcR2, Dl.hide, Dl.restore, sizeLine_eq, Dl.lockS]
  · exact h.1
  · exact h.2
theorem law_all_facts_eq {names : List Str} {Q : Opd → Rho → Prop} {X : Ex → Rho → Prop} (hn : names.length ≤ 12) (h : TL Q ((allF names).map fD) [.par (.list (names.map .str))]) : wp (mLawAllFacts [.par (.list (names.map .str))]) Q X := by
  unfold mLawAllFacts
  simp -dsimp -implicitDefEqProofs [Dl.vI, Dl.vB, Dl.vS, Dl.run2, Dl.run1, Dl.deref, Dl.Slot.data?, Dl.useO, Dl.useAll, Dl.boolOf, Dl.putO, Dl.free, Dl.outO, Dl.withAll, Dl.runN, Dl.derefs, Dl.mutO, Dl.isLst, Dl.isDct, Dl.putI, Dl.putD, Dl.setI, Dl.augO, Dl.getI, Dl.slotOf, Dl.slotsOf, Dl.lents, Dl.takeB, Dl.backS, Dl.useSel, Dl.back, Dl.gd, Dl.pyIx, atI, ixN, Dl.pyGet, Dl.pyMul, Dl.pyAdd, Dl.pyEq, Dl.pyNe, Dl.mulOk, Dl.powOk, Dl.pySlice, Dl.fLen, Dl.fList, Dl.fTuple, Dl.mAppend, Dl.mReverse, Dl.mClear, Dl.mExtend, Dl.mInsert, Dl.mkTup, Dl.mkLst, Dl.pyIsN, Dl.pyNotN, Dl.fNeg, Dl.pyRev, Dl.gN, Dl.gsNil, Dl.gsCons, Dl.gT, Dl.srcL, Dl.srcT, Dl.srcS, Dl.srcQ, Dl.srcR1, Dl.srcR2, Dl.hide, Dl.restore, sizeLine_eq, Dl.lockS]
  refine outer_loop hn (.inl rfl) rfl rfl rfl rfl rfl fun s1 s2 s3 s4 s5 s6 e1 => ?_
  rcases e1 with rfl | rfl <;> simp -dsimp -implicitDefEqProofs [Dl.vI, Dl.vB, Dl.vS, Dl.run2, Dl.run1, Dl.deref, Dl.Slot.data?, Dl.useO, Dl.useAll, Dl.boolOf, Dl.putO, Dl.free, Dl.outO, Dl.withAll, Dl.runN, Dl.derefs, Dl.mutO, Dl.isLst, Dl.isDct, Dl.putI, Dl.putD, Dl.setI, Dl.augO, Dl.getI, Dl.slotOf, Dl.slotsOf, Dl.lents, Dl.takeB, Dl.backS, Dl.useSel, Dl.back, Dl.gd, Dl.pyIx, atI, ixN, Dl.pyGet, Dl.pyMul, Dl.pyAdd, Dl.pyEq, Dl.pyNe, Dl.mulOk, Dl.powOk, Dl.pySlice, Dl.fLen, Dl.fList, Dl.fTuple, Dl.mAppend, Dl.mReverse, Dl.mClear, Dl.mExtend, Dl.mInsert, Dl.mkTup, Dl.mkLst, Dl.pyIsN, Dl.pyNotN, Dl.fNeg, Dl.pyRev, Dl.gN, Dl.gsNil, Dl.gsCons, Dl.gT, Dl.srcL, Dl.srcT, Dl.srcS, Dl.srcQ, Dl.srcR1, Dl.srcR2, Dl.hide, Dl.restore, sizeLine_eq, Dl.lockS]
  · exact h.1
  · exact h.2
end Dl

set_option maxRecDepth 100000
set_option maxHeartbeats 400000
namespace Dl
open PySem PySem.Spec L2
set_option autoImplicit false
theorem sort_canon (ss : List Str) : sortStr (canon ss) = canon ss := canon_of (canon_nodup ss) fun s => canon_mem
theorem allF_keys (names : List Str) : ∀ f ∈ allF names, (f.map (·.1)).Nodup ∧ ∀ s, s ∈ f.map (·.1) ↔ s ∈ names := allF_ind (P := fun ns f => (f.map (·.1)).Nodup ∧ ∀ s, s ∈ f.map (·.1) ↔ s ∈ ns) ⟨.nil, fun s => Iff.rfl⟩ (fun ns n f b h => ⟨putB_nd h.1, fun s => by
  rw [putB_keys]
  split
  · rename_i hm
    rw [h.2, List.mem_append, List.mem_singleton]
    exact ⟨.inl, fun z => z.elim id fun z => by rw [z]; exact (h.2 n).mp hm⟩
  · rw [List.mem_append, List.mem_append, h.2]⟩) names
theorem isSome_iff {fs : Li} {s : Str} : (look fs s).isSome ↔ s ∈ fs.map (·.1) := by
  cases e : look fs s with
  | none => simp [look_none.mp e]
  | some b => simp only [Option.isSome_some, true_iff]; exact List.mem_map.mpr ⟨_, look_some e, rfl⟩
theorem allF_look {names : List Str} {f : Li} (hf : f ∈ allF names) {s : Str} (hs : s ∈ names) : (look f s).isSome := isSome_iff.mpr (((allF_keys names f hf).2 s).mpr hs)
theorem FS.d {f : Li} : FS (.dat (fD f)) f := .inl rfl
def under (r : Ru) : List Li := (allF (canon r.names)).filter fun f => r.val (ev f)
theorem rows_under_eq {r : Ru} {Q : Opd → Rho → Prop} {X : Ex → Rho → Prop} (hr : r.dep ≤ 6) (hn : (canon r.names).length ≤ 12) (h : Q (.new (.list ((under r).map fD))) [.dat r.toD]) : wp (mRowsUnder [.dat r.toD]) Q X := by
  unfold mRowsUnder
  have e := names_of_eq r hr
  have hlen : (allF (canon r.names)).length ≤ 4096 := by
    rw [allF_len]
    exact Nat.le_trans (Nat.pow_le_pow_right (by decide) hn) (by decide)
  have hk : ∀ f ∈ allF (canon r.names), ∀ x ∈ r.names, (look f x).isSome := fun f hf x hx => allF_look hf (canon_mem.mpr hx)
  have main : wp (compL [1] (gN 1) (tVal (eCall 2 [true, true] mHolds (aCons (eVar 0) (aCons (eVar 1) aNil)))) (eVar 1) ((allF (canon r.names)).map fD) [] [.dat r.toD, .un]) (fun o ρ => o = .new (.list ((under r).map fD)) ∧ ρ = [.dat r.toD, .un]) NoX := by
    unfold under
    generalize allF (canon r.names) = rows at *
    obtain ⟨I, eI⟩ : ∃ I : Nat → List D → Rho → Prop, I = fun i out ρ => out = ((rows.take i).filter fun f => r.val (ev f)).map fD ∧ ρ = [.dat r.toD, .un] := ⟨_, rfl⟩
    refine wp_cmp I (by rw [eI]; exact ⟨rfl, rfl⟩) (fun i d out ρ hd hI => ?_) fun out ρ hI => ?_
    · rw [eI] at hI
      obtain ⟨rfl, rfl⟩ := hI
      rw [List.getElem?_map, Option.map_eq_some_iff] at hd
      obtain ⟨f, hf, rfl⟩ := hd
      have hh := holds_eq (fs := f) (r := r) FS.d hr (hk f (List.mem_of_getElem? hf))
      have hfl : ((rows.take i).filter fun f => r.val (ev f)).length ≤ 4096 := by
        have := List.length_filter_le (fun f => r.val (ev f)) (rows.take i)
        rw [List.length_take] at this
        omega
      have hn : ((rows.take (i + 1)).filter fun f => r.val (ev f)) = ((rows.take i).filter fun f => r.val (ev f)) ++ (if r.val (ev f) = true then [f] else []) := by
        rw [List.take_add_one, hf, List.filter_append]
        cases z : r.val (ev f) <;> simp [z]
      refine ⟨[.dat r.toD, .dat (fD f)], rfl, ?_⟩
      generalize (rows.take i).filter (fun f => r.val (ev f)) = out at *
      cases z : r.val (ev f) with
      | true =>
        rw [z] at hh hn
        simp -dsimp -implicitDefEqProofs [Dl.vI, Dl.vB, Dl.vS, Dl.run2, Dl.run1, Dl.deref, Dl.Slot.data?, Dl.useO, Dl.useAll, Dl.boolOf, Dl.putO, Dl.free, Dl.outO, Dl.withAll, Dl.runN, Dl.derefs, Dl.mutO, Dl.isLst, Dl.isDct, Dl.putI, Dl.putD, Dl.setI, Dl.augO, Dl.getI, Dl.slotOf, Dl.slotsOf, Dl.lents, Dl.takeB, Dl.backS, Dl.useSel, Dl.back, Dl.gd, Dl.pyIx, atI, ixN, Dl.pyGet, Dl.pyMul, Dl.pyAdd, Dl.pyEq, Dl.pyNe, Dl.mulOk, Dl.powOk, Dl.pySlice, Dl.fLen, Dl.fList, Dl.fTuple, Dl.mAppend, Dl.mReverse, Dl.mClear, Dl.mExtend, Dl.mInsert, Dl.mkTup, Dl.mkLst, Dl.pyIsN, Dl.pyNotN, Dl.fNeg, Dl.pyRev, Dl.gN, Dl.gsNil, Dl.gsCons, Dl.gT, Dl.srcL, Dl.srcT, Dl.srcS, Dl.srcQ, Dl.srcR1, Dl.srcR2, Dl.hide, Dl.restore, sizeLine_eq, Dl.lockS, hh, show out.length < 16777216 by omega]
        refine ⟨_, _, ⟨rfl, rfl⟩, ?_⟩
        rw [eI]
        exact ⟨by rw [hn]; simp, rfl⟩
      | false =>
        rw [z] at hh hn
        simp -dsimp -implicitDefEqProofs [Dl.vI, Dl.vB, Dl.vS, Dl.run2, Dl.run1, Dl.deref, Dl.Slot.data?, Dl.useO, Dl.useAll, Dl.boolOf, Dl.putO, Dl.free, Dl.outO, Dl.withAll, Dl.runN, Dl.derefs, Dl.mutO, Dl.isLst, Dl.isDct, Dl.putI, Dl.putD, Dl.setI, Dl.augO, Dl.getI, Dl.slotOf, Dl.slotsOf, Dl.lents, Dl.takeB, Dl.backS, Dl.useSel, Dl.back, Dl.gd, Dl.pyIx, atI, ixN, Dl.pyGet, Dl.pyMul, Dl.pyAdd, Dl.pyEq, Dl.pyNe, Dl.mulOk, Dl.powOk, Dl.pySlice, Dl.fLen, Dl.fList, Dl.fTuple, Dl.mAppend, Dl.mReverse, Dl.mClear, Dl.mExtend, Dl.mInsert, Dl.mkTup, Dl.mkLst, Dl.pyIsN, Dl.pyNotN, Dl.fNeg, Dl.pyRev, Dl.gN, Dl.gsNil, Dl.gsCons, Dl.gT, Dl.srcL, Dl.srcT, Dl.srcS, Dl.srcQ, Dl.srcR1, Dl.srcR2, Dl.hide, Dl.restore, sizeLine_eq, Dl.lockS, hh]
        rw [eI]
        exact ⟨by rw [hn]; simp, rfl⟩
    · rw [eI] at hI
      obtain ⟨rfl, rfl⟩ := hI
      rw [List.length_map, List.take_length]
      exact ⟨rfl, rfl⟩
  obtain ⟨o, ρ, em, rfl, rfl⟩ := wp_out main
  simp -dsimp -implicitDefEqProofs [Dl.vI, Dl.vB, Dl.vS, Dl.run2, Dl.run1, Dl.deref, Dl.Slot.data?, Dl.useO, Dl.useAll, Dl.boolOf, Dl.putO, Dl.free, Dl.outO, Dl.withAll, Dl.runN, Dl.derefs, Dl.mutO, Dl.isLst, Dl.isDct, Dl.putI, Dl.putD, Dl.setI, Dl.augO, Dl.getI, Dl.slotOf, Dl.slotsOf, Dl.lents, Dl.takeB, Dl.backS, Dl.useSel, Dl.back, Dl.gd, Dl.pyIx, atI, ixN, Dl.pyGet, Dl.pyMul, Dl.pyAdd, Dl.pyEq, Dl.pyNe, Dl.mulOk, Dl.powOk, Dl.pySlice, Dl.fLen, Dl.fList, Dl.fTuple, Dl.mAppend, Dl.mReverse, Dl.mClear, Dl.mExtend, Dl.mInsert, Dl.mkTup, Dl.mkLst, Dl.pyIsN, Dl.pyNotN, Dl.fNeg, Dl.pyRev, Dl.gN, Dl.gsNil, Dl.gsCons, Dl.gT, Dl.srcL, Dl.srcT, Dl.srcS, Dl.srcQ, Dl.srcR1, Dl.srcR2, Dl.hide, Dl.restore, sizeLine_eq, Dl.lockS, e]
  refine all_facts_eq hn ?_
  rw [sort_canon]
  refine ⟨?_, ?_⟩
  · simp -dsimp -implicitDefEqProofs [Dl.vI, Dl.vB, Dl.vS, Dl.run2, Dl.run1, Dl.deref, Dl.Slot.data?, Dl.useO, Dl.useAll, Dl.boolOf, Dl.putO, Dl.free, Dl.outO, Dl.withAll, Dl.runN, Dl.derefs, Dl.mutO, Dl.isLst, Dl.isDct, Dl.putI, Dl.putD, Dl.setI, Dl.augO, Dl.getI, Dl.slotOf, Dl.slotsOf, Dl.lents, Dl.takeB, Dl.backS, Dl.useSel, Dl.back, Dl.gd, Dl.pyIx, atI, ixN, Dl.pyGet, Dl.pyMul, Dl.pyAdd, Dl.pyEq, Dl.pyNe, Dl.mulOk, Dl.powOk, Dl.pySlice, Dl.fLen, Dl.fList, Dl.fTuple, Dl.mAppend, Dl.mReverse, Dl.mClear, Dl.mExtend, Dl.mInsert, Dl.mkTup, Dl.mkLst, Dl.pyIsN, Dl.pyNotN, Dl.fNeg, Dl.pyRev, Dl.gN, Dl.gsNil, Dl.gsCons, Dl.gT, Dl.srcL, Dl.srcT, Dl.srcS, Dl.srcQ, Dl.srcR1, Dl.srcR2, Dl.hide, Dl.restore, sizeLine_eq, Dl.lockS, em]
    exact h
  · simp -dsimp -implicitDefEqProofs [Dl.vI, Dl.vB, Dl.vS, Dl.run2, Dl.run1, Dl.deref, Dl.Slot.data?, Dl.useO, Dl.useAll, Dl.boolOf, Dl.putO, Dl.free, Dl.outO, Dl.withAll, Dl.runN, Dl.derefs, Dl.mutO, Dl.isLst, Dl.isDct, Dl.putI, Dl.putD, Dl.setI, Dl.augO, Dl.getI, Dl.slotOf, Dl.slotsOf, Dl.lents, Dl.takeB, Dl.backS, Dl.useSel, Dl.back, Dl.gd, Dl.pyIx, atI, ixN, Dl.pyGet, Dl.pyMul, Dl.pyAdd, Dl.pyEq, Dl.pyNe, Dl.mulOk, Dl.powOk, Dl.pySlice, Dl.fLen, Dl.fList, Dl.fTuple, Dl.mAppend, Dl.mReverse, Dl.mClear, Dl.mExtend, Dl.mInsert, Dl.mkTup, Dl.mkLst, Dl.pyIsN, Dl.pyNotN, Dl.fNeg, Dl.pyRev, Dl.gN, Dl.gsNil, Dl.gsCons, Dl.gT, Dl.srcL, Dl.srcT, Dl.srcS, Dl.srcQ, Dl.srcR1, Dl.srcR2, Dl.hide, Dl.restore, sizeLine_eq, Dl.lockS, em]
    exact h
theorem bools_map : ∀ bs : List Bool, boolsOf (bs.map .bool) = some bs
  | [] => rfl
  | b :: bs => by
    rw [List.map_cons]
    unfold boolsOf
    rw [bools_map bs]
    rfl
theorem any_map (bs : List Bool) : fAny [.list (bs.map .bool)] = some (.val (.bool (bs.any id))) := by
  unfold fAny
  dsimp only
  rw [bools_map]
  rfl
theorem all_map (bs : List Bool) : fAll [.list (bs.map .bool)] = some (.val (.bool (bs.all id))) := by
  unfold fAll
  dsimp only
  rw [bools_map]
  rfl
/-- one literal of the clause holds -/
def lit (f : Li) (p : Str × Bool) : Bool := decide (look f p.1 = some p.2)
def met (f cl : Li) : Bool := cl.any (lit f)
theorem met_comp {p0 : Slot} {f cl : Li} {s1 : Slot} (hl : cl.length < 900) {QO : Opd → Rho → Prop} {X : Ex → Rho → Prop}
    (h : QO (.new (.list ((cl.map (lit f)).map .bool))) [p0, s1, .dat (fD f), .un, .un]) :
    wp (compL [3, 4] (gT 2 (gsCons (gN 3) (gsCons (gN 4) gsNil))) tTrue (eAnd (eOp2 (orf pyIn pyInK) (eVar 3) (eVar 2)) (eOp2 pyEq (eOp2 pyAt (eVar 2) (eVar 3)) (eVar 4))) (cl.map liD) [] [p0, s1, .dat (fD f), .un, .un]) QO X := by
  obtain ⟨I, eI⟩ : ∃ I : Nat → List D → Rho → Prop, I = fun i out ρ => out = ((cl.take i).map (lit f)).map .bool ∧ ρ = [p0, s1, .dat (fD f), .un, .un] := ⟨_, rfl⟩
  refine wp_cmp I (by rw [eI]; exact ⟨rfl, rfl⟩) (fun i d out ρ hd hI => ?_) fun out ρ hI => ?_
  · rw [eI] at hI
    obtain ⟨rfl, rfl⟩ := hI
    rw [List.getElem?_map, Option.map_eq_some_iff] at hd
    obtain ⟨⟨n, b⟩, hp, rfl⟩ := hd
    have e0 : liD (n, b) = .tuple [.str n, .bool b] := rfl
    rw [e0]
    have hin : orf pyIn pyInK (.str n) (fD f) = some (.val (.bool (look f n).isSome)) := in_tr f n
    have hil := (List.getElem?_eq_some_iff.mp hp).1
    have hn : (cl.take (i + 1)).map (lit f) = (cl.take i).map (lit f) ++ [lit f (n, b)] := by rw [List.take_add_one, hp, List.map_append]; rfl
    have hfl : ((cl.take i).map (lit f)).length < 16777216 := by rw [List.length_map, List.length_take]; omega
    refine ⟨[p0, s1, .dat (fD f), .dat (.str n), .dat (.bool b)], ?_, ?_⟩
    · simp -dsimp -implicitDefEqProofs [Dl.vI, Dl.vB, Dl.vS, Dl.run2, Dl.run1, Dl.deref, Dl.Slot.data?, Dl.useO, Dl.useAll, Dl.boolOf, Dl.putO, Dl.free, Dl.outO, Dl.withAll, Dl.runN, Dl.derefs, Dl.mutO, Dl.isLst, Dl.isDct, Dl.putI, Dl.putD, Dl.setI, Dl.augO, Dl.getI, Dl.slotOf, Dl.slotsOf, Dl.lents, Dl.takeB, Dl.backS, Dl.useSel, Dl.back, Dl.gd, Dl.pyIx, atI, ixN, Dl.pyGet, Dl.pyMul, Dl.pyAdd, Dl.pyEq, Dl.pyNe, Dl.mulOk, Dl.powOk, Dl.pySlice, Dl.fLen, Dl.fList, Dl.fTuple, Dl.mAppend, Dl.mReverse, Dl.mClear, Dl.mExtend, Dl.mInsert, Dl.mkTup, Dl.mkLst, Dl.pyIsN, Dl.pyNotN, Dl.fNeg, Dl.pyRev, Dl.gN, Dl.gsNil, Dl.gsCons, Dl.gT, Dl.srcL, Dl.srcT, Dl.srcS, Dl.srcQ, Dl.srcR1, Dl.srcR2, Dl.hide, Dl.restore, sizeLine_eq, Dl.lockS]
    generalize (cl.take i).map (lit f) = out at *
    cases e : look f n with
    | none =>
      rw [e] at hin
      have hv : lit f (n, b) = false := by unfold lit; simp [e]
      simp -dsimp -implicitDefEqProofs [Dl.vI, Dl.vB, Dl.vS, Dl.run2, Dl.run1, Dl.deref, Dl.Slot.data?, Dl.useO, Dl.useAll, Dl.boolOf, Dl.putO, Dl.free, Dl.outO, Dl.withAll, Dl.runN, Dl.derefs, Dl.mutO, Dl.isLst, Dl.isDct, Dl.putI, Dl.putD, Dl.setI, Dl.augO, Dl.getI, Dl.slotOf, Dl.slotsOf, Dl.lents, Dl.takeB, Dl.backS, Dl.useSel, Dl.back, Dl.gd, Dl.pyIx, atI, ixN, Dl.pyGet, Dl.pyMul, Dl.pyAdd, Dl.pyEq, Dl.pyNe, Dl.mulOk, Dl.powOk, Dl.pySlice, Dl.fLen, Dl.fList, Dl.fTuple, Dl.mAppend, Dl.mReverse, Dl.mClear, Dl.mExtend, Dl.mInsert, Dl.mkTup, Dl.mkLst, Dl.pyIsN, Dl.pyNotN, Dl.fNeg, Dl.pyRev, Dl.gN, Dl.gsNil, Dl.gsCons, Dl.gT, Dl.srcL, Dl.srcT, Dl.srcS, Dl.srcQ, Dl.srcR1, Dl.srcR2, Dl.hide, Dl.restore, sizeLine_eq, Dl.lockS, hin, hfl]
      refine ⟨_, _, ⟨rfl, rfl⟩, ?_⟩
      rw [eI]
      exact ⟨by rw [hn, hv]; simp, rfl⟩
    | some c =>
      rw [e] at hin
      have hat : pyAt (fD f) (.str n) = some (.val (.bool c)) := at_tr e
      have hv : lit f (n, b) = (c == b) := by unfold lit; simp [e]; cases c <;> cases b <;> rfl
      simp -dsimp -implicitDefEqProofs [Dl.vI, Dl.vB, Dl.vS, Dl.run2, Dl.run1, Dl.deref, Dl.Slot.data?, Dl.useO, Dl.useAll, Dl.boolOf, Dl.putO, Dl.free, Dl.outO, Dl.withAll, Dl.runN, Dl.derefs, Dl.mutO, Dl.isLst, Dl.isDct, Dl.putI, Dl.putD, Dl.setI, Dl.augO, Dl.getI, Dl.slotOf, Dl.slotsOf, Dl.lents, Dl.takeB, Dl.backS, Dl.useSel, Dl.back, Dl.gd, Dl.pyIx, atI, ixN, Dl.pyGet, Dl.pyMul, Dl.pyAdd, Dl.pyEq, Dl.pyNe, Dl.mulOk, Dl.powOk, Dl.pySlice, Dl.fLen, Dl.fList, Dl.fTuple, Dl.mAppend, Dl.mReverse, Dl.mClear, Dl.mExtend, Dl.mInsert, Dl.mkTup, Dl.mkLst, Dl.pyIsN, Dl.pyNotN, Dl.fNeg, Dl.pyRev, Dl.gN, Dl.gsNil, Dl.gsCons, Dl.gT, Dl.srcL, Dl.srcT, Dl.srcS, Dl.srcQ, Dl.srcR1, Dl.srcR2, Dl.hide, Dl.restore, sizeLine_eq, Dl.lockS, hin, hfl, hat]
      refine ⟨_, _, ⟨rfl, rfl⟩, ?_⟩
      rw [eI]
      exact ⟨by rw [hn, hv]; simp, rfl⟩
  · rw [eI] at hI
    obtain ⟨rfl, rfl⟩ := hI
    rw [List.length_map, List.take_length]
    exact h
theorem stands_loop {d0 : D} {cl : Li} (hl : cl.length < 900) {QF : Flow → Rho → Prop} {X : Ex → Rho → Prop} : ∀ (rows : List Li) (s2 : Slot), frS s2 = true →
    (match rows.all (fun f => met f cl) with
      | true => ∀ s2, QF .nx [.lck d0, .dat (.tuple (cl.map liD)), s2, .un, .un]
      | false => ∀ s2, QF (.rt (.val (.bool false))) [.lck d0, .dat (.tuple (cl.map liD)), s2, .un, .un]) →
    wp (sLoop (gN 2) (sIf (tNotM (tVal (eBlt fAny (aCons (lkd 1 (eComp [3, 4] (iSeq (eVar 1)) (gT 2 (gsCons (gN 3) (gsCons (gN 4) gsNil))) tTrue (eAnd (eOp2 (orf pyIn pyInK) (eVar 3) (eVar 2)) (eOp2 pyEq (eOp2 pyAt (eVar 2) (eVar 3)) (eVar 4))))) aNil))))
     (sRet (eC (.bool false)))
     sNil) (rows.map fD) [.lck d0, .dat (.tuple (cl.map liD)), s2, .un, .un]) QF X
  | [], s2, _, h => h s2
  | f :: rows, s2, f2, h => by
    simp only [frS, free, List.getElem?_cons_zero] at f2
    rw [List.map_cons]
    simp -dsimp -implicitDefEqProofs [Dl.vI, Dl.vB, Dl.vS, Dl.run2, Dl.run1, Dl.deref, Dl.Slot.data?, Dl.useO, Dl.useAll, Dl.boolOf, Dl.putO, Dl.free, Dl.outO, Dl.withAll, Dl.runN, Dl.derefs, Dl.mutO, Dl.isLst, Dl.isDct, Dl.putI, Dl.putD, Dl.setI, Dl.augO, Dl.getI, Dl.slotOf, Dl.slotsOf, Dl.lents, Dl.takeB, Dl.backS, Dl.useSel, Dl.back, Dl.gd, Dl.pyIx, atI, ixN, Dl.pyGet, Dl.pyMul, Dl.pyAdd, Dl.pyEq, Dl.pyNe, Dl.mulOk, Dl.powOk, Dl.pySlice, Dl.fLen, Dl.fList, Dl.fTuple, Dl.mAppend, Dl.mReverse, Dl.mClear, Dl.mExtend, Dl.mInsert, Dl.mkTup, Dl.mkLst, Dl.pyIsN, Dl.pyNotN, Dl.fNeg, Dl.pyRev, Dl.gN, Dl.gsNil, Dl.gsCons, Dl.gT, Dl.srcL, Dl.srcT, Dl.srcS, Dl.srcQ, Dl.srcR1, Dl.srcR2, Dl.hide, Dl.restore, sizeLine_eq, Dl.lockS, f2]
    refine met_comp hl ?_
    have hm : (cl.map (lit f)).any id = met f cl := by unfold met; rw [List.any_map]; rfl
    have ha := any_map (cl.map (lit f))
    rw [hm, List.map_map] at ha
    rw [List.all_cons] at h
    cases e : met f cl with
    | false =>
      rw [e] at ha h
      simp -dsimp -implicitDefEqProofs [Dl.vI, Dl.vB, Dl.vS, Dl.run2, Dl.run1, Dl.deref, Dl.Slot.data?, Dl.useO, Dl.useAll, Dl.boolOf, Dl.putO, Dl.free, Dl.outO, Dl.withAll, Dl.runN, Dl.derefs, Dl.mutO, Dl.isLst, Dl.isDct, Dl.putI, Dl.putD, Dl.setI, Dl.augO, Dl.getI, Dl.slotOf, Dl.slotsOf, Dl.lents, Dl.takeB, Dl.backS, Dl.useSel, Dl.back, Dl.gd, Dl.pyIx, atI, ixN, Dl.pyGet, Dl.pyMul, Dl.pyAdd, Dl.pyEq, Dl.pyNe, Dl.mulOk, Dl.powOk, Dl.pySlice, Dl.fLen, Dl.fList, Dl.fTuple, Dl.mAppend, Dl.mReverse, Dl.mClear, Dl.mExtend, Dl.mInsert, Dl.mkTup, Dl.mkLst, Dl.pyIsN, Dl.pyNotN, Dl.fNeg, Dl.pyRev, Dl.gN, Dl.gsNil, Dl.gsCons, Dl.gT, Dl.srcL, Dl.srcT, Dl.srcS, Dl.srcQ, Dl.srcR1, Dl.srcR2, Dl.hide, Dl.restore, sizeLine_eq, Dl.lockS, ha]
      exact h _
    | true =>
      rw [e] at ha h
      simp -dsimp -implicitDefEqProofs [Dl.vI, Dl.vB, Dl.vS, Dl.run2, Dl.run1, Dl.deref, Dl.Slot.data?, Dl.useO, Dl.useAll, Dl.boolOf, Dl.putO, Dl.free, Dl.outO, Dl.withAll, Dl.runN, Dl.derefs, Dl.mutO, Dl.isLst, Dl.isDct, Dl.putI, Dl.putD, Dl.setI, Dl.augO, Dl.getI, Dl.slotOf, Dl.slotsOf, Dl.lents, Dl.takeB, Dl.backS, Dl.useSel, Dl.back, Dl.gd, Dl.pyIx, atI, ixN, Dl.pyGet, Dl.pyMul, Dl.pyAdd, Dl.pyEq, Dl.pyNe, Dl.mulOk, Dl.powOk, Dl.pySlice, Dl.fLen, Dl.fList, Dl.fTuple, Dl.mAppend, Dl.mReverse, Dl.mClear, Dl.mExtend, Dl.mInsert, Dl.mkTup, Dl.mkLst, Dl.pyIsN, Dl.pyNotN, Dl.fNeg, Dl.pyRev, Dl.gN, Dl.gsNil, Dl.gsCons, Dl.gT, Dl.srcL, Dl.srcT, Dl.srcS, Dl.srcQ, Dl.srcR1, Dl.srcR2, Dl.hide, Dl.restore, sizeLine_eq, Dl.lockS, ha]
      exact stands_loop hl rows (.dat (fD f)) rfl h
theorem stands_in_eq {rows : List Li} {cl : Li} (hl : cl.length < 900) {Q : Opd → Rho → Prop} {X : Ex → Rho → Prop} (h : Q (.val (.bool (rows.all fun f => met f cl))) [.par (.list (rows.map fD)), .dat (.tuple (cl.map liD))]) : wp (mStandsIn [.par (.list (rows.map fD)), .dat (.tuple (cl.map liD))]) Q X := by
  unfold mStandsIn
  simp -dsimp -implicitDefEqProofs [Dl.vI, Dl.vB, Dl.vS, Dl.run2, Dl.run1, Dl.deref, Dl.Slot.data?, Dl.useO, Dl.useAll, Dl.boolOf, Dl.putO, Dl.free, Dl.outO, Dl.withAll, Dl.runN, Dl.derefs, Dl.mutO, Dl.isLst, Dl.isDct, Dl.putI, Dl.putD, Dl.setI, Dl.augO, Dl.getI, Dl.slotOf, Dl.slotsOf, Dl.lents, Dl.takeB, Dl.backS, Dl.useSel, Dl.back, Dl.gd, Dl.pyIx, atI, ixN, Dl.pyGet, Dl.pyMul, Dl.pyAdd, Dl.pyEq, Dl.pyNe, Dl.mulOk, Dl.powOk, Dl.pySlice, Dl.fLen, Dl.fList, Dl.fTuple, Dl.mAppend, Dl.mReverse, Dl.mClear, Dl.mExtend, Dl.mInsert, Dl.mkTup, Dl.mkLst, Dl.pyIsN, Dl.pyNotN, Dl.fNeg, Dl.pyRev, Dl.gN, Dl.gsNil, Dl.gsCons, Dl.gT, Dl.srcL, Dl.srcT, Dl.srcS, Dl.srcQ, Dl.srcR1, Dl.srcR2, Dl.hide, Dl.restore, sizeLine_eq, Dl.lockS]
  refine stands_loop hl rows .un rfl ?_
  cases e : rows.all fun f => met f cl with
  | true =>
    rw [e] at h
    intro s2
    simp -dsimp -implicitDefEqProofs [Dl.vI, Dl.vB, Dl.vS, Dl.run2, Dl.run1, Dl.deref, Dl.Slot.data?, Dl.useO, Dl.useAll, Dl.boolOf, Dl.putO, Dl.free, Dl.outO, Dl.withAll, Dl.runN, Dl.derefs, Dl.mutO, Dl.isLst, Dl.isDct, Dl.putI, Dl.putD, Dl.setI, Dl.augO, Dl.getI, Dl.slotOf, Dl.slotsOf, Dl.lents, Dl.takeB, Dl.backS, Dl.useSel, Dl.back, Dl.gd, Dl.pyIx, atI, ixN, Dl.pyGet, Dl.pyMul, Dl.pyAdd, Dl.pyEq, Dl.pyNe, Dl.mulOk, Dl.powOk, Dl.pySlice, Dl.fLen, Dl.fList, Dl.fTuple, Dl.mAppend, Dl.mReverse, Dl.mClear, Dl.mExtend, Dl.mInsert, Dl.mkTup, Dl.mkLst, Dl.pyIsN, Dl.pyNotN, Dl.fNeg, Dl.pyRev, Dl.gN, Dl.gsNil, Dl.gsCons, Dl.gT, Dl.srcL, Dl.srcT, Dl.srcS, Dl.srcQ, Dl.srcR1, Dl.srcR2, Dl.hide, Dl.restore, sizeLine_eq, Dl.lockS]
    exact h
  | false =>
    rw [e] at h
    intro s2
    simp -dsimp -implicitDefEqProofs [Dl.vI, Dl.vB, Dl.vS, Dl.run2, Dl.run1, Dl.deref, Dl.Slot.data?, Dl.useO, Dl.useAll, Dl.boolOf, Dl.putO, Dl.free, Dl.outO, Dl.withAll, Dl.runN, Dl.derefs, Dl.mutO, Dl.isLst, Dl.isDct, Dl.putI, Dl.putD, Dl.setI, Dl.augO, Dl.getI, Dl.slotOf, Dl.slotsOf, Dl.lents, Dl.takeB, Dl.backS, Dl.useSel, Dl.back, Dl.gd, Dl.pyIx, atI, ixN, Dl.pyGet, Dl.pyMul, Dl.pyAdd, Dl.pyEq, Dl.pyNe, Dl.mulOk, Dl.powOk, Dl.pySlice, Dl.fLen, Dl.fList, Dl.fTuple, Dl.mAppend, Dl.mReverse, Dl.mClear, Dl.mExtend, Dl.mInsert, Dl.mkTup, Dl.mkLst, Dl.pyIsN, Dl.pyNotN, Dl.fNeg, Dl.pyRev, Dl.gN, Dl.gsNil, Dl.gsCons, Dl.gT, Dl.srcL, Dl.srcT, Dl.srcS, Dl.srcQ, Dl.srcR1, Dl.srcR2, Dl.hide, Dl.restore, sizeLine_eq, Dl.lockS]
    exact h
theorem follows_eq {r : Ru} {cl : Li} (hl : cl.length < 900) (hr : r.dep ≤ 6) (hn : (canon r.names).length ≤ 12) {Q : Opd → Rho → Prop} {X : Ex → Rho → Prop} (h : Q (.val (.bool ((under r).all fun f => met f cl))) [.dat r.toD, .dat (.tuple (cl.map liD))]) : wp (mFollows [.dat r.toD, .dat (.tuple (cl.map liD))]) Q X := by
  unfold mFollows
  simp -dsimp -implicitDefEqProofs [Dl.vI, Dl.vB, Dl.vS, Dl.run2, Dl.run1, Dl.deref, Dl.Slot.data?, Dl.useO, Dl.useAll, Dl.boolOf, Dl.putO, Dl.free, Dl.outO, Dl.withAll, Dl.runN, Dl.derefs, Dl.mutO, Dl.isLst, Dl.isDct, Dl.putI, Dl.putD, Dl.setI, Dl.augO, Dl.getI, Dl.slotOf, Dl.slotsOf, Dl.lents, Dl.takeB, Dl.backS, Dl.useSel, Dl.back, Dl.gd, Dl.pyIx, atI, ixN, Dl.pyGet, Dl.pyMul, Dl.pyAdd, Dl.pyEq, Dl.pyNe, Dl.mulOk, Dl.powOk, Dl.pySlice, Dl.fLen, Dl.fList, Dl.fTuple, Dl.mAppend, Dl.mReverse, Dl.mClear, Dl.mExtend, Dl.mInsert, Dl.mkTup, Dl.mkLst, Dl.pyIsN, Dl.pyNotN, Dl.fNeg, Dl.pyRev, Dl.gN, Dl.gsNil, Dl.gsCons, Dl.gT, Dl.srcL, Dl.srcT, Dl.srcS, Dl.srcQ, Dl.srcR1, Dl.srcR2, Dl.hide, Dl.restore, sizeLine_eq, Dl.lockS]
  refine rows_under_eq hr hn ?_
  simp -dsimp -implicitDefEqProofs [Dl.vI, Dl.vB, Dl.vS, Dl.run2, Dl.run1, Dl.deref, Dl.Slot.data?, Dl.useO, Dl.useAll, Dl.boolOf, Dl.putO, Dl.free, Dl.outO, Dl.withAll, Dl.runN, Dl.derefs, Dl.mutO, Dl.isLst, Dl.isDct, Dl.putI, Dl.putD, Dl.setI, Dl.augO, Dl.getI, Dl.slotOf, Dl.slotsOf, Dl.lents, Dl.takeB, Dl.backS, Dl.useSel, Dl.back, Dl.gd, Dl.pyIx, atI, ixN, Dl.pyGet, Dl.pyMul, Dl.pyAdd, Dl.pyEq, Dl.pyNe, Dl.mulOk, Dl.powOk, Dl.pySlice, Dl.fLen, Dl.fList, Dl.fTuple, Dl.mAppend, Dl.mReverse, Dl.mClear, Dl.mExtend, Dl.mInsert, Dl.mkTup, Dl.mkLst, Dl.pyIsN, Dl.pyNotN, Dl.fNeg, Dl.pyRev, Dl.gN, Dl.gsNil, Dl.gsCons, Dl.gT, Dl.srcL, Dl.srcT, Dl.srcS, Dl.srcQ, Dl.srcR1, Dl.srcR2, Dl.hide, Dl.restore, sizeLine_eq, Dl.lockS]
  refine stands_in_eq hl ?_
  simp -dsimp -implicitDefEqProofs [Dl.vI, Dl.vB, Dl.vS, Dl.run2, Dl.run1, Dl.deref, Dl.Slot.data?, Dl.useO, Dl.useAll, Dl.boolOf, Dl.putO, Dl.free, Dl.outO, Dl.withAll, Dl.runN, Dl.derefs, Dl.mutO, Dl.isLst, Dl.isDct, Dl.putI, Dl.putD, Dl.setI, Dl.augO, Dl.getI, Dl.slotOf, Dl.slotsOf, Dl.lents, Dl.takeB, Dl.backS, Dl.useSel, Dl.back, Dl.gd, Dl.pyIx, atI, ixN, Dl.pyGet, Dl.pyMul, Dl.pyAdd, Dl.pyEq, Dl.pyNe, Dl.mulOk, Dl.powOk, Dl.pySlice, Dl.fLen, Dl.fList, Dl.fTuple, Dl.mAppend, Dl.mReverse, Dl.mClear, Dl.mExtend, Dl.mInsert, Dl.mkTup, Dl.mkLst, Dl.pyIsN, Dl.pyNotN, Dl.fNeg, Dl.pyRev, Dl.gN, Dl.gsNil, Dl.gsCons, Dl.gT, Dl.srcL, Dl.srcT, Dl.srcS, Dl.srcQ, Dl.srcR1, Dl.srcR2, Dl.hide, Dl.restore, sizeLine_eq, Dl.lockS]
  exact h
/-- the law's own: a literal holds -/
theorem law_stands_loop {f : Li} {sf : Slot} (hs : FS sf f) {c0 : D} {QF : Flow → Rho → Prop} {X : Ex → Rho → Prop} : ∀ (cl : Li) (s2 s3 : Slot), frS s2 = true → frS s3 = true → (∀ p ∈ cl, (look f p.1).isSome) →
    (match met f cl with
      | true => ∀ s2 s3, QF (.rt (.val (.bool true))) [.dat c0, sf, s2, s3]
      | false => ∀ s2 s3, QF .nx [.dat c0, sf, s2, s3]) →
    wp (sLoop (gT 2 (gsCons (gN 2) (gsCons (gN 3) gsNil))) (sIf (tVal (eOp2 pyEq (eOp2 pyAt (eVar 1) (eVar 2)) (eVar 3)))
     (sRet (eC (.bool true)))
     sNil) (cl.map liD) [.dat c0, sf, s2, s3]) QF X
  | [], s2, s3, _, _, _, h => h s2 s3
  | (n, b) :: cl, s2, s3, f2, f3, hk, h => by
    simp only [frS, free, List.getElem?_cons_zero] at f2 f3
    rw [List.map_cons]
    have e0 : liD (n, b) = .tuple [.str n, .bool b] := rfl
    rw [e0]
    obtain ⟨c, hc⟩ := Option.isSome_iff_exists.mp (hk (n, b) List.mem_cons_self)
    have hat := at_tr hc
    have hv : lit f (n, b) = (c == b) := by
      unfold lit
      have hc : look f n = some c := hc
      simp [hc]
      cases c <;> cases b <;> rfl
    unfold met at h
    rw [List.any_cons, hv] at h
    by_cases z : (c == b) = true
    · rw [z] at h
      rcases hs with rfl | rfl | rfl <;> simp -dsimp -implicitDefEqProofs [Dl.vI, Dl.vB, Dl.vS, Dl.run2, Dl.run1, Dl.deref, Dl.Slot.data?, Dl.useO, Dl.useAll, Dl.boolOf, Dl.putO, Dl.free, Dl.outO, Dl.withAll, Dl.runN, Dl.derefs, Dl.mutO, Dl.isLst, Dl.isDct, Dl.putI, Dl.putD, Dl.setI, Dl.augO, Dl.getI, Dl.slotOf, Dl.slotsOf, Dl.lents, Dl.takeB, Dl.backS, Dl.useSel, Dl.back, Dl.gd, Dl.pyIx, atI, ixN, Dl.pyGet, Dl.pyMul, Dl.pyAdd, Dl.pyEq, Dl.pyNe, Dl.mulOk, Dl.powOk, Dl.pySlice, Dl.fLen, Dl.fList, Dl.fTuple, Dl.mAppend, Dl.mReverse, Dl.mClear, Dl.mExtend, Dl.mInsert, Dl.mkTup, Dl.mkLst, Dl.pyIsN, Dl.pyNotN, Dl.fNeg, Dl.pyRev, Dl.gN, Dl.gsNil, Dl.gsCons, Dl.gT, Dl.srcL, Dl.srcT, Dl.srcS, Dl.srcQ, Dl.srcR1, Dl.srcR2, Dl.hide, Dl.restore, sizeLine_eq, Dl.lockS, f2, f3, hat, z] <;> exact h _ _
    · rw [Bool.not_eq_true] at z
      rw [z] at h
      have ih := law_stands_loop hs (QF := QF) (X := X) (c0 := c0) cl (.dat (.str n)) (.dat (.bool b)) rfl rfl (fun p hp => hk p (List.mem_cons_of_mem _ hp)) h
      rcases hs with rfl | rfl | rfl <;> simp -dsimp -implicitDefEqProofs [Dl.vI, Dl.vB, Dl.vS, Dl.run2, Dl.run1, Dl.deref, Dl.Slot.data?, Dl.useO, Dl.useAll, Dl.boolOf, Dl.putO, Dl.free, Dl.outO, Dl.withAll, Dl.runN, Dl.derefs, Dl.mutO, Dl.isLst, Dl.isDct, Dl.putI, Dl.putD, Dl.setI, Dl.augO, Dl.getI, Dl.slotOf, Dl.slotsOf, Dl.lents, Dl.takeB, Dl.backS, Dl.useSel, Dl.back, Dl.gd, Dl.pyIx, atI, ixN, Dl.pyGet, Dl.pyMul, Dl.pyAdd, Dl.pyEq, Dl.pyNe, Dl.mulOk, Dl.powOk, Dl.pySlice, Dl.fLen, Dl.fList, Dl.fTuple, Dl.mAppend, Dl.mReverse, Dl.mClear, Dl.mExtend, Dl.mInsert, Dl.mkTup, Dl.mkLst, Dl.pyIsN, Dl.pyNotN, Dl.fNeg, Dl.pyRev, Dl.gN, Dl.gsNil, Dl.gsCons, Dl.gT, Dl.srcL, Dl.srcT, Dl.srcS, Dl.srcQ, Dl.srcR1, Dl.srcR2, Dl.hide, Dl.restore, sizeLine_eq, Dl.lockS, f2, f3, hat, z] <;> exact ih
theorem law_stands_eq {f cl : Li} {sf : Slot} (hs : FS sf f) (hk : ∀ p ∈ cl, (look f p.1).isSome) {Q : Opd → Rho → Prop} {X : Ex → Rho → Prop} (h : Q (.val (.bool (met f cl))) [.dat (.tuple (cl.map liD)), sf]) : wp (mLawStands [.dat (.tuple (cl.map liD)), sf]) Q X := by
  unfold mLawStands
  rcases hs with rfl | rfl | rfl
  all_goals
    simp -dsimp -implicitDefEqProofs [Dl.vI, Dl.vB, Dl.vS, Dl.run2, Dl.run1, Dl.deref, Dl.Slot.data?, Dl.useO, Dl.useAll, Dl.boolOf, Dl.putO, Dl.free, Dl.outO, Dl.withAll, Dl.runN, Dl.derefs, Dl.mutO, Dl.isLst, Dl.isDct, Dl.putI, Dl.putD, Dl.setI, Dl.augO, Dl.getI, Dl.slotOf, Dl.slotsOf, Dl.lents, Dl.takeB, Dl.backS, Dl.useSel, Dl.back, Dl.gd, Dl.pyIx, atI, ixN, Dl.pyGet, Dl.pyMul, Dl.pyAdd, Dl.pyEq, Dl.pyNe, Dl.mulOk, Dl.powOk, Dl.pySlice, Dl.fLen, Dl.fList, Dl.fTuple, Dl.mAppend, Dl.mReverse, Dl.mClear, Dl.mExtend, Dl.mInsert, Dl.mkTup, Dl.mkLst, Dl.pyIsN, Dl.pyNotN, Dl.fNeg, Dl.pyRev, Dl.gN, Dl.gsNil, Dl.gsCons, Dl.gT, Dl.srcL, Dl.srcT, Dl.srcS, Dl.srcQ, Dl.srcR1, Dl.srcR2, Dl.hide, Dl.restore, sizeLine_eq, Dl.lockS]
    refine law_stands_loop (f := f) (by first | exact .inl rfl | exact .inr (.inl rfl) | exact .inr (.inr rfl)) (c0 := .tuple (cl.map liD)) cl .un .un rfl rfl hk ?_
    cases e : met f cl <;> rw [e] at h <;> intro s2 s3 <;> simp -dsimp -implicitDefEqProofs [Dl.vI, Dl.vB, Dl.vS, Dl.run2, Dl.run1, Dl.deref, Dl.Slot.data?, Dl.useO, Dl.useAll, Dl.boolOf, Dl.putO, Dl.free, Dl.outO, Dl.withAll, Dl.runN, Dl.derefs, Dl.mutO, Dl.isLst, Dl.isDct, Dl.putI, Dl.putD, Dl.setI, Dl.augO, Dl.getI, Dl.slotOf, Dl.slotsOf, Dl.lents, Dl.takeB, Dl.backS, Dl.useSel, Dl.back, Dl.gd, Dl.pyIx, atI, ixN, Dl.pyGet, Dl.pyMul, Dl.pyAdd, Dl.pyEq, Dl.pyNe, Dl.mulOk, Dl.powOk, Dl.pySlice, Dl.fLen, Dl.fList, Dl.fTuple, Dl.mAppend, Dl.mReverse, Dl.mClear, Dl.mExtend, Dl.mInsert, Dl.mkTup, Dl.mkLst, Dl.pyIsN, Dl.pyNotN, Dl.fNeg, Dl.pyRev, Dl.gN, Dl.gsNil, Dl.gsCons, Dl.gT, Dl.srcL, Dl.srcT, Dl.srcS, Dl.srcQ, Dl.srcR1, Dl.srcR2, Dl.hide, Dl.restore, sizeLine_eq, Dl.lockS] <;> exact h
end Dl

set_option maxRecDepth 100000
set_option maxHeartbeats 400000
namespace Dl
open PySem PySem.Spec L2
set_option autoImplicit false
/-! ### what follows, in plain words -/
theorem Ru.val_congr {f g : Str → Bool} : ∀ (r : Ru), (∀ s ∈ r.names, f s = g s) → r.val f = r.val g
  | .is s, h => h s (List.mem_singleton.mpr rfl)
  | .yes, _ => rfl
  | .no, _ => rfl
  | .not r, h => by unfold Ru.val; rw [Ru.val_congr r h]
  | .two o a b, h => by
    have ha := Ru.val_congr a fun s hs => h s (List.mem_append_left _ hs)
    have hb := Ru.val_congr b fun s hs => h s (List.mem_append_right _ hs)
    cases o <;> (unfold Ru.val; rw [ha, hb])
theorem allF_complete (φ : Str → Bool) (names : List Str) : ∃ f ∈ allF names, ∀ s ∈ names, look f s = some (φ s) := by
  have key : ∀ k, k ≤ names.length → ∃ f ∈ allF (names.take k), ∀ s ∈ names.take k, look f s = some (φ s) := by
    intro k
    induction k with
    | zero => intro _; exact ⟨[], List.mem_singleton.mpr rfl, fun s hs => by cases hs⟩
    | succ k ih =>
      intro hk
      obtain ⟨f, hf, hl⟩ := ih (by omega)
      have hg : names[k]? = some names[k] := List.getElem?_eq_getElem (by omega)
      have e : names.take (k + 1) = names.take k ++ [names[k]] := by rw [List.take_add_one, hg]; rfl
      rw [e, allF_snoc]
      refine ⟨putB f names[k] (φ names[k]), ?_, fun s hs => ?_⟩
      · unfold ext
        refine List.mem_flatMap.mpr ⟨f, hf, ?_⟩
        cases φ names[k] <;> simp
      · rw [look_put]
        by_cases z : s = names[k]
        · rw [if_pos z, z]
        · rw [if_neg z]
          rcases List.mem_append.mp hs with h | h
          · exact hl s h
          · exact absurd (List.mem_singleton.mp h) z
  have := key names.length (Nat.le_refl _)
  rw [List.take_length] at this
  exact this
theorem met_iff {f cl : Li} : met f cl = true ↔ ∃ p ∈ cl, look f p.1 = some p.2 := by
  unfold met lit
  rw [List.any_eq_true]
  simp only [decide_eq_true_eq]
theorem ev_some {f : Li} {s : Str} {b : Bool} (h : look f s = some b) : ev f s = b := ev_look h
theorem follows_due {r : Ru} {cl : Li} {names : List Str} (hr : ∀ s ∈ r.names, s ∈ names) (hc : ∀ p ∈ cl, p.1 ∈ names) (nd : (cl.map (·.1)).Nodup) :
    ((under r).all fun f => met f cl) = (allF names).all fun f => !(r.val (ev f)) || met f cl := by
  rw [Bool.eq_iff_iff, List.all_eq_true, List.all_eq_true]
  constructor
  · intro h f hf
    cases hv : r.val (ev f) with
    | false => rfl
    | true =>
      obtain ⟨g, hg, hl⟩ := allF_complete (ev f) (canon r.names)
      have e : r.val (ev g) = r.val (ev f) := r.val_congr fun s hs => ev_some (hl s (canon_mem.mpr hs))
      have hm := h g (List.mem_filter.mpr ⟨hg, by rw [e]; exact hv⟩)
      obtain ⟨p, hp, he⟩ := met_iff.mp hm
      have hk : p.1 ∈ canon r.names := ((allF_keys _ g hg).2 p.1).mp (isSome_iff.mp (by rw [he]; rfl))
      have h2 := hl p.1 hk
      rw [he] at h2
      obtain ⟨c, hcl⟩ := Option.isSome_iff_exists.mp (allF_look hf (hr _ (canon_mem.mp hk)))
      have h3 := ev_some hcl
      have : met f cl = true := met_iff.mpr ⟨p, hp, by rw [hcl, ← h3, Option.some.inj h2]⟩
      rw [this]
      rfl
  · intro h g hg
    obtain ⟨hg, hv⟩ := List.mem_filter.mp hg
    cases hm : met g cl with
    | true => rfl
    | false =>
      exfalso
      obtain ⟨f, hf, hl⟩ := allF_complete (fun s => if s ∈ canon r.names then ev g s else match look cl s with
        | some b => !b
        | none => false) names
      have e : r.val (ev f) = r.val (ev g) := r.val_congr fun s hs => by
        have := ev_some (hl s (hr s hs))
        rw [if_pos (canon_mem.mpr hs)] at this
        exact this
      have hv : r.val (ev g) = true := hv
      have hff := h f hf
      rw [e, hv] at hff
      have hff : met f cl = true := hff
      obtain ⟨p, hp, he⟩ := met_iff.mp hff
      have h2 := hl p.1 (hc p hp)
      rw [he] at h2
      have h2 := Option.some.inj h2
      by_cases hk : p.1 ∈ canon r.names
      · rw [if_pos hk] at h2
        obtain ⟨c, hcl⟩ := Option.isSome_iff_exists.mp (allF_look hg hk)
        have h3 := ev_some hcl
        have : met g cl = true := met_iff.mpr ⟨p, hp, by rw [hcl, h2, h3]⟩
        rw [hm] at this
        cases this
      · rw [if_neg hk, mem_look nd hp] at h2
        cases hb : p.2 <;> rw [hb] at h2 <;> cases h2
end Dl

set_option maxRecDepth 100000
set_option maxHeartbeats 400000
namespace Dl
open PySem PySem.Spec L2
set_option autoImplicit false
def mIsName : ME := fnSem 1 2
     (sSeq (sIf (tOrM (tNotM (tVal (eOp1 (isD "str") (eVar 0)))) (tNotM (tVal (eChain pyLe pyLe (eC (.int 1)) (eBlt fLen (aCons (eVar 0) aNil)) (eC (.int (8)))))))
     (sRet (eC (.bool false)))
     sNil)
     (sRet (eBlt fAll (aCons (lkd 0 (eComp [1] (iTxt (eVar 0)) (gN 1) tTrue (eOp2 (orf pyIn pyInK) (eVar 1) (eC (.str "abcdefghijklmnopqrstuvwxyz"))))) aNil))))
def mIsBuilt : Nat → ME
 | 0 => fun _ => .fail
 | n + 1 => fnSem 2 3
     (sSeq (sIf (tOrM (tVal (eOp2 pyLt (eVar 1) (eC (.int 1)))) (tOrM (tNotM (tVal (eOp1 (isD "tuple") (eVar 0)))) (tOrM (tVal (eOp2 pyEq (eBlt fLen (aCons (eVar 0) aNil)) (eC (.int 0)))) (tNotM (tVal (eOp1 (isD "str") (eOp2 pyAt (eVar 0) (eC (.int 0)))))))))
     (sRet (eC (.bool false)))
     sNil)
     (sSeq (sSet 2 (eOp2 pyAt (eVar 0) (eC (.int 0))))
     (sSeq (sIf (tVal (eOp2 (orf pyIn pyInK) (eVar 2) (eUse mkTup (aCons (eC (.str "yes")) (aCons (eC (.str "no")) aNil)))))
     (sRet (eOp2 pyEq (eBlt fLen (aCons (eVar 0) aNil)) (eC (.int 1))))
     sNil)
     (sSeq (sIf (tVal (eOp2 pyEq (eVar 2) (eC (.str "is"))))
     (sRet (eAnd (eOp2 pyEq (eBlt fLen (aCons (eVar 0) aNil)) (eC (.int 2))) (eCall 1 [true] mIsName (aCons (eOp2 pyAt (eVar 0) (eC (.int 1))) aNil))))
     sNil)
     (sSeq (sIf (tVal (eOp2 pyEq (eVar 2) (eC (.str "not"))))
     (sRet (eAnd (eOp2 pyEq (eBlt fLen (aCons (eVar 0) aNil)) (eC (.int 2))) (eCall 2 [true, true] (mIsBuilt n) (aCons (eOp2 pyAt (eVar 0) (eC (.int 1))) (aCons (eOp2 pySub (eVar 1) (eC (.int 1))) aNil)))))
     sNil)
     (sSeq (sIf (tOrM (tVal (eOp2 (orf pyNotIn pyNotInK) (eVar 2) (eUse mkTup (aCons (eC (.str "and")) (aCons (eC (.str "or")) (aCons (eC (.str "then")) (aCons (eC (.str "same")) aNil))))))) (tVal (eOp2 pyNe (eBlt fLen (aCons (eVar 0) aNil)) (eC (.int 3)))))
     (sRet (eC (.bool false)))
     sNil)
     (sRet (eAnd (eCall 2 [true, true] (mIsBuilt n) (aCons (eOp2 pyAt (eVar 0) (eC (.int 1))) (aCons (eOp2 pySub (eVar 1) (eC (.int 1))) aNil))) (eCall 2 [true, true] (mIsBuilt n) (aCons (eOp2 pyAt (eVar 0) (eC (.int 2))) (aCons (eOp2 pySub (eVar 1) (eC (.int 1))) aNil)))))))))))
def mIsRule : ME := fnSem 1 1
     (sRet (eAnd (eCall 2 [true, true] (mIsBuilt 7) (aCons (eVar 0) (aCons (eC (.int (6))) aNil))) (eOp2 pyLe (eBlt fLen (aCons (eCall 1 [true] mNamesOf (aCons (eVar 0) aNil)) aNil)) (eC (.int (5))))))
def mWordsOf : Nat → ME
 | 0 => fun _ => .fail
 | n + 1 => fnSem 1 3
     (sSeq (sSet 1 (eUse mkLst (aCons (eOp2 pyAt (eVar 0) (eC (.int 0))) aNil)))
     (sSeq (sFor (iSeq (eSlice (eVar 0) (oSome (eC (.int 1))) oNone)) (gN 2)
     (sIf (tVal (eOp1 (isD "str") (eVar 2)))
     (sExp (eMut 1 mAppend (aCons (eVar 2) aNil)))
     (sSet 1 (eOp2 pyAdd (eVar 1) (eCall 1 [true] (mWordsOf n) (aCons (eVar 2) aNil))))))
     (sRet (eVar 1))))
def mShowRule : ME := fnSem 1 1
     (sRet (eOp2 pyJoin (eC (.str " ")) (eCall 1 [true] (mWordsOf 7) (aCons (eVar 0) aNil))))
def mRuleFrom : Nat → ME
 | 0 => fun _ => .fail
 | n + 1 => fnSem 3 8
     (sSeq (sIf (tOrM (tVal (eOp2 pyLt (eVar 2) (eC (.int 1)))) (tVal (eOp2 pyGe (eVar 1) (eBlt fLen (aCons (eVar 0) aNil)))))
     sNo
     sNil)
     (sSeq (sSet 3 (eOp2 pyAt (eVar 0) (eVar 1)))
     (sSeq (sIf (tVal (eOp2 (orf pyIn pyInK) (eVar 3) (eUse mkTup (aCons (eC (.str "yes")) (aCons (eC (.str "no")) aNil)))))
     (sRet (eUse mkTup (aCons (eUse mkTup (aCons (eVar 3) aNil)) (aCons (eOp2 pyAdd (eVar 1) (eC (.int 1))) aNil))))
     sNil)
     (sSeq (sIf (tAndM (tVal (eOp2 pyEq (eVar 3) (eC (.str "is")))) (tVal (eOp2 pyLt (eOp2 pyAdd (eVar 1) (eC (.int 1))) (eBlt fLen (aCons (eVar 0) aNil)))))
     (sRet (eUse mkTup (aCons (eUse mkTup (aCons (eC (.str "is")) (aCons (eOp2 pyAt (eVar 0) (eOp2 pyAdd (eVar 1) (eC (.int 1)))) aNil))) (aCons (eOp2 pyAdd (eVar 1) (eC (.int 2))) aNil))))
     sNil)
     (sSeq (sIf (tVal (eOp2 (orf pyNotIn pyNotInK) (eVar 3) (eUse mkTup (aCons (eC (.str "not")) (aCons (eC (.str "and")) (aCons (eC (.str "or")) (aCons (eC (.str "then")) (aCons (eC (.str "same")) aNil))))))))
     sNo
     sNil)
     (sSeq (sAsg (gT 2 (gsCons (gN 4) (gsCons (gN 5) gsNil))) (eCall 3 [true, true, true] (mRuleFrom n) (aCons (eVar 0) (aCons (eOp2 pyAdd (eVar 1) (eC (.int 1))) (aCons (eOp2 pySub (eVar 2) (eC (.int 1))) aNil)))))
     (sSeq (sIf (tVal (eOp2 pyEq (eVar 3) (eC (.str "not"))))
     (sRet (eUse mkTup (aCons (eUse mkTup (aCons (eC (.str "not")) (aCons (eVar 4) aNil))) (aCons (eVar 5) aNil))))
     sNil)
     (sSeq (sAsg (gT 2 (gsCons (gN 6) (gsCons (gN 7) gsNil))) (eCall 3 [true, true, true] (mRuleFrom n) (aCons (eVar 0) (aCons (eVar 5) (aCons (eOp2 pySub (eVar 2) (eC (.int 1))) aNil)))))
     (sRet (eUse mkTup (aCons (eUse mkTup (aCons (eVar 3) (aCons (eVar 4) (aCons (eVar 6) aNil)))) (aCons (eVar 7) aNil))))))))))))
def mReadRule : ME := fnSem 1 4
     (sSeq (sIf (tNotM (tVal (eOp1 (isD "str") (eVar 0))))
     sNo
     sNil)
     (sSeq (sSet 1 (eSplit (eVar 0) (eC (.str " "))))
     (sSeq (sAsg (gT 2 (gsCons (gN 2) (gsCons (gN 3) gsNil))) (eCall 3 [true, true, true] (mRuleFrom 7) (aCons (eVar 1) (aCons (eC (.int 0)) (aCons (eC (.int (6))) aNil)))))
     (sSeq (sIf (tOrM (tVal (eOp2 pyNe (eVar 3) (eBlt fLen (aCons (eVar 1) aNil)))) (tNotM (tVal (eCall 1 [true] mIsRule (aCons (eVar 2) aNil)))))
     sNo
     sNil)
     (sRet (eVar 2))))))
@[simp] theorem has_yn_is : hasD (.str "is") (.tuple [.str "yes", .str "no"]) = some false := by decide +kernel
@[simp] theorem has_yn_yes : hasD (.str "yes") (.tuple [.str "yes", .str "no"]) = some true := by decide +kernel
@[simp] theorem has_yn_no : hasD (.str "no") (.tuple [.str "yes", .str "no"]) = some true := by decide +kernel
@[simp] theorem has_yn_not : hasD (.str "not") (.tuple [.str "yes", .str "no"]) = some false := by decide +kernel
@[simp] theorem has_yn_and : hasD (.str "and") (.tuple [.str "yes", .str "no"]) = some false := by decide +kernel
@[simp] theorem has_yn_or : hasD (.str "or") (.tuple [.str "yes", .str "no"]) = some false := by decide +kernel
@[simp] theorem has_yn_then : hasD (.str "then") (.tuple [.str "yes", .str "no"]) = some false := by decide +kernel
@[simp] theorem has_yn_same : hasD (.str "same") (.tuple [.str "yes", .str "no"]) = some false := by decide +kernel
@[simp] theorem has_bin_is : hasD (.str "is") (.tuple [.str "and", .str "or", .str "then", .str "same"]) = some false := by decide +kernel
@[simp] theorem has_bin_yes : hasD (.str "yes") (.tuple [.str "and", .str "or", .str "then", .str "same"]) = some false := by decide +kernel
@[simp] theorem has_bin_no : hasD (.str "no") (.tuple [.str "and", .str "or", .str "then", .str "same"]) = some false := by decide +kernel
@[simp] theorem has_bin_not : hasD (.str "not") (.tuple [.str "and", .str "or", .str "then", .str "same"]) = some false := by decide +kernel
@[simp] theorem has_bin_and : hasD (.str "and") (.tuple [.str "and", .str "or", .str "then", .str "same"]) = some true := by decide +kernel
@[simp] theorem has_bin_or : hasD (.str "or") (.tuple [.str "and", .str "or", .str "then", .str "same"]) = some true := by decide +kernel
@[simp] theorem has_bin_then : hasD (.str "then") (.tuple [.str "and", .str "or", .str "then", .str "same"]) = some true := by decide +kernel
@[simp] theorem has_bin_same : hasD (.str "same") (.tuple [.str "and", .str "or", .str "then", .str "same"]) = some true := by decide +kernel
@[simp] theorem has_all5_is : hasD (.str "is") (.tuple [.str "not", .str "and", .str "or", .str "then", .str "same"]) = some false := by decide +kernel
@[simp] theorem has_all5_yes : hasD (.str "yes") (.tuple [.str "not", .str "and", .str "or", .str "then", .str "same"]) = some false := by decide +kernel
@[simp] theorem has_all5_no : hasD (.str "no") (.tuple [.str "not", .str "and", .str "or", .str "then", .str "same"]) = some false := by decide +kernel
@[simp] theorem has_all5_not : hasD (.str "not") (.tuple [.str "not", .str "and", .str "or", .str "then", .str "same"]) = some true := by decide +kernel
@[simp] theorem has_all5_and : hasD (.str "and") (.tuple [.str "not", .str "and", .str "or", .str "then", .str "same"]) = some true := by decide +kernel
@[simp] theorem has_all5_or : hasD (.str "or") (.tuple [.str "not", .str "and", .str "or", .str "then", .str "same"]) = some true := by decide +kernel
@[simp] theorem has_all5_then : hasD (.str "then") (.tuple [.str "not", .str "and", .str "or", .str "then", .str "same"]) = some true := by decide +kernel
@[simp] theorem has_all5_same : hasD (.str "same") (.tuple [.str "not", .str "and", .str "or", .str "then", .str "same"]) = some true := by decide +kernel
def chQ (QO : Opd → Rho → Prop) (k : Rho → Prop) : Opd → Rho → Prop
  | .val (.bool true), ρ => k ρ
  | .val (.bool false), ρ => QO (.val (.bool false)) ρ
  | _, _ => False
@[simp] theorem chQ_t {QO : Opd → Rho → Prop} {k : Rho → Prop} {ρ : Rho} : chQ QO k (.val (.bool true)) ρ = k ρ := rfl
@[simp] theorem chQ_f {QO : Opd → Rho → Prop} {k : Rho → Prop} {ρ : Rho} : chQ QO k (.val (.bool false)) ρ = QO (.val (.bool false)) ρ := rfl
@[simp ↓] theorem wp_eChain {QO : Opd → Rho → Prop} {X : Ex → Rho → Prop} {ρ : Rho} (f g : D → D → Option Opd) (a b c : ME) : wp (eChain f g a b c ρ) QO X = wp (a ρ) (fun x ρ1 => wp (b ρ1) (fun y ρ2 => wp (run2 f ρ2 x y) (fun o ρ3 => chQ QO (fun ρ3 => wp (c ρ3) (fun z ρ4 => wp (run2 g ρ4 y z) QO X) X) o ρ3) X) X) X := by
  unfold eChain
  rw [wp_bind]
  refine wp_ext fun x ρ1 => ?_
  rw [wp_bind]
  refine wp_ext fun y ρ2 => ?_
  cases e : run2 f ρ2 x y with
  | fail => rfl
  | ex x' ρ' =>
    exfalso
    unfold run2 at e
    split at e
    · split at e <;> cases e
    · cases e
  | ok o ρ3 =>
    show wp (match (Rs.ok o ρ3 : Rs Opd) with
      | .ok (.val (.bool true)) ρ2 => (c ρ2).bind fun z ρ3 => run2 g ρ3 y z
      | .ok (.val (.bool false)) ρ2 => .ok (.val (.bool false)) ρ2
      | _ => .fail) QO X = chQ QO _ o ρ3
    cases o with
    | val d =>
      cases d with
      | bool b =>
        cases b with
        | true => exact wp_bind ..
        | false => rfl
      | none => rfl
      | int i => rfl
      | str i => rfl
      | list i => rfl
      | tuple i => rfl
      | dict i => rfl
    | loc i => rfl
    | new d => rfl
def Ru.words : Ru → List Str
  | .is s => ["is", s]
  | .yes => ["yes"]
  | .no => ["no"]
  | .not r => "not" :: r.words
  | .two o a b => o.str :: (a.words ++ b.words)
theorem Ru.words_len : ∀ r : Ru, r.words.length + 1 ≤ 2 ^ (r.dep + 1)
  | .is s => by show 2 + 1 ≤ 2 ^ 2; decide
  | .yes => by decide
  | .no => by decide
  | .not r => by
    have h := r.words_len
    show (("not" : Str) :: r.words).length + 1 ≤ 2 ^ (r.dep + 1 + 1)
    rw [List.length_cons, Nat.pow_succ]
    omega
  | .two o a b => by
    have h1 := a.words_len
    have h2 := b.words_len
    show (o.str :: (a.words ++ b.words)).length + 1 ≤ 2 ^ (max a.dep b.dep + 1 + 1)
    rw [List.length_cons, List.length_append, Nat.pow_succ]
    have : 2 ^ (a.dep + 1) ≤ 2 ^ (max a.dep b.dep + 1) := Nat.pow_le_pow_right (by decide) (by omega)
    have : 2 ^ (b.dep + 1) ≤ 2 ^ (max a.dep b.dep + 1) := Nat.pow_le_pow_right (by decide) (by omega)
    omega
theorem Ru.words_len7 {r : Ru} (h : r.dep ≤ 7) : r.words.length ≤ 255 := by
  have h1 := r.words_len
  have : 2 ^ (r.dep + 1) ≤ 2 ^ 8 := Nat.pow_le_pow_right (by decide) (by omega)
  omega
theorem isD_str_tup (ds : List D) : isD "str" (.tuple ds) = some (.val (.bool false)) := by
  have h : kitB "tuple" "str" = some false := by decide +kernel
  unfold isD tyN
  rw [h]
  rfl
theorem isD_tup_str (s : Str) : isD "tuple" (.str s) = some (.val (.bool false)) := by
  have h : kitB "str" "tuple" = some false := by decide +kernel
  unfold isD tyN
  rw [h]
  rfl
theorem Ru.isT (r : Ru) : ∃ ds, r.toD = .tuple ds := by cases r <;> exact ⟨_, rfl⟩
theorem Ru.isD_str (r : Ru) : isD "str" r.toD = some (.val (.bool false)) := by obtain ⟨ds, e⟩ := r.isT; rw [e]; exact isD_str_tup ds
theorem Ru.isD_tuple (r : Ru) : isD "tuple" r.toD = some (.val (.bool true)) := by obtain ⟨ds, e⟩ := r.isT; rw [e]; exact isD_tup ds
theorem words_of_eq : ∀ (n : Nat) (r : Ru), r.dep ≤ n → r.dep ≤ 7 → mWordsOf n [.dat r.toD] = .ok (.new (.list (r.words.map .str))) [.dat r.toD]
  | 0, r, h, _ => by cases r <;> simp [Ru.dep] at h
  | n + 1, r, h, h7 => by
    have hl := r.words_len7 h7
    have : wp (mWordsOf (n + 1) [.dat r.toD]) (fun o ρ => o = .new (.list (r.words.map .str)) ∧ ρ = [.dat r.toD]) NoX := by
      unfold mWordsOf
      cases r with
      | is s => simp -dsimp -implicitDefEqProofs [Dl.vI, Dl.vB, Dl.vS, Dl.run2, Dl.run1, Dl.deref, Dl.Slot.data?, Dl.useO, Dl.useAll, Dl.boolOf, Dl.putO, Dl.free, Dl.outO, Dl.withAll, Dl.runN, Dl.derefs, Dl.mutO, Dl.isLst, Dl.isDct, Dl.putI, Dl.putD, Dl.setI, Dl.augO, Dl.getI, Dl.slotOf, Dl.slotsOf, Dl.lents, Dl.takeB, Dl.backS, Dl.useSel, Dl.back, Dl.gd, Dl.pyIx, atI, ixN, Dl.pyGet, Dl.pyMul, Dl.pyAdd, Dl.pyEq, Dl.pyNe, Dl.mulOk, Dl.powOk, Dl.pySlice, Dl.fLen, Dl.fList, Dl.fTuple, Dl.mAppend, Dl.mReverse, Dl.mClear, Dl.mExtend, Dl.mInsert, Dl.mkTup, Dl.mkLst, Dl.pyIsN, Dl.pyNotN, Dl.fNeg, Dl.pyRev, Dl.gN, Dl.gsNil, Dl.gsCons, Dl.gT, Dl.srcL, Dl.srcT, Dl.srcS, Dl.srcQ, Dl.srcR1, Dl.srcR2, Dl.hide, Dl.restore, sizeLine_eq, Dl.lockS, Ru.toD, Ru.words, isD_s]
      | yes => simp -dsimp -implicitDefEqProofs [Dl.vI, Dl.vB, Dl.vS, Dl.run2, Dl.run1, Dl.deref, Dl.Slot.data?, Dl.useO, Dl.useAll, Dl.boolOf, Dl.putO, Dl.free, Dl.outO, Dl.withAll, Dl.runN, Dl.derefs, Dl.mutO, Dl.isLst, Dl.isDct, Dl.putI, Dl.putD, Dl.setI, Dl.augO, Dl.getI, Dl.slotOf, Dl.slotsOf, Dl.lents, Dl.takeB, Dl.backS, Dl.useSel, Dl.back, Dl.gd, Dl.pyIx, atI, ixN, Dl.pyGet, Dl.pyMul, Dl.pyAdd, Dl.pyEq, Dl.pyNe, Dl.mulOk, Dl.powOk, Dl.pySlice, Dl.fLen, Dl.fList, Dl.fTuple, Dl.mAppend, Dl.mReverse, Dl.mClear, Dl.mExtend, Dl.mInsert, Dl.mkTup, Dl.mkLst, Dl.pyIsN, Dl.pyNotN, Dl.fNeg, Dl.pyRev, Dl.gN, Dl.gsNil, Dl.gsCons, Dl.gT, Dl.srcL, Dl.srcT, Dl.srcS, Dl.srcQ, Dl.srcR1, Dl.srcR2, Dl.hide, Dl.restore, sizeLine_eq, Dl.lockS, Ru.toD, Ru.words]
      | no => simp -dsimp -implicitDefEqProofs [Dl.vI, Dl.vB, Dl.vS, Dl.run2, Dl.run1, Dl.deref, Dl.Slot.data?, Dl.useO, Dl.useAll, Dl.boolOf, Dl.putO, Dl.free, Dl.outO, Dl.withAll, Dl.runN, Dl.derefs, Dl.mutO, Dl.isLst, Dl.isDct, Dl.putI, Dl.putD, Dl.setI, Dl.augO, Dl.getI, Dl.slotOf, Dl.slotsOf, Dl.lents, Dl.takeB, Dl.backS, Dl.useSel, Dl.back, Dl.gd, Dl.pyIx, atI, ixN, Dl.pyGet, Dl.pyMul, Dl.pyAdd, Dl.pyEq, Dl.pyNe, Dl.mulOk, Dl.powOk, Dl.pySlice, Dl.fLen, Dl.fList, Dl.fTuple, Dl.mAppend, Dl.mReverse, Dl.mClear, Dl.mExtend, Dl.mInsert, Dl.mkTup, Dl.mkLst, Dl.pyIsN, Dl.pyNotN, Dl.fNeg, Dl.pyRev, Dl.gN, Dl.gsNil, Dl.gsCons, Dl.gT, Dl.srcL, Dl.srcT, Dl.srcS, Dl.srcQ, Dl.srcR1, Dl.srcR2, Dl.hide, Dl.restore, sizeLine_eq, Dl.lockS, Ru.toD, Ru.words]
      | not r =>
        have ih := words_of_eq n r (by simp only [Ru.dep] at h; omega) (by simp only [Ru.dep] at h7; omega)
        have hl : r.words.length + 1 ≤ 255 := hl
        have e := r.isD_str
        simp -dsimp -implicitDefEqProofs [Dl.vI, Dl.vB, Dl.vS, Dl.run2, Dl.run1, Dl.deref, Dl.Slot.data?, Dl.useO, Dl.useAll, Dl.boolOf, Dl.putO, Dl.free, Dl.outO, Dl.withAll, Dl.runN, Dl.derefs, Dl.mutO, Dl.isLst, Dl.isDct, Dl.putI, Dl.putD, Dl.setI, Dl.augO, Dl.getI, Dl.slotOf, Dl.slotsOf, Dl.lents, Dl.takeB, Dl.backS, Dl.useSel, Dl.back, Dl.gd, Dl.pyIx, atI, ixN, Dl.pyGet, Dl.pyMul, Dl.pyAdd, Dl.pyEq, Dl.pyNe, Dl.mulOk, Dl.powOk, Dl.pySlice, Dl.fLen, Dl.fList, Dl.fTuple, Dl.mAppend, Dl.mReverse, Dl.mClear, Dl.mExtend, Dl.mInsert, Dl.mkTup, Dl.mkLst, Dl.pyIsN, Dl.pyNotN, Dl.fNeg, Dl.pyRev, Dl.gN, Dl.gsNil, Dl.gsCons, Dl.gT, Dl.srcL, Dl.srcT, Dl.srcS, Dl.srcQ, Dl.srcR1, Dl.srcR2, Dl.hide, Dl.restore, sizeLine_eq, Dl.lockS, Ru.toD, Ru.words, ih, e, show 1 + r.words.length ≤ 16777216 by omega]
      | two o a b =>
        have ia := words_of_eq n a (by simp only [Ru.dep] at h; omega) (by simp only [Ru.dep] at h7; omega)
        have ib := words_of_eq n b (by simp only [Ru.dep] at h; omega) (by simp only [Ru.dep] at h7; omega)
        have hl : (a.words ++ b.words).length + 1 ≤ 255 := hl
        rw [List.length_append] at hl
        have e1 := a.isD_str
        have e2 := b.isD_str
        simp -dsimp -implicitDefEqProofs [Dl.vI, Dl.vB, Dl.vS, Dl.run2, Dl.run1, Dl.deref, Dl.Slot.data?, Dl.useO, Dl.useAll, Dl.boolOf, Dl.putO, Dl.free, Dl.outO, Dl.withAll, Dl.runN, Dl.derefs, Dl.mutO, Dl.isLst, Dl.isDct, Dl.putI, Dl.putD, Dl.setI, Dl.augO, Dl.getI, Dl.slotOf, Dl.slotsOf, Dl.lents, Dl.takeB, Dl.backS, Dl.useSel, Dl.back, Dl.gd, Dl.pyIx, atI, ixN, Dl.pyGet, Dl.pyMul, Dl.pyAdd, Dl.pyEq, Dl.pyNe, Dl.mulOk, Dl.powOk, Dl.pySlice, Dl.fLen, Dl.fList, Dl.fTuple, Dl.mAppend, Dl.mReverse, Dl.mClear, Dl.mExtend, Dl.mInsert, Dl.mkTup, Dl.mkLst, Dl.pyIsN, Dl.pyNotN, Dl.fNeg, Dl.pyRev, Dl.gN, Dl.gsNil, Dl.gsCons, Dl.gT, Dl.srcL, Dl.srcT, Dl.srcS, Dl.srcQ, Dl.srcR1, Dl.srcR2, Dl.hide, Dl.restore, sizeLine_eq, Dl.lockS, Ru.toD, Ru.words, ia, ib, e1, e2, show 1 + a.words.length ≤ 16777216 by omega, show a.words.length + 1 ≤ 16777216 by omega, show 1 + a.words.length + b.words.length ≤ 16777216 by omega, show a.words.length + 1 + b.words.length ≤ 16777216 by omega, show a.words.length + b.words.length + 1 ≤ 16777216 by omega]
    obtain ⟨o, ρ, e, rfl, rfl⟩ := wp_out this
    exact e
theorem op_tongue (o : Op4) : o.str ∈ tongue := by cases o <;> decide +kernel
theorem Ru.words_in : ∀ (r : Ru), ∀ w ∈ r.words, w ∈ tongue ∨ w ∈ r.names
  | .is s, w, h => by
    rcases List.mem_cons.mp h with rfl | h
    · exact .inl (by decide +kernel)
    · exact .inr h
  | .yes, w, h => by rw [List.mem_singleton.mp h]; exact .inl (by decide +kernel)
  | .no, w, h => by rw [List.mem_singleton.mp h]; exact .inl (by decide +kernel)
  | .not r, w, h => by
    rcases List.mem_cons.mp h with rfl | h
    · exact .inl (by decide +kernel)
    · exact Ru.words_in r w h
  | .two o a b, w, h => by
    rcases List.mem_cons.mp h with rfl | h
    · exact .inl (op_tongue o)
    · rcases List.mem_append.mp h with h | h
      · exact (Ru.words_in a w h).imp id fun z => List.mem_append_left _ z
      · exact (Ru.words_in b w h).imp id fun z => List.mem_append_right _ z
theorem Ru.words_nm {r : Ru} (h : r.ok) : ∀ w ∈ r.words, Nm w := fun w hw => (r.words_in w hw).elim (tongue_nm w) (h w)
theorem sum_len : ∀ {ws : List Str}, (∀ w ∈ ws, Nm w) → (ws.map (·.length)).sum ≤ 64 * ws.length
  | [], _ => Nat.zero_le _
  | w :: ws, h => by
    rw [List.map_cons, List.sum_cons, List.length_cons]
    have := (h w List.mem_cons_self).size
    have := sum_len (ws := ws) fun v hv => h v (List.mem_cons_of_mem _ hv)
    omega
def Ru.text (r : Ru) : Str := Txt.join " " r.words
theorem join_words {ws : List Str} (h : ∀ w ∈ ws, Nm w) (hl : ws.length ≤ 1000) : pyJoin (.str " ") (.list (ws.map .str)) = some (.val (.str (Txt.join " " ws))) := by
  unfold pyJoin
  dsimp only
  rw [strs_map]
  dsimp only
  have := sum_len h
  have e : (" " : Str).length = 1 := by decide +kernel
  rw [if_pos (by rw [e]; omega)]
theorem show_eq {r : Ru} (h : r.dep ≤ 6) (ok : r.ok) : mShowRule [.dat r.toD] = .ok (.val (.str r.text)) [.dat r.toD] := by
  have e := words_of_eq 7 r (by omega) (by omega)
  have j := join_words (r.words_nm ok) (Nat.le_trans (r.words_len7 (by omega)) (by decide))
  have : wp (mShowRule [.dat r.toD]) (fun o ρ => o = .val (.str r.text) ∧ ρ = [.dat r.toD]) NoX := by
    unfold mShowRule
    simp -dsimp -implicitDefEqProofs [Dl.vI, Dl.vB, Dl.vS, Dl.run2, Dl.run1, Dl.deref, Dl.Slot.data?, Dl.useO, Dl.useAll, Dl.boolOf, Dl.putO, Dl.free, Dl.outO, Dl.withAll, Dl.runN, Dl.derefs, Dl.mutO, Dl.isLst, Dl.isDct, Dl.putI, Dl.putD, Dl.setI, Dl.augO, Dl.getI, Dl.slotOf, Dl.slotsOf, Dl.lents, Dl.takeB, Dl.backS, Dl.useSel, Dl.back, Dl.gd, Dl.pyIx, atI, ixN, Dl.pyGet, Dl.pyMul, Dl.pyAdd, Dl.pyEq, Dl.pyNe, Dl.mulOk, Dl.powOk, Dl.pySlice, Dl.fLen, Dl.fList, Dl.fTuple, Dl.mAppend, Dl.mReverse, Dl.mClear, Dl.mExtend, Dl.mInsert, Dl.mkTup, Dl.mkLst, Dl.pyIsN, Dl.pyNotN, Dl.fNeg, Dl.pyRev, Dl.gN, Dl.gsNil, Dl.gsCons, Dl.gT, Dl.srcL, Dl.srcT, Dl.srcS, Dl.srcQ, Dl.srcR1, Dl.srcR2, Dl.hide, Dl.restore, sizeLine_eq, Dl.lockS, e, j]
    rfl
  obtain ⟨o, ρ, e, rfl, rfl⟩ := wp_out this
  exact e
/-! ### reading -/
theorem cut_at {ws pre post : List Str} {w : Str} (e : ws = pre ++ w :: post) : pyAt (.list (ws.map .str)) (.int (pre.length : Int)) = some (.val (.str w)) := by
  refine at_enc (f := PyData.str) (by omega) ?_
  rw [e, Int.toNat_natCast, List.getElem?_append_right (Nat.le_refl _), Nat.sub_self]
  rfl
theorem Ru.words_pos (r : Ru) : 1 ≤ r.words.length := by cases r <;> simp [Ru.words]
theorem rule_from_eq : ∀ (n : Nat) (r : Ru) (pre post : List Str) (deep : Int) (at_ : Int), at_ = pre.length → (r.dep : Int) ≤ deep → r.dep ≤ n → (pre ++ r.words ++ post).length ≤ 10000 →
    mRuleFrom n [.par (.list ((pre ++ r.words ++ post).map .str)), .dat (.int at_), .dat (.int deep)] = .ok (.val (.tuple [r.toD, .int (at_ + r.words.length)])) [.par (.list ((pre ++ r.words ++ post).map .str)), .dat (.int at_), .dat (.int deep)]
  | 0, r, pre, post, deep, at_, _, _, h, _ => by cases r <;> simp [Ru.dep] at h
  | n + 1, r, pre, post, deep, at_, hat, hd, h, hl => by
    have hd1 : ¬ deep < 1 := by cases r <;> simp only [Ru.dep] at hd <;> omega
    have hlen := hl
    rw [List.length_append, List.length_append] at hlen
    have : wp (mRuleFrom (n + 1) [.par (.list ((pre ++ r.words ++ post).map .str)), .dat (.int at_), .dat (.int deep)]) (fun o ρ => o = .val (.tuple [r.toD, .int (at_ + r.words.length)]) ∧ ρ = [.par (.list ((pre ++ r.words ++ post).map .str)), .dat (.int at_), .dat (.int deep)]) NoX := by
      unfold mRuleFrom
      cases r with
      | yes =>
        obtain ⟨ws, ews⟩ : ∃ ws, ws = pre ++ Ru.yes.words ++ post := ⟨_, rfl⟩
        have a0 := cut_at (ws := ws) (pre := pre) (w := "yes") (post := post) (by rw [ews]; simp [Ru.words])
        have hw : ws.length = pre.length + 1 + post.length := by rw [ews]; simp [Ru.words]; omega
        rw [← hat] at a0
        rw [← ews]
        simp -dsimp -implicitDefEqProofs [Dl.vI, Dl.vB, Dl.vS, Dl.run2, Dl.run1, Dl.deref, Dl.Slot.data?, Dl.useO, Dl.useAll, Dl.boolOf, Dl.putO, Dl.free, Dl.outO, Dl.withAll, Dl.runN, Dl.derefs, Dl.mutO, Dl.isLst, Dl.isDct, Dl.putI, Dl.putD, Dl.setI, Dl.augO, Dl.getI, Dl.slotOf, Dl.slotsOf, Dl.lents, Dl.takeB, Dl.backS, Dl.useSel, Dl.back, Dl.gd, Dl.pyIx, atI, ixN, Dl.pyGet, Dl.pyMul, Dl.pyAdd, Dl.pyEq, Dl.pyNe, Dl.mulOk, Dl.powOk, Dl.pySlice, Dl.fLen, Dl.fList, Dl.fTuple, Dl.mAppend, Dl.mReverse, Dl.mClear, Dl.mExtend, Dl.mInsert, Dl.mkTup, Dl.mkLst, Dl.pyIsN, Dl.pyNotN, Dl.fNeg, Dl.pyRev, Dl.gN, Dl.gsNil, Dl.gsCons, Dl.gT, Dl.srcL, Dl.srcT, Dl.srcS, Dl.srcQ, Dl.srcR1, Dl.srcR2, Dl.hide, Dl.restore, sizeLine_eq, Dl.lockS, hd1, a0, show ¬ (at_ ≥ (ws.length : Int)) by omega, show at_ < (ws.length : Int) by omega, Ru.toD, Ru.words, -pyAt_list]
      | no =>
        obtain ⟨ws, ews⟩ : ∃ ws, ws = pre ++ Ru.no.words ++ post := ⟨_, rfl⟩
        have a0 := cut_at (ws := ws) (pre := pre) (w := "no") (post := post) (by rw [ews]; simp [Ru.words])
        have hw : ws.length = pre.length + 1 + post.length := by rw [ews]; simp [Ru.words]; omega
        rw [← hat] at a0
        rw [← ews]
        simp -dsimp -implicitDefEqProofs [Dl.vI, Dl.vB, Dl.vS, Dl.run2, Dl.run1, Dl.deref, Dl.Slot.data?, Dl.useO, Dl.useAll, Dl.boolOf, Dl.putO, Dl.free, Dl.outO, Dl.withAll, Dl.runN, Dl.derefs, Dl.mutO, Dl.isLst, Dl.isDct, Dl.putI, Dl.putD, Dl.setI, Dl.augO, Dl.getI, Dl.slotOf, Dl.slotsOf, Dl.lents, Dl.takeB, Dl.backS, Dl.useSel, Dl.back, Dl.gd, Dl.pyIx, atI, ixN, Dl.pyGet, Dl.pyMul, Dl.pyAdd, Dl.pyEq, Dl.pyNe, Dl.mulOk, Dl.powOk, Dl.pySlice, Dl.fLen, Dl.fList, Dl.fTuple, Dl.mAppend, Dl.mReverse, Dl.mClear, Dl.mExtend, Dl.mInsert, Dl.mkTup, Dl.mkLst, Dl.pyIsN, Dl.pyNotN, Dl.fNeg, Dl.pyRev, Dl.gN, Dl.gsNil, Dl.gsCons, Dl.gT, Dl.srcL, Dl.srcT, Dl.srcS, Dl.srcQ, Dl.srcR1, Dl.srcR2, Dl.hide, Dl.restore, sizeLine_eq, Dl.lockS, hd1, a0, show ¬ (at_ ≥ (ws.length : Int)) by omega, show at_ < (ws.length : Int) by omega, Ru.toD, Ru.words, -pyAt_list]
      | is s =>
        obtain ⟨ws, ews⟩ : ∃ ws, ws = pre ++ (Ru.is s).words ++ post := ⟨_, rfl⟩
        have a0 := cut_at (ws := ws) (pre := pre) (w := "is") (post := s :: post) (by rw [ews]; simp [Ru.words])
        have a1 := cut_at (ws := ws) (pre := pre ++ [("is" : Str)]) (w := s) (post := post) (by rw [ews]; simp [Ru.words])
        have hw : ws.length = pre.length + 2 + post.length := by rw [ews]; simp [Ru.words]; omega
        rw [List.length_append, List.length_singleton, Int.natCast_add, ← hat] at a1
        have a1 : pyAt (.list (ws.map .str)) (.int (at_ + 1)) = some (.val (.str s)) := a1
        rw [← hat] at a0
        rw [← ews]
        simp -dsimp -implicitDefEqProofs [Dl.vI, Dl.vB, Dl.vS, Dl.run2, Dl.run1, Dl.deref, Dl.Slot.data?, Dl.useO, Dl.useAll, Dl.boolOf, Dl.putO, Dl.free, Dl.outO, Dl.withAll, Dl.runN, Dl.derefs, Dl.mutO, Dl.isLst, Dl.isDct, Dl.putI, Dl.putD, Dl.setI, Dl.augO, Dl.getI, Dl.slotOf, Dl.slotsOf, Dl.lents, Dl.takeB, Dl.backS, Dl.useSel, Dl.back, Dl.gd, Dl.pyIx, atI, ixN, Dl.pyGet, Dl.pyMul, Dl.pyAdd, Dl.pyEq, Dl.pyNe, Dl.mulOk, Dl.powOk, Dl.pySlice, Dl.fLen, Dl.fList, Dl.fTuple, Dl.mAppend, Dl.mReverse, Dl.mClear, Dl.mExtend, Dl.mInsert, Dl.mkTup, Dl.mkLst, Dl.pyIsN, Dl.pyNotN, Dl.fNeg, Dl.pyRev, Dl.gN, Dl.gsNil, Dl.gsCons, Dl.gT, Dl.srcL, Dl.srcT, Dl.srcS, Dl.srcQ, Dl.srcR1, Dl.srcR2, Dl.hide, Dl.restore, sizeLine_eq, Dl.lockS, hd1, a0, a1, show ¬ (at_ ≥ (ws.length : Int)) by omega, show at_ < (ws.length : Int) by omega, show at_ + 1 < (ws.length : Int) by omega, Ru.toD, Ru.words, -pyAt_list]
      | not r =>
        obtain ⟨ws, ews⟩ : ∃ ws, ws = pre ++ (Ru.not r).words ++ post := ⟨_, rfl⟩
        have a0 := cut_at (ws := ws) (pre := pre) (w := "not") (post := r.words ++ post) (by rw [ews]; simp [Ru.words])
        have hw : ws.length = pre.length + 1 + r.words.length + post.length := by rw [ews]; simp [Ru.words]; omega
        have e1 : (pre ++ [("not" : Str)]) ++ r.words ++ post = ws := by rw [ews]; simp [Ru.words]
        have ih := rule_from_eq n r (pre ++ [("not" : Str)]) post (deep - 1) (at_ + 1) (by rw [hat]; simp) (by simp only [Ru.dep] at hd; omega) (by simp only [Ru.dep] at h; omega) (by rw [e1, ews]; exact hl)
        rw [e1] at ih
        rw [← hat] at a0
        rw [← ews]
        have hrl := r.words_pos
        simp -dsimp -implicitDefEqProofs [Dl.vI, Dl.vB, Dl.vS, Dl.run2, Dl.run1, Dl.deref, Dl.Slot.data?, Dl.useO, Dl.useAll, Dl.boolOf, Dl.putO, Dl.free, Dl.outO, Dl.withAll, Dl.runN, Dl.derefs, Dl.mutO, Dl.isLst, Dl.isDct, Dl.putI, Dl.putD, Dl.setI, Dl.augO, Dl.getI, Dl.slotOf, Dl.slotsOf, Dl.lents, Dl.takeB, Dl.backS, Dl.useSel, Dl.back, Dl.gd, Dl.pyIx, atI, ixN, Dl.pyGet, Dl.pyMul, Dl.pyAdd, Dl.pyEq, Dl.pyNe, Dl.mulOk, Dl.powOk, Dl.pySlice, Dl.fLen, Dl.fList, Dl.fTuple, Dl.mAppend, Dl.mReverse, Dl.mClear, Dl.mExtend, Dl.mInsert, Dl.mkTup, Dl.mkLst, Dl.pyIsN, Dl.pyNotN, Dl.fNeg, Dl.pyRev, Dl.gN, Dl.gsNil, Dl.gsCons, Dl.gT, Dl.srcL, Dl.srcT, Dl.srcS, Dl.srcQ, Dl.srcR1, Dl.srcR2, Dl.hide, Dl.restore, sizeLine_eq, Dl.lockS, hd1, a0, ih, show ¬ (at_ ≥ (ws.length : Int)) by omega, show at_ < (ws.length : Int) by omega, Ru.toD, Ru.words, -pyAt_list]
        omega
      | two o a b =>
        obtain ⟨ws, ews⟩ : ∃ ws, ws = pre ++ (Ru.two o a b).words ++ post := ⟨_, rfl⟩
        have a0 := cut_at (ws := ws) (pre := pre) (w := o.str) (post := a.words ++ b.words ++ post) (by rw [ews]; simp [Ru.words])
        have hw : ws.length = pre.length + 1 + a.words.length + b.words.length + post.length := by rw [ews]; simp [Ru.words]; omega
        have e1 : (pre ++ [o.str]) ++ a.words ++ (b.words ++ post) = ws := by rw [ews]; simp [Ru.words]
        have e2 : (pre ++ [o.str] ++ a.words) ++ b.words ++ post = ws := by rw [ews]; simp [Ru.words]
        have ia := rule_from_eq n a (pre ++ [o.str]) (b.words ++ post) (deep - 1) (at_ + 1) (by rw [hat]; simp) (by simp only [Ru.dep] at hd; omega) (by simp only [Ru.dep] at h; omega) (by rw [e1, ews]; exact hl)
        have ib := rule_from_eq n b (pre ++ [o.str] ++ a.words) post (deep - 1) (at_ + 1 + a.words.length) (by rw [hat]; simp; omega) (by simp only [Ru.dep] at hd; omega) (by simp only [Ru.dep] at h; omega) (by rw [e2, ews]; exact hl)
        rw [e1] at ia
        rw [e2] at ib
        rw [← hat] at a0
        rw [← ews]
        cases o <;> simp only [Op4.str] at a0 <;> simp -dsimp -implicitDefEqProofs [Dl.vI, Dl.vB, Dl.vS, Dl.run2, Dl.run1, Dl.deref, Dl.Slot.data?, Dl.useO, Dl.useAll, Dl.boolOf, Dl.putO, Dl.free, Dl.outO, Dl.withAll, Dl.runN, Dl.derefs, Dl.mutO, Dl.isLst, Dl.isDct, Dl.putI, Dl.putD, Dl.setI, Dl.augO, Dl.getI, Dl.slotOf, Dl.slotsOf, Dl.lents, Dl.takeB, Dl.backS, Dl.useSel, Dl.back, Dl.gd, Dl.pyIx, atI, ixN, Dl.pyGet, Dl.pyMul, Dl.pyAdd, Dl.pyEq, Dl.pyNe, Dl.mulOk, Dl.powOk, Dl.pySlice, Dl.fLen, Dl.fList, Dl.fTuple, Dl.mAppend, Dl.mReverse, Dl.mClear, Dl.mExtend, Dl.mInsert, Dl.mkTup, Dl.mkLst, Dl.pyIsN, Dl.pyNotN, Dl.fNeg, Dl.pyRev, Dl.gN, Dl.gsNil, Dl.gsCons, Dl.gT, Dl.srcL, Dl.srcT, Dl.srcS, Dl.srcQ, Dl.srcR1, Dl.srcR2, Dl.hide, Dl.restore, sizeLine_eq, Dl.lockS, hd1, a0, ia, ib, show ¬ (at_ ≥ (ws.length : Int)) by omega, show at_ < (ws.length : Int) by omega, Ru.toD, Ru.words, Op4.str, -pyAt_list] <;> omega
    obtain ⟨o, ρ, e, rfl, rfl⟩ := wp_out this
    exact e
theorem Lw.nm {s : Str} (h : Lw s) : Nm s := ⟨h.ok.c, Nat.le_trans h.hi (by decide)⟩
def Ru.lw (r : Ru) : Prop := ∀ s ∈ r.names, Lw s
theorem Ru.lw.k {r : Ru} (h : r.lw) : r.ok := fun s hs => (h s hs).nm
theorem Ru.words_lw {r : Ru} (h : r.lw) : ∀ w ∈ r.words, Lw w := fun w hw => (r.words_in w hw).elim (tongue_lw w) (h w)
theorem is_name_eq {s : Str} (h : Lw s) : mIsName [.dat (.str s)] = .ok (.val (.bool true)) [.dat (.str s)] := by
  have h1 := h.lo
  have h2 := h.hi
  have hl : s.length = s.cps.toList.length := Array.length_toList.symm
  have main : wp (compL [1] (gN 1) tTrue (eOp2 (orf pyIn pyInK) (eVar 1) (eC (.str "abcdefghijklmnopqrstuvwxyz"))) (signs s) [] [.dat (.str s), .un]) (fun o ρ => o = .new (.list (List.replicate s.cps.toList.length (.bool true))) ∧ ρ = [.dat (.str s), .un]) NoX := by
    obtain ⟨I, eI⟩ : ∃ I : Nat → List D → Rho → Prop, I = fun i out ρ => out = List.replicate i (.bool true) ∧ ρ = [.dat (.str s), .un] := ⟨_, rfl⟩
    refine wp_cmp I (by rw [eI]; exact ⟨rfl, rfl⟩) (fun i d out ρ hd hI => ?_) fun out ρ hI => ?_
    · rw [eI] at hI
      obtain ⟨rfl, rfl⟩ := hI
      unfold signs at hd
      rw [List.getElem?_map, Option.map_eq_some_iff] at hd
      obtain ⟨c, hc, rfl⟩ := hd
      have hcl := h.ok c (List.mem_of_getElem? hc)
      have hil := (List.getElem?_eq_some_iff.mp hc).1
      have hin : hasD (.str ⟨#[c]⟩) (.str "abcdefghijklmnopqrstuvwxyz") = some true := by
        unfold hasD sgn?
        dsimp only
        have : c ∈ abc.cps.toList := by
          rw [abc_list, List.mem_range'_1]
          omega
        simp [this]
      have hin2 : orf pyIn pyInK (.str ⟨#[c]⟩) (.str "abcdefghijklmnopqrstuvwxyz") = some (.val (.bool true)) := by unfold orf pyIn; rw [hin]; rfl
      refine ⟨[.dat (.str s), .dat (.str ⟨#[c]⟩)], rfl, ?_⟩
      simp -dsimp -implicitDefEqProofs [Dl.vI, Dl.vB, Dl.vS, Dl.run2, Dl.run1, Dl.deref, Dl.Slot.data?, Dl.useO, Dl.useAll, Dl.boolOf, Dl.putO, Dl.free, Dl.outO, Dl.withAll, Dl.runN, Dl.derefs, Dl.mutO, Dl.isLst, Dl.isDct, Dl.putI, Dl.putD, Dl.setI, Dl.augO, Dl.getI, Dl.slotOf, Dl.slotsOf, Dl.lents, Dl.takeB, Dl.backS, Dl.useSel, Dl.back, Dl.gd, Dl.pyIx, atI, ixN, Dl.pyGet, Dl.pyMul, Dl.pyAdd, Dl.pyEq, Dl.pyNe, Dl.mulOk, Dl.powOk, Dl.pySlice, Dl.fLen, Dl.fList, Dl.fTuple, Dl.mAppend, Dl.mReverse, Dl.mClear, Dl.mExtend, Dl.mInsert, Dl.mkTup, Dl.mkLst, Dl.pyIsN, Dl.pyNotN, Dl.fNeg, Dl.pyRev, Dl.gN, Dl.gsNil, Dl.gsCons, Dl.gT, Dl.srcL, Dl.srcT, Dl.srcS, Dl.srcQ, Dl.srcR1, Dl.srcR2, Dl.hide, Dl.restore, sizeLine_eq, Dl.lockS, hin2, show i < 16777216 by omega]
      refine ⟨_, _, ⟨rfl, rfl⟩, ?_⟩
      rw [eI]
      exact ⟨by rw [List.replicate_succ'], rfl⟩
    · rw [eI] at hI
      obtain ⟨rfl, rfl⟩ := hI
      unfold signs
      rw [List.length_map]
      exact ⟨rfl, rfl⟩
  obtain ⟨o, ρ, em, rfl, rfl⟩ := wp_out main
  have : wp (mIsName [.dat (.str s)]) (fun o ρ => o = .val (.bool true) ∧ ρ = [.dat (.str s)]) NoX := by
    unfold mIsName
    simp -dsimp -implicitDefEqProofs [Dl.vI, Dl.vB, Dl.vS, Dl.run2, Dl.run1, Dl.deref, Dl.Slot.data?, Dl.useO, Dl.useAll, Dl.boolOf, Dl.putO, Dl.free, Dl.outO, Dl.withAll, Dl.runN, Dl.derefs, Dl.mutO, Dl.isLst, Dl.isDct, Dl.putI, Dl.putD, Dl.setI, Dl.augO, Dl.getI, Dl.slotOf, Dl.slotsOf, Dl.lents, Dl.takeB, Dl.backS, Dl.useSel, Dl.back, Dl.gd, Dl.pyIx, atI, ixN, Dl.pyGet, Dl.pyMul, Dl.pyAdd, Dl.pyEq, Dl.pyNe, Dl.mulOk, Dl.powOk, Dl.pySlice, Dl.fLen, Dl.fList, Dl.fTuple, Dl.mAppend, Dl.mReverse, Dl.mClear, Dl.mExtend, Dl.mInsert, Dl.mkTup, Dl.mkLst, Dl.pyIsN, Dl.pyNotN, Dl.fNeg, Dl.pyRev, Dl.gN, Dl.gsNil, Dl.gsCons, Dl.gT, Dl.srcL, Dl.srcT, Dl.srcS, Dl.srcQ, Dl.srcR1, Dl.srcR2, Dl.hide, Dl.restore, sizeLine_eq, Dl.lockS, isD_s, em, all_rep, show s.length ≤ 16777216 by omega, show (1 : Int) ≤ (s.length : Int) by omega, show (s.length : Int) ≤ 8 by omega, show ¬ (8 : Int) < (s.length : Int) by omega, show ¬ (s.length : Int) < 1 by omega]
  obtain ⟨o, ρ, e, rfl, rfl⟩ := wp_out this
  exact e
theorem is_built_eq : ∀ (n : Nat) (r : Ru) (deep : Int), (r.dep : Int) ≤ deep → r.dep ≤ n → r.lw → mIsBuilt n [.dat r.toD, .dat (.int deep)] = .ok (.val (.bool true)) [.dat r.toD, .dat (.int deep)]
  | 0, r, deep, _, h, _ => by cases r <;> simp [Ru.dep] at h
  | n + 1, r, deep, hd, h, lw => by
    have hd1 : ¬ deep < 1 := by cases r <;> simp only [Ru.dep] at hd <;> omega
    have : wp (mIsBuilt (n + 1) [.dat r.toD, .dat (.int deep)]) (fun o ρ => o = .val (.bool true) ∧ ρ = [.dat r.toD, .dat (.int deep)]) NoX := by
      unfold mIsBuilt
      cases r with
      | yes => simp -dsimp -implicitDefEqProofs [Dl.vI, Dl.vB, Dl.vS, Dl.run2, Dl.run1, Dl.deref, Dl.Slot.data?, Dl.useO, Dl.useAll, Dl.boolOf, Dl.putO, Dl.free, Dl.outO, Dl.withAll, Dl.runN, Dl.derefs, Dl.mutO, Dl.isLst, Dl.isDct, Dl.putI, Dl.putD, Dl.setI, Dl.augO, Dl.getI, Dl.slotOf, Dl.slotsOf, Dl.lents, Dl.takeB, Dl.backS, Dl.useSel, Dl.back, Dl.gd, Dl.pyIx, atI, ixN, Dl.pyGet, Dl.pyMul, Dl.pyAdd, Dl.pyEq, Dl.pyNe, Dl.mulOk, Dl.powOk, Dl.pySlice, Dl.fLen, Dl.fList, Dl.fTuple, Dl.mAppend, Dl.mReverse, Dl.mClear, Dl.mExtend, Dl.mInsert, Dl.mkTup, Dl.mkLst, Dl.pyIsN, Dl.pyNotN, Dl.fNeg, Dl.pyRev, Dl.gN, Dl.gsNil, Dl.gsCons, Dl.gT, Dl.srcL, Dl.srcT, Dl.srcS, Dl.srcQ, Dl.srcR1, Dl.srcR2, Dl.hide, Dl.restore, sizeLine_eq, Dl.lockS, hd1, Ru.toD, isD_tup, isD_s]
      | no => simp -dsimp -implicitDefEqProofs [Dl.vI, Dl.vB, Dl.vS, Dl.run2, Dl.run1, Dl.deref, Dl.Slot.data?, Dl.useO, Dl.useAll, Dl.boolOf, Dl.putO, Dl.free, Dl.outO, Dl.withAll, Dl.runN, Dl.derefs, Dl.mutO, Dl.isLst, Dl.isDct, Dl.putI, Dl.putD, Dl.setI, Dl.augO, Dl.getI, Dl.slotOf, Dl.slotsOf, Dl.lents, Dl.takeB, Dl.backS, Dl.useSel, Dl.back, Dl.gd, Dl.pyIx, atI, ixN, Dl.pyGet, Dl.pyMul, Dl.pyAdd, Dl.pyEq, Dl.pyNe, Dl.mulOk, Dl.powOk, Dl.pySlice, Dl.fLen, Dl.fList, Dl.fTuple, Dl.mAppend, Dl.mReverse, Dl.mClear, Dl.mExtend, Dl.mInsert, Dl.mkTup, Dl.mkLst, Dl.pyIsN, Dl.pyNotN, Dl.fNeg, Dl.pyRev, Dl.gN, Dl.gsNil, Dl.gsCons, Dl.gT, Dl.srcL, Dl.srcT, Dl.srcS, Dl.srcQ, Dl.srcR1, Dl.srcR2, Dl.hide, Dl.restore, sizeLine_eq, Dl.lockS, hd1, Ru.toD, isD_tup, isD_s]
      | is s =>
        have e := is_name_eq (lw s (by simp [Ru.names]))
        simp -dsimp -implicitDefEqProofs [Dl.vI, Dl.vB, Dl.vS, Dl.run2, Dl.run1, Dl.deref, Dl.Slot.data?, Dl.useO, Dl.useAll, Dl.boolOf, Dl.putO, Dl.free, Dl.outO, Dl.withAll, Dl.runN, Dl.derefs, Dl.mutO, Dl.isLst, Dl.isDct, Dl.putI, Dl.putD, Dl.setI, Dl.augO, Dl.getI, Dl.slotOf, Dl.slotsOf, Dl.lents, Dl.takeB, Dl.backS, Dl.useSel, Dl.back, Dl.gd, Dl.pyIx, atI, ixN, Dl.pyGet, Dl.pyMul, Dl.pyAdd, Dl.pyEq, Dl.pyNe, Dl.mulOk, Dl.powOk, Dl.pySlice, Dl.fLen, Dl.fList, Dl.fTuple, Dl.mAppend, Dl.mReverse, Dl.mClear, Dl.mExtend, Dl.mInsert, Dl.mkTup, Dl.mkLst, Dl.pyIsN, Dl.pyNotN, Dl.fNeg, Dl.pyRev, Dl.gN, Dl.gsNil, Dl.gsCons, Dl.gT, Dl.srcL, Dl.srcT, Dl.srcS, Dl.srcQ, Dl.srcR1, Dl.srcR2, Dl.hide, Dl.restore, sizeLine_eq, Dl.lockS, hd1, Ru.toD, isD_tup, isD_s, e]
      | not r =>
        have ih := is_built_eq n r (deep - 1) (by simp only [Ru.dep] at hd; omega) (by simp only [Ru.dep] at h; omega) lw
        simp -dsimp -implicitDefEqProofs [Dl.vI, Dl.vB, Dl.vS, Dl.run2, Dl.run1, Dl.deref, Dl.Slot.data?, Dl.useO, Dl.useAll, Dl.boolOf, Dl.putO, Dl.free, Dl.outO, Dl.withAll, Dl.runN, Dl.derefs, Dl.mutO, Dl.isLst, Dl.isDct, Dl.putI, Dl.putD, Dl.setI, Dl.augO, Dl.getI, Dl.slotOf, Dl.slotsOf, Dl.lents, Dl.takeB, Dl.backS, Dl.useSel, Dl.back, Dl.gd, Dl.pyIx, atI, ixN, Dl.pyGet, Dl.pyMul, Dl.pyAdd, Dl.pyEq, Dl.pyNe, Dl.mulOk, Dl.powOk, Dl.pySlice, Dl.fLen, Dl.fList, Dl.fTuple, Dl.mAppend, Dl.mReverse, Dl.mClear, Dl.mExtend, Dl.mInsert, Dl.mkTup, Dl.mkLst, Dl.pyIsN, Dl.pyNotN, Dl.fNeg, Dl.pyRev, Dl.gN, Dl.gsNil, Dl.gsCons, Dl.gT, Dl.srcL, Dl.srcT, Dl.srcS, Dl.srcQ, Dl.srcR1, Dl.srcR2, Dl.hide, Dl.restore, sizeLine_eq, Dl.lockS, hd1, Ru.toD, isD_tup, isD_s, ih]
      | two o a b =>
        have ia := is_built_eq n a (deep - 1) (by simp only [Ru.dep] at hd; omega) (by simp only [Ru.dep] at h; omega) fun s hs => lw s (List.mem_append_left _ hs)
        have ib := is_built_eq n b (deep - 1) (by simp only [Ru.dep] at hd; omega) (by simp only [Ru.dep] at h; omega) fun s hs => lw s (List.mem_append_right _ hs)
        cases o <;> simp -dsimp -implicitDefEqProofs [Dl.vI, Dl.vB, Dl.vS, Dl.run2, Dl.run1, Dl.deref, Dl.Slot.data?, Dl.useO, Dl.useAll, Dl.boolOf, Dl.putO, Dl.free, Dl.outO, Dl.withAll, Dl.runN, Dl.derefs, Dl.mutO, Dl.isLst, Dl.isDct, Dl.putI, Dl.putD, Dl.setI, Dl.augO, Dl.getI, Dl.slotOf, Dl.slotsOf, Dl.lents, Dl.takeB, Dl.backS, Dl.useSel, Dl.back, Dl.gd, Dl.pyIx, atI, ixN, Dl.pyGet, Dl.pyMul, Dl.pyAdd, Dl.pyEq, Dl.pyNe, Dl.mulOk, Dl.powOk, Dl.pySlice, Dl.fLen, Dl.fList, Dl.fTuple, Dl.mAppend, Dl.mReverse, Dl.mClear, Dl.mExtend, Dl.mInsert, Dl.mkTup, Dl.mkLst, Dl.pyIsN, Dl.pyNotN, Dl.fNeg, Dl.pyRev, Dl.gN, Dl.gsNil, Dl.gsCons, Dl.gT, Dl.srcL, Dl.srcT, Dl.srcS, Dl.srcQ, Dl.srcR1, Dl.srcR2, Dl.hide, Dl.restore, sizeLine_eq, Dl.lockS, hd1, Ru.toD, Op4.str, isD_tup, isD_s, ia, ib]
    obtain ⟨o, ρ, e, rfl, rfl⟩ := wp_out this
    exact e
theorem is_rule_eq {r : Ru} (h : r.dep ≤ 6) (lw : r.lw) (hc : (canon r.names).length ≤ 5) : mIsRule [.dat r.toD] = .ok (.val (.bool true)) [.dat r.toD] := by
  have e1 := is_built_eq 7 r 6 (by omega) (by omega) lw
  have e2 := names_of_eq r h
  have : wp (mIsRule [.dat r.toD]) (fun o ρ => o = .val (.bool true) ∧ ρ = [.dat r.toD]) NoX := by
    unfold mIsRule
    simp -dsimp -implicitDefEqProofs [Dl.vI, Dl.vB, Dl.vS, Dl.run2, Dl.run1, Dl.deref, Dl.Slot.data?, Dl.useO, Dl.useAll, Dl.boolOf, Dl.putO, Dl.free, Dl.outO, Dl.withAll, Dl.runN, Dl.derefs, Dl.mutO, Dl.isLst, Dl.isDct, Dl.putI, Dl.putD, Dl.setI, Dl.augO, Dl.getI, Dl.slotOf, Dl.slotsOf, Dl.lents, Dl.takeB, Dl.backS, Dl.useSel, Dl.back, Dl.gd, Dl.pyIx, atI, ixN, Dl.pyGet, Dl.pyMul, Dl.pyAdd, Dl.pyEq, Dl.pyNe, Dl.mulOk, Dl.powOk, Dl.pySlice, Dl.fLen, Dl.fList, Dl.fTuple, Dl.mAppend, Dl.mReverse, Dl.mClear, Dl.mExtend, Dl.mInsert, Dl.mkTup, Dl.mkLst, Dl.pyIsN, Dl.pyNotN, Dl.fNeg, Dl.pyRev, Dl.gN, Dl.gsNil, Dl.gsCons, Dl.gT, Dl.srcL, Dl.srcT, Dl.srcS, Dl.srcQ, Dl.srcR1, Dl.srcR2, Dl.hide, Dl.restore, sizeLine_eq, Dl.lockS, e1, e2, show (canon r.names).length ≤ 16777216 by omega, show ((canon r.names).length : Int) ≤ 5 by omega, show ¬ (5 : Int) < ((canon r.names).length : Int) by omega]
  obtain ⟨o, ρ, e, rfl, rfl⟩ := wp_out this
  exact e
theorem text_split {r : Ru} (lw : r.lw) : Txt.split r.text " " = r.words := by
  refine TL.split_join (s := 32) (S := []) (by decide +kernel) (by decide +kernel) (fun e => ?_) fun p hp hm => ?_
  · have := r.words_pos
    rw [e] at this
    exact absurd this (by decide)
  · have := (r.words_lw lw p hp).ok 32 hm
    omega
theorem text_len {r : Ru} (h : r.dep ≤ 6) (ok : r.ok) : r.text.length ≤ 100000 := by
  have h1 := StrLaws.join_length_le " " r.words
  have h2 := sum_len (r.words_nm ok)
  have h3 := r.words_len7 (by omega)
  have e : (" " : Str).length = 1 := by decide +kernel
  unfold Ru.text
  rw [TL.join_eq]
  rw [e] at h1
  omega
theorem read_eq {r : Ru} (h : r.dep ≤ 6) (lw : r.lw) (hc : (canon r.names).length ≤ 5) : mReadRule [.dat (.str r.text)] = .ok (.val r.toD) [.dat (.str r.text)] := by
  have e1 := rule_from_eq 7 r [] [] 6 0 rfl (by omega) (by omega) (by have := r.words_len7 (by omega); simp; omega)
  rw [List.nil_append, List.append_nil] at e1
  have e2 := is_rule_eq h lw hc
  have e3 := text_split lw
  have e4 := text_len h lw.k
  have e5 : (" " : Str).length = 1 := by decide +kernel
  have e6 := r.words_len7 (by omega)
  have ez : (0 : Int) + r.words.length = r.words.length := by omega
  rw [ez] at e1
  have : wp (mReadRule [.dat (.str r.text)]) (fun o ρ => o = .val r.toD ∧ ρ = [.dat (.str r.text)]) NoX := by
    unfold mReadRule eSplit
    simp -dsimp -implicitDefEqProofs [Dl.vI, Dl.vB, Dl.vS, Dl.run2, Dl.run1, Dl.deref, Dl.Slot.data?, Dl.useO, Dl.useAll, Dl.boolOf, Dl.putO, Dl.free, Dl.outO, Dl.withAll, Dl.runN, Dl.derefs, Dl.mutO, Dl.isLst, Dl.isDct, Dl.putI, Dl.putD, Dl.setI, Dl.augO, Dl.getI, Dl.slotOf, Dl.slotsOf, Dl.lents, Dl.takeB, Dl.backS, Dl.useSel, Dl.back, Dl.gd, Dl.pyIx, atI, ixN, Dl.pyGet, Dl.pyMul, Dl.pyAdd, Dl.pyEq, Dl.pyNe, Dl.mulOk, Dl.powOk, Dl.pySlice, Dl.fLen, Dl.fList, Dl.fTuple, Dl.mAppend, Dl.mReverse, Dl.mClear, Dl.mExtend, Dl.mInsert, Dl.mkTup, Dl.mkLst, Dl.pyIsN, Dl.pyNotN, Dl.fNeg, Dl.pyRev, Dl.gN, Dl.gsNil, Dl.gsCons, Dl.gT, Dl.srcL, Dl.srcT, Dl.srcS, Dl.srcQ, Dl.srcR1, Dl.srcR2, Dl.hide, Dl.restore, sizeLine_eq, Dl.lockS, isD_s, e1, e2, e3, e5, show r.text.length + 2 ≤ 16777216 by omega, show r.words.length ≤ 16777216 by omega]
  obtain ⟨o, ρ, e, rfl, rfl⟩ := wp_out this
  exact e
end Dl

set_option maxRecDepth 100000
set_option maxHeartbeats 4000000
namespace SL
open PySem PySem.Spec PyProof.Rows L2 LamX
set_option autoImplicit false
/-- the body (len(x), x) -/
abbrev bodyP (x : Str) (k : Nat) (p1 p2 p3 p4 p5 : Pos) : PySem.Expr := .Tuple [.Call (.Name "len" p1) [.Name x p2] [] p3, .Name x p4] k p5
structure LamP (x : Str) (params : Arguments) (scope : Scope) : Prop where
  kind : scope.kind = .function
  co : scope.isCoroutine = false
  gen : scope.isGenerator = false
  cell : ∀ y ∈ scope.names, y.2 ≠ .cell
  loc : scope.names.lookup x = some .local
  len : scope.names.lookup ("len" : Str) = some .globalImplicit
  dbg : (x == ("__debug__" : Str)) = false
  bind : ∀ (q : Str) (body : PySem.Expr) (cl : List (Str × Addr)) (pm cv ctv v : Value), bindArgs (PySem.W.kla_fn "<lambda>" q params body scope cl pm cv ctv) ⟨[v], []⟩ = pure [(x, v)]
theorem lam_call_pair {prog : Program} {w : World} {A : Around} {s : Shared} {f c' t : Addr} {qual x : Str} {params : Arguments} {scope : Scope} {cl : List (Str × Addr)} {pm ctv : Value} {k n : Nat} {p1 p2 p3 p4 p5 : Pos} {vs : List Value} {ds : List PyData} {mg mb : Str → Option Value}
    (L : LamP x params scope) (hroom : A.depth < recursionLimit) (hf : s.heap.get? f = some (PySem.W.kla_obj "<lambda>" qual params (bodyP x k p1 p2 p3 p4 p5) scope cl pm c' ctv)) (hcd : s.heap.CodeRec (.ref c') qual)
    (hg : s.heap.Ns mainGlobals mg) (hm : mg "len" = none) (hb : s.heap.Ns builtinsNs mb) (hbl : mb "len" = some (.builtin "len")) (hlim : s.heap.NoLimit)
    {o : Obj} (ht : s.heap.get? t = some o) (ht2 : o.cls = .type "tuple") (ht3 : o.data = .seq vs.toArray n) (hz : vs.length ≤ sizeLine) (hr : Reads s.heap (.ref t) (.tuple ds) []) :
    wpAny (model prog w) A (call (.ref f) [.ref t]) (PySem.W.KeyPure (.tuple [.int vs.length, .tuple ds]) s) (fun _ _ => False) s := by
  have rc : codeAny (model prog w) A (.call (.ref f) ⟨[.ref t], []⟩) (fun r s' => ∃ v, r = .ok (.ret v) ∧ PySem.W.KeyPure (.tuple [.int vs.length, .tuple ds]) s v s') s := by
    refine PySem.W.kla_callFunE hroom hf rfl L.co L.gen rfl hcd ?_
    rw [L.bind]
    refine wpAny_pure (wpAny_newFunctionEnv L.cell (fun y hy => by rw [List.mem_singleton.mp hy]; exact L.loc) (fun h₁ hns hsb => ⟨hlim.fresh _ hsb, ?_⟩) L.kind)
    have kp : ∀ b o, s.heap.get? b = some o → h₁.get? b = some o := fun b o e => hsb.extBut b o (Nat.ne_of_lt (Heap.lt_size e)) (Heap.get?_push_of_some _ e)
    show codeAny _ _ (.expr (bodyP x k p1 p2 p3 p4 p5) (PySem.W.envX qual scope s.heap.objs.size f (.ref c') cl)) _ _
    refine PySem.W.kla_codeExpr ?_
    obtain ⟨env, henv⟩ : ∃ env, env = PySem.W.envX qual scope s.heap.objs.size f (.ref c') cl := ⟨_, rfl⟩
    rw [← henv]
    have ek : env.scope.kind = .function := by rw [henv]; exact L.kind
    have el : env.kindOf x = some .local := by rw [henv]; exact L.loc
    have elen : env.kindOf "len" = some .globalImplicit := by rw [henv]; exact L.len
    have eg : env.globals = mainGlobals := by rw [henv]
    have eb : env.builtins = builtinsNs := by rw [henv]
    have eL : env.locals = s.heap.objs.size := by rw [henv]
    have hx : ([(x, Value.ref t)].reverse).lookup x = some (Value.ref t) := by simp [List.lookup]
    have ht1 := kp _ _ ht
    refine wpAny_Tuple_spliced ?_
    refine Calls.spliced_cons ?_
    refine wpAny_Call_Name_kw (Calls.Name_function_global ek elen (Calls.loadGlobal_builtin (by rw [eg]; exact hg.keeps kp) hm (by rw [eb]; exact hb.keeps kp) hbl ?_) (by decide))
    refine PyProof.Rows.callWith_builtin1 (Calls.spliced_cons (wpAny_Name (wpAny_loadName_local ek el (by rw [eL]; exact hns) hx (Calls.spliced_nil ?_)) L.dbg)) (by rfl) (by rfl)
    refine PyProof.Rows.len_tuple (items := vs.toArray) ⟨_, ht1, ht2, n, ht3⟩ (by rw [List.size_toArray]; rw [sizeLine_eq] at hz; omega) ?_
    refine Calls.spliced_cons (wpAny_Name (wpAny_loadName_local ek el (by rw [eL]; exact hns) hx (Calls.spliced_nil ?_)) L.dbg)
    refine ⟨by rw [sizeLine_eq]; show 2 ≤ 16777216; decide, _, rfl, _, _, rfl, fun b o e => Heap.get?_push_of_some _ (kp b o e), ?_⟩
    have hr1 : Reads (h₁.push { cls := .type "tuple", data := .seq [Value.int (vs.toArray.size : Int) (s.toks + [(x, Value.ref t)].length + 1), Value.ref t].toArray }) (.ref t) (.tuple ds) [] := Reads.keeps (fun b o e => Heap.get?_push_of_some _ (kp b o e)) hr
    refine Reads.tuple (Heap.get?_push_size _ rfl) rfl rfl ?_
    have e : ((vs.toArray.size : Nat) : Int) = (vs.length : Int) := by rw [List.size_toArray]
    rw [← e]
    exact .cons (.int _ _) (.cons hr1 .nil)
  refine wpAny_call (codeAny_mono rc fun r s' hq => ?_)
  obtain ⟨v, rfl, hk⟩ := hq
  exact hk
end SL

set_option maxRecDepth 100000
set_option maxHeartbeats 4000000
namespace SL
open PySem PySem.Spec PySem.W PyProof.Rows L2 LamX
set_option autoImplicit false
mutual
def noL : PyData → Bool
  | .list _ => false
  | .dict _ => false
  | .tuple ds => noLA ds
  | _ => true
def noLA : List PyData → Bool
  | [] => true
  | d :: ds => noL d && noLA ds
end
mutual
theorem reads_nil {h : Heap} : ∀ (d : PyData) {v : Value} {as : List Addr}, Reads h v d as → noL d = true → as = []
  | .none, _, _, .none, _ => rfl
  | .bool _, _, _, .bool _, _ => rfl
  | .int _, _, _, .int _ _, _ => rfl
  | .str _, _, _, .str _ _, _ => rfl
  | .list _, _, _, _, n => by simp [noL] at n
  | .dict _, _, _, _, n => by simp [noL] at n
  | .tuple ds, _, _, .tuple _ _ _ r, n => readsA_nil ds r (by simpa [noL] using n)
theorem readsA_nil {h : Heap} : ∀ (ds : List PyData) {vs : List Value} {as : List Addr}, ReadsAll h vs ds as → noLA ds = true → as = []
  | [], _, _, .nil, _ => rfl
  | d :: ds, _, _, .cons r rs, n => by
    unfold noLA at n
    rw [Bool.and_eq_true] at n
    rw [reads_nil d r n.1, readsA_nil ds rs n.2]
    rfl
end
/-- the key of a row -/
def rowK : PyData → PyData
  | .tuple ds => .tuple [.int ds.length, .tuple ds]
  | d => d
def rowLe (d e : PyData) : Bool := PySem.W.dataLe false rowK d e
/-- rows that can be sorted so -/
structure Rows (ds : List PyData) : Prop where
  tup : ∀ d ∈ ds, ∃ es, d = .tuple es ∧ es.length ≤ sizeLine
  flat : ∀ d ∈ ds, noL d = true
  can : ∀ d ∈ ds, d.canLay0 = true
  dep : ∀ d ∈ ds, d.depth ≤ 10
  like : ∀ d ∈ ds, ∀ e ∈ ds, PySem.W.alike (rowK d) (rowK e) = true
  len : ds.length ≤ sizeLine
/-- sorted(xs, key=lambda x: (len(x), x)), the list read: wd its items with what they stand for -/
def rSortRow (K : PySem.W.Frag) (T : List (Addr × Str)) : V → Hp → VK → Prop := fun v H Q => Tabs T H ∧ ∃ (a : Addr) (wd : List (V × PyData)), v = .ref a ∧ SqL K H a (wd.map (·.1)) ∧ Rows (wd.map (·.2)) ∧ (∀ p ∈ wd, Dp K H p.1 p.2) ∧
  ∀ H', ExtN H H' → Tabs T H' → ∀ p, H' p = none → Q (.ref p) (upd H' p (.lst ((wd.mergeSort fun p q => rowLe p.2 q.2).map (·.1))))
theorem sqL_extN {K : PySem.W.Frag} {H H' : Hp} {a : Addr} {xs : List V} (e : ExtN H H') (h : SqL K H a xs) : SqL K H' a xs :=
  h.elim (fun h => .inl (h.elim (fun h => .inl (e _ _ h (fun ps z => by cases z))) fun ⟨o, h⟩ => .inr ⟨o, e _ _ h (fun ps z => by cases z)⟩)) fun h => .inr h
theorem sqT_extN {K : PySem.W.Frag} {H H' : Hp} {a : Addr} {xs : List V} (e : ExtN H H') (h : SqT K H a xs) : SqT K H' a xs :=
  h.elim (fun h => .inl (h.elim (fun h => .inl (e _ _ h (fun ps z => by cases z))) fun ⟨o, h⟩ => .inr ⟨o, e _ _ h (fun ps z => by cases z)⟩)) fun h => .inr h
mutual
theorem dp_extN {K : PySem.W.Frag} {H H' : Hp} (e : ExtN H H') : ∀ {v : V} {d : PyData}, Dp K H v d → Dp K H' v d
  | _, _, .non => .non
  | _, _, .bl b => .bl b
  | _, _, .int i => .int i
  | _, _, .str x => .str x
  | _, _, .lst h r => .lst (sqL_extN e h) (dpA_extN e r)
  | _, _, .tup h r => .tup (sqT_extN e h) (dpA_extN e r)
theorem dpA_extN {K : PySem.W.Frag} {H H' : Hp} (e : ExtN H H') : ∀ {vs : List V} {ds : List PyData}, DpAll K H vs ds → DpAll K H' vs ds
  | _, _, .nil => .nil
  | _, _, .cons h r => .cons (dp_extN e h) (dpA_extN e r)
end
theorem eachR {X : Cx} {pins : List (Addr × Obj)} {σ : L2.St} {H : Hp} {s : Shared} (I : Inv X pins σ H s) : ∀ {wd : List (V × PyData)} {its : List Value}, Vals (wd.map (·.1)) its → (∀ p ∈ wd, Dp X.K H p.1 p.2) → (∀ p ∈ wd, noL p.2 = true) → EachIs (fun v (p : V × PyData) => RelV p.1 v ∧ Reads s.heap v p.2 []) its wd
  | [], [], _, _, _ => .nil
  | p :: wd, u :: its, r, h, n => by
    cases r with
    | cons r rs =>
      obtain ⟨as, hr⟩ := Dp.reads I p.2 p.1 u (h p List.mem_cons_self) r
      have e := reads_nil _ hr (n p List.mem_cons_self)
      subst e
      exact .cons ⟨r, hr⟩ (eachR I rs (fun q hq => h q (List.mem_cons_of_mem _ hq)) fun q hq => n q (List.mem_cons_of_mem _ hq))
  | [], _ :: _, r, _, _ => by cases r
  | _ :: _, [], r, _, _ => by cases r
theorem readsAll_len {h : Heap} : ∀ {vs : List Value} {ds : List PyData} {as : List Addr}, ReadsAll h vs ds as → vs.length = ds.length
  | _, _, _, .nil => rfl
  | _, _, _, .cons _ r => congrArg Nat.succ (readsAll_len r)
theorem each_vals {s : Heap} : ∀ {out : List Value} {wd : List (V × PyData)}, EachIs (fun v (p : V × PyData) => RelV p.1 v ∧ Reads s v p.2 []) out wd → Vals (wd.map (·.1)) out
  | _, _, .nil => .nil
  | _, _, .cons h r => .cons h.1 (each_vals r)
theorem pe_sortRow {X : Cx} {c P : Addr} {T : List (Addr × Str)} {e : PySem.Expr} {t : TA} {x : Str} {params : Arguments} {scope : Scope} {k : Nat} {p p1 p2 p3 p4 p5 kpos lpos pos : Pos} (L : LamP x params scope) (nofree : ∀ y ∈ scope.names, y.2 ≠ .free) (hg : Gl X "sorted") (hm : X.mg "sorted" = none) (hlen : X.mg "len" = none)
    (TB : TabB X.base X.mg c P) (hcode : X.env.code = .ref c) (hmT : (P, X.env.qual ++ "<lambda>") ∈ T) (hu : ∀ p ∈ T, p.1 = P → p.2 = X.env.qual ++ "<lambda>") (hr : Room 3 X.A) (hdef : defaultsOf params X.env = ([], [])) (ha : PA X [e] t)
    (h1 : backTo pos (starEach [e] X.env) = (false, eval e X.env) :: backTo pos (starEach [] X.env) := by rfl) (h2 : (backTo pos (starEach [e] X.env)).any (·.1) = false := by rfl) :
    PE X (.Call (.Name "sorted" p) [e] [⟨some "key", .Lambda params (bodyP x k p1 p2 p3 p4 p5) scope lpos, kpos⟩] pos) (fun σ H Q => t σ H fun vs H1 => ∃ v, vs = [v] ∧ rSortRow X.K T v H1 Q) := by
  refine ⟨fun pins s σ H Q I h => ?_⟩
  refine wpAny_Call_Name_kw (ld_blt I hg hm Boot.sorted ?_)
  refine PyProof.Rows.callWith_kw (thn (ha.run pos pins s σ H _ I h) fun us s1 hh => ?_) h1 h2
  obtain ⟨vs, H1, I1, r1, v, evs, hT, a, wd, ev, hs, hrow, hdp, q⟩ := hh
  subst evs ev
  obtain rfl := Vals.ref1 r1
  show wpAny _ _ (evalAll ((do let v ← eval (.Lambda params (bodyP x k p1 p2 p3 p4 p5) scope lpos) X.env; standAt pos; pure v) :: [])) _ _ s1
  refine wpAny_evalAll_cons (wpAny_bind (lam_make2 I1 TB hcode hmT hu hT hdef (fun y hy z => absurd z (nofree y hy)) fun f c' pm ctv H2 s2 I2 eN T2 hf hfn hfr hco => wpAny_bind (wpAny_standAt (wpAny_pure ?_))))
  refine wpAny_evalAll_nil ?_
  show wpAny _ _ (call (.builtin "sorted") [.ref a] [(Str.ofString "key", .ref f)]) _ _ s2
  obtain ⟨its, rv, hl, hz⟩ := I2.list (sqL_extN eN hs)
  have hdp2 : ∀ p ∈ wd, Dp X.K H2 p.1 p.2 := fun p hp => dp_extN eN (hdp p hp)
  have each := eachR I2 rv hdp2 fun p hp => hrow.flat _ (List.mem_map.mpr ⟨p, hp, rfl⟩)
  have hdl : wd.length ≤ sizeLine := by have := hrow.len; rw [List.length_map] at this; exact this
  obtain ⟨mb, hb1, hb2⟩ := I2.mod.blt
  obtain ⟨⟨oc, cvs, ct, hoc, hdc, hvc⟩, _, _⟩ := I2.hok c' _ hco
  refine PySem.W.sorted_key_data (b := false) (k := fun p : V × PyData => rowK p.2) (R := fun v (p : V × PyData) => RelV p.1 v ∧ Reads s2.heap v p.2 []) hl.isList each ?al ?so hdl ?un (PyProof.Rows.ksk_s1 _ _) (fun _ => PyProof.Rows.ksk_l1 _ _) (fun z => PyProof.Rows.ksk_t1 f z) ?turn ?fin
  case al =>
    intro d hd d' hd'
    obtain ⟨p, hp, rfl⟩ := List.mem_map.mp hd
    obtain ⟨p', hp', rfl⟩ := List.mem_map.mp hd'
    exact hrow.like _ (List.mem_map.mpr ⟨p, hp, rfl⟩) _ (List.mem_map.mpr ⟨p', hp', rfl⟩)
  case so =>
    refine .inl fun d hd => ?_
    obtain ⟨p, hp, rfl⟩ := List.mem_map.mp hd
    obtain ⟨es, ee, _⟩ := hrow.tup _ (List.mem_map.mpr ⟨p, hp, rfl⟩)
    exact ⟨.int es.length, [.tuple es], by rw [ee]; rfl⟩
  case un =>
    intro p hp
    obtain ⟨es, ee, _⟩ := hrow.tup _ (List.mem_map.mpr ⟨p, hp, rfl⟩)
    have hd := hrow.dep _ (List.mem_map.mpr ⟨p, hp, rfl⟩)
    have hu := hr.un
    rw [ee] at hd
    rw [ee]
    have : (rowK (.tuple es)).depth ≤ 12 := by
      unfold rowK
      rw [PyData.depth, PyData.depthAll, PyData.depthAll, PyData.depthAll]
      have z : (PyData.int (es.length : Int)).depth = 0 := rfl
      rw [z]
      omega
    omega
  case turn =>
    rintro v ⟨w, d⟩ ⟨hrel, hrd⟩ hp h' tk keep
    obtain ⟨es, ee, hel⟩ := hrow.tup d (List.mem_map.mpr ⟨_, hp, rfl⟩)
    subst ee
    cases hrd with
    | @tuple ta o vs n xs as g1 g2 g3 ra =>
      have lv := readsAll_len ra
      rw [Array.length_toList] at lv
      have e3 : vs = vs.toList.toArray := by rw [Array.toArray_toList]
      have hrd' : Reads s2.heap (.ref ta) (.tuple es) [] := .tuple g1 g2 g3 ra
      have hu := hr.dp
      show wpAny _ _ (call (.ref f) [.ref ta]) (PySem.W.KeyPure (.tuple [.int es.length, .tuple es]) _) _ _
      have el : (vs.toList.length : Int) = (es.length : Int) := by rw [Array.length_toList]; omega
      rw [← el]
      exact lam_call_pair (n := n) (s := { s2 with heap := h', toks := tk }) (vs := vs.toList) L (by show X.A.depth < _; omega) (keep _ _ hf) ⟨c', oc, cvs, ct, rfl, keep _ _ hoc, hdc, hvc⟩ ((I2.mod.glob.keeps I2.bk).keeps keep) hlen ((hb1.keeps I2.bk).keeps keep) ((hb2 "len" (by decide)).trans Boot.len) (I2.nolimit.keeps keep) (keep _ _ g1) g2 (by rw [Array.toArray_toList]; exact g3) (by rw [Array.length_toList, lv]; exact hel) (Reads.keeps keep hrd')
  case fin =>
    intro out cc h' tk keep fresh hout hlen' each'
    have rv' := each_vals each'
    have hol : ((wd.mergeSort fun p q => rowLe p.2 q.2).map (·.1)).length ≤ sizeLine := by rw [List.length_map, List.length_mergeSort]; exact hdl
    exact ⟨.ref _, upd H2 (s2.heap.objs.size + 1) (.lst ((wd.mergeSort fun p q => rowLe p.2 q.2).map (·.1))), I2.laid (t' := tk) keep (Nat.le_succ _) ⟨hol, out, cc, rv', hout⟩, rfl, q H2 eN T2 _ (I2.hok.fresh (Nat.le_succ _))⟩
end SL

set_option maxRecDepth 100000
set_option maxHeartbeats 4000000
namespace Dl
open PySem PySem.Spec L2 LamX
set_option autoImplicit false
theorem nt_ne {o : HO} (h : nt o) : ∀ ps, o ≠ .tbl ps := fun ps z => by subst z; exact h
section
variable {K : PySem.W.Frag} {F H H' : Hp} {σ : Sg} {ρ : Rho}
theorem OwnAt.ntb {a : Addr} : ∀ {d : D}, OwnAt K F H a d → ∀ o, H a = Option.some o → ∀ ps, o ≠ HO.tbl ps
  | .list _, ⟨_, h, _⟩, o, e => by rw [h] at e; cases e; exact fun ps z => by cases z
  | .dict _, ⟨_, h, _⟩, o, e => by rw [h] at e; cases e; exact fun ps z => by cases z
/-- all but the tables stay -/
theorem rel_extN (R : Rel K F σ H ρ) (e : ExtN H H') (t : Tabs (tabsOf K) H') : Rel K F σ H' ρ ∧ Step F H σ ρ F H' ρ := by
  refine ⟨⟨fun a o h => ?_, R.len, R.dat, fun i s d e1 m q => ?_, R.sep, t⟩, ⟨⟨Ext.refl _, fun a o h n f no => ⟨e _ _ h (nt_ne n), f, no⟩⟩, Kp.refl _⟩⟩
  · obtain ⟨r, n⟩ := R.sub a o h
    refine ⟨?_, n⟩
    rcases r with r | ⟨x, r, y⟩
    · exact .inl (e _ _ r (nt_ne n))
    · exact .inr ⟨x, e _ _ r (fun ps z => by cases z), y⟩
  · obtain ⟨a, h1, h2, h3⟩ := R.own i s d e1 m q
    exact ⟨a, h1, h2, h3.mono (Ext.refl _) fun o ho => e _ _ ho (h3.ntb o ho)⟩
end
def rowsB (ds : List D) : Bool := (ds.all fun d => match d with
  | .tuple es => decide (es.length ≤ sizeLine)
  | _ => false) && (ds.all SL.noL && (ds.all PyData.canLay0 && ((ds.all fun d => decide (d.depth ≤ 10)) && ((ds.all fun d => ds.all fun e => PySem.W.alike (SL.rowK d) (SL.rowK e)) && decide (ds.length ≤ sizeLine)))))
theorem rows_of {ds : List D} (h : rowsB ds = true) : SL.Rows ds := by
  unfold rowsB at h
  simp only [Bool.and_eq_true, List.all_eq_true, decide_eq_true_eq] at h
  obtain ⟨h1, h2, h3, h4, h5, h6⟩ := h
  refine ⟨fun d hd => ?_, h2, h3, h4, h5, h6⟩
  have := h1 d hd
  cases d <;> simp at this
  exact ⟨_, rfl, this⟩
theorem rowsB_of {ds : List D} (h : SL.Rows ds) : rowsB ds = true := by
  unfold rowsB
  simp only [Bool.and_eq_true, List.all_eq_true, decide_eq_true_eq]
  refine ⟨fun d hd => ?_, h.flat, h.can, h.dep, h.like, h.len⟩
  obtain ⟨es, rfl, he⟩ := h.tup d hd
  exact decide_eq_true he
def fSortRow (d : D) : Option Opd := match d with
  | .list ds => if rowsB ds = true then some (.new (.list (ds.mergeSort SL.rowLe))) else none
  | _ => none
def eSortRow (m : ME) : ME := eOp1 fSortRow m
/-- the def of this context makes lambdas: its table -/
def LamOk (X : Cx) : Prop := ∃ c P, X.env.code = .ref c ∧ TabB X.base X.mg c P ∧ (P, X.env.qual ++ "<lambda>") ∈ tabsOf X.K ∧ ∀ p ∈ tabsOf X.K, p.1 = P → p.2 = X.env.qual ++ "<lambda>"
theorem rpA_map {K : PySem.W.Frag} {F : Hp} : ∀ {wd : List (V × D)}, (∀ p ∈ wd, Rp K F p.1 p.2) → RpA K F (wd.map (·.1)) (wd.map (·.2))
  | [], _ => .nil
  | p :: wd, h => .cons (h p List.mem_cons_self) (rpA_map fun q hq => h q (List.mem_cons_of_mem _ hq))
theorem rpA_zip {K : PySem.W.Frag} {F : Hp} : ∀ {vs : List V} {ds : List D}, RpA K F vs ds → ∃ wd : List (V × D), wd.map (·.1) = vs ∧ wd.map (·.2) = ds ∧ ∀ p ∈ wd, Rp K F p.1 p.2
  | _, _, .nil => ⟨[], rfl, rfl, fun p hp => by cases hp⟩
  | v :: vs, d :: ds, .cons h r => by
    obtain ⟨wd, e1, e2, h2⟩ := rpA_zip r
    refine ⟨(v, d) :: wd, by rw [List.map_cons, e1], by rw [List.map_cons, e2], fun p hp => ?_⟩
    rcases List.mem_cons.mp hp with rfl | hp
    · exact h
    · exact h2 p hp
theorem de_sortRow {X : Cx} {W : WX} {e : Expr} {m : ME} {x : Str} {params : Arguments} {scope : Scope} {k : Nat} {p p1 p2 p3 p4 p5 kpos lpos pos : Pos} (LA : LamOk X) (hg : Gl X "sorted") (hm : X.mg "sorted" = none) (hlen : X.mg "len" = none) (hr : Room 3 X.A) (he : DE X W e m)
    (L : SL.LamP x params scope := by exact ⟨rfl, rfl, rfl, by decide +kernel, rfl, rfl, by decide +kernel, fun _ _ _ _ _ _ _ => rfl⟩) (nofree : ∀ y ∈ scope.names, y.2 ≠ .free := by decide +kernel) (hdef : defaultsOf params X.env = ([], []) := by rfl) (hs : starEach [e] X.env = (false, eval e X.env) :: starEach [] X.env := by rfl)
    (h1 : backTo pos (starEach [e] X.env) = (false, eval e X.env) :: backTo pos (starEach [] X.env) := by rfl) (h2 : (backTo pos (starEach [e] X.env)).any (·.1) = false := by rfl) :
    DE X W (.Call (.Name "sorted" p) [e] [⟨some "key", .Lambda params (SL.bodyP x k p1 p2 p3 p4 p5) scope lpos, kpos⟩] pos) (eSortRow m) := by
  obtain ⟨c, P, hcode, TB, hmT, hu⟩ := LA
  obtain ⟨t, pe, q⟩ := he
  refine ⟨_, SL.pe_sortRow L nofree hg hm hlen TB hcode hmT hu hr hdef (pa_cons (hs := hs) pe pa_nil) h1 h2, fun F σ H ρ Q R h => ?_⟩
  refine q F σ H ρ _ R ?_
  unfold eSortRow eOp1 at h
  refine bindEE h fun o ρ1 v F1 H1 s1 R1 ro ns hp => ?_
  unfold run1 at hp
  cases ed : deref ρ1 o with
  | none => rw [ed] at hp; exact False.elim hp
  | some d =>
    rw [ed] at hp
    cases d with
    | list ds =>
      dsimp only at hp
      unfold fSortRow at hp
      dsimp only at hp
      split at hp
      · rename_i o' eo
        split at eo
        · rename_i hrb
          cases eo
          have hrow := rows_of hrb
          obtain ⟨b, vs, rfl, hb, r⟩ := (ro.ct R1 ed).list R1.sub
          obtain ⟨wd, e1, e2, hw⟩ := rpA_zip r
          refine ⟨.ref b, rfl, R1.tab, b, wd, rfl, by rw [e1]; exact SqL.of hb, by rw [e2]; exact hrow, fun z hz => ?_, fun H' eN T' p' np => ?_⟩
          · have hd : z.2 ∈ ds := by rw [← e2]; exact List.mem_map.mpr ⟨z, hz, rfl⟩
            exact (hw z hz).dp R1.sub (hrow.can _ hd)
          · obtain ⟨R2, s2⟩ := rel_extN R1 eN T'
            have hp2 := EPost.step s2 hp
            have es : (wd.mergeSort fun p q => SL.rowLe p.2 q.2).map (·.2) = ds.mergeSort SL.rowLe := by
              rw [← e2]
              exact List.map_mergeSort (fun _ _ _ _ => rfl)
            have rs : RpA X.K F1 ((wd.mergeSort fun p q => SL.rowLe p.2 q.2).map (·.1)) (ds.mergeSort SL.rowLe) := by
              rw [← es]
              exact rpA_map fun z hz => hw z (List.mem_mergeSort.mp hz)
            exact newL R2.sub rs (fun u F' H'' g rn => by
              obtain ⟨z1, z2⟩ := rn.ro R2
              exact hp2 u F' H'' g.step (g.rel R2) z1 z2) p' np
        · cases eo
      · exact False.elim hp
    | none => exact False.elim hp
    | bool b => exact False.elim hp
    | int b => exact False.elim hp
    | str b => exact False.elim hp
    | tuple b => exact False.elim hp
    | dict b => exact False.elim hp
end Dl

set_option maxRecDepth 100000
set_option maxHeartbeats 4000000
namespace Dl
open PySem PySem.Spec PyProof.Rows L2 LamX He
set_option autoImplicit false
/-! ### what the defs that make lambdas want of the heap -/
structure TabsB (K : PySem.W.Frag) (mg : Str → Option Value) (base : Heap) : Prop where
  tb : ∀ x c P, x ∈ lamNames → codeTab K x = some (c, P) → TabB base mg c P
  uq : ∀ p ∈ tabsOf K, ∀ p' ∈ tabsOf K, p.1 = p'.1 → p.2 = p'.2
theorem code_of {K : PySem.W.Frag} {x : Str} {c P : Addr} {oc : Value} {od : Option Addr} {fd : FuncData} {osl : Array (Option Value)} (h : codeTab K x = some (c, P)) (lk : K.lookup (ga K x) = some ⟨oc, od, .func fd, osl⟩) : fd.code = .ref c := by
  unfold codeTab at h
  unfold ga at lk
  split at h
  · rename_i a e
    rw [e] at lk
    dsimp only at lk
    rw [lk] at h
    obtain ⟨c', h1, h2⟩ := Option.bind_eq_some_iff.mp h
    obtain ⟨P', h3, h4⟩ := Option.map_eq_some_iff.mp h2
    cases h4
    unfold codeAt at h1
    dsimp only at h1
    split at h1
    · rename_i e2
      cases h1
      exact e2
    · cases h1
  · cases h
theorem tab_mem {K : PySem.W.Frag} {x : Str} {c P : Addr} (hx : x ∈ lamNames) (h : codeTab K x = some (c, P)) : (P, (x ++ ".<locals>.") ++ "<lambda>") ∈ tabsOf K := by
  unfold tabsOf
  exact List.mem_filterMap.mpr ⟨x, hx, by rw [h]; rfl⟩
theorem lamOk_of {P : Program} {w : World} {K : PySem.W.Frag} {mg : Str → Option Value} {base : Heap} {x : Str} {params : Arguments} {body : List Stmt} {scope : Scope} {dvs : List V} {kws : List (Str × V)} {fd : FuncData} (F : FunD K x x params body scope dvs kws (ga K x) fd) (B : TabsB K mg base) (hx : x ∈ lamNames) (hs : (codeTab K x).isSome = true)
    {CX : CXT} {N : List Str} {cdv : Value} {A : Around} {outer : List Env} {s : Shared} {H : Hp} {E : XK} (hc : fd.code = cdv) : LamOk (cxOf CX P w K mg base N x scope (ga K x) cdv A outer s H E) := by
  obtain ⟨⟨c, T⟩, hcT⟩ := Option.isSome_iff_exists.mp hs
  obtain ⟨oc, od, dV, kV, doc, pm, an, cdv', ct, osl, e, lk, _⟩ := F.ex
  have e2 := code_of hcT lk
  rw [hc] at e2
  refine ⟨c, T, e2, B.tb x c T hx hcT, tab_mem hx hcT, fun p hp e => ?_⟩
  exact B.uq p hp _ (tab_mem hx hcT) e
/-! ### the Hook -/
def codeB (g : Addr → Option Obj) (c P : Addr) : Bool := match g c with
  | some o => decide (o.cls = .type "code") && (match o.data with
    | .fields vs => decide ((vs[11]? : Option Value) = some (.ref P)) && (decide (vs.getD 11 .none = .ref P) && ((match vs.getD 18 .none with
      | .str _ _ => true
      | _ => false) && ((match vs.getD 7 .none with
      | .int _ _ => true
      | _ => false) && ((match vs.getD 9 .none with
      | .bool _ => true
      | _ => false) && ((match vs.getD 10 .none with
      | .int _ _ => true
      | _ => false) && !decide (c = P))))))
    | _ => false)
  | none => false
theorem codeB_ok {h : Heap} {c P : Addr} (e : codeB h.get? c P = true) : PySem.W.CodeHd h c P := by
  unfold codeB at e
  split at e
  · rename_i o ho
    rw [Bool.and_eq_true] at e
    obtain ⟨e1, e⟩ := e
    split at e
    · rename_i vs hv
      simp only [Bool.and_eq_true] at e
      obtain ⟨e2, e3, e4, e5, e6, e7, e8⟩ := e
      split at e4
      · rename_i q18
        split at e5
        · rename_i q7
          split at e6
          · rename_i q9
            split at e7
            · rename_i q10
              exact ⟨o, vs, _, _, _, _, _, _, _, ho, of_decide_eq_true e1, hv, of_decide_eq_true e2, of_decide_eq_true e3, q18, q7, q9, q10, by simpa using e8⟩
            · cases e7
          · cases e6
        · cases e5
      · cases e4
    · cases e
  · cases e
def emptyB (g : Addr → Option Obj) (P : Addr) : Bool := match g P with
  | some ⟨.none, none, .fields vs, sl⟩ => vs.isEmpty && sl.isEmpty
  | _ => false
theorem emptyB_ok {h : Heap} {P : Addr} (e : emptyB h.get? P = true) : h.get? P = some (PySem.W.tabObj #[]) := by
  unfold emptyB at e
  split at e
  · rename_i vs sl ho
    rw [Bool.and_eq_true] at e
    have e1 : vs = #[] := by simpa using e.1
    have e2 : sl = #[] := by simpa using e.2
    subst e1 e2
    exact ho
  · cases e
def tabsT (g : Addr → Option Obj) (K : PySem.W.Frag) (lf : List Str) : Bool :=
  (lamNames.all fun x => match codeTab K x with
    | some (c, P) => codeB g c P && (emptyB g P && (K.lookup P).isNone)
    | none => true) && (((tabsOf K).all fun p => (tabsOf K).all fun p' => !decide (p.1 = p'.1) || decide (p.2 = p'.2)) && lf.all fun x => (codeTab K x).isSome)
structure TabsH (h : Heap) (K : PySem.W.Frag) (lf : List Str) : Prop where
  tab : ∀ x c P, x ∈ lamNames → codeTab K x = some (c, P) → PySem.W.CodeHd h c P ∧ h.get? P = some (PySem.W.tabObj #[]) ∧ K.lookup P = none
  uq : ∀ p ∈ tabsOf K, ∀ p' ∈ tabsOf K, p.1 = p'.1 → p.2 = p'.2
  is : ∀ x ∈ lf, (codeTab K x).isSome = true
theorem tabsT_ok {h : Heap} {K : PySem.W.Frag} {lf : List Str} (e : tabsT h.get? K lf = true) : TabsH h K lf := by
  unfold tabsT at e
  simp only [Bool.and_eq_true] at e
  obtain ⟨e1, e2, e3⟩ := e
  refine ⟨fun x c P hx hc => ?_, fun p hp p' hp' q => ?_, fun x hx => List.all_eq_true.mp e3 x hx⟩
  · have z := List.all_eq_true.mp e1 x hx
    rw [hc] at z
    simp only [Bool.and_eq_true] at z
    exact ⟨codeB_ok z.1, emptyB_ok z.2.1, by simpa using z.2.2⟩
  · have z := List.all_eq_true.mp (List.all_eq_true.mp e2 p hp) p' hp'
    rw [Bool.or_eq_true] at z
    rcases z with z | z
    · simp at z
      exact absurd q z
    · exact of_decide_eq_true z
def tabAddrs (K : PySem.W.Frag) : List Addr := lamNames.filterMap fun x => (codeTab K x).map (·.2)
def fragT (n : Nat) (g : Addr → Option Obj) : PySem.W.Frag := frG g ((asD g n).filter fun a => !((tabAddrs (frG g (asD g n))).contains a))
def obsT (n : Nat) (fa : List Fa) (fn : List DefD) (lf : List Str) (g : Addr → Option Obj) : AlD × Bool := (obsD fa fn (fragT n g), tabsT g (fragT n g) lf)
def hookT (n : Nat) (fa : List Fa) (fn : List DefD) (lf : List Str) : PySem.W.Hook where
  α := AlD × Bool
  obs := fun s => obsT n fa fn lf s.heap.get?
  val := fun _ => (valD fn, true)
  says := fun _ h => ∃ K : PySem.W.Frag, K.In h ∧ SaysD fa fn K ∧ TabsH h K lf
  of := fun _ _ e => ⟨_, frG_in, congrArg Prod.fst e, tabsT_ok (congrArg Prod.snd e)⟩
  keeps := fun _ _ _ ⟨K, hK, c, t⟩ k => ⟨K, PySem.W.Frag.In.keeps hK k, c, ⟨fun x c P hx hc => let ⟨a, b, d⟩ := t.tab x c P hx hc; ⟨a.keeps k, k _ _ b, d⟩, t.uq, t.is⟩⟩
theorem obsT_eq {n : Nat} {fa : List Fa} {fn : List DefD} {lf : List Str} {g : Addr → Option Obj} {s : Shared} (h : ∀ a, g a = s.heap.get? a) : obsT n fa fn lf g = (hookT n fa fn lf).obs s := by
  have e : g = s.heap.get? := funext h
  rw [e] <;> rfl
/-! ### the end -/
def csOf (K : PySem.W.Frag) : List (Addr × Addr) := lamNames.filterMap fun x => codeTab K x
theorem tabs_nil {K : PySem.W.Frag} {H : Hp} (h : ∀ p ∈ csOf K, H p.2 = some (.tbl #[])) : Tabs (tabsOf K) H := fun p hp => by
  obtain ⟨x, hx, e⟩ := List.mem_filterMap.mp hp
  obtain ⟨⟨c, P⟩, hc, rfl⟩ := Option.map_eq_some_iff.mp e
  exact TabS.nil (h (c, P) (List.mem_filterMap.mpr ⟨x, hx, hc⟩))
theorem lawAt_of {l : PySem.W.OpenLaw} {w : World} {K : PySem.W.Frag} {k : Nat} {mg : Str → Option Value} {fa : Addr} {h : Heap} {lf : List Str} {fd : FuncData} {x : Str} (T : TabsH h K lf) (hb : ∀ (s : Shared) (v : Value), BindsTo s fd ⟨[v], []⟩ [(x, v)])
    (hF : ∀ base : Heap, K.In base → base.Ns mainGlobals mg → TabsB K mg base → FnOk l.prog w K mg base CX0 k fa fd [x] (spLaw K)) : LawAtS l w K CX0 k 63 x mg fa h :=
  ⟨fd, csOf K, spLaw K, fun p hp => by
    obtain ⟨x, hx, e⟩ := List.mem_filterMap.mp hp
    exact (T.tab x p.1 p.2 hx e).2.1, fun p hp => by
    obtain ⟨x, hx, e⟩ := List.mem_filterMap.mp hp
    exact (T.tab x p.1 p.2 hx e).2.2, fun p hp => by
    obtain ⟨x, hx, e⟩ := List.mem_filterMap.mp hp
    exact (T.tab x p.1 p.2 hx e).1, hb, fun H a ns hl _ hT hS => ⟨tabs_nil hT, a, ns, rfl, hS, hl, fun _ => rfl⟩, fun base hK hn hTB => hF base hK hn ⟨fun x c P hx hc => hTB (c, P) (List.mem_filterMap.mpr ⟨x, hx, hc⟩), T.uq⟩⟩
end Dl

set_option maxRecDepth 100000
set_option maxHeartbeats 400000
namespace Dl
open PySem PySem.Spec L2
set_option autoImplicit false
def mClausesInOrder : ME := fnSem 1 3
     (sSeq (sSet 1 (eUse mkLst aNil))
     (sSeq (sFor (iLst (eSortRow (eVar 0))) (gN 2)
     (sIf (tOrM (tVal (eOp2 pyEq (eVar 1) (eUse mkLst aNil))) (tVal (eOp2 pyNe (eOp2 pyAt (eVar 1) (eOp1 fNeg (eC (.int 1)))) (eVar 2))))
     (sExp (eMut 1 mAppend (aCons (eVar 2) aNil)))
     sNil))
     (sRet (eVar 1))))
def mIsClausePart : ME := fnSem 2 3
     (sRet (eBlt fAll (aCons (lkd 0 (eComp [2] (iSeq (eVar 0)) (gN 2) tTrue (eOp2 (orf pyIn pyInK) (eVar 2) (eVar 1)))) aNil)))
def mLawBefore : ME := fnSem 2 3
     (sSeq (sIf (tVal (eOp2 pyNe (eBlt fLen (aCons (eVar 0) aNil)) (eBlt fLen (aCons (eVar 1) aNil))))
     (sRet (eOp2 pyLt (eBlt fLen (aCons (eVar 0) aNil)) (eBlt fLen (aCons (eVar 1) aNil))))
     sNil)
     (sSeq (sFor (iRng (aCons (eBlt fLen (aCons (eVar 0) aNil)) aNil)) (gN 2)
     (sSeq (sIf (tVal (eOp2 pyNe (eOp2 pyAt (eOp2 pyAt (eVar 0) (eVar 2)) (eC (.int 0))) (eOp2 pyAt (eOp2 pyAt (eVar 1) (eVar 2)) (eC (.int 0)))))
     (sRet (eOp2 pyLt (eOp2 pyAt (eOp2 pyAt (eVar 0) (eVar 2)) (eC (.int 0))) (eOp2 pyAt (eOp2 pyAt (eVar 1) (eVar 2)) (eC (.int 0)))))
     sNil)
     (sIf (tVal (eOp2 pyNe (eOp2 pyAt (eOp2 pyAt (eVar 0) (eVar 2)) (eC (.int 1))) (eOp2 pyAt (eOp2 pyAt (eVar 1) (eVar 2)) (eC (.int 1)))))
     (sRet (eOp2 pyAt (eOp2 pyAt (eVar 1) (eVar 2)) (eC (.int 1))))
     sNil)))
     (sRet (eC (.bool false)))))
/-! ### the order of clauses -/
def lexB : Li → Li → Bool
  | (n, t) :: a, (m, u) :: b => if n ≠ m then decide (n.cps.toList < m.cps.toList) else if t ≠ u then u else lexB a b
  | _, _ => false
def before (a b : Li) : Bool := if a.length ≠ b.length then decide (a.length < b.length) else lexB a b
def fT (cl : Li) : D := .tuple (cl.map liD)
open PySem.W in
theorem li_alike (p q : Str × Bool) : PySem.W.alike (liD p) (liD q) = true := by
  unfold liD
  simp [PySem.W.alike, PySem.W.alikeAll]
open PySem.W in
theorem lis_alike : ∀ a b : Li, PySem.W.alikeAll (a.map liD) (b.map liD) = true
  | [], b => by cases b <;> simp [PySem.W.alikeAll]
  | p :: a, [] => by simp [PySem.W.alikeAll]
  | p :: a, q :: b => by
    rw [List.map_cons, List.map_cons, PySem.W.alikeAll, li_alike, lis_alike a b]
    rfl
open PySem.W in
theorem row_alike (a b : Li) : PySem.W.alike (SL.rowK (fT a)) (SL.rowK (fT b)) = true := by
  unfold SL.rowK fT
  simp [PySem.W.alike, PySem.W.alikeAll, lis_alike]
open PySem.W in
theorem lt_li (n m : Str) (t u : Bool) (h : (n, t) ≠ (m, u)) : dataLt (liD (n, t)) (liD (m, u)) = if n ≠ m then decide (n.cps.toList < m.cps.toList) else u := by
  show dataLt (.tuple [.str n, .bool t]) (.tuple [.str m, .bool u]) = _
  rw [dataLt_tuple]
  by_cases e : n = m
  · subst e
    have ht : t ≠ u := fun z => h (by rw [z])
    rw [dataLt_all_yes (by simp [PySem.W.alike]) (by show (n == n) = true; simp), dataLt_all_no (by simp [PySem.W.alike]) (by show (t == u) = false; simpa using ht), dataLt_bool]
    cases t <;> cases u <;> simp_all <;> decide
  · rw [dataLt_all_no (by simp [PySem.W.alike]) (by show (n == m) = false; simpa using e), dataLt_str, if_pos e]
open PySem.W in
theorem lt_lis : ∀ a b : Li, a.length = b.length → PyProof.Rows.lexLt PyProof.Rows.itemOrd (keyToksAll (a.map liD)) (keyToksAll (b.map liD)) = lexB a b
  | [], [], _ => PyProof.Rows.lex_irrefl _
  | [], _ :: _, h => by cases h
  | _ :: _, [], h => by cases h
  | (n, t) :: a, (m, u) :: b, h => by
    rw [List.map_cons, List.map_cons]
    by_cases e : (n, t) = (m, u)
    · cases e
      rw [dataLt_all_yes (li_alike _ _) (by rw [enc_li.eq]; simp), lt_lis a b (by simpa using h)]
      simp [lexB]
    · rw [dataLt_all_no (li_alike _ _) (by rw [enc_li.eq]; simpa using e), lt_li n m t u e]
      unfold lexB
      by_cases hn : n = m
      · subst hn
        have ht : t ≠ u := fun z => e (by rw [z])
        simp [ht]
      · simp [hn]
open PySem.W in
theorem lt_row (a b : Li) : dataLt (SL.rowK (fT a)) (SL.rowK (fT b)) = before a b := by
  show dataLt (.tuple [.int (a.map liD).length, .tuple (a.map liD)]) (.tuple [.int (b.map liD).length, .tuple (b.map liD)]) = _
  rw [dataLt_tuple, List.length_map, List.length_map]
  unfold before
  by_cases h : a.length = b.length
  · rw [if_neg (by simpa using h), dataLt_all_yes (by simp [PySem.W.alike]) (by show ((a.length : Int) == (b.length : Int)) = true; simp [h])]
    by_cases e : a = b
    · subst e
      rw [PyProof.Rows.lex_irrefl, ← lt_lis a a rfl, PyProof.Rows.lex_irrefl]
    · rw [dataLt_all_no (by simp [PySem.W.alike, lis_alike]) (by show PyData.eqvAll (a.map liD) (b.map liD) = false; rw [enc_li.eqAll]; simpa using e), dataLt_tuple, lt_lis a b h]
  · rw [if_pos h, dataLt_all_no (by simp [PySem.W.alike]) (by show ((a.length : Int) == (b.length : Int)) = false; simp; omega), dataLt_int]
    simp
theorem rowLe_eq (a b : Li) : SL.rowLe (fT a) (fT b) = !(before b a) := by
  rw [← lt_row]
  rfl
def le (a b : Li) : Bool := !(before b a)
theorem le_row (a b : Li) : le a b = SL.rowLe (fT a) (fT b) := (rowLe_eq a b).symm
theorem le_trans (a b c : Li) (h1 : le a b = true) (h2 : le b c = true) : le a c = true := by
  rw [le_row] at *
  exact (PySem.W.sortLe_total (PyProof.Rows.listOrd PyProof.Rows.itemOrd) false fun b => PySem.W.keyToks (SL.rowK b)).trans _ _ _ h1 h2
theorem le_total (a b : Li) : (le a b || le b a) = true := by
  rw [le_row, le_row, Bool.or_eq_true]
  exact (PySem.W.sortLe_total (PyProof.Rows.listOrd PyProof.Rows.itemOrd) false fun b => PySem.W.keyToks (SL.rowK b)).total _ _
theorem lexB_anti : ∀ {a b : Li}, a.length = b.length → lexB a b = false → lexB b a = false → a = b
  | [], [], _, _, _ => rfl
  | [], _ :: _, h, _, _ => by cases h
  | _ :: _, [], h, _, _ => by cases h
  | (n, t) :: a, (m, u) :: b, h, h1, h2 => by
    unfold lexB at h1 h2
    by_cases e : n = m
    · subst e
      by_cases f : t = u
      · subst f
        simp at h1 h2
        rw [lexB_anti (by simpa using h) h1 h2]
      · have f' : u ≠ t := fun z => f z.symm
        simp [f] at h1
        simp [f'] at h2
        rw [h1, h2] at f
        exact absurd rfl f
    · have e' : m ≠ n := fun z => e z.symm
      rw [if_pos e] at h1
      rw [if_pos e'] at h2
      exact absurd (strLe_anti (a := n) (b := m) (by unfold strLe; rw [h2]; rfl) (by unfold strLe; rw [h1]; rfl)) e
theorem le_anti {a b : Li} (h1 : le a b = true) (h2 : le b a = true) : a = b := by
  unfold le before at h1 h2
  by_cases h : a.length = b.length
  · rw [if_neg (by simp [h])] at h1 h2
    exact lexB_anti h (by simpa using h2) (by simpa using h1)
  · have h' : b.length ≠ a.length := fun z => h z.symm
    rw [if_pos h'] at h1
    rw [if_pos h] at h2
    simp at h1 h2
    omega
theorem before_iff {a b : Li} : before a b = true ↔ le a b = true ∧ a ≠ b := by
  constructor
  · intro h
    refine ⟨?_, fun z => ?_⟩
    · have := le_total a b
      unfold le at this ⊢
      rw [h] at this
      simpa using this
    · subst z
      have := le_total a a
      unfold le at this
      rw [h] at this
      cases this
  · rintro ⟨h1, h2⟩
    cases h : before a b with
    | true => rfl
    | false => exact absurd (le_anti h1 (by unfold le; rw [h]; rfl)) h2
/-- strictly in order -/
def SS (l : List Li) : Prop := l.Pairwise fun a b => before a b = true
theorem SS.nd {l : List Li} (h : SS l) : l.Nodup := h.imp fun {a b} z => (before_iff.mp z).2
theorem SS.same {a b : List Li} (ha : SS a) (hb : SS b) (h : ∀ x, x ∈ a ↔ x ∈ b) : a = b :=
  List.Perm.eq_of_pairwise (le := fun a b => le a b = true) (fun a b _ _ h1 h2 => le_anti h1 h2) (ha.imp fun {a b} z => (before_iff.mp z).1) (hb.imp fun {a b} z => (before_iff.mp z).1) ((List.perm_ext_iff_of_nodup ha.nd hb.nd).mpr h)
/-- clauses that may be asked about -/
structure ClOk (cs : List Li) : Prop where
  nm : ∀ c ∈ cs, ∀ p ∈ c, Nm p.1
  few : ∀ c ∈ cs, c.length ≤ 1000
  len : cs.length ≤ 100000
theorem noL_lis : ∀ a : Li, SL.noLA (a.map liD) = true
  | [] => rfl
  | p :: a => by
    rw [List.map_cons]
    unfold SL.noLA
    rw [noL_lis a]
    rfl
theorem enc_cl : Enc fT (fun c => ∀ p ∈ c, Nm p.1) 2 := enc_tup enc_li
theorem rows_cl {cs : List Li} (ok : ClOk cs) : SL.Rows (cs.map fT) := by
  refine ⟨fun d hd => ?_, fun d hd => ?_, fun d hd => ?_, fun d hd => ?_, fun d hd e he => ?_, ?_⟩
  · obtain ⟨c, hc, rfl⟩ := List.mem_map.mp hd
    exact ⟨_, rfl, by rw [List.length_map, sizeLine_eq]; have := ok.few c hc; omega⟩
  · obtain ⟨c, hc, rfl⟩ := List.mem_map.mp hd
    show SL.noLA (c.map liD) = true
    exact noL_lis c
  · obtain ⟨c, hc, rfl⟩ := List.mem_map.mp hd
    exact enc_cl.can c (ok.nm c hc)
  · obtain ⟨c, hc, rfl⟩ := List.mem_map.mp hd
    exact Nat.le_trans (enc_cl.dep c) (by decide)
  · obtain ⟨c, hc, rfl⟩ := List.mem_map.mp hd
    obtain ⟨c', hc', rfl⟩ := List.mem_map.mp he
    exact row_alike c c'
  · rw [List.length_map, sizeLine_eq]
    have := ok.len
    omega
theorem sortRow_cl {cs : List Li} (ok : ClOk cs) : fSortRow (.list (cs.map fT)) = some (.new (.list ((cs.mergeSort le).map fT))) := by
  unfold fSortRow
  dsimp only
  rw [if_pos (rowsB_of (rows_cl ok)), List.map_mergeSort (f := fT) (r := le) (s := SL.rowLe) (fun a _ b _ => le_row a b)]
def stepC (acc : List Li) (c : Li) : List Li := if acc.getLast? = some c then acc else acc ++ [c]
def inOrder (cs : List Li) : List Li := (cs.mergeSort le).foldl stepC []
theorem inOrder_go : ∀ (S acc : List Li), SS acc → (∀ x ∈ acc, ∀ y ∈ S, le x y = true) → S.Pairwise (fun a b => le a b = true) → SS (S.foldl stepC acc) ∧ ∀ x, x ∈ S.foldl stepC acc ↔ x ∈ acc ∨ x ∈ S
  | [], acc, h, _, _ => ⟨h, fun x => by simp⟩
  | c :: S, acc, h, hle, hp => by
    rw [List.foldl_cons]
    have hS := List.pairwise_cons.mp hp
    by_cases e : acc.getLast? = some c
    · have hst : stepC acc c = acc := by unfold stepC; rw [if_pos e]
      rw [hst]
      obtain ⟨a, b⟩ := inOrder_go S acc h (fun x hx y hy => hle x hx y (List.mem_cons_of_mem _ hy)) hS.2
      refine ⟨a, fun x => ?_⟩
      rw [b]
      have hc : c ∈ acc := List.mem_of_getLast? e
      simp only [List.mem_cons]
      exact ⟨fun z => z.elim .inl fun z => .inr (.inr z), fun z => z.elim .inl fun z => z.elim (fun z => by rw [z]; exact .inl hc) .inr⟩
    · have hst : stepC acc c = acc ++ [c] := by unfold stepC; rw [if_neg e]
      rw [hst]
      have hn : c ∉ acc := fun hc => by
        obtain ⟨ys, l, rfl⟩ : ∃ ys l, acc = ys ++ [l] := by
          rcases List.eq_nil_or_concat acc with z | ⟨ys, l, z⟩
          · rw [z] at hc; cases hc
          · exact ⟨ys, l, by rw [z, List.concat_eq_append]⟩
        rw [List.getLast?_concat] at e
        rcases List.mem_append.mp hc with hc | hc
        · have h1 := (List.pairwise_append.mp h).2.2 c hc l (List.mem_singleton.mpr rfl)
          have h2 := hle l (by simp) c List.mem_cons_self
          have h3 := before_iff.mp h1
          exact h3.2 (le_anti h3.1 h2)
        · rw [List.mem_singleton.mp hc] at e
          exact e rfl
      obtain ⟨a, b⟩ := inOrder_go S (acc ++ [c]) (List.pairwise_append.mpr ⟨h, List.pairwise_singleton .., fun x hx y hy => by
        rw [List.mem_singleton.mp hy]
        exact before_iff.mpr ⟨hle x hx c List.mem_cons_self, fun z => hn (by rw [← z]; exact hx)⟩⟩) (fun x hx y hy => by
        rcases List.mem_append.mp hx with hx | hx
        · exact hle x hx y (List.mem_cons_of_mem _ hy)
        · rw [List.mem_singleton.mp hx]
          exact hS.1 y hy) hS.2
      refine ⟨a, fun x => ?_⟩
      rw [b, List.mem_append, List.mem_singleton, List.mem_cons, or_assoc]
theorem inOrder_ss (cs : List Li) : SS (inOrder cs) := (inOrder_go _ [] .nil (fun x hx => by cases hx) (List.pairwise_mergeSort le_trans le_total cs)).1
theorem inOrder_mem {cs : List Li} {x : Li} : x ∈ inOrder cs ↔ x ∈ cs := by
  unfold inOrder
  rw [(inOrder_go _ [] .nil (fun x hx => by cases hx) (List.pairwise_mergeSort le_trans le_total cs)).2 x, List.mem_mergeSort]
  simp
theorem stepC_len (acc : List Li) (c : Li) : (stepC acc c).length ≤ acc.length + 1 := by
  unfold stepC
  split <;> simp
theorem fold_len : ∀ (S acc : List Li), (S.foldl stepC acc).length ≤ acc.length + S.length
  | [], acc => by simp
  | c :: S, acc => by
    rw [List.foldl_cons, List.length_cons]
    have := fold_len S (stepC acc c)
    have := stepC_len acc c
    omega
theorem in_order_eqS {cs : List Li} {s0 : Slot} (hs0 : s0 = .par (.list (cs.map fT)) ∨ s0 = .dat (.list (cs.map fT))) (ok : ClOk cs) {Q : Opd → Rho → Prop} {X : Ex → Rho → Prop} (h : Q (.new (.list ((inOrder cs).map fT))) [s0]) : wp (mClausesInOrder [s0]) Q X := by
  unfold mClausesInOrder
  have hs := sortRow_cl ok
  have hml : (cs.mergeSort le).length ≤ 100000 := by rw [List.length_mergeSort]; exact ok.len
  have hmn : ∀ c ∈ cs.mergeSort le, ∀ p ∈ c, Nm p.1 := fun c hc => ok.nm c (List.mem_mergeSort.mp hc)
  have h0 : eSortRow (eVar 0) [s0, .own (.list []), .un] = .ok (.new (.list ((cs.mergeSort le).map fT))) [s0, .own (.list []), .un] := by
    have this : wp (eSortRow (eVar 0) [s0, .own (.list []), .un]) (fun o ρ => o = .new (.list ((cs.mergeSort le).map fT)) ∧ ρ = [s0, .own (.list []), .un]) NoX := by
      unfold eSortRow
      rcases hs0 with rfl | rfl <;> simp -dsimp -implicitDefEqProofs [Dl.vI, Dl.vB, Dl.vS, Dl.run2, Dl.run1, Dl.deref, Dl.Slot.data?, Dl.useO, Dl.useAll, Dl.boolOf, Dl.putO, Dl.free, Dl.outO, Dl.withAll, Dl.runN, Dl.derefs, Dl.mutO, Dl.isLst, Dl.isDct, Dl.putI, Dl.putD, Dl.setI, Dl.augO, Dl.getI, Dl.slotOf, Dl.slotsOf, Dl.lents, Dl.takeB, Dl.backS, Dl.useSel, Dl.back, Dl.gd, Dl.pyIx, atI, ixN, Dl.pyGet, Dl.pyMul, Dl.pyAdd, Dl.pyEq, Dl.pyNe, Dl.mulOk, Dl.powOk, Dl.pySlice, Dl.fLen, Dl.fList, Dl.fTuple, Dl.mAppend, Dl.mReverse, Dl.mClear, Dl.mExtend, Dl.mInsert, Dl.mkTup, Dl.mkLst, Dl.pyIsN, Dl.pyNotN, Dl.fNeg, Dl.pyRev, Dl.gN, Dl.gsNil, Dl.gsCons, Dl.gT, Dl.srcL, Dl.srcT, Dl.srcS, Dl.srcQ, Dl.srcR1, Dl.srcR2, Dl.hide, Dl.restore, sizeLine_eq, Dl.lockS, hs]
    obtain ⟨o, ρ, e, rfl, rfl⟩ := wp_out this
    exact e
  simp -dsimp -implicitDefEqProofs [Dl.vI, Dl.vB, Dl.vS, Dl.run2, Dl.run1, Dl.deref, Dl.Slot.data?, Dl.useO, Dl.useAll, Dl.boolOf, Dl.putO, Dl.free, Dl.outO, Dl.withAll, Dl.runN, Dl.derefs, Dl.mutO, Dl.isLst, Dl.isDct, Dl.putI, Dl.putD, Dl.setI, Dl.augO, Dl.getI, Dl.slotOf, Dl.slotsOf, Dl.lents, Dl.takeB, Dl.backS, Dl.useSel, Dl.back, Dl.gd, Dl.pyIx, atI, ixN, Dl.pyGet, Dl.pyMul, Dl.pyAdd, Dl.pyEq, Dl.pyNe, Dl.mulOk, Dl.powOk, Dl.pySlice, Dl.fLen, Dl.fList, Dl.fTuple, Dl.mAppend, Dl.mReverse, Dl.mClear, Dl.mExtend, Dl.mInsert, Dl.mkTup, Dl.mkLst, Dl.pyIsN, Dl.pyNotN, Dl.fNeg, Dl.pyRev, Dl.gN, Dl.gsNil, Dl.gsCons, Dl.gT, Dl.srcL, Dl.srcT, Dl.srcS, Dl.srcQ, Dl.srcR1, Dl.srcR2, Dl.hide, Dl.restore, sizeLine_eq, Dl.lockS, h0]
  unfold inOrder at h
  generalize cs.mergeSort le = S at *
  obtain ⟨I, eI⟩ : ∃ I : Nat → Rho → Prop, I = fun i ρ => ∃ s2, frS s2 = true ∧ ρ = [s0, .own (.list (((S.take i).foldl stepC []).map fT)), s2] := ⟨_, rfl⟩
  refine wp_for I (by rw [eI]; exact ⟨.un, rfl, rfl⟩) (fun i x ρ hx hI => ?_) fun ρ hI => ?_
  · rw [eI] at hI
    obtain ⟨s2, f2, rfl⟩ := hI
    simp only [frS, free, List.getElem?_cons_zero] at f2
    rw [List.getElem?_map, Option.map_eq_some_iff] at hx
    obtain ⟨c, hc, rfl⟩ := hx
    have hcn := hmn c (List.mem_of_getElem? hc)
    have het : (S.take (i + 1)).foldl stepC [] = stepC ((S.take i).foldl stepC []) c := by
      rw [List.take_add_one, hc, List.foldl_append]
      rfl
    have hal : ((S.take i).foldl stepC []).length ≤ 100000 := by
      have := fold_len (S.take i) []
      rw [List.length_take] at this
      simp only [List.length_nil] at this
      omega
    have han : ∀ a ∈ (S.take i).foldl stepC [], ∀ p ∈ a, Nm p.1 := by
      have key : ∀ (T acc : List Li), (∀ a ∈ acc, ∀ p ∈ a, Nm p.1) → (∀ a ∈ T, ∀ p ∈ a, Nm p.1) → ∀ a ∈ T.foldl stepC acc, ∀ p ∈ a, Nm p.1 := by
        intro T
        induction T with
        | nil => intro acc h1 _; exact h1
        | cons t T ih =>
          intro acc h1 h2
          rw [List.foldl_cons]
          refine ih _ (fun a ha => ?_) fun a ha => h2 a (List.mem_cons_of_mem _ ha)
          unfold stepC at ha
          split at ha
          · exact h1 a ha
          · rcases List.mem_append.mp ha with ha | ha
            · exact h1 a ha
            · rw [List.mem_singleton.mp ha]; exact h2 t List.mem_cons_self
      exact key _ [] (fun a ha => by cases ha) fun a ha => hmn a (List.mem_of_mem_take ha)
    generalize (S.take i).foldl stepC [] = acc at *
    refine ⟨[s0, .own (.list (acc.map fT)), .dat (fT c)], ?_, ?_⟩
    · simp -dsimp -implicitDefEqProofs [Dl.vI, Dl.vB, Dl.vS, Dl.run2, Dl.run1, Dl.deref, Dl.Slot.data?, Dl.useO, Dl.useAll, Dl.boolOf, Dl.putO, Dl.free, Dl.outO, Dl.withAll, Dl.runN, Dl.derefs, Dl.mutO, Dl.isLst, Dl.isDct, Dl.putI, Dl.putD, Dl.setI, Dl.augO, Dl.getI, Dl.slotOf, Dl.slotsOf, Dl.lents, Dl.takeB, Dl.backS, Dl.useSel, Dl.back, Dl.gd, Dl.pyIx, atI, ixN, Dl.pyGet, Dl.pyMul, Dl.pyAdd, Dl.pyEq, Dl.pyNe, Dl.mulOk, Dl.powOk, Dl.pySlice, Dl.fLen, Dl.fList, Dl.fTuple, Dl.mAppend, Dl.mReverse, Dl.mClear, Dl.mExtend, Dl.mInsert, Dl.mkTup, Dl.mkLst, Dl.pyIsN, Dl.pyNotN, Dl.fNeg, Dl.pyRev, Dl.gN, Dl.gsNil, Dl.gsCons, Dl.gT, Dl.srcL, Dl.srcT, Dl.srcS, Dl.srcQ, Dl.srcR1, Dl.srcR2, Dl.hide, Dl.restore, sizeLine_eq, Dl.lockS, f2]
    have e1 := (enc_list enc_cl).pyEq (x := acc) (y := []) (by decide) han (fun x h => by cases h)
    have e1 : pyEq (.list (acc.map fT)) (.list []) = some (.val (.bool (decide (acc = [])))) := e1
    have fin : I (i + 1) [s0, .own (.list ((stepC acc c).map fT)), .dat (fT c)] := by
      rw [eI]
      exact ⟨_, rfl, by rw [het]⟩
    rcases List.eq_nil_or_concat acc with z | ⟨ys, l, z⟩
    · subst z
      have es : stepC [] c = [c] := rfl
      rw [es] at fin
      simp only [decide_true] at e1
      simp -dsimp -implicitDefEqProofs [Dl.vI, Dl.vB, Dl.vS, Dl.run2, Dl.run1, Dl.deref, Dl.Slot.data?, Dl.useO, Dl.useAll, Dl.boolOf, Dl.putO, Dl.free, Dl.outO, Dl.withAll, Dl.runN, Dl.derefs, Dl.mutO, Dl.isLst, Dl.isDct, Dl.putI, Dl.putD, Dl.setI, Dl.augO, Dl.getI, Dl.slotOf, Dl.slotsOf, Dl.lents, Dl.takeB, Dl.backS, Dl.useSel, Dl.back, Dl.gd, Dl.pyIx, atI, ixN, Dl.pyGet, Dl.pyMul, Dl.pyAdd, Dl.pyNe, Dl.mulOk, Dl.powOk, Dl.pySlice, Dl.fLen, Dl.fList, Dl.fTuple, Dl.mAppend, Dl.mReverse, Dl.mClear, Dl.mExtend, Dl.mInsert, Dl.mkTup, Dl.mkLst, Dl.pyIsN, Dl.pyNotN, Dl.fNeg, Dl.pyRev, Dl.gN, Dl.gsNil, Dl.gsCons, Dl.gT, Dl.srcL, Dl.srcT, Dl.srcS, Dl.srcQ, Dl.srcR1, Dl.srcR2, Dl.hide, Dl.restore, sizeLine_eq, Dl.lockS, e1]
      exact fin
    · rw [List.concat_eq_append] at z
      subst z
      have e2 : pyAt (.list ((ys ++ [l]).map fT)) (.int (-1)) = some (.val (fT l)) := by
        rw [pyAt_list]
        unfold atI ixN
        rw [if_neg (by decide), List.length_map, List.length_append, List.length_singleton, if_pos (by omega), Option.map_eq_some_iff]
        refine ⟨_, ?_, rfl⟩
        show ((ys ++ [l]).map fT)[((-1 : Int) + ((ys.length + 1 : Nat) : Int)).toNat]? = _
        rw [show ((-1 : Int) + ((ys.length + 1 : Nat) : Int)).toNat = ys.length by omega, List.getElem?_map, List.getElem?_append_right (Nat.le_refl _), Nat.sub_self]
        rfl
      have e3 := enc_cl.pyNe (x := l) (y := c) (by decide) (han l (by simp)) hcn
      have e1' : pyEq (.list ((ys ++ [l]).map fT)) (.list []) = some (.val (.bool false)) := by rw [e1]; simp
      unfold stepC at fin
      rw [List.getLast?_concat] at fin
      generalize ys ++ [l] = acc at *
      by_cases hlc : l = c
      · subst hlc
        rw [if_pos rfl] at fin
        simp only [decide_true, Bool.not_true] at e3
        simp -dsimp -implicitDefEqProofs [Dl.vI, Dl.vB, Dl.vS, Dl.run2, Dl.run1, Dl.deref, Dl.Slot.data?, Dl.useO, Dl.useAll, Dl.boolOf, Dl.putO, Dl.free, Dl.outO, Dl.withAll, Dl.runN, Dl.derefs, Dl.mutO, Dl.isLst, Dl.isDct, Dl.putI, Dl.putD, Dl.setI, Dl.augO, Dl.getI, Dl.slotOf, Dl.slotsOf, Dl.lents, Dl.takeB, Dl.backS, Dl.useSel, Dl.back, Dl.gd, Dl.pyIx, atI, ixN, Dl.pyGet, Dl.pyMul, Dl.pyAdd, Dl.mulOk, Dl.powOk, Dl.pySlice, Dl.fLen, Dl.fList, Dl.fTuple, Dl.mAppend, Dl.mReverse, Dl.mClear, Dl.mExtend, Dl.mInsert, Dl.mkTup, Dl.mkLst, Dl.pyIsN, Dl.pyNotN, Dl.fNeg, Dl.pyRev, Dl.gN, Dl.gsNil, Dl.gsCons, Dl.gT, Dl.srcL, Dl.srcT, Dl.srcS, Dl.srcQ, Dl.srcR1, Dl.srcR2, Dl.hide, Dl.restore, sizeLine_eq, Dl.lockS, e1', e2, e3, -pyAt_list]
        exact fin
      · rw [if_neg (fun z => hlc (Option.some.inj z))] at fin
        simp only [hlc, decide_false, Bool.not_false] at e3
        simp -dsimp -implicitDefEqProofs [Dl.vI, Dl.vB, Dl.vS, Dl.run2, Dl.run1, Dl.deref, Dl.Slot.data?, Dl.useO, Dl.useAll, Dl.boolOf, Dl.putO, Dl.free, Dl.outO, Dl.withAll, Dl.runN, Dl.derefs, Dl.mutO, Dl.isLst, Dl.isDct, Dl.putI, Dl.putD, Dl.setI, Dl.augO, Dl.getI, Dl.slotOf, Dl.slotsOf, Dl.lents, Dl.takeB, Dl.backS, Dl.useSel, Dl.back, Dl.gd, Dl.pyIx, atI, ixN, Dl.pyGet, Dl.pyMul, Dl.pyAdd, Dl.mulOk, Dl.powOk, Dl.pySlice, Dl.fLen, Dl.fList, Dl.fTuple, Dl.mAppend, Dl.mReverse, Dl.mClear, Dl.mExtend, Dl.mInsert, Dl.mkTup, Dl.mkLst, Dl.pyIsN, Dl.pyNotN, Dl.fNeg, Dl.pyRev, Dl.gN, Dl.gsNil, Dl.gsCons, Dl.gT, Dl.srcL, Dl.srcT, Dl.srcS, Dl.srcQ, Dl.srcR1, Dl.srcR2, Dl.hide, Dl.restore, sizeLine_eq, Dl.lockS, e1', e2, e3, show acc.length < 16777216 by omega, -pyAt_list]
        rw [List.map_append] at fin
        exact fin
  · rw [eI] at hI
    obtain ⟨s2, f2, rfl⟩ := hI
    rw [List.length_map, List.take_length]
    rcases hs0 with rfl | rfl <;> simp -dsimp -implicitDefEqProofs [Dl.vI, Dl.vB, Dl.vS, Dl.run2, Dl.run1, Dl.deref, Dl.Slot.data?, Dl.useO, Dl.useAll, Dl.boolOf, Dl.putO, Dl.free, Dl.outO, Dl.withAll, Dl.runN, Dl.derefs, Dl.mutO, Dl.isLst, Dl.isDct, Dl.putI, Dl.putD, Dl.setI, Dl.augO, Dl.getI, Dl.slotOf, Dl.slotsOf, Dl.lents, Dl.takeB, Dl.backS, Dl.useSel, Dl.back, Dl.gd, Dl.pyIx, atI, ixN, Dl.pyGet, Dl.pyMul, Dl.pyAdd, Dl.pyEq, Dl.pyNe, Dl.mulOk, Dl.powOk, Dl.pySlice, Dl.fLen, Dl.fList, Dl.fTuple, Dl.mAppend, Dl.mReverse, Dl.mClear, Dl.mExtend, Dl.mInsert, Dl.mkTup, Dl.mkLst, Dl.pyIsN, Dl.pyNotN, Dl.fNeg, Dl.pyRev, Dl.gN, Dl.gsNil, Dl.gsCons, Dl.gT, Dl.srcL, Dl.srcT, Dl.srcS, Dl.srcQ, Dl.srcR1, Dl.srcR2, Dl.hide, Dl.restore, sizeLine_eq, Dl.lockS] <;> exact h
theorem in_order_eq {cs : List Li} (ok : ClOk cs) {Q : Opd → Rho → Prop} {X : Ex → Rho → Prop} (h : Q (.new (.list ((inOrder cs).map fT))) [.par (.list (cs.map fT))]) : wp (mClausesInOrder [.par (.list (cs.map fT))]) Q X := in_order_eqS (.inl rfl) ok h
end Dl

set_option maxRecDepth 100000
set_option maxHeartbeats 400000
namespace Dl
open PySem PySem.Spec L2
set_option autoImplicit false
def part (a b : Li) : Bool := a.all fun p => decide (p ∈ b)
theorem part_iff {a b : Li} : part a b = true ↔ ∀ p ∈ a, p ∈ b := by unfold part; rw [List.all_eq_true]; simp only [decide_eq_true_eq]
theorem part_eq {a b : Li} (ha : ∀ p ∈ a, Nm p.1) (hb : ∀ p ∈ b, Nm p.1) (hl : a.length ≤ 1000) : mIsClausePart [.dat (fT a), .dat (fT b)] = .ok (.val (.bool (part a b))) [.dat (fT a), .dat (fT b)] := by
  have main : wp (compL [2] (gN 2) tTrue (eOp2 (orf pyIn pyInK) (eVar 2) (eVar 1)) (a.map liD) [] [.dat (fT a), .dat (fT b), .un]) (fun o ρ => o = .new (.list ((a.map fun p => decide (p ∈ b)).map .bool)) ∧ ρ = [.dat (fT a), .dat (fT b), .un]) NoX := by
    obtain ⟨I, eI⟩ : ∃ I : Nat → List D → Rho → Prop, I = fun i out ρ => out = ((a.take i).map fun p => decide (p ∈ b)).map .bool ∧ ρ = [.dat (fT a), .dat (fT b), .un] := ⟨_, rfl⟩
    refine wp_cmp I (by rw [eI]; exact ⟨rfl, rfl⟩) (fun i d out ρ hd hI => ?_) fun out ρ hI => ?_
    · rw [eI] at hI
      obtain ⟨rfl, rfl⟩ := hI
      rw [List.getElem?_map, Option.map_eq_some_iff] at hd
      obtain ⟨p, hp, rfl⟩ := hd
      have hin := enc_li.hasT (x := p) (xs := b) (by decide) (ha p (List.mem_of_getElem? hp)) hb
      have hin2 : orf pyIn pyInK (liD p) (fT b) = some (.val (.bool (decide (p ∈ b)))) := by
        unfold orf pyIn fT
        rw [hin]
        exact congrArg (fun z => some (Opd.val (PyData.bool z))) (decide_eq_decide.mpr Iff.rfl)
      have hil := (List.getElem?_eq_some_iff.mp hp).1
      have hn : (a.take (i + 1)).map (fun p => decide (p ∈ b)) = (a.take i).map (fun p => decide (p ∈ b)) ++ [decide (p ∈ b)] := by rw [List.take_add_one, hp, List.map_append]; rfl
      have hfl : ((a.take i).map fun p => decide (p ∈ b)).length < 16777216 := by rw [List.length_map, List.length_take]; omega
      refine ⟨[.dat (fT a), .dat (fT b), .dat (liD p)], rfl, ?_⟩
      generalize (a.take i).map (fun p => decide (p ∈ b)) = out at *
      simp -dsimp -implicitDefEqProofs [Dl.vI, Dl.vB, Dl.vS, Dl.run2, Dl.run1, Dl.deref, Dl.Slot.data?, Dl.useO, Dl.useAll, Dl.boolOf, Dl.putO, Dl.free, Dl.outO, Dl.withAll, Dl.runN, Dl.derefs, Dl.mutO, Dl.isLst, Dl.isDct, Dl.putI, Dl.putD, Dl.setI, Dl.augO, Dl.getI, Dl.slotOf, Dl.slotsOf, Dl.lents, Dl.takeB, Dl.backS, Dl.useSel, Dl.back, Dl.gd, Dl.pyIx, atI, ixN, Dl.pyGet, Dl.pyMul, Dl.pyAdd, Dl.pyEq, Dl.pyNe, Dl.mulOk, Dl.powOk, Dl.pySlice, Dl.fLen, Dl.fList, Dl.fTuple, Dl.mAppend, Dl.mReverse, Dl.mClear, Dl.mExtend, Dl.mInsert, Dl.mkTup, Dl.mkLst, Dl.pyIsN, Dl.pyNotN, Dl.fNeg, Dl.pyRev, Dl.gN, Dl.gsNil, Dl.gsCons, Dl.gT, Dl.srcL, Dl.srcT, Dl.srcS, Dl.srcQ, Dl.srcR1, Dl.srcR2, Dl.hide, Dl.restore, sizeLine_eq, Dl.lockS, hin2, hfl]
      refine ⟨_, _, ⟨rfl, rfl⟩, ?_⟩
      rw [eI]
      exact ⟨by rw [hn, List.map_append]; rfl, rfl⟩
    · rw [eI] at hI
      obtain ⟨rfl, rfl⟩ := hI
      rw [List.length_map, List.take_length]
      exact ⟨rfl, rfl⟩
  obtain ⟨o, ρ, em, rfl, rfl⟩ := wp_out main
  have hall := all_map (a.map fun p => decide (p ∈ b))
  have hv : (a.map fun p => decide (p ∈ b)).all id = part a b := by unfold part; rw [List.all_map]; rfl
  rw [hv] at hall
  generalize (a.map fun p => decide (p ∈ b)) = bs at *
  have this : wp (mIsClausePart [.dat (fT a), .dat (fT b)]) (fun o ρ => o = .val (.bool (part a b)) ∧ ρ = [.dat (fT a), .dat (fT b)]) NoX := by
    unfold mIsClausePart
    have ea : fT a = .tuple (a.map liD) := rfl
    rw [ea] at em ⊢
    simp -dsimp -implicitDefEqProofs [Dl.vI, Dl.vB, Dl.vS, Dl.run2, Dl.run1, Dl.deref, Dl.Slot.data?, Dl.useO, Dl.useAll, Dl.boolOf, Dl.putO, Dl.free, Dl.outO, Dl.withAll, Dl.runN, Dl.derefs, Dl.mutO, Dl.isLst, Dl.isDct, Dl.putI, Dl.putD, Dl.setI, Dl.augO, Dl.getI, Dl.slotOf, Dl.slotsOf, Dl.lents, Dl.takeB, Dl.backS, Dl.useSel, Dl.back, Dl.gd, Dl.pyIx, atI, ixN, Dl.pyGet, Dl.pyMul, Dl.pyAdd, Dl.pyEq, Dl.pyNe, Dl.mulOk, Dl.powOk, Dl.pySlice, Dl.fLen, Dl.fList, Dl.fTuple, Dl.mAppend, Dl.mReverse, Dl.mClear, Dl.mExtend, Dl.mInsert, Dl.mkTup, Dl.mkLst, Dl.pyIsN, Dl.pyNotN, Dl.fNeg, Dl.pyRev, Dl.gN, Dl.gsNil, Dl.gsCons, Dl.gT, Dl.srcL, Dl.srcT, Dl.srcS, Dl.srcQ, Dl.srcR1, Dl.srcR2, Dl.hide, Dl.restore, sizeLine_eq, Dl.lockS, em, hall]
  obtain ⟨o, ρ, e, rfl, rfl⟩ := wp_out this
  exact e
theorem at_lit {a : Li} {i : Nat} {n : Str} {t : Bool} (h : a[i]? = some (n, t)) : pyAt (fT a) (.int (i : Int)) = some (.val (.tuple [.str n, .bool t])) := by
  have := at_encT (f := liD) (xs := a) (i := (i : Int)) (x := (n, t)) (by omega) (by rw [Int.toNat_natCast]; exact h)
  exact this
theorem c0 (n : Str) (t : Bool) : pyAt (.tuple [.str n, .bool t]) (.int 0) = some (.val (.str n)) := by simp -dsimp -implicitDefEqProofs [Dl.vI, Dl.vB, Dl.vS, Dl.run2, Dl.run1, Dl.deref, Dl.Slot.data?, Dl.useO, Dl.useAll, Dl.boolOf, Dl.putO, Dl.free, Dl.outO, Dl.withAll, Dl.runN, Dl.derefs, Dl.mutO, Dl.isLst, Dl.isDct, Dl.putI, Dl.putD, Dl.setI, Dl.augO, Dl.getI, Dl.slotOf, Dl.slotsOf, Dl.lents, Dl.takeB, Dl.backS, Dl.useSel, Dl.back, Dl.gd, Dl.pyIx, atI, ixN, Dl.pyGet, Dl.pyMul, Dl.pyAdd, Dl.pyEq, Dl.pyNe, Dl.mulOk, Dl.powOk, Dl.pySlice, Dl.fLen, Dl.fList, Dl.fTuple, Dl.mAppend, Dl.mReverse, Dl.mClear, Dl.mExtend, Dl.mInsert, Dl.mkTup, Dl.mkLst, Dl.pyIsN, Dl.pyNotN, Dl.fNeg, Dl.pyRev, Dl.gN, Dl.gsNil, Dl.gsCons, Dl.gT, Dl.srcL, Dl.srcT, Dl.srcS, Dl.srcQ, Dl.srcR1, Dl.srcR2, Dl.hide, Dl.restore, sizeLine_eq, Dl.lockS]
theorem c1 (n : Str) (t : Bool) : pyAt (.tuple [.str n, .bool t]) (.int 1) = some (.val (.bool t)) := by simp -dsimp -implicitDefEqProofs [Dl.vI, Dl.vB, Dl.vS, Dl.run2, Dl.run1, Dl.deref, Dl.Slot.data?, Dl.useO, Dl.useAll, Dl.boolOf, Dl.putO, Dl.free, Dl.outO, Dl.withAll, Dl.runN, Dl.derefs, Dl.mutO, Dl.isLst, Dl.isDct, Dl.putI, Dl.putD, Dl.setI, Dl.augO, Dl.getI, Dl.slotOf, Dl.slotsOf, Dl.lents, Dl.takeB, Dl.backS, Dl.useSel, Dl.back, Dl.gd, Dl.pyIx, atI, ixN, Dl.pyGet, Dl.pyMul, Dl.pyAdd, Dl.pyEq, Dl.pyNe, Dl.mulOk, Dl.powOk, Dl.pySlice, Dl.fLen, Dl.fList, Dl.fTuple, Dl.mAppend, Dl.mReverse, Dl.mClear, Dl.mExtend, Dl.mInsert, Dl.mkTup, Dl.mkLst, Dl.pyIsN, Dl.pyNotN, Dl.fNeg, Dl.pyRev, Dl.gN, Dl.gsNil, Dl.gsCons, Dl.gT, Dl.srcL, Dl.srcT, Dl.srcS, Dl.srcQ, Dl.srcR1, Dl.srcR2, Dl.hide, Dl.restore, sizeLine_eq, Dl.lockS]
theorem before_loop {a b : Li} (hab : a.length = b.length) (ha : ∀ p ∈ a, Nm p.1) (hb : ∀ p ∈ b, Nm p.1) {QF : Flow → Rho → Prop} {X : Ex → Rho → Prop} : ∀ (m i : Nat) (s2 : Slot), i + m = a.length → frS s2 = true →
    (∀ s2, (∃ v, lexB (a.drop i) (b.drop i) = v ∧ QF (.rt (.val (.bool v))) [.dat (fT a), .dat (fT b), s2]) ∨ (lexB (a.drop i) (b.drop i) = false ∧ QF .nx [.dat (fT a), .dat (fT b), s2]) → True) →
    (∀ v s2, v = lexB (a.drop i) (b.drop i) → QF (.rt (.val (.bool v))) [.dat (fT a), .dat (fT b), s2]) → (lexB (a.drop i) (b.drop i) = false → ∀ s2, QF .nx [.dat (fT a), .dat (fT b), s2]) →
    wp (sLoop (gN 2) (sSeq (sIf (tVal (eOp2 pyNe (eOp2 pyAt (eOp2 pyAt (eVar 0) (eVar 2)) (eC (.int 0))) (eOp2 pyAt (eOp2 pyAt (eVar 1) (eVar 2)) (eC (.int 0)))))
     (sRet (eOp2 pyLt (eOp2 pyAt (eOp2 pyAt (eVar 0) (eVar 2)) (eC (.int 0))) (eOp2 pyAt (eOp2 pyAt (eVar 1) (eVar 2)) (eC (.int 0)))))
     sNil)
     (sIf (tVal (eOp2 pyNe (eOp2 pyAt (eOp2 pyAt (eVar 0) (eVar 2)) (eC (.int 1))) (eOp2 pyAt (eOp2 pyAt (eVar 1) (eVar 2)) (eC (.int 1)))))
     (sRet (eOp2 pyAt (eOp2 pyAt (eVar 1) (eVar 2)) (eC (.int 1))))
     sNil)) ((List.range' i m).map fun k : Nat => .int (k : Int)) [.dat (fT a), .dat (fT b), s2]) QF X
  | 0, i, s2, hi, f2, _, hr, hn => by
    refine hn ?_ s2
    rw [List.drop_of_length_le (by omega)]
    rfl
  | m + 1, i, s2, hi, f2, hz, hr, hn => by
    simp only [frS, free, List.getElem?_cons_zero] at f2
    obtain ⟨⟨n, t⟩, hp⟩ : ∃ p, a[i]? = some p := ⟨_, List.getElem?_eq_getElem (by omega)⟩
    obtain ⟨⟨n', u⟩, hq⟩ : ∃ p, b[i]? = some p := ⟨_, List.getElem?_eq_getElem (by omega)⟩
    have a1 := at_lit hp
    have a2 := at_lit hq
    have n1 : Nm n := ha _ (List.mem_of_getElem? hp)
    have n2 : Nm n' := hb _ (List.mem_of_getElem? hq)
    have ed1 : a.drop i = (n, t) :: a.drop (i + 1) := by obtain ⟨h1, h2⟩ := List.getElem?_eq_some_iff.mp hp; rw [List.drop_eq_getElem_cons h1, h2]
    have ed2 : b.drop i = (n', u) :: b.drop (i + 1) := by obtain ⟨h1, h2⟩ := List.getElem?_eq_some_iff.mp hq; rw [List.drop_eq_getElem_cons h1, h2]
    have es := enc_str.pyNe (x := n) (y := n') (by decide) n1 n2
    have eb := enc_bool.pyNe (x := t) (y := u) (by decide) trivial trivial
    have el : pyLt (.str n) (.str n') = some (.val (.bool (decide (n.cps.toList < n'.cps.toList)))) := rfl
    rw [List.range'_succ, List.map_cons]
    rw [ed1, ed2] at hr hn
    unfold lexB at hr hn
    by_cases e : n = n'
    · subst e
      simp only [ne_eq, decide_true, Bool.not_true] at es
      rw [if_neg (by simp)] at hr hn
      by_cases f : t = u
      · subst f
        simp only [decide_true, Bool.not_true] at eb
        rw [if_neg (by simp)] at hr hn
        simp -dsimp -implicitDefEqProofs [Dl.vI, Dl.vB, Dl.vS, Dl.run2, Dl.run1, Dl.deref, Dl.Slot.data?, Dl.useO, Dl.useAll, Dl.boolOf, Dl.putO, Dl.free, Dl.outO, Dl.withAll, Dl.runN, Dl.derefs, Dl.mutO, Dl.isLst, Dl.isDct, Dl.putI, Dl.putD, Dl.setI, Dl.augO, Dl.getI, Dl.slotOf, Dl.slotsOf, Dl.lents, Dl.takeB, Dl.backS, Dl.useSel, Dl.back, Dl.gd, Dl.pyIx, atI, ixN, Dl.pyGet, Dl.pyMul, Dl.pyAdd, Dl.pyEq, Dl.mulOk, Dl.powOk, Dl.pySlice, Dl.fLen, Dl.fList, Dl.fTuple, Dl.mAppend, Dl.mReverse, Dl.mClear, Dl.mExtend, Dl.mInsert, Dl.mkTup, Dl.mkLst, Dl.pyIsN, Dl.pyNotN, Dl.fNeg, Dl.pyRev, Dl.gN, Dl.gsNil, Dl.gsCons, Dl.gT, Dl.srcL, Dl.srcT, Dl.srcS, Dl.srcQ, Dl.srcR1, Dl.srcR2, Dl.hide, Dl.restore, sizeLine_eq, Dl.lockS, f2, a1, a2, c0, c1, es, eb, -pyAt_list, -pyAt_tuple]
        exact before_loop hab ha hb m (i + 1) _ (by omega) rfl (fun _ _ => trivial) hr hn
      · simp only [f, decide_false, Bool.not_false] at eb
        rw [if_pos (by simpa using f)] at hr
        simp -dsimp -implicitDefEqProofs [Dl.vI, Dl.vB, Dl.vS, Dl.run2, Dl.run1, Dl.deref, Dl.Slot.data?, Dl.useO, Dl.useAll, Dl.boolOf, Dl.putO, Dl.free, Dl.outO, Dl.withAll, Dl.runN, Dl.derefs, Dl.mutO, Dl.isLst, Dl.isDct, Dl.putI, Dl.putD, Dl.setI, Dl.augO, Dl.getI, Dl.slotOf, Dl.slotsOf, Dl.lents, Dl.takeB, Dl.backS, Dl.useSel, Dl.back, Dl.gd, Dl.pyIx, atI, ixN, Dl.pyGet, Dl.pyMul, Dl.pyAdd, Dl.pyEq, Dl.mulOk, Dl.powOk, Dl.pySlice, Dl.fLen, Dl.fList, Dl.fTuple, Dl.mAppend, Dl.mReverse, Dl.mClear, Dl.mExtend, Dl.mInsert, Dl.mkTup, Dl.mkLst, Dl.pyIsN, Dl.pyNotN, Dl.fNeg, Dl.pyRev, Dl.gN, Dl.gsNil, Dl.gsCons, Dl.gT, Dl.srcL, Dl.srcT, Dl.srcS, Dl.srcQ, Dl.srcR1, Dl.srcR2, Dl.hide, Dl.restore, sizeLine_eq, Dl.lockS, f2, a1, a2, c0, c1, es, eb, -pyAt_list, -pyAt_tuple]
        exact hr u _ rfl
    · simp only [e, decide_false, Bool.not_false] at es
      rw [if_pos (by simpa using e)] at hr
      simp -dsimp -implicitDefEqProofs [Dl.vI, Dl.vB, Dl.vS, Dl.run2, Dl.run1, Dl.deref, Dl.Slot.data?, Dl.useO, Dl.useAll, Dl.boolOf, Dl.putO, Dl.free, Dl.outO, Dl.withAll, Dl.runN, Dl.derefs, Dl.mutO, Dl.isLst, Dl.isDct, Dl.putI, Dl.putD, Dl.setI, Dl.augO, Dl.getI, Dl.slotOf, Dl.slotsOf, Dl.lents, Dl.takeB, Dl.backS, Dl.useSel, Dl.back, Dl.gd, Dl.pyIx, atI, ixN, Dl.pyGet, Dl.pyMul, Dl.pyAdd, Dl.pyEq, Dl.mulOk, Dl.powOk, Dl.pySlice, Dl.fLen, Dl.fList, Dl.fTuple, Dl.mAppend, Dl.mReverse, Dl.mClear, Dl.mExtend, Dl.mInsert, Dl.mkTup, Dl.mkLst, Dl.pyIsN, Dl.pyNotN, Dl.fNeg, Dl.pyRev, Dl.gN, Dl.gsNil, Dl.gsCons, Dl.gT, Dl.srcL, Dl.srcT, Dl.srcS, Dl.srcQ, Dl.srcR1, Dl.srcR2, Dl.hide, Dl.restore, sizeLine_eq, Dl.lockS, f2, a1, a2, c0, c1, es, el, -pyAt_list, -pyAt_tuple]
      exact hr _ _ (by simp)
theorem before_eq {a b : Li} (ha : ∀ p ∈ a, Nm p.1) (hb : ∀ p ∈ b, Nm p.1) (la : a.length ≤ 1000) (lb : b.length ≤ 1000) : mLawBefore [.dat (fT a), .dat (fT b)] = .ok (.val (.bool (before a b))) [.dat (fT a), .dat (fT b)] := by
  have this : wp (mLawBefore [.dat (fT a), .dat (fT b)]) (fun o ρ => o = .val (.bool (before a b)) ∧ ρ = [.dat (fT a), .dat (fT b)]) NoX := by
    unfold mLawBefore
    have e1 : fLen [fT a] = some (.val (.int (a.length : Int))) := by unfold fLen fT; simp
    have e2 : fLen [fT b] = some (.val (.int (b.length : Int))) := by unfold fLen fT; simp
    unfold before
    by_cases h : a.length = b.length
    · rw [if_neg (by simpa using h)]
      simp -dsimp -implicitDefEqProofs [Dl.vI, Dl.vB, Dl.vS, Dl.run2, Dl.run1, Dl.deref, Dl.Slot.data?, Dl.useO, Dl.useAll, Dl.boolOf, Dl.putO, Dl.free, Dl.outO, Dl.withAll, Dl.runN, Dl.derefs, Dl.mutO, Dl.isLst, Dl.isDct, Dl.putI, Dl.putD, Dl.setI, Dl.augO, Dl.getI, Dl.slotOf, Dl.slotsOf, Dl.lents, Dl.takeB, Dl.backS, Dl.useSel, Dl.back, Dl.gd, Dl.pyIx, atI, ixN, Dl.pyGet, Dl.pyMul, Dl.pyAdd, Dl.pyEq, Dl.pyNe, Dl.mulOk, Dl.powOk, Dl.pySlice, Dl.fList, Dl.fTuple, Dl.mAppend, Dl.mReverse, Dl.mClear, Dl.mExtend, Dl.mInsert, Dl.mkTup, Dl.mkLst, Dl.pyIsN, Dl.pyNotN, Dl.fNeg, Dl.pyRev, Dl.gN, Dl.gsNil, Dl.gsCons, Dl.gT, Dl.srcL, Dl.srcT, Dl.srcS, Dl.srcQ, Dl.srcR1, Dl.srcR2, Dl.hide, Dl.restore, sizeLine_eq, Dl.lockS, e1, e2, h]
      refine ⟨by omega, ?_⟩
      rw [List.range_eq_range']
      refine before_loop h ha hb b.length 0 .un (by omega) rfl (fun _ _ => trivial) (fun v s2 hv => ?_) fun hv s2 => ?_
      · rw [hv]
        simp -dsimp -implicitDefEqProofs [Dl.vI, Dl.vB, Dl.vS, Dl.run2, Dl.run1, Dl.deref, Dl.Slot.data?, Dl.useO, Dl.useAll, Dl.boolOf, Dl.putO, Dl.free, Dl.outO, Dl.withAll, Dl.runN, Dl.derefs, Dl.mutO, Dl.isLst, Dl.isDct, Dl.putI, Dl.putD, Dl.setI, Dl.augO, Dl.getI, Dl.slotOf, Dl.slotsOf, Dl.lents, Dl.takeB, Dl.backS, Dl.useSel, Dl.back, Dl.gd, Dl.pyIx, atI, ixN, Dl.pyGet, Dl.pyMul, Dl.pyAdd, Dl.pyEq, Dl.pyNe, Dl.mulOk, Dl.powOk, Dl.pySlice, Dl.fLen, Dl.fList, Dl.fTuple, Dl.mAppend, Dl.mReverse, Dl.mClear, Dl.mExtend, Dl.mInsert, Dl.mkTup, Dl.mkLst, Dl.pyIsN, Dl.pyNotN, Dl.fNeg, Dl.pyRev, Dl.gN, Dl.gsNil, Dl.gsCons, Dl.gT, Dl.srcL, Dl.srcT, Dl.srcS, Dl.srcQ, Dl.srcR1, Dl.srcR2, Dl.hide, Dl.restore, sizeLine_eq, Dl.lockS]
      · have hv : lexB a b = false := hv
        simp -dsimp -implicitDefEqProofs [Dl.vI, Dl.vB, Dl.vS, Dl.run2, Dl.run1, Dl.deref, Dl.Slot.data?, Dl.useO, Dl.useAll, Dl.boolOf, Dl.putO, Dl.free, Dl.outO, Dl.withAll, Dl.runN, Dl.derefs, Dl.mutO, Dl.isLst, Dl.isDct, Dl.putI, Dl.putD, Dl.setI, Dl.augO, Dl.getI, Dl.slotOf, Dl.slotsOf, Dl.lents, Dl.takeB, Dl.backS, Dl.useSel, Dl.back, Dl.gd, Dl.pyIx, atI, ixN, Dl.pyGet, Dl.pyMul, Dl.pyAdd, Dl.pyEq, Dl.pyNe, Dl.mulOk, Dl.powOk, Dl.pySlice, Dl.fLen, Dl.fList, Dl.fTuple, Dl.mAppend, Dl.mReverse, Dl.mClear, Dl.mExtend, Dl.mInsert, Dl.mkTup, Dl.mkLst, Dl.pyIsN, Dl.pyNotN, Dl.fNeg, Dl.pyRev, Dl.gN, Dl.gsNil, Dl.gsCons, Dl.gT, Dl.srcL, Dl.srcT, Dl.srcS, Dl.srcQ, Dl.srcR1, Dl.srcR2, Dl.hide, Dl.restore, sizeLine_eq, Dl.lockS, hv]
    · rw [if_pos h]
      simp -dsimp -implicitDefEqProofs [Dl.vI, Dl.vB, Dl.vS, Dl.run2, Dl.run1, Dl.deref, Dl.Slot.data?, Dl.useO, Dl.useAll, Dl.boolOf, Dl.putO, Dl.free, Dl.outO, Dl.withAll, Dl.runN, Dl.derefs, Dl.mutO, Dl.isLst, Dl.isDct, Dl.putI, Dl.putD, Dl.setI, Dl.augO, Dl.getI, Dl.slotOf, Dl.slotsOf, Dl.lents, Dl.takeB, Dl.backS, Dl.useSel, Dl.back, Dl.gd, Dl.pyIx, atI, ixN, Dl.pyGet, Dl.pyMul, Dl.pyAdd, Dl.pyEq, Dl.pyNe, Dl.mulOk, Dl.powOk, Dl.pySlice, Dl.fList, Dl.fTuple, Dl.mAppend, Dl.mReverse, Dl.mClear, Dl.mExtend, Dl.mInsert, Dl.mkTup, Dl.mkLst, Dl.pyIsN, Dl.pyNotN, Dl.fNeg, Dl.pyRev, Dl.gN, Dl.gsNil, Dl.gsCons, Dl.gT, Dl.srcL, Dl.srcT, Dl.srcS, Dl.srcQ, Dl.srcR1, Dl.srcR2, Dl.hide, Dl.restore, sizeLine_eq, Dl.lockS, e1, e2, show ¬ (a.length : Int) = (b.length : Int) by omega]
  obtain ⟨o, ρ, e, rfl, rfl⟩ := wp_out this
  exact e
end Dl

set_option maxRecDepth 100000
set_option maxHeartbeats 400000
namespace Dl
open PySem PySem.Spec L2
set_option autoImplicit false
theorem cutD_pre {α : Type} (xs : List α) {j : Int} (h : 0 ≤ j) : cutD xs none (some j) = xs.take j.toNat := by
  unfold cutD HT.sIx
  dsimp only
  rw [if_neg (by omega)]
  simp only [List.drop_zero, Nat.sub_zero]
  rw [Nat.min_comm, ← List.take_take]
  exact List.take_of_length_le (by rw [List.length_take]; omega)
theorem cutD_suf {α : Type} (xs : List α) {j : Int} (h : 0 ≤ j) : cutD xs (some j) none = xs.drop j.toNat := by
  unfold cutD HT.sIx
  dsimp only
  rw [if_neg (by omega)]
  by_cases q : j.toNat ≤ xs.length
  · rw [Nat.min_eq_left q]
    exact List.take_of_length_le (by rw [List.length_drop]; omega)
  · rw [Nat.min_eq_right (by omega), List.drop_length, List.drop_of_length_le (by omega)]
    simp
theorem before_trans {a b c : Li} (h1 : before a b = true) (h2 : before b c = true) : before a c = true := by
  obtain ⟨p1, q1⟩ := before_iff.mp h1
  obtain ⟨p2, q2⟩ := before_iff.mp h2
  refine before_iff.mpr ⟨le_trans a b c p1 p2, fun z => ?_⟩
  subst z
  exact q1 (le_anti p1 p2)
/-- c set into a row at its place -/
theorem insert_ss {row : List Li} {c : Li} {k : Nat} (h : SS row) (h1 : ∀ y ∈ row.drop k, before c y = true) (h2 : ∀ x ∈ row.take k, before x c = true) : SS (row.take k ++ [c] ++ row.drop k) := by
  have hp : SS (row.take k ++ row.drop k) := by rw [List.take_append_drop]; exact h
  obtain ⟨a, b, x⟩ := List.pairwise_append.mp hp
  refine List.pairwise_append.mpr ⟨List.pairwise_append.mpr ⟨a, List.pairwise_singleton .., fun x hx y hy => ?_⟩, b, fun x' hx y hy => ?_⟩
  · rw [List.mem_singleton.mp hy]; exact h2 x hx
  · rcases List.mem_append.mp hx with hx | hx
    · exact x x' hx y hy
    · rw [List.mem_singleton.mp hx]; exact h1 y hy
theorem insert_mem {row : List Li} {c x : Li} (k : Nat) : x ∈ row.take k ++ [c] ++ row.drop k ↔ x ∈ row ∨ x = c := by
  have e : x ∈ row ↔ x ∈ row.take k ∨ x ∈ row.drop k := by rw [← List.mem_append, List.take_append_drop]
  rw [List.mem_append, List.mem_append, List.mem_singleton, e]
  constructor
  · rintro ((h | h) | h)
    · exact .inl (.inl h)
    · exact .inr h
    · exact .inl (.inr h)
  · rintro ((h | h) | h)
    · exact .inl (.inl h)
    · exact .inr h
    · exact .inl (.inr h)
/-- where c goes -/
theorem place_low {row : List Li} {c : Li} {k : Nat} {l : Li} (h : SS row) (hl : row[k]? = some l) (hb : before c l = false) (hne : l ≠ c) : ∀ x ∈ row.take (k + 1), before x c = true := fun x hx => by
  have hlc : before l c = true := before_iff.mpr ⟨by unfold le; rw [hb]; rfl, hne⟩
  obtain ⟨i, hi⟩ := List.mem_iff_getElem?.mp hx
  rw [List.getElem?_take] at hi
  split at hi
  · rename_i hik
    by_cases e : i = k
    · subst e
      rw [hl] at hi
      cases hi
      exact hlc
    · obtain ⟨l1, e1⟩ := List.getElem?_eq_some_iff.mp hi
      obtain ⟨l2, e2⟩ := List.getElem?_eq_some_iff.mp hl
      have := List.pairwise_iff_getElem.mp h i k l1 l2 (by omega)
      rw [e1, e2] at this
      exact before_trans this hlc
  · cases hi
end Dl

set_option maxRecDepth 100000
set_option maxHeartbeats 400000
namespace Dl
open PySem PySem.Spec L2
set_option autoImplicit false
def mClausesOver : ME := fnSem 1 6
     (sSeq (sSet 1 (eUse mkLst (aCons (eUse mkTup aNil) aNil)))
     (sSeq (sFor (iLst (eBlt fSorted (aCons (eVar 0) aNil))) (gN 2)
     (sSeq (sSet 3 (eBlt fList (aCons (eVar 1) aNil)))
     (sSeq (sFor (iTpl (eUse mkTup (aCons (eC (.bool false)) (aCons (eC (.bool true)) aNil)))) (gN 4)
     (sSet 3 (eOp2 pyAdd (eVar 3) (lkd 1 (eComp [5] (iLst (eVar 1)) (gN 5) tTrue (eOp2 pyAdd (eVar 5) (eUse mkTup (aCons (eUse mkTup (aCons (eVar 2) (aCons (eVar 4) aNil))) aNil))))))))
     (sSet 1 (eVar 3)))))
     (sRet (eCall 1 [true] mClausesInOrder (aCons (eVar 1) aNil)))))
def mShortestOf : ME := fnSem 1 5
     (sSeq (sSet 1 (eCall 1 [true] mRowsUnder (aCons (eVar 0) aNil)))
     (sSeq (sSet 2 (eUse mkLst aNil))
     (sSeq (sFor (iSeq (eCall 1 [true] mClausesOver (aCons (eCall 1 [true] mNamesOf (aCons (eVar 0) aNil)) aNil))) (gN 3)
     (sIf (tAndM (tNotM (tVal (eBlt fAny (aCons (lkd 2 (eComp [4] (iLst (eVar 2)) (gN 4) tTrue (eCall 2 [true, true] mIsClausePart (aCons (eVar 4) (aCons (eVar 3) aNil))))) aNil)))) (tVal (eCall 2 [true, true] mStandsIn (aCons (eVar 1) (aCons (eVar 3) aNil)))))
     (sExp (eMut 2 mAppend (aCons (eVar 3) aNil)))
     sNil))
     (sRet (eVar 2)))))
def mLawAllClauses : ME := fnSem 1 6
     (sSeq (sSet 1 (eUse mkLst (aCons (eUse mkTup aNil) aNil)))
     (sSeq (lkd 0 (sFor (iSeq (eVar 0)) (gN 2)
     (sSeq (sSet 3 (eBlt fList (aCons (eVar 1) aNil)))
     (sSeq (sFor (iTpl (eUse mkTup (aCons (eC (.bool false)) (aCons (eC (.bool true)) aNil)))) (gN 4)
     (sSet 3 (eOp2 pyAdd (eVar 3) (lkd 1 (eComp [5] (iLst (eVar 1)) (gN 5) tTrue (eOp2 pyAdd (eVar 5) (eUse mkTup (aCons (eUse mkTup (aCons (eVar 2) (aCons (eVar 4) aNil))) aNil))))))))
     (sSet 1 (eVar 3))))))
     (sRet (eVar 1))))
/-! ### all clauses over names -/
def addL (n : Str) (t : Bool) (c : Li) : Li := c ++ [(n, t)]
def extC (rows : List Li) (n : Str) : List Li := rows ++ rows.map (addL n false) ++ rows.map (addL n true)
def overC (names : List Str) : List Li := names.foldl extC [[]]
theorem extC_len (rows : List Li) (n : Str) : (extC rows n).length = 3 * rows.length := by
  unfold extC
  simp
  omega
theorem overC_snoc (names : List Str) (n : Str) : overC (names ++ [n]) = extC (overC names) n := by
  unfold overC
  rw [List.foldl_append]
  rfl
theorem overC_len (names : List Str) : (overC names).length = 3 ^ names.length := by
  have key : ∀ (names : List Str) (rows : List Li), (names.foldl extC rows).length = 3 ^ names.length * rows.length := by
    intro names
    induction names with
    | nil => intro rows; simp
    | cons n names ih =>
      intro rows
      rw [List.foldl_cons, ih, extC_len, List.length_cons, Nat.pow_succ, Nat.mul_assoc]
  unfold overC
  rw [key]
  simp
theorem overC_mem (names : List Str) {c : Li} : c ∈ overC names ↔ (c.map (·.1)).Sublist names := by
  have key : ∀ k, k ≤ names.length → ∀ c : Li, c ∈ overC (names.take k) ↔ (c.map (·.1)).Sublist (names.take k) := by
    intro k
    induction k with
    | zero =>
      intro _ c
      show c ∈ ([[]] : List Li) ↔ _
      simp
    | succ k ih =>
      intro hk c
      have hg : names[k]? = some names[k] := List.getElem?_eq_getElem (by omega)
      have e : names.take (k + 1) = names.take k ++ [names[k]] := by rw [List.take_add_one, hg]; rfl
      rw [e, overC_snoc]
      unfold extC
      rw [List.mem_append, List.mem_append, List.mem_map, List.mem_map, ih (by omega)]
      constructor
      · rintro ((h | ⟨b, h, rfl⟩) | ⟨b, h, rfl⟩)
        · exact h.trans (List.sublist_append_left _ _)
        · unfold addL
          rw [List.map_append]
          exact ((ih (by omega) b).mp h).append (List.Sublist.refl _)
        · unfold addL
          rw [List.map_append]
          exact ((ih (by omega) b).mp h).append (List.Sublist.refl _)
      · intro h
        obtain ⟨l1, l2, el, h1, h2⟩ := List.sublist_append_iff.mp h
        have h3 : l2 = [] ∨ l2 = [names[k]] := by
          cases h2 with
          | cons _ h => exact .inl (List.eq_nil_of_sublist_nil h)
          | cons_cons _ h => rw [List.eq_nil_of_sublist_nil h]; exact .inr rfl
        rcases h3 with rfl | rfl
        · rw [List.append_nil] at el
          exact .inl (.inl (by rw [el]; exact h1))
        · obtain ⟨a, b, rfl, ea, eb⟩ := List.map_eq_append_iff.mp el
          obtain ⟨⟨n, t⟩, rfl, en⟩ : ∃ p : Str × Bool, b = [p] ∧ p.1 = names[k] := by
            cases b with
            | nil => cases eb
            | cons p b =>
              rw [List.map_cons] at eb
              injection eb with e1 e2
              exact ⟨p, by rw [List.map_eq_nil_iff.mp e2], e1⟩
          have en : n = names[k] := en
          subst en
          have hm := (ih (by omega) a).mpr (by rw [ea]; exact h1)
          cases t
          · exact .inl (.inr ⟨a, hm, rfl⟩)
          · exact .inr ⟨a, hm, rfl⟩
  have := key names.length (Nat.le_refl _) c
  rw [List.take_length] at this
  exact this
theorem overC_short {names : List Str} {c : Li} (h : c ∈ overC names) : c.length ≤ names.length := by
  have := ((overC_mem names).mp h).length_le
  rw [List.length_map] at this
  exact this
theorem over_comp {p0 s1 s3 : Slot} {n : Str} {t : Bool} {rows : List Li} (hl : rows.length ≤ 100000) (hr : ∀ c ∈ rows, c.length ≤ 100) {QO : Opd → Rho → Prop} {X : Ex → Rho → Prop}
    (h : QO (.new (.list ((rows.map (addL n t)).map fT))) [p0, s1, .dat (.str n), s3, .dat (.bool t), .un]) :
    wp (compL [5] (gN 5) tTrue (eOp2 pyAdd (eVar 5) (eUse mkTup (aCons (eUse mkTup (aCons (eVar 2) (aCons (eVar 4) aNil))) aNil))) (rows.map fT) [] [p0, s1, .dat (.str n), s3, .dat (.bool t), .un]) QO X := by
  obtain ⟨I, eI⟩ : ∃ I : Nat → List D → Rho → Prop, I = fun i out ρ => out = ((rows.take i).map (addL n t)).map fT ∧ ρ = [p0, s1, .dat (.str n), s3, .dat (.bool t), .un] := ⟨_, rfl⟩
  refine wp_cmp I (by rw [eI]; exact ⟨rfl, rfl⟩) (fun i d out ρ hd hI => ?_) fun out ρ hI => ?_
  · rw [eI] at hI
    obtain ⟨rfl, rfl⟩ := hI
    rw [List.getElem?_map, Option.map_eq_some_iff] at hd
    obtain ⟨c, hc, rfl⟩ := hd
    have hcl := hr c (List.mem_of_getElem? hc)
    have hil := (List.getElem?_eq_some_iff.mp hc).1
    have hn : (rows.take (i + 1)).map (addL n t) = (rows.take i).map (addL n t) ++ [addL n t c] := by rw [List.take_add_one, hc, List.map_append]; rfl
    have hfl : ((rows.take i).map (addL n t)).length < 16777216 := by rw [List.length_map, List.length_take]; omega
    have ea : fT c = .tuple (c.map liD) := rfl
    refine ⟨[p0, s1, .dat (.str n), s3, .dat (.bool t), .dat (fT c)], rfl, ?_⟩
    generalize (rows.take i).map (addL n t) = out at *
    simp -dsimp -implicitDefEqProofs [Dl.vI, Dl.vB, Dl.vS, Dl.run2, Dl.run1, Dl.deref, Dl.Slot.data?, Dl.useO, Dl.useAll, Dl.boolOf, Dl.putO, Dl.free, Dl.outO, Dl.withAll, Dl.runN, Dl.derefs, Dl.mutO, Dl.isLst, Dl.isDct, Dl.putI, Dl.putD, Dl.setI, Dl.augO, Dl.getI, Dl.slotOf, Dl.slotsOf, Dl.lents, Dl.takeB, Dl.backS, Dl.useSel, Dl.back, Dl.gd, Dl.pyIx, atI, ixN, Dl.pyGet, Dl.pyMul, Dl.pyAdd, Dl.pyEq, Dl.pyNe, Dl.mulOk, Dl.powOk, Dl.pySlice, Dl.fLen, Dl.fList, Dl.fTuple, Dl.mAppend, Dl.mReverse, Dl.mClear, Dl.mExtend, Dl.mInsert, Dl.mkTup, Dl.mkLst, Dl.pyIsN, Dl.pyNotN, Dl.fNeg, Dl.pyRev, Dl.gN, Dl.gsNil, Dl.gsCons, Dl.gT, Dl.srcL, Dl.srcT, Dl.srcS, Dl.srcQ, Dl.srcR1, Dl.srcR2, Dl.hide, Dl.restore, sizeLine_eq, Dl.lockS, ea, hfl, show c.length ≤ 16777215 by omega]
    refine ⟨_, _, ⟨rfl, rfl⟩, ?_⟩
    rw [eI]
    refine ⟨?_, rfl⟩
    rw [hn, List.map_append]
    unfold addL
    simp [fT, liD]
  · rw [eI] at hI
    obtain ⟨rfl, rfl⟩ := hI
    rw [List.length_map, List.take_length]
    exact h
theorem over_loop {p0 s1 s2 s3 s4 : Slot} {names : List Str} {QF : Flow → Rho → Prop} {X : Ex → Rho → Prop} (hn : names.length ≤ 8) (e1 : s1 = .own (.list ([[]].map fT)) ∨ s1 = .dat (.list ([[]].map fT))) (f2 : frS s2 = true) (f3 : frS s3 = true) (f4 : frS s4 = true)
    (h : ∀ s1 s2 s3 s4, (s1 = .own (.list ((overC names).map fT)) ∨ s1 = .dat (.list ((overC names).map fT))) → QF .nx [p0, s1, s2, s3, s4, .un]) :
    wp (sLoop (gN 2) (sSeq (sSet 3 (eBlt fList (aCons (eVar 1) aNil)))
     (sSeq (sFor (iTpl (eUse mkTup (aCons (eC (.bool false)) (aCons (eC (.bool true)) aNil)))) (gN 4)
     (sSet 3 (eOp2 pyAdd (eVar 3) (lkd 1 (eComp [5] (iLst (eVar 1)) (gN 5) tTrue (eOp2 pyAdd (eVar 5) (eUse mkTup (aCons (eUse mkTup (aCons (eVar 2) (aCons (eVar 4) aNil))) aNil))))))))
     (sSet 1 (eVar 3)))) (names.map .str) [p0, s1, s2, s3, s4, .un]) QF X := by
  obtain ⟨I, eI⟩ : ∃ I : Nat → Rho → Prop, I = fun i ρ => ∃ s1 s2 s3 s4, (s1 = .own (.list ((overC (names.take i)).map fT)) ∨ s1 = .dat (.list ((overC (names.take i)).map fT))) ∧ (frS s2 = true ∧ frS s3 = true ∧ frS s4 = true) ∧ ρ = [p0, s1, s2, s3, s4, .un] := ⟨_, rfl⟩
  refine wp_for I (by rw [eI]; exact ⟨s1, s2, s3, s4, e1, ⟨f2, f3, f4⟩, rfl⟩) (fun i x ρ hx hI => ?_) fun ρ hI => ?_
  · rw [eI] at hI
    obtain ⟨s1, s2, s3, s4, e1, ⟨f2, f3, f4⟩, rfl⟩ := hI
    simp only [frS, free, List.getElem?_cons_zero] at f2 f3 f4
    rw [List.getElem?_map, Option.map_eq_some_iff] at hx
    obtain ⟨n, hn2, rfl⟩ := hx
    have hil := (List.getElem?_eq_some_iff.mp hn2).1
    have het : overC (names.take (i + 1)) = extC (overC (names.take i)) n := by
      rw [List.take_add_one, hn2]
      exact overC_snoc _ n
    have hlen : (overC (names.take i)).length ≤ 6561 := by
      rw [overC_len, List.length_take]
      exact Nat.le_trans (Nat.pow_le_pow_right (by decide) (show min i names.length ≤ 8 by omega)) (by decide)
    have hsh : ∀ c ∈ overC (names.take i), c.length ≤ 100 := fun c hc => by
      have := overC_short hc
      rw [List.length_take] at this
      omega
    generalize overC (names.take i) = rows at *
    have fin : ∀ s4, frS s4 = true → I (i + 1) [p0, .dat (.list ((extC rows n).map fT)), .dat (.str n), .dat (.list ((extC rows n).map fT)), s4, .un] := fun s4 f4 => by
      rw [eI]
      exact ⟨_, _, _, _, .inr (by rw [het]), ⟨rfl, rfl, f4⟩, rfl⟩
    have ex : (extC rows n).map fT = rows.map fT ++ ((rows.map (addL n false)).map fT ++ (rows.map (addL n true)).map fT) := by
      unfold extC
      rw [List.map_append, List.map_append, List.append_assoc]
    rw [ex] at fin
    have lA : ((rows.map (addL n false)).map fT).length ≤ 6561 := by simpa using hlen
    have lB : ((rows.map (addL n true)).map fT).length ≤ 6561 := by simpa using hlen
    have cA := fun s1 => @over_comp p0 s1 (.own (.list (rows.map fT))) n false rows (by omega) hsh
    have cB := fun s1 => @over_comp p0 s1 (.own (.list (rows.map fT ++ (rows.map (addL n false)).map fT))) n true rows (by omega) hsh
    generalize (rows.map (addL n false)).map fT = A at *
    generalize (rows.map (addL n true)).map fT = B at *
    refine ⟨[p0, s1, .dat (.str n), s3, s4, .un], ?_, ?_⟩
    · simp -dsimp -implicitDefEqProofs [Dl.vI, Dl.vB, Dl.vS, Dl.run2, Dl.run1, Dl.deref, Dl.Slot.data?, Dl.useO, Dl.useAll, Dl.boolOf, Dl.putO, Dl.free, Dl.outO, Dl.withAll, Dl.runN, Dl.derefs, Dl.mutO, Dl.isLst, Dl.isDct, Dl.putI, Dl.putD, Dl.setI, Dl.augO, Dl.getI, Dl.slotOf, Dl.slotsOf, Dl.lents, Dl.takeB, Dl.backS, Dl.useSel, Dl.back, Dl.gd, Dl.pyIx, atI, ixN, Dl.pyGet, Dl.pyMul, Dl.pyAdd, Dl.pyEq, Dl.pyNe, Dl.mulOk, Dl.powOk, Dl.pySlice, Dl.fLen, Dl.fList, Dl.fTuple, Dl.mAppend, Dl.mReverse, Dl.mClear, Dl.mExtend, Dl.mInsert, Dl.mkTup, Dl.mkLst, Dl.pyIsN, Dl.pyNotN, Dl.fNeg, Dl.pyRev, Dl.gN, Dl.gsNil, Dl.gsCons, Dl.gT, Dl.srcL, Dl.srcT, Dl.srcS, Dl.srcQ, Dl.srcR1, Dl.srcR2, Dl.hide, Dl.restore, sizeLine_eq, Dl.lockS, f2]
    rcases e1 with rfl | rfl
    all_goals
      simp -dsimp -implicitDefEqProofs [Dl.vI, Dl.vB, Dl.vS, Dl.run2, Dl.run1, Dl.deref, Dl.Slot.data?, Dl.useO, Dl.useAll, Dl.boolOf, Dl.putO, Dl.free, Dl.outO, Dl.withAll, Dl.runN, Dl.derefs, Dl.mutO, Dl.isLst, Dl.isDct, Dl.putI, Dl.putD, Dl.setI, Dl.augO, Dl.getI, Dl.slotOf, Dl.slotsOf, Dl.lents, Dl.takeB, Dl.backS, Dl.useSel, Dl.back, Dl.gd, Dl.pyIx, atI, ixN, Dl.pyGet, Dl.pyMul, Dl.pyAdd, Dl.pyEq, Dl.pyNe, Dl.mulOk, Dl.powOk, Dl.pySlice, Dl.fLen, Dl.fList, Dl.fTuple, Dl.mAppend, Dl.mReverse, Dl.mClear, Dl.mExtend, Dl.mInsert, Dl.mkTup, Dl.mkLst, Dl.pyIsN, Dl.pyNotN, Dl.fNeg, Dl.pyRev, Dl.gN, Dl.gsNil, Dl.gsCons, Dl.gT, Dl.srcL, Dl.srcT, Dl.srcS, Dl.srcQ, Dl.srcR1, Dl.srcR2, Dl.hide, Dl.restore, sizeLine_eq, Dl.lockS, f3, f4, show rows.length ≤ 16777216 by omega]
      refine cA _ ?_
      simp -dsimp -implicitDefEqProofs [Dl.vI, Dl.vB, Dl.vS, Dl.run2, Dl.run1, Dl.deref, Dl.Slot.data?, Dl.useO, Dl.useAll, Dl.boolOf, Dl.putO, Dl.free, Dl.outO, Dl.withAll, Dl.runN, Dl.derefs, Dl.mutO, Dl.isLst, Dl.isDct, Dl.putI, Dl.putD, Dl.setI, Dl.augO, Dl.getI, Dl.slotOf, Dl.slotsOf, Dl.lents, Dl.takeB, Dl.backS, Dl.useSel, Dl.back, Dl.gd, Dl.pyIx, atI, ixN, Dl.pyGet, Dl.pyMul, Dl.pyAdd, Dl.pyEq, Dl.pyNe, Dl.mulOk, Dl.powOk, Dl.pySlice, Dl.fLen, Dl.fList, Dl.fTuple, Dl.mAppend, Dl.mReverse, Dl.mClear, Dl.mExtend, Dl.mInsert, Dl.mkTup, Dl.mkLst, Dl.pyIsN, Dl.pyNotN, Dl.fNeg, Dl.pyRev, Dl.gN, Dl.gsNil, Dl.gsCons, Dl.gT, Dl.srcL, Dl.srcT, Dl.srcS, Dl.srcQ, Dl.srcR1, Dl.srcR2, Dl.hide, Dl.restore, sizeLine_eq, Dl.lockS, show rows.length + A.length ≤ 16777216 by omega]
      refine cB _ ?_
      simp -dsimp -implicitDefEqProofs [Dl.vI, Dl.vB, Dl.vS, Dl.run2, Dl.run1, Dl.deref, Dl.Slot.data?, Dl.useO, Dl.useAll, Dl.boolOf, Dl.putO, Dl.free, Dl.outO, Dl.withAll, Dl.runN, Dl.derefs, Dl.mutO, Dl.isLst, Dl.isDct, Dl.putI, Dl.putD, Dl.setI, Dl.augO, Dl.getI, Dl.slotOf, Dl.slotsOf, Dl.lents, Dl.takeB, Dl.backS, Dl.useSel, Dl.back, Dl.gd, Dl.pyIx, atI, ixN, Dl.pyGet, Dl.pyMul, Dl.pyAdd, Dl.pyEq, Dl.pyNe, Dl.mulOk, Dl.powOk, Dl.pySlice, Dl.fLen, Dl.fList, Dl.fTuple, Dl.mAppend, Dl.mReverse, Dl.mClear, Dl.mExtend, Dl.mInsert, Dl.mkTup, Dl.mkLst, Dl.pyIsN, Dl.pyNotN, Dl.fNeg, Dl.pyRev, Dl.gN, Dl.gsNil, Dl.gsCons, Dl.gT, Dl.srcL, Dl.srcT, Dl.srcS, Dl.srcQ, Dl.srcR1, Dl.srcR2, Dl.hide, Dl.restore, sizeLine_eq, Dl.lockS, show rows.length + (A.length + B.length) ≤ 16777216 by omega, show rows.length + A.length + B.length ≤ 16777216 by omega]
      exact fin (.dat (.bool true)) rfl
  · rw [eI] at hI
    obtain ⟨s1, s2, s3, s4, e1, _, rfl⟩ := hI
    rw [List.length_map, List.take_length] at e1
    exact h s1 s2 s3 s4 e1
end Dl

set_option maxRecDepth 100000
set_option maxHeartbeats 400000
namespace Dl
open PySem PySem.Spec L2
set_option autoImplicit false
/-- a list of clauses as the functions tell it: made or known -/
theorem clauses_over_eq {names : List Str} (hn : names.length ≤ 8) (hnm : ∀ s ∈ names, Nm s) {Q : Opd → Rho → Prop} {X : Ex → Rho → Prop}
    (h : Q (.new (.list ((inOrder (overC (sortStr names))).map fT))) [.par (.list (names.map .str))]) : wp (mClausesOver [.par (.list (names.map .str))]) Q X := by
  unfold mClausesOver
  have e0 : ([PyData.tuple []] : List D) = [[]].map fT := rfl
  have hl : (sortStr names).length ≤ 8 := by rw [sort_len]; exact hn
  have ok : ClOk (overC (sortStr names)) := by
    refine ⟨fun c hc p hp => ?_, fun c hc => ?_, ?_⟩
    · have := ((overC_mem _).mp hc).subset (List.mem_map.mpr ⟨p, hp, rfl⟩)
      exact hnm _ (List.mem_mergeSort.mp this)
    · have := overC_short hc
      omega
    · rw [overC_len]
      exact Nat.le_trans (Nat.pow_le_pow_right (by decide) hl) (by decide)
  simp -dsimp -implicitDefEqProofs [Dl.vI, Dl.vB, Dl.vS, Dl.run2, Dl.run1, Dl.deref, Dl.Slot.data?, Dl.useO, Dl.useAll, Dl.boolOf, Dl.putO, Dl.free, Dl.outO, Dl.withAll, Dl.runN, Dl.derefs, Dl.mutO, Dl.isLst, Dl.isDct, Dl.putI, Dl.putD, Dl.setI, Dl.augO, Dl.getI, Dl.slotOf, Dl.slotsOf, Dl.lents, Dl.takeB, Dl.backS, Dl.useSel, Dl.back, Dl.gd, Dl.pyIx, atI, ixN, Dl.pyGet, Dl.pyMul, Dl.pyAdd, Dl.pyEq, Dl.pyNe, Dl.mulOk, Dl.powOk, Dl.pySlice, Dl.fLen, Dl.fList, Dl.fTuple, Dl.mAppend, Dl.mReverse, Dl.mClear, Dl.mExtend, Dl.mInsert, Dl.mkTup, Dl.mkLst, Dl.pyIsN, Dl.pyNotN, Dl.fNeg, Dl.pyRev, Dl.gN, Dl.gsNil, Dl.gsCons, Dl.gT, Dl.srcL, Dl.srcT, Dl.srcS, Dl.srcQ, Dl.srcR1, Dl.srcR2, Dl.hide, Dl.restore, sizeLine_eq, Dl.lockS, sorted_strs (ss := names) (by omega)]
  refine over_loop hl (.inl rfl) rfl rfl rfl fun s1 s2 s3 s4 e1 => ?_
  rcases e1 with rfl | rfl <;> simp -dsimp -implicitDefEqProofs [Dl.vI, Dl.vB, Dl.vS, Dl.run2, Dl.run1, Dl.deref, Dl.Slot.data?, Dl.useO, Dl.useAll, Dl.boolOf, Dl.putO, Dl.free, Dl.outO, Dl.withAll, Dl.runN, Dl.derefs, Dl.mutO, Dl.isLst, Dl.isDct, Dl.putI, Dl.putD, Dl.setI, Dl.augO, Dl.getI, Dl.slotOf, Dl.slotsOf, Dl.lents, Dl.takeB, Dl.backS, Dl.useSel, Dl.back, Dl.gd, Dl.pyIx, atI, ixN, Dl.pyGet, Dl.pyMul, Dl.pyAdd, Dl.pyEq, Dl.pyNe, Dl.mulOk, Dl.powOk, Dl.pySlice, Dl.fLen, Dl.fList, Dl.fTuple, Dl.mAppend, Dl.mReverse, Dl.mClear, Dl.mExtend, Dl.mInsert, Dl.mkTup, Dl.mkLst, Dl.pyIsN, Dl.pyNotN, Dl.fNeg, Dl.pyRev, Dl.gN, Dl.gsNil, Dl.gsCons, Dl.gT, Dl.srcL, Dl.srcT, Dl.srcS, Dl.srcQ, Dl.srcR1, Dl.srcR2, Dl.hide, Dl.restore, sizeLine_eq, Dl.lockS]
  · refine in_order_eqS (.inl rfl) ok ?_
    simp -dsimp -implicitDefEqProofs [Dl.vI, Dl.vB, Dl.vS, Dl.run2, Dl.run1, Dl.deref, Dl.Slot.data?, Dl.useO, Dl.useAll, Dl.boolOf, Dl.putO, Dl.free, Dl.outO, Dl.withAll, Dl.runN, Dl.derefs, Dl.mutO, Dl.isLst, Dl.isDct, Dl.putI, Dl.putD, Dl.setI, Dl.augO, Dl.getI, Dl.slotOf, Dl.slotsOf, Dl.lents, Dl.takeB, Dl.backS, Dl.useSel, Dl.back, Dl.gd, Dl.pyIx, atI, ixN, Dl.pyGet, Dl.pyMul, Dl.pyAdd, Dl.pyEq, Dl.pyNe, Dl.mulOk, Dl.powOk, Dl.pySlice, Dl.fLen, Dl.fList, Dl.fTuple, Dl.mAppend, Dl.mReverse, Dl.mClear, Dl.mExtend, Dl.mInsert, Dl.mkTup, Dl.mkLst, Dl.pyIsN, Dl.pyNotN, Dl.fNeg, Dl.pyRev, Dl.gN, Dl.gsNil, Dl.gsCons, Dl.gT, Dl.srcL, Dl.srcT, Dl.srcS, Dl.srcQ, Dl.srcR1, Dl.srcR2, Dl.hide, Dl.restore, sizeLine_eq, Dl.lockS]
    exact h
  · refine in_order_eqS (.inr rfl) ok ?_
    simp -dsimp -implicitDefEqProofs [Dl.vI, Dl.vB, Dl.vS, Dl.run2, Dl.run1, Dl.deref, Dl.Slot.data?, Dl.useO, Dl.useAll, Dl.boolOf, Dl.putO, Dl.free, Dl.outO, Dl.withAll, Dl.runN, Dl.derefs, Dl.mutO, Dl.isLst, Dl.isDct, Dl.putI, Dl.putD, Dl.setI, Dl.augO, Dl.getI, Dl.slotOf, Dl.slotsOf, Dl.lents, Dl.takeB, Dl.backS, Dl.useSel, Dl.back, Dl.gd, Dl.pyIx, atI, ixN, Dl.pyGet, Dl.pyMul, Dl.pyAdd, Dl.pyEq, Dl.pyNe, Dl.mulOk, Dl.powOk, Dl.pySlice, Dl.fLen, Dl.fList, Dl.fTuple, Dl.mAppend, Dl.mReverse, Dl.mClear, Dl.mExtend, Dl.mInsert, Dl.mkTup, Dl.mkLst, Dl.pyIsN, Dl.pyNotN, Dl.fNeg, Dl.pyRev, Dl.gN, Dl.gsNil, Dl.gsCons, Dl.gT, Dl.srcL, Dl.srcT, Dl.srcS, Dl.srcQ, Dl.srcR1, Dl.srcR2, Dl.hide, Dl.restore, sizeLine_eq, Dl.lockS]
    exact h
theorem law_all_clauses_eq {names : List Str} (hn : names.length ≤ 8) {Q : Opd → Rho → Prop} {X : Ex → Rho → Prop}
    (h : ∀ o, (o = .new (.list ((overC names).map fT)) ∨ o = .val (.list ((overC names).map fT))) → Q o [.par (.list (names.map .str))]) : wp (mLawAllClauses [.par (.list (names.map .str))]) Q X := by
  unfold mLawAllClauses
  have e0 : ([PyData.tuple []] : List D) = [[]].map fT := rfl
  simp -dsimp -implicitDefEqProofs [Dl.vI, Dl.vB, Dl.vS, Dl.run2, Dl.run1, Dl.deref, Dl.Slot.data?, Dl.useO, Dl.useAll, Dl.boolOf, Dl.putO, Dl.free, Dl.outO, Dl.withAll, Dl.runN, Dl.derefs, Dl.mutO, Dl.isLst, Dl.isDct, Dl.putI, Dl.putD, Dl.setI, Dl.augO, Dl.getI, Dl.slotOf, Dl.slotsOf, Dl.lents, Dl.takeB, Dl.backS, Dl.useSel, Dl.back, Dl.gd, Dl.pyIx, atI, ixN, Dl.pyGet, Dl.pyMul, Dl.pyAdd, Dl.pyEq, Dl.pyNe, Dl.mulOk, Dl.powOk, Dl.pySlice, Dl.fLen, Dl.fList, Dl.fTuple, Dl.mAppend, Dl.mReverse, Dl.mClear, Dl.mExtend, Dl.mInsert, Dl.mkTup, Dl.mkLst, Dl.pyIsN, Dl.pyNotN, Dl.fNeg, Dl.pyRev, Dl.gN, Dl.gsNil, Dl.gsCons, Dl.gT, Dl.srcL, Dl.srcT, Dl.srcS, Dl.srcQ, Dl.srcR1, Dl.srcR2, Dl.hide, Dl.restore, sizeLine_eq, Dl.lockS]
  refine over_loop hn (.inl rfl) rfl rfl rfl fun s1 s2 s3 s4 e1 => ?_
  rcases e1 with rfl | rfl <;> simp -dsimp -implicitDefEqProofs [Dl.vI, Dl.vB, Dl.vS, Dl.run2, Dl.run1, Dl.deref, Dl.Slot.data?, Dl.useO, Dl.useAll, Dl.boolOf, Dl.putO, Dl.free, Dl.outO, Dl.withAll, Dl.runN, Dl.derefs, Dl.mutO, Dl.isLst, Dl.isDct, Dl.putI, Dl.putD, Dl.setI, Dl.augO, Dl.getI, Dl.slotOf, Dl.slotsOf, Dl.lents, Dl.takeB, Dl.backS, Dl.useSel, Dl.back, Dl.gd, Dl.pyIx, atI, ixN, Dl.pyGet, Dl.pyMul, Dl.pyAdd, Dl.pyEq, Dl.pyNe, Dl.mulOk, Dl.powOk, Dl.pySlice, Dl.fLen, Dl.fList, Dl.fTuple, Dl.mAppend, Dl.mReverse, Dl.mClear, Dl.mExtend, Dl.mInsert, Dl.mkTup, Dl.mkLst, Dl.pyIsN, Dl.pyNotN, Dl.fNeg, Dl.pyRev, Dl.gN, Dl.gsNil, Dl.gsCons, Dl.gT, Dl.srcL, Dl.srcT, Dl.srcS, Dl.srcQ, Dl.srcR1, Dl.srcR2, Dl.hide, Dl.restore, sizeLine_eq, Dl.lockS]
  · exact h _ (.inl rfl)
  · exact h _ (.inr rfl)
/-! ### the shortest clauses -/
def sits (rows : List Li) (c : Li) : Bool := rows.all fun f => met f c
def stepS (rows : List Li) (told : List Li) (c : Li) : List Li := if (told.any fun a => part a c) = false ∧ sits rows c = true then told ++ [c] else told
def shortOf (rows : List Li) (names : List Str) : List Li := (inOrder (overC names)).foldl (stepS rows) []
def shortest (r : Ru) : List Li := shortOf (under r) (canon r.names)
theorem stepS_len (rows told : List Li) (c : Li) : (stepS rows told c).length ≤ told.length + 1 := by
  unfold stepS
  split <;> simp
theorem part_comp {p0 p1 : Slot} {c : Li} {told : List Li} (hl : told.length ≤ 100000) (ht : ∀ a ∈ told, (∀ p ∈ a, Nm p.1) ∧ a.length ≤ 1000) (hc : ∀ p ∈ c, Nm p.1) {QO : Opd → Rho → Prop} {X : Ex → Rho → Prop}
    (h : QO (.new (.list ((told.map fun a => part a c).map .bool))) [p0, p1, .lck (.list (told.map fT)), .dat (fT c), .un]) :
    wp (compL [4] (gN 4) tTrue (eCall 2 [true, true] mIsClausePart (aCons (eVar 4) (aCons (eVar 3) aNil))) (told.map fT) [] [p0, p1, .lck (.list (told.map fT)), .dat (fT c), .un]) QO X := by
  generalize hL : Slot.lck (.list (told.map fT)) = s2 at *
  clear hL
  obtain ⟨I, eI⟩ : ∃ I : Nat → List D → Rho → Prop, I = fun i out ρ => out = ((told.take i).map fun a => part a c).map .bool ∧ ρ = [p0, p1, s2, .dat (fT c), .un] := ⟨_, rfl⟩
  refine wp_cmp I (by rw [eI]; exact ⟨rfl, rfl⟩) (fun i d out ρ hd hI => ?_) fun out ρ hI => ?_
  · rw [eI] at hI
    obtain ⟨rfl, rfl⟩ := hI
    rw [List.getElem?_map, Option.map_eq_some_iff] at hd
    obtain ⟨a, ha, rfl⟩ := hd
    obtain ⟨hn, hal⟩ := ht a (List.mem_of_getElem? ha)
    have hil := (List.getElem?_eq_some_iff.mp ha).1
    have hp := part_eq hn hc hal
    have ht : (told.take (i + 1)).map (fun a => part a c) = (told.take i).map (fun a => part a c) ++ [part a c] := by rw [List.take_add_one, ha, List.map_append]; rfl
    have hfl : ((told.take i).map fun a => part a c).length < 16777216 := by rw [List.length_map, List.length_take]; omega
    refine ⟨[p0, p1, s2, .dat (fT c), .dat (fT a)], rfl, ?_⟩
    generalize (told.take i).map (fun a => part a c) = out at *
    simp -dsimp -implicitDefEqProofs [Dl.vI, Dl.vB, Dl.vS, Dl.run2, Dl.run1, Dl.deref, Dl.Slot.data?, Dl.useO, Dl.useAll, Dl.boolOf, Dl.putO, Dl.free, Dl.outO, Dl.withAll, Dl.runN, Dl.derefs, Dl.mutO, Dl.isLst, Dl.isDct, Dl.putI, Dl.putD, Dl.setI, Dl.augO, Dl.getI, Dl.slotOf, Dl.slotsOf, Dl.lents, Dl.takeB, Dl.backS, Dl.useSel, Dl.back, Dl.gd, Dl.pyIx, atI, ixN, Dl.pyGet, Dl.pyMul, Dl.pyAdd, Dl.pyEq, Dl.pyNe, Dl.mulOk, Dl.powOk, Dl.pySlice, Dl.fLen, Dl.fList, Dl.fTuple, Dl.mAppend, Dl.mReverse, Dl.mClear, Dl.mExtend, Dl.mInsert, Dl.mkTup, Dl.mkLst, Dl.pyIsN, Dl.pyNotN, Dl.fNeg, Dl.pyRev, Dl.gN, Dl.gsNil, Dl.gsCons, Dl.gT, Dl.srcL, Dl.srcT, Dl.srcS, Dl.srcQ, Dl.srcR1, Dl.srcR2, Dl.hide, Dl.restore, sizeLine_eq, Dl.lockS, hp, hfl]
    refine ⟨_, _, ⟨rfl, rfl⟩, ?_⟩
    rw [eI]
    exact ⟨by rw [ht, List.map_append]; rfl, rfl⟩
  · rw [eI] at hI
    obtain ⟨rfl, rfl⟩ := hI
    rw [List.length_map, List.take_length]
    exact h
theorem short_loop {p0 : Slot} {rows : List Li} {QF : Flow → Rho → Prop} {X : Ex → Rho → Prop} : ∀ (cs told : List Li) (s3 : Slot), frS s3 = true → (∀ a ∈ told, (∀ p ∈ a, Nm p.1) ∧ a.length ≤ 800) → (∀ a ∈ cs, (∀ p ∈ a, Nm p.1) ∧ a.length ≤ 800) → told.length + cs.length ≤ 100000 →
    (∀ s3, QF .nx [p0, .own (.list (rows.map fD)), .own (.list ((cs.foldl (stepS rows) told).map fT)), s3, .un]) →
    wp (sLoop (gN 3) (sIf (tAndM (tNotM (tVal (eBlt fAny (aCons (lkd 2 (eComp [4] (iLst (eVar 2)) (gN 4) tTrue (eCall 2 [true, true] mIsClausePart (aCons (eVar 4) (aCons (eVar 3) aNil))))) aNil)))) (tVal (eCall 2 [true, true] mStandsIn (aCons (eVar 1) (aCons (eVar 3) aNil)))))
     (sExp (eMut 2 mAppend (aCons (eVar 3) aNil)))
     sNil) (cs.map fT) [p0, .own (.list (rows.map fD)), .own (.list (told.map fT)), s3, .un]) QF X
  | [], told, s3, f3, ht, hc, hl, h => h s3
  | c :: cs, told, s3, f3, ht, hc, hl, h => by
    simp only [frS, free, List.getElem?_cons_zero] at f3
    rw [List.map_cons]
    rw [List.length_cons] at hl
    obtain ⟨cn, cl⟩ := hc c List.mem_cons_self
    have hc' : ∀ a ∈ cs, (∀ p ∈ a, Nm p.1) ∧ a.length ≤ 800 := fun a ha => hc a (List.mem_cons_of_mem _ ha)
    rw [List.foldl_cons] at h
    have ha := any_map (told.map fun a => part a c)
    have hm : (told.map fun a => part a c).any id = told.any fun a => part a c := by rw [List.any_map]; rfl
    rw [hm] at ha
    have pc := @part_comp p0 (.own (.list (rows.map fD))) c told (by omega) (fun a ha => ⟨(ht a ha).1, by have := (ht a ha).2; omega⟩) cn
    have ec : fT c = .tuple (c.map liD) := rfl
    generalize (told.map fun a => part a c).map PyData.bool = bs at *
    simp -dsimp -implicitDefEqProofs [Dl.vI, Dl.vB, Dl.vS, Dl.run2, Dl.run1, Dl.deref, Dl.Slot.data?, Dl.useO, Dl.useAll, Dl.boolOf, Dl.putO, Dl.free, Dl.outO, Dl.withAll, Dl.runN, Dl.derefs, Dl.mutO, Dl.isLst, Dl.isDct, Dl.putI, Dl.putD, Dl.setI, Dl.augO, Dl.getI, Dl.slotOf, Dl.slotsOf, Dl.lents, Dl.takeB, Dl.backS, Dl.useSel, Dl.back, Dl.gd, Dl.pyIx, atI, ixN, Dl.pyGet, Dl.pyMul, Dl.pyAdd, Dl.pyEq, Dl.pyNe, Dl.mulOk, Dl.powOk, Dl.pySlice, Dl.fLen, Dl.fList, Dl.fTuple, Dl.mAppend, Dl.mReverse, Dl.mClear, Dl.mExtend, Dl.mInsert, Dl.mkTup, Dl.mkLst, Dl.pyIsN, Dl.pyNotN, Dl.fNeg, Dl.pyRev, Dl.gN, Dl.gsNil, Dl.gsCons, Dl.gT, Dl.srcL, Dl.srcT, Dl.srcS, Dl.srcQ, Dl.srcR1, Dl.srcR2, Dl.hide, Dl.restore, sizeLine_eq, Dl.lockS, f3]
    refine pc ?_
    cases e : told.any fun a => part a c with
    | true =>
      rw [e] at ha
      have es : stepS rows told c = told := by unfold stepS; rw [e]; simp
      rw [es] at h
      simp -dsimp -implicitDefEqProofs [Dl.vI, Dl.vB, Dl.vS, Dl.run2, Dl.run1, Dl.deref, Dl.Slot.data?, Dl.useO, Dl.useAll, Dl.boolOf, Dl.putO, Dl.free, Dl.outO, Dl.withAll, Dl.runN, Dl.derefs, Dl.mutO, Dl.isLst, Dl.isDct, Dl.putI, Dl.putD, Dl.setI, Dl.augO, Dl.getI, Dl.slotOf, Dl.slotsOf, Dl.lents, Dl.takeB, Dl.backS, Dl.useSel, Dl.back, Dl.gd, Dl.pyIx, atI, ixN, Dl.pyGet, Dl.pyMul, Dl.pyAdd, Dl.pyEq, Dl.pyNe, Dl.mulOk, Dl.powOk, Dl.pySlice, Dl.fLen, Dl.fList, Dl.fTuple, Dl.mAppend, Dl.mReverse, Dl.mClear, Dl.mExtend, Dl.mInsert, Dl.mkTup, Dl.mkLst, Dl.pyIsN, Dl.pyNotN, Dl.fNeg, Dl.pyRev, Dl.gN, Dl.gsNil, Dl.gsCons, Dl.gT, Dl.srcL, Dl.srcT, Dl.srcS, Dl.srcQ, Dl.srcR1, Dl.srcR2, Dl.hide, Dl.restore, sizeLine_eq, Dl.lockS, ha]
      exact short_loop cs told _ rfl ht hc' (by omega) h
    | false =>
      rw [e] at ha
      simp -dsimp -implicitDefEqProofs [Dl.vI, Dl.vB, Dl.vS, Dl.run2, Dl.run1, Dl.deref, Dl.Slot.data?, Dl.useO, Dl.useAll, Dl.boolOf, Dl.putO, Dl.free, Dl.outO, Dl.withAll, Dl.runN, Dl.derefs, Dl.mutO, Dl.isLst, Dl.isDct, Dl.putI, Dl.putD, Dl.setI, Dl.augO, Dl.getI, Dl.slotOf, Dl.slotsOf, Dl.lents, Dl.takeB, Dl.backS, Dl.useSel, Dl.back, Dl.gd, Dl.pyIx, atI, ixN, Dl.pyGet, Dl.pyMul, Dl.pyAdd, Dl.pyEq, Dl.pyNe, Dl.mulOk, Dl.powOk, Dl.pySlice, Dl.fLen, Dl.fList, Dl.fTuple, Dl.mAppend, Dl.mReverse, Dl.mClear, Dl.mExtend, Dl.mInsert, Dl.mkTup, Dl.mkLst, Dl.pyIsN, Dl.pyNotN, Dl.fNeg, Dl.pyRev, Dl.gN, Dl.gsNil, Dl.gsCons, Dl.gT, Dl.srcL, Dl.srcT, Dl.srcS, Dl.srcQ, Dl.srcR1, Dl.srcR2, Dl.hide, Dl.restore, sizeLine_eq, Dl.lockS, ha]
      rw [ec]
      refine stands_in_eq (rows := rows) (cl := c) (by omega) ?_
      rw [← ec]
      cases e2 : sits rows c with
      | true =>
        have es : stepS rows told c = told ++ [c] := by unfold stepS; rw [e, e2]; simp
        have e2 : (rows.all fun f => met f c) = true := e2
        rw [es] at h
        simp -dsimp -implicitDefEqProofs [Dl.vI, Dl.vB, Dl.vS, Dl.run2, Dl.run1, Dl.deref, Dl.Slot.data?, Dl.useO, Dl.useAll, Dl.boolOf, Dl.putO, Dl.free, Dl.outO, Dl.withAll, Dl.runN, Dl.derefs, Dl.mutO, Dl.isLst, Dl.isDct, Dl.putI, Dl.putD, Dl.setI, Dl.augO, Dl.getI, Dl.slotOf, Dl.slotsOf, Dl.lents, Dl.takeB, Dl.backS, Dl.useSel, Dl.back, Dl.gd, Dl.pyIx, atI, ixN, Dl.pyGet, Dl.pyMul, Dl.pyAdd, Dl.pyEq, Dl.pyNe, Dl.mulOk, Dl.powOk, Dl.pySlice, Dl.fLen, Dl.fList, Dl.fTuple, Dl.mAppend, Dl.mReverse, Dl.mClear, Dl.mExtend, Dl.mInsert, Dl.mkTup, Dl.mkLst, Dl.pyIsN, Dl.pyNotN, Dl.fNeg, Dl.pyRev, Dl.gN, Dl.gsNil, Dl.gsCons, Dl.gT, Dl.srcL, Dl.srcT, Dl.srcS, Dl.srcQ, Dl.srcR1, Dl.srcR2, Dl.hide, Dl.restore, sizeLine_eq, Dl.lockS, e2, show told.length < 16777216 by omega]
        have ih := short_loop (p0 := p0) (rows := rows) (QF := QF) (X := X) cs (told ++ [c]) (.dat (fT c)) rfl (fun a ha => (List.mem_append.mp ha).elim (ht a) fun z => by rw [List.mem_singleton.mp z]; exact ⟨cn, cl⟩) hc' (by simp; omega) h
        rw [List.map_append] at ih
        exact ih
      | false =>
        have es : stepS rows told c = told := by unfold stepS; rw [e, e2]; simp
        have e2 : (rows.all fun f => met f c) = false := e2
        rw [es] at h
        simp -dsimp -implicitDefEqProofs [Dl.vI, Dl.vB, Dl.vS, Dl.run2, Dl.run1, Dl.deref, Dl.Slot.data?, Dl.useO, Dl.useAll, Dl.boolOf, Dl.putO, Dl.free, Dl.outO, Dl.withAll, Dl.runN, Dl.derefs, Dl.mutO, Dl.isLst, Dl.isDct, Dl.putI, Dl.putD, Dl.setI, Dl.augO, Dl.getI, Dl.slotOf, Dl.slotsOf, Dl.lents, Dl.takeB, Dl.backS, Dl.useSel, Dl.back, Dl.gd, Dl.pyIx, atI, ixN, Dl.pyGet, Dl.pyMul, Dl.pyAdd, Dl.pyEq, Dl.pyNe, Dl.mulOk, Dl.powOk, Dl.pySlice, Dl.fLen, Dl.fList, Dl.fTuple, Dl.mAppend, Dl.mReverse, Dl.mClear, Dl.mExtend, Dl.mInsert, Dl.mkTup, Dl.mkLst, Dl.pyIsN, Dl.pyNotN, Dl.fNeg, Dl.pyRev, Dl.gN, Dl.gsNil, Dl.gsCons, Dl.gT, Dl.srcL, Dl.srcT, Dl.srcS, Dl.srcQ, Dl.srcR1, Dl.srcR2, Dl.hide, Dl.restore, sizeLine_eq, Dl.lockS, e2]
        exact short_loop cs told _ rfl ht hc' (by omega) h
theorem shortest_eq {r : Ru} (hr : r.dep ≤ 6) (hn : (canon r.names).length ≤ 8) (hnm : ∀ s ∈ r.names, Nm s) {Q : Opd → Rho → Prop} {X : Ex → Rho → Prop} (h : Q (.new (.list ((shortest r).map fT))) [.dat r.toD]) : wp (mShortestOf [.dat r.toD]) Q X := by
  unfold mShortestOf
  have e := names_of_eq r hr
  have hcn : ∀ s ∈ canon r.names, Nm s := fun s hs => hnm s (canon_mem.mp hs)
  simp -dsimp -implicitDefEqProofs [Dl.vI, Dl.vB, Dl.vS, Dl.run2, Dl.run1, Dl.deref, Dl.Slot.data?, Dl.useO, Dl.useAll, Dl.boolOf, Dl.putO, Dl.free, Dl.outO, Dl.withAll, Dl.runN, Dl.derefs, Dl.mutO, Dl.isLst, Dl.isDct, Dl.putI, Dl.putD, Dl.setI, Dl.augO, Dl.getI, Dl.slotOf, Dl.slotsOf, Dl.lents, Dl.takeB, Dl.backS, Dl.useSel, Dl.back, Dl.gd, Dl.pyIx, atI, ixN, Dl.pyGet, Dl.pyMul, Dl.pyAdd, Dl.pyEq, Dl.pyNe, Dl.mulOk, Dl.powOk, Dl.pySlice, Dl.fLen, Dl.fList, Dl.fTuple, Dl.mAppend, Dl.mReverse, Dl.mClear, Dl.mExtend, Dl.mInsert, Dl.mkTup, Dl.mkLst, Dl.pyIsN, Dl.pyNotN, Dl.fNeg, Dl.pyRev, Dl.gN, Dl.gsNil, Dl.gsCons, Dl.gT, Dl.srcL, Dl.srcT, Dl.srcS, Dl.srcQ, Dl.srcR1, Dl.srcR2, Dl.hide, Dl.restore, sizeLine_eq, Dl.lockS]
  refine rows_under_eq hr (by omega) ?_
  simp -dsimp -implicitDefEqProofs [Dl.vI, Dl.vB, Dl.vS, Dl.run2, Dl.run1, Dl.deref, Dl.Slot.data?, Dl.useO, Dl.useAll, Dl.boolOf, Dl.putO, Dl.free, Dl.outO, Dl.withAll, Dl.runN, Dl.derefs, Dl.mutO, Dl.isLst, Dl.isDct, Dl.putI, Dl.putD, Dl.setI, Dl.augO, Dl.getI, Dl.slotOf, Dl.slotsOf, Dl.lents, Dl.takeB, Dl.backS, Dl.useSel, Dl.back, Dl.gd, Dl.pyIx, atI, ixN, Dl.pyGet, Dl.pyMul, Dl.pyAdd, Dl.pyEq, Dl.pyNe, Dl.mulOk, Dl.powOk, Dl.pySlice, Dl.fLen, Dl.fList, Dl.fTuple, Dl.mAppend, Dl.mReverse, Dl.mClear, Dl.mExtend, Dl.mInsert, Dl.mkTup, Dl.mkLst, Dl.pyIsN, Dl.pyNotN, Dl.fNeg, Dl.pyRev, Dl.gN, Dl.gsNil, Dl.gsCons, Dl.gT, Dl.srcL, Dl.srcT, Dl.srcS, Dl.srcQ, Dl.srcR1, Dl.srcR2, Dl.hide, Dl.restore, sizeLine_eq, Dl.lockS, e]
  refine clauses_over_eq hn hcn ?_
  rw [sort_canon]
  simp -dsimp -implicitDefEqProofs [Dl.vI, Dl.vB, Dl.vS, Dl.run2, Dl.run1, Dl.deref, Dl.Slot.data?, Dl.useO, Dl.useAll, Dl.boolOf, Dl.putO, Dl.free, Dl.outO, Dl.withAll, Dl.runN, Dl.derefs, Dl.mutO, Dl.isLst, Dl.isDct, Dl.putI, Dl.putD, Dl.setI, Dl.augO, Dl.getI, Dl.slotOf, Dl.slotsOf, Dl.lents, Dl.takeB, Dl.backS, Dl.useSel, Dl.back, Dl.gd, Dl.pyIx, atI, ixN, Dl.pyGet, Dl.pyMul, Dl.pyAdd, Dl.pyEq, Dl.pyNe, Dl.mulOk, Dl.powOk, Dl.pySlice, Dl.fLen, Dl.fList, Dl.fTuple, Dl.mAppend, Dl.mReverse, Dl.mClear, Dl.mExtend, Dl.mInsert, Dl.mkTup, Dl.mkLst, Dl.pyIsN, Dl.pyNotN, Dl.fNeg, Dl.pyRev, Dl.gN, Dl.gsNil, Dl.gsCons, Dl.gT, Dl.srcL, Dl.srcT, Dl.srcS, Dl.srcQ, Dl.srcR1, Dl.srcR2, Dl.hide, Dl.restore, sizeLine_eq, Dl.lockS]
  have hin : ∀ a ∈ inOrder (overC (canon r.names)), (∀ p ∈ a, Nm p.1) ∧ a.length ≤ 800 := fun a ha => by
    have ha := inOrder_mem.mp ha
    refine ⟨fun p hp => hcn _ (((overC_mem _).mp ha).subset (List.mem_map.mpr ⟨p, hp, rfl⟩)), ?_⟩
    have := overC_short ha
    omega
  have hil : (inOrder (overC (canon r.names))).length ≤ 100000 := by
    have h1 := fold_len ((overC (canon r.names)).mergeSort le) []
    rw [List.length_mergeSort, overC_len] at h1
    have h2 : 3 ^ (canon r.names).length ≤ 3 ^ 8 := Nat.pow_le_pow_right (by decide) hn
    have h3 : (3 : Nat) ^ 8 = 6561 := by decide
    unfold inOrder
    simp only [List.length_nil] at h1
    omega
  refine short_loop (rows := under r) _ [] .un rfl (fun a ha => by cases ha) hin (by simpa using hil) fun s3 => ?_
  simp -dsimp -implicitDefEqProofs [Dl.vI, Dl.vB, Dl.vS, Dl.run2, Dl.run1, Dl.deref, Dl.Slot.data?, Dl.useO, Dl.useAll, Dl.boolOf, Dl.putO, Dl.free, Dl.outO, Dl.withAll, Dl.runN, Dl.derefs, Dl.mutO, Dl.isLst, Dl.isDct, Dl.putI, Dl.putD, Dl.setI, Dl.augO, Dl.getI, Dl.slotOf, Dl.slotsOf, Dl.lents, Dl.takeB, Dl.backS, Dl.useSel, Dl.back, Dl.gd, Dl.pyIx, atI, ixN, Dl.pyGet, Dl.pyMul, Dl.pyAdd, Dl.pyEq, Dl.pyNe, Dl.mulOk, Dl.powOk, Dl.pySlice, Dl.fLen, Dl.fList, Dl.fTuple, Dl.mAppend, Dl.mReverse, Dl.mClear, Dl.mExtend, Dl.mInsert, Dl.mkTup, Dl.mkLst, Dl.pyIsN, Dl.pyNotN, Dl.fNeg, Dl.pyRev, Dl.gN, Dl.gsNil, Dl.gsCons, Dl.gT, Dl.srcL, Dl.srcT, Dl.srcS, Dl.srcQ, Dl.srcR1, Dl.srcR2, Dl.hide, Dl.restore, sizeLine_eq, Dl.lockS]
  exact h
end Dl

set_option maxRecDepth 100000
set_option maxHeartbeats 400000
namespace Dl
open PySem PySem.Spec L2
set_option autoImplicit false
theorem rise_sub : ∀ {a b : Li}, RiseP a → RiseP b → (∀ p ∈ a, p ∈ b) → a.Sublist b
  | [], b, _, _, _ => List.nil_sublist b
  | x :: a, [], _, _, h => absurd (h x List.mem_cons_self) (by simp)
  | x :: a, y :: b, ha, hb, h => by
    have pa := List.pairwise_cons.mp ha
    have pb := List.pairwise_cons.mp hb
    by_cases e : x = y
    · subst e
      refine List.Sublist.cons_cons _ (rise_sub pa.2 pb.2 fun p hp => ?_)
      rcases List.mem_cons.mp (h p (List.mem_cons_of_mem _ hp)) with z | z
      · subst z
        exact absurd (pa.1 p hp) (lt_irr _)
      · exact z
    · have hx : x ∈ b := (List.mem_cons.mp (h x List.mem_cons_self)).resolve_left e
      refine List.Sublist.cons _ (rise_sub ha pb.2 fun p hp => ?_)
      rcases List.mem_cons.mp hp with z | z
      · rw [z]; exact hx
      · rcases List.mem_cons.mp (h p hp) with w | w
        · exact absurd (List.lt_trans (pa.1 p z) (by rw [w]; exact pb.1 x hx)) (lt_irr _)
        · exact w
theorem part_same {a b : Li} (ha : RiseP a) (hb : RiseP b) (h : part a b = true) (hl : b.length ≤ a.length) : a = b := (rise_sub ha hb (part_iff.mp h)).eq_of_length_le hl
theorem part_refl (a : Li) : part a a = true := part_iff.mpr fun _ h => h
theorem part_trans {a b c : Li} (h1 : part a b = true) (h2 : part b c = true) : part a c = true := part_iff.mpr fun p hp => part_iff.mp h2 p (part_iff.mp h1 p hp)
theorem met_part {f a b : Li} (h : part a b = true) (hm : met f a = true) : met f b = true := by
  obtain ⟨p, hp, e⟩ := met_iff.mp hm
  exact met_iff.mpr ⟨p, part_iff.mp h p hp, e⟩
theorem sits_part {rows : List Li} {a b : Li} (h : part a b = true) (hs : sits rows a = true) : sits rows b = true := by
  unfold sits at hs ⊢
  rw [List.all_eq_true] at hs ⊢
  exact fun f hf => met_part h (hs f hf)
theorem fold_spec (rows : List Li) : ∀ (cs told : List Li),
    (∃ S, S.Sublist cs ∧ cs.foldl (stepS rows) told = told ++ S) ∧ (∀ t ∈ cs.foldl (stepS rows) told, t ∈ told ∨ sits rows t = true) ∧ (∀ c, (c ∈ told ∨ c ∈ cs) → sits rows c = true → ∃ t ∈ cs.foldl (stepS rows) told, part t c = true) ∧ (told.Pairwise (fun a b => part a b = false) → (cs.foldl (stepS rows) told).Pairwise fun a b => part a b = false)
  | [], told => ⟨⟨[], List.Sublist.refl _, by simp⟩, fun t h => .inl h, fun c hc _ => hc.elim (fun h => ⟨c, h, part_refl c⟩) (fun h => by cases h), id⟩
  | c :: cs, told => by
    rw [List.foldl_cons]
    obtain ⟨⟨S, hS, eS⟩, h2, h3, h4⟩ := fold_spec rows cs (stepS rows told c)
    by_cases g : (told.any fun a => part a c) = false ∧ sits rows c = true
    · have es : stepS rows told c = told ++ [c] := by unfold stepS; rw [if_pos g]
      rw [es] at eS h2 h3 h4
      rw [es]
      refine ⟨⟨c :: S, hS.cons_cons c, by rw [eS]; simp⟩, fun t ht => ?_, fun x hx hs => ?_, fun hp => h4 ?_⟩
      · rcases h2 t ht with h | h
        · rcases List.mem_append.mp h with h | h
          · exact .inl h
          · rw [List.mem_singleton.mp h]; exact .inr g.2
        · exact .inr h
      · refine h3 x ?_ hs
        rcases hx with hx | hx
        · exact .inl (List.mem_append_left _ hx)
        · rcases List.mem_cons.mp hx with z | z
          · rw [z]; exact .inl (by simp)
          · exact .inr z
      · refine List.pairwise_append.mpr ⟨hp, List.pairwise_singleton .., fun a ha b hb => ?_⟩
        rw [List.mem_singleton.mp hb]
        exact Bool.eq_false_iff.mpr fun z => by
          have : (told.any fun a => part a c) = true := List.any_eq_true.mpr ⟨a, ha, z⟩
          rw [g.1] at this
          cases this
    · have es : stepS rows told c = told := by unfold stepS; rw [if_neg g]
      rw [es] at eS h2 h3 h4
      rw [es]
      refine ⟨⟨S, hS.cons c, eS⟩, h2, fun x hx hs => ?_, h4⟩
      rcases hx with hx | hx
      · exact h3 x (.inl hx) hs
      · rcases List.mem_cons.mp hx with z | z
        · subst z
          have : (told.any fun a => part a x) = true := by
            cases e : told.any fun a => part a x with
            | true => rfl
            | false => exact absurd ⟨e, hs⟩ g
          obtain ⟨a, ha, hp⟩ := List.any_eq_true.mp this
          obtain ⟨i, hi⟩ := List.mem_iff_getElem?.mp ha
          have ha' : a ∈ cs.foldl (stepS rows) told := by rw [eS]; exact List.mem_append_left _ ha
          exact ⟨a, ha', hp⟩
        · exact h3 x (.inr z) hs
/-- names strictly rising -/
def RiseN (names : List Str) : Prop := names.Pairwise fun a b => a.cps.toList < b.cps.toList
theorem canon_rise (ss : List Str) : RiseN (canon ss) := by
  rw [← sort_canon ss]
  exact sortStr_lt (canon_nodup ss)
theorem overC_rise {names : List Str} (h : RiseN names) {c : Li} (hc : c ∈ overC names) : RiseP c := (List.pairwise_map (f := fun p : Str × Bool => p.1) (R := fun a b => a.cps.toList < b.cps.toList)).mp (List.Pairwise.sublist ((overC_mem names).mp hc) h)
structure Short (rows : List Li) (names : List Str) (T : List Li) : Prop where
  ss : SS T
  over : ∀ t ∈ T, t ∈ overC names
  sit : ∀ t ∈ T, sits rows t = true
  has : ∀ c ∈ overC names, sits rows c = true → ∃ t ∈ T, part t c = true
  least : ∀ a ∈ T, ∀ b ∈ T, part a b = true → a = b
theorem shortOf_spec (rows : List Li) {names : List Str} (h : RiseN names) : Short rows names (shortOf rows names) := by
  obtain ⟨⟨S, hS, eS⟩, h2, h3, h4⟩ := fold_spec rows (inOrder (overC names)) []
  rw [List.nil_append] at eS
  have e : shortOf rows names = S := eS
  rw [eS] at h2 h3 h4
  rw [e]
  have over : ∀ t ∈ S, t ∈ overC names := fun t ht => inOrder_mem.mp (hS.subset ht)
  have ss : SS S := (inOrder_ss _).sublist hS
  refine ⟨ss, over, fun t ht => (h2 t ht).resolve_left (by simp), fun c hc hs => h3 c (.inr (inOrder_mem.mpr hc)) hs, fun a ha b hb hp => ?_⟩
  have h4 := h4 .nil
  obtain ⟨i, hi⟩ := List.mem_iff_getElem?.mp ha
  obtain ⟨j, hj⟩ := List.mem_iff_getElem?.mp hb
  obtain ⟨i1, rfl⟩ := List.getElem?_eq_some_iff.mp hi
  obtain ⟨j1, rfl⟩ := List.getElem?_eq_some_iff.mp hj
  rcases Nat.lt_trichotomy i j with z | z | z
  · have := List.pairwise_iff_getElem.mp h4 i j i1 j1 z
    rw [this] at hp
    cases hp
  · subst z
    rfl
  · have hb2 := List.pairwise_iff_getElem.mp ss j i j1 i1 z
    refine part_same (overC_rise h (over _ ha)) (overC_rise h (over _ hb)) hp ?_
    unfold before at hb2
    split at hb2
    · exact Nat.le_of_lt (of_decide_eq_true hb2)
    · rename_i q
      omega
theorem shortest_spec (r : Ru) : Short (under r) (canon r.names) (shortest r) := shortOf_spec _ (canon_rise _)
/-- the rule holds just where all told clauses do -/
theorem shortest_holds {r : Ru} {T : List Li} (s : Short (under r) (canon r.names) T) {f : Li} (hf : ∀ n ∈ r.names, (look f n).isSome) : (T.all fun c => met f c) = r.val (ev f) := by
  rw [Bool.eq_iff_iff, List.all_eq_true]
  constructor
  · intro h
    cases hv : r.val (ev f) with
    | true => rfl
    | false =>
      exfalso
      have hc : (canon r.names).map (fun n => (n, !(ev f n))) ∈ overC (canon r.names) := (overC_mem _).mpr (by
        rw [List.map_map]
        have : ((fun x : Str × Bool => x.1) ∘ fun n => (n, !(ev f n))) = id := rfl
        rw [this, List.map_id]
        exact List.Sublist.refl _)
      have hs : sits (under r) ((canon r.names).map fun n => (n, !(ev f n))) = true := by
        unfold sits
        rw [List.all_eq_true]
        intro g hg
        obtain ⟨hg, hgv⟩ := List.mem_filter.mp hg
        have hgv : r.val (ev g) = true := hgv
        by_cases z : ∀ n ∈ r.names, ev g n = ev f n
        · have := r.val_congr z
          rw [hgv, hv] at this
          cases this
        · simp only [Classical.not_forall] at z
          obtain ⟨n, hn, hne⟩ := z
          obtain ⟨b, hb⟩ := Option.isSome_iff_exists.mp (allF_look hg (canon_mem.mpr hn))
          refine met_iff.mpr ⟨(n, !(ev f n)), List.mem_map.mpr ⟨n, canon_mem.mpr hn, rfl⟩, ?_⟩
          show look g n = some (!(ev f n))
          rw [hb]
          rw [ev_some hb] at hne
          cases b <;> cases e : ev f n <;> simp_all
      obtain ⟨t, ht, hp⟩ := s.has _ hc hs
      obtain ⟨p, hpt, he⟩ := met_iff.mp (h t ht)
      obtain ⟨n, hn, rfl⟩ := List.mem_map.mp (part_iff.mp hp p hpt)
      have := ev_some he
      cases e : ev f n <;> rw [e] at this <;> cases this
  · intro hv t ht
    have hs := s.sit t ht
    unfold sits at hs
    rw [List.all_eq_true] at hs
    obtain ⟨g, hg, hl⟩ := allF_complete (ev f) (canon r.names)
    have e : r.val (ev g) = r.val (ev f) := r.val_congr fun n hn => ev_some (hl n (canon_mem.mpr hn))
    have hm := hs g (List.mem_filter.mpr ⟨hg, by rw [e]; exact hv⟩)
    obtain ⟨p, hp, he⟩ := met_iff.mp hm
    have hk : p.1 ∈ canon r.names := ((allF_keys _ g hg).2 p.1).mp (isSome_iff.mp (by rw [he]; rfl))
    have h2 := hl p.1 hk
    rw [he] at h2
    obtain ⟨b, hb⟩ := Option.isSome_iff_exists.mp (hf p.1 (canon_mem.mp hk))
    refine met_iff.mpr ⟨p, hp, ?_⟩
    rw [hb, ← ev_some hb, Option.some.inj h2]
end Dl

set_option maxRecDepth 100000
set_option maxHeartbeats 400000
namespace Dl
open PySem PySem.Spec L2
set_option autoImplicit false
def mLawInside : ME := fnSem 2 3
     (sSeq (lkd 0 (sFor (iSeq (eVar 0)) (gN 2)
     (sIf (tVal (eOp2 (orf pyNotIn pyNotInK) (eVar 2) (eVar 1)))
     (sRet (eC (.bool false)))
     sNil)))
     (sRet (eC (.bool true))))
def mLawSits : ME := fnSem 2 3
     (sSeq (lkd 0 (sFor (iSeq (eVar 0)) (gN 2)
     (sIf (tNotM (tVal (eCall 2 [true, true] mLawStands (aCons (eVar 1) (aCons (eVar 2) aNil)))))
     (sRet (eC (.bool false)))
     sNil)))
     (sRet (eC (.bool true))))
theorem nin_cl {p : Str × Bool} {b : Li} (h : Nm p.1) (hb : ∀ p ∈ b, Nm p.1) : orf pyNotIn pyNotInK (liD p) (fT b) = some (.val (.bool (!decide (p ∈ b)))) := by
  have hin := enc_li.hasT (x := p) (xs := b) (by decide) h hb
  unfold orf pyNotIn fT
  rw [hin]
  exact congrArg (fun z => some (Opd.val (PyData.bool (!z)))) (decide_eq_decide.mpr Iff.rfl)
theorem inside_loop {b c0 : Li} (hb : ∀ p ∈ b, Nm p.1) {QF : Flow → Rho → Prop} {X : Ex → Rho → Prop} : ∀ (a : Li) (s2 : Slot), frS s2 = true → (∀ p ∈ a, Nm p.1) →
    (match part a b with
      | true => ∀ s2, QF .nx [.dat (fT c0), .dat (fT b), s2]
      | false => ∀ s2, QF (.rt (.val (.bool false))) [.dat (fT c0), .dat (fT b), s2]) →
    wp (sLoop (gN 2) (sIf (tVal (eOp2 (orf pyNotIn pyNotInK) (eVar 2) (eVar 1)))
     (sRet (eC (.bool false)))
     sNil) (a.map liD) [.dat (fT c0), .dat (fT b), s2]) QF X
  | [], s2, _, _, h => h s2
  | p :: a, s2, f2, ha, h => by
    simp only [frS, free, List.getElem?_cons_zero] at f2
    have hn := nin_cl (ha p List.mem_cons_self) hb
    rw [List.map_cons]
    unfold part at h
    rw [List.all_cons] at h
    by_cases e : p ∈ b
    · simp only [e, decide_true, Bool.not_true] at hn
      rw [decide_eq_true e] at h
      simp -dsimp -implicitDefEqProofs [Dl.vI, Dl.vB, Dl.vS, Dl.run2, Dl.run1, Dl.deref, Dl.Slot.data?, Dl.useO, Dl.useAll, Dl.boolOf, Dl.putO, Dl.free, Dl.outO, Dl.withAll, Dl.runN, Dl.derefs, Dl.mutO, Dl.isLst, Dl.isDct, Dl.putI, Dl.putD, Dl.setI, Dl.augO, Dl.getI, Dl.slotOf, Dl.slotsOf, Dl.lents, Dl.takeB, Dl.backS, Dl.useSel, Dl.back, Dl.gd, Dl.pyIx, atI, ixN, Dl.pyGet, Dl.pyMul, Dl.pyAdd, Dl.pyEq, Dl.pyNe, Dl.mulOk, Dl.powOk, Dl.pySlice, Dl.fLen, Dl.fList, Dl.fTuple, Dl.mAppend, Dl.mReverse, Dl.mClear, Dl.mExtend, Dl.mInsert, Dl.mkTup, Dl.mkLst, Dl.pyIsN, Dl.pyNotN, Dl.fNeg, Dl.pyRev, Dl.gN, Dl.gsNil, Dl.gsCons, Dl.gT, Dl.srcL, Dl.srcT, Dl.srcS, Dl.srcQ, Dl.srcR1, Dl.srcR2, Dl.hide, Dl.restore, sizeLine_eq, Dl.lockS, f2, hn]
      exact inside_loop hb a _ rfl (fun q hq => ha q (List.mem_cons_of_mem _ hq)) h
    · simp only [e, decide_false, Bool.not_false] at hn
      rw [decide_eq_false e] at h
      simp -dsimp -implicitDefEqProofs [Dl.vI, Dl.vB, Dl.vS, Dl.run2, Dl.run1, Dl.deref, Dl.Slot.data?, Dl.useO, Dl.useAll, Dl.boolOf, Dl.putO, Dl.free, Dl.outO, Dl.withAll, Dl.runN, Dl.derefs, Dl.mutO, Dl.isLst, Dl.isDct, Dl.putI, Dl.putD, Dl.setI, Dl.augO, Dl.getI, Dl.slotOf, Dl.slotsOf, Dl.lents, Dl.takeB, Dl.backS, Dl.useSel, Dl.back, Dl.gd, Dl.pyIx, atI, ixN, Dl.pyGet, Dl.pyMul, Dl.pyAdd, Dl.pyEq, Dl.pyNe, Dl.mulOk, Dl.powOk, Dl.pySlice, Dl.fLen, Dl.fList, Dl.fTuple, Dl.mAppend, Dl.mReverse, Dl.mClear, Dl.mExtend, Dl.mInsert, Dl.mkTup, Dl.mkLst, Dl.pyIsN, Dl.pyNotN, Dl.fNeg, Dl.pyRev, Dl.gN, Dl.gsNil, Dl.gsCons, Dl.gT, Dl.srcL, Dl.srcT, Dl.srcS, Dl.srcQ, Dl.srcR1, Dl.srcR2, Dl.hide, Dl.restore, sizeLine_eq, Dl.lockS, f2, hn]
      exact h _
theorem inside_eq {a b : Li} (ha : ∀ p ∈ a, Nm p.1) (hb : ∀ p ∈ b, Nm p.1) : mLawInside [.dat (fT a), .dat (fT b)] = .ok (.val (.bool (part a b))) [.dat (fT a), .dat (fT b)] := by
  have this : wp (mLawInside [.dat (fT a), .dat (fT b)]) (fun o ρ => o = .val (.bool (part a b)) ∧ ρ = [.dat (fT a), .dat (fT b)]) NoX := by
    unfold mLawInside
    have ea : fT a = .tuple (a.map liD) := rfl
    have key := @inside_loop b a hb
    rw [ea] at key ⊢
    simp -dsimp -implicitDefEqProofs [Dl.vI, Dl.vB, Dl.vS, Dl.run2, Dl.run1, Dl.deref, Dl.Slot.data?, Dl.useO, Dl.useAll, Dl.boolOf, Dl.putO, Dl.free, Dl.outO, Dl.withAll, Dl.runN, Dl.derefs, Dl.mutO, Dl.isLst, Dl.isDct, Dl.putI, Dl.putD, Dl.setI, Dl.augO, Dl.getI, Dl.slotOf, Dl.slotsOf, Dl.lents, Dl.takeB, Dl.backS, Dl.useSel, Dl.back, Dl.gd, Dl.pyIx, atI, ixN, Dl.pyGet, Dl.pyMul, Dl.pyAdd, Dl.pyEq, Dl.pyNe, Dl.mulOk, Dl.powOk, Dl.pySlice, Dl.fLen, Dl.fList, Dl.fTuple, Dl.mAppend, Dl.mReverse, Dl.mClear, Dl.mExtend, Dl.mInsert, Dl.mkTup, Dl.mkLst, Dl.pyIsN, Dl.pyNotN, Dl.fNeg, Dl.pyRev, Dl.gN, Dl.gsNil, Dl.gsCons, Dl.gT, Dl.srcL, Dl.srcT, Dl.srcS, Dl.srcQ, Dl.srcR1, Dl.srcR2, Dl.hide, Dl.restore, sizeLine_eq, Dl.lockS]
    refine key a .un rfl ha ?_
    cases e : part a b <;> intro s2 <;> simp -dsimp -implicitDefEqProofs [Dl.vI, Dl.vB, Dl.vS, Dl.run2, Dl.run1, Dl.deref, Dl.Slot.data?, Dl.useO, Dl.useAll, Dl.boolOf, Dl.putO, Dl.free, Dl.outO, Dl.withAll, Dl.runN, Dl.derefs, Dl.mutO, Dl.isLst, Dl.isDct, Dl.putI, Dl.putD, Dl.setI, Dl.augO, Dl.getI, Dl.slotOf, Dl.slotsOf, Dl.lents, Dl.takeB, Dl.backS, Dl.useSel, Dl.back, Dl.gd, Dl.pyIx, atI, ixN, Dl.pyGet, Dl.pyMul, Dl.pyAdd, Dl.pyEq, Dl.pyNe, Dl.mulOk, Dl.powOk, Dl.pySlice, Dl.fLen, Dl.fList, Dl.fTuple, Dl.mAppend, Dl.mReverse, Dl.mClear, Dl.mExtend, Dl.mInsert, Dl.mkTup, Dl.mkLst, Dl.pyIsN, Dl.pyNotN, Dl.fNeg, Dl.pyRev, Dl.gN, Dl.gsNil, Dl.gsCons, Dl.gT, Dl.srcL, Dl.srcT, Dl.srcS, Dl.srcQ, Dl.srcR1, Dl.srcR2, Dl.hide, Dl.restore, sizeLine_eq, Dl.lockS]
  obtain ⟨o, ρ, e, rfl, rfl⟩ := wp_out this
  exact e
/-- rows of facts that tell of all names of a clause -/
def Tells (rows : List Li) (c : Li) : Prop := ∀ f ∈ rows, ∀ p ∈ c, (look f p.1).isSome
theorem law_sits_loop {c : Li} {d0 : D} {QF : Flow → Rho → Prop} {X : Ex → Rho → Prop} : ∀ (rows : List Li) (s2 : Slot), frS s2 = true → Tells rows c →
    (match sits rows c with
      | true => ∀ s2, QF .nx [.lck d0, .dat (fT c), s2]
      | false => ∀ s2, QF (.rt (.val (.bool false))) [.lck d0, .dat (fT c), s2]) →
    wp (sLoop (gN 2) (sIf (tNotM (tVal (eCall 2 [true, true] mLawStands (aCons (eVar 1) (aCons (eVar 2) aNil)))))
     (sRet (eC (.bool false)))
     sNil) (rows.map fD) [.lck d0, .dat (fT c), s2]) QF X
  | [], s2, _, _, h => h s2
  | f :: rows, s2, f2, ht, h => by
    simp only [frS, free, List.getElem?_cons_zero] at f2
    rw [List.map_cons]
    unfold sits at h
    rw [List.all_cons] at h
    have ec : fT c = .tuple (c.map liD) := rfl
    simp -dsimp -implicitDefEqProofs [Dl.vI, Dl.vB, Dl.vS, Dl.run2, Dl.run1, Dl.deref, Dl.Slot.data?, Dl.useO, Dl.useAll, Dl.boolOf, Dl.putO, Dl.free, Dl.outO, Dl.withAll, Dl.runN, Dl.derefs, Dl.mutO, Dl.isLst, Dl.isDct, Dl.putI, Dl.putD, Dl.setI, Dl.augO, Dl.getI, Dl.slotOf, Dl.slotsOf, Dl.lents, Dl.takeB, Dl.backS, Dl.useSel, Dl.back, Dl.gd, Dl.pyIx, atI, ixN, Dl.pyGet, Dl.pyMul, Dl.pyAdd, Dl.pyEq, Dl.pyNe, Dl.mulOk, Dl.powOk, Dl.pySlice, Dl.fLen, Dl.fList, Dl.fTuple, Dl.mAppend, Dl.mReverse, Dl.mClear, Dl.mExtend, Dl.mInsert, Dl.mkTup, Dl.mkLst, Dl.pyIsN, Dl.pyNotN, Dl.fNeg, Dl.pyRev, Dl.gN, Dl.gsNil, Dl.gsCons, Dl.gT, Dl.srcL, Dl.srcT, Dl.srcS, Dl.srcQ, Dl.srcR1, Dl.srcR2, Dl.hide, Dl.restore, sizeLine_eq, Dl.lockS, f2]
    rw [ec]
    refine law_stands_eq (f := f) (.inl rfl) (fun p hp => ht f List.mem_cons_self p hp) ?_
    rw [← ec]
    cases e : met f c with
    | false =>
      rw [e] at h
      simp -dsimp -implicitDefEqProofs [Dl.vI, Dl.vB, Dl.vS, Dl.run2, Dl.run1, Dl.deref, Dl.Slot.data?, Dl.useO, Dl.useAll, Dl.boolOf, Dl.putO, Dl.free, Dl.outO, Dl.withAll, Dl.runN, Dl.derefs, Dl.mutO, Dl.isLst, Dl.isDct, Dl.putI, Dl.putD, Dl.setI, Dl.augO, Dl.getI, Dl.slotOf, Dl.slotsOf, Dl.lents, Dl.takeB, Dl.backS, Dl.useSel, Dl.back, Dl.gd, Dl.pyIx, atI, ixN, Dl.pyGet, Dl.pyMul, Dl.pyAdd, Dl.pyEq, Dl.pyNe, Dl.mulOk, Dl.powOk, Dl.pySlice, Dl.fLen, Dl.fList, Dl.fTuple, Dl.mAppend, Dl.mReverse, Dl.mClear, Dl.mExtend, Dl.mInsert, Dl.mkTup, Dl.mkLst, Dl.pyIsN, Dl.pyNotN, Dl.fNeg, Dl.pyRev, Dl.gN, Dl.gsNil, Dl.gsCons, Dl.gT, Dl.srcL, Dl.srcT, Dl.srcS, Dl.srcQ, Dl.srcR1, Dl.srcR2, Dl.hide, Dl.restore, sizeLine_eq, Dl.lockS]
      exact h _
    | true =>
      rw [e] at h
      simp -dsimp -implicitDefEqProofs [Dl.vI, Dl.vB, Dl.vS, Dl.run2, Dl.run1, Dl.deref, Dl.Slot.data?, Dl.useO, Dl.useAll, Dl.boolOf, Dl.putO, Dl.free, Dl.outO, Dl.withAll, Dl.runN, Dl.derefs, Dl.mutO, Dl.isLst, Dl.isDct, Dl.putI, Dl.putD, Dl.setI, Dl.augO, Dl.getI, Dl.slotOf, Dl.slotsOf, Dl.lents, Dl.takeB, Dl.backS, Dl.useSel, Dl.back, Dl.gd, Dl.pyIx, atI, ixN, Dl.pyGet, Dl.pyMul, Dl.pyAdd, Dl.pyEq, Dl.pyNe, Dl.mulOk, Dl.powOk, Dl.pySlice, Dl.fLen, Dl.fList, Dl.fTuple, Dl.mAppend, Dl.mReverse, Dl.mClear, Dl.mExtend, Dl.mInsert, Dl.mkTup, Dl.mkLst, Dl.pyIsN, Dl.pyNotN, Dl.fNeg, Dl.pyRev, Dl.gN, Dl.gsNil, Dl.gsCons, Dl.gT, Dl.srcL, Dl.srcT, Dl.srcS, Dl.srcQ, Dl.srcR1, Dl.srcR2, Dl.hide, Dl.restore, sizeLine_eq, Dl.lockS]
      exact law_sits_loop rows (.dat (fD f)) rfl (fun f hf => ht f (List.mem_cons_of_mem _ hf)) h
theorem law_sits_eq {rows : List Li} {c : Li} (ht : Tells rows c) : mLawSits [.par (.list (rows.map fD)), .dat (fT c)] = .ok (.val (.bool (sits rows c))) [.par (.list (rows.map fD)), .dat (fT c)] := by
  have this : wp (mLawSits [.par (.list (rows.map fD)), .dat (fT c)]) (fun o ρ => o = .val (.bool (sits rows c)) ∧ ρ = [.par (.list (rows.map fD)), .dat (fT c)]) NoX := by
    unfold mLawSits
    simp -dsimp -implicitDefEqProofs [Dl.vI, Dl.vB, Dl.vS, Dl.run2, Dl.run1, Dl.deref, Dl.Slot.data?, Dl.useO, Dl.useAll, Dl.boolOf, Dl.putO, Dl.free, Dl.outO, Dl.withAll, Dl.runN, Dl.derefs, Dl.mutO, Dl.isLst, Dl.isDct, Dl.putI, Dl.putD, Dl.setI, Dl.augO, Dl.getI, Dl.slotOf, Dl.slotsOf, Dl.lents, Dl.takeB, Dl.backS, Dl.useSel, Dl.back, Dl.gd, Dl.pyIx, atI, ixN, Dl.pyGet, Dl.pyMul, Dl.pyAdd, Dl.pyEq, Dl.pyNe, Dl.mulOk, Dl.powOk, Dl.pySlice, Dl.fLen, Dl.fList, Dl.fTuple, Dl.mAppend, Dl.mReverse, Dl.mClear, Dl.mExtend, Dl.mInsert, Dl.mkTup, Dl.mkLst, Dl.pyIsN, Dl.pyNotN, Dl.fNeg, Dl.pyRev, Dl.gN, Dl.gsNil, Dl.gsCons, Dl.gT, Dl.srcL, Dl.srcT, Dl.srcS, Dl.srcQ, Dl.srcR1, Dl.srcR2, Dl.hide, Dl.restore, sizeLine_eq, Dl.lockS]
    refine law_sits_loop rows .un rfl ht ?_
    cases e : sits rows c <;> intro s2 <;> simp -dsimp -implicitDefEqProofs [Dl.vI, Dl.vB, Dl.vS, Dl.run2, Dl.run1, Dl.deref, Dl.Slot.data?, Dl.useO, Dl.useAll, Dl.boolOf, Dl.putO, Dl.free, Dl.outO, Dl.withAll, Dl.runN, Dl.derefs, Dl.mutO, Dl.isLst, Dl.isDct, Dl.putI, Dl.putD, Dl.setI, Dl.augO, Dl.getI, Dl.slotOf, Dl.slotsOf, Dl.lents, Dl.takeB, Dl.backS, Dl.useSel, Dl.back, Dl.gd, Dl.pyIx, atI, ixN, Dl.pyGet, Dl.pyMul, Dl.pyAdd, Dl.pyEq, Dl.pyNe, Dl.mulOk, Dl.powOk, Dl.pySlice, Dl.fLen, Dl.fList, Dl.fTuple, Dl.mAppend, Dl.mReverse, Dl.mClear, Dl.mExtend, Dl.mInsert, Dl.mkTup, Dl.mkLst, Dl.pyIsN, Dl.pyNotN, Dl.fNeg, Dl.pyRev, Dl.gN, Dl.gsNil, Dl.gsCons, Dl.gT, Dl.srcL, Dl.srcT, Dl.srcS, Dl.srcQ, Dl.srcR1, Dl.srcR2, Dl.hide, Dl.restore, sizeLine_eq, Dl.lockS]
  obtain ⟨o, ρ, e, rfl, rfl⟩ := wp_out this
  exact e
end Dl

set_option maxRecDepth 100000
set_option maxHeartbeats 0
namespace G
open PySem PySem.Spec PyProof.Rows L2 Dl
set_option autoImplicit false
def top (i : Nat) : Stmt := PySem.Challenge.pw_truceroll_k26_shortest_clauses.main.body.getD i (.Pass ⟨0, 0, 0, 0⟩)
abbrev s_all_names_in : Stmt := top 4
def d_all_names_in : He.DefD := ⟨("all_names_in", none), "all_names_in", "all_names_in", defArgs s_all_names_in, defBody s_all_names_in, defScope s_all_names_in, [], []⟩
abbrev s_names_of : Stmt := top 5
def d_names_of : He.DefD := ⟨("names_of", none), "names_of", "names_of", defArgs s_names_of, defBody s_names_of, defScope s_names_of, [], []⟩
abbrev s_clauses_in_order : Stmt := top 7
def d_clauses_in_order : He.DefD := ⟨("clauses_in_order", none), "clauses_in_order", "clauses_in_order", defArgs s_clauses_in_order, defBody s_clauses_in_order, defScope s_clauses_in_order, [], []⟩
abbrev s_is_clause_part : Stmt := top 8
def d_is_clause_part : He.DefD := ⟨("is_clause_part", none), "is_clause_part", "is_clause_part", defArgs s_is_clause_part, defBody s_is_clause_part, defScope s_is_clause_part, [], []⟩
abbrev s_holds_under : Stmt := top 10
def d_holds_under : He.DefD := ⟨("holds_under", none), "holds_under", "holds_under", defArgs s_holds_under, defBody s_holds_under, defScope s_holds_under, [], []⟩
abbrev s_holds : Stmt := top 11
def d_holds : He.DefD := ⟨("holds", none), "holds", "holds", defArgs s_holds, defBody s_holds, defScope s_holds, [], []⟩
abbrev s_all_facts : Stmt := top 12
def d_all_facts : He.DefD := ⟨("all_facts", none), "all_facts", "all_facts", defArgs s_all_facts, defBody s_all_facts, defScope s_all_facts, [], []⟩
abbrev s_rows_under : Stmt := top 14
def d_rows_under : He.DefD := ⟨("rows_under", none), "rows_under", "rows_under", defArgs s_rows_under, defBody s_rows_under, defScope s_rows_under, [], []⟩
abbrev s_stands_in : Stmt := top 15
def d_stands_in : He.DefD := ⟨("stands_in", none), "stands_in", "stands_in", defArgs s_stands_in, defBody s_stands_in, defScope s_stands_in, [], []⟩
abbrev s_clauses_over : Stmt := top 16
def d_clauses_over : He.DefD := ⟨("clauses_over", none), "clauses_over", "clauses_over", defArgs s_clauses_over, defBody s_clauses_over, defScope s_clauses_over, [], []⟩
abbrev s_shortest_of : Stmt := top 17
def d_shortest_of : He.DefD := ⟨("shortest_of", none), "shortest_of", "shortest_of", defArgs s_shortest_of, defBody s_shortest_of, defScope s_shortest_of, [], []⟩
abbrev s__law_hand : Stmt := top 19
def d__law_hand : He.DefD := ⟨("_law_hand", none), "_law_hand", "_law_hand", defArgs s__law_hand, defBody s__law_hand, defScope s__law_hand, [], []⟩
abbrev s__law_next : Stmt := top 20
def d__law_next : He.DefD := ⟨("_law_next", none), "_law_next", "_law_next", defArgs s__law_next, defBody s__law_next, defScope s__law_next, [], []⟩
abbrev s__law_take : Stmt := top 21
def d__law_take : He.DefD := ⟨("_law_take", none), "_law_take", "_law_take", defArgs s__law_take, defBody s__law_take, defScope s__law_take, [], []⟩
abbrev s__law_draw : Stmt := top 22
def d__law_draw : He.DefD := ⟨("_law_draw", none), "_law_draw", "_law_draw", defArgs s__law_draw, defBody s__law_draw, defScope s__law_draw, [], []⟩
abbrev s__law_names : Stmt := top 23
def d__law_names : He.DefD := ⟨("_law_names", none), "_law_names", "_law_names", defArgs s__law_names, defBody s__law_names, defScope s__law_names, [], []⟩
abbrev s__law_rule : Stmt := top 24
def d__law_rule : He.DefD := ⟨("_law_rule", none), "_law_rule", "_law_rule", defArgs s__law_rule, defBody s__law_rule, defScope s__law_rule, [], []⟩
abbrev s__law_holds : Stmt := top 25
def d__law_holds : He.DefD := ⟨("_law_holds", none), "_law_holds", "_law_holds", defArgs s__law_holds, defBody s__law_holds, defScope s__law_holds, [], []⟩
abbrev s__law_names_of : Stmt := top 26
def d__law_names_of : He.DefD := ⟨("_law_names_of", none), "_law_names_of", "_law_names_of", defArgs s__law_names_of, defBody s__law_names_of, defScope s__law_names_of, [], []⟩
abbrev s__law_all_facts : Stmt := top 27
def d__law_all_facts : He.DefD := ⟨("_law_all_facts", none), "_law_all_facts", "_law_all_facts", defArgs s__law_all_facts, defBody s__law_all_facts, defScope s__law_all_facts, [], []⟩
abbrev s__law_is_clause : Stmt := top 28
def d__law_is_clause : He.DefD := ⟨("_law_is_clause", none), "_law_is_clause", "_law_is_clause", defArgs s__law_is_clause, defBody s__law_is_clause, defScope s__law_is_clause, [], []⟩
abbrev s__law_stands : Stmt := top 29
def d__law_stands : He.DefD := ⟨("_law_stands", none), "_law_stands", "_law_stands", defArgs s__law_stands, defBody s__law_stands, defScope s__law_stands, [], []⟩
abbrev s__law_before : Stmt := top 30
def d__law_before : He.DefD := ⟨("_law_before", none), "_law_before", "_law_before", defArgs s__law_before, defBody s__law_before, defScope s__law_before, [], []⟩
abbrev s__law_all_clauses : Stmt := top 31
def d__law_all_clauses : He.DefD := ⟨("_law_all_clauses", none), "_law_all_clauses", "_law_all_clauses", defArgs s__law_all_clauses, defBody s__law_all_clauses, defScope s__law_all_clauses, [], []⟩
abbrev s__law_sits : Stmt := top 32
def d__law_sits : He.DefD := ⟨("_law_sits", none), "_law_sits", "_law_sits", defArgs s__law_sits, defBody s__law_sits, defScope s__law_sits, [], []⟩
abbrev s__law_shortest : Stmt := top 33
def d__law_shortest : He.DefD := ⟨("_law_shortest", none), "_law_shortest", "_law_shortest", defArgs s__law_shortest, defBody s__law_shortest, defScope s__law_shortest, [], []⟩
abbrev s_law : Stmt := top 34
def d_law : He.DefD := ⟨("law", none), "law", "law", defArgs s_law, defBody s_law, defScope s_law, [], []⟩
def fn : List He.DefD := [d_all_names_in, d_names_of, d_clauses_in_order, d_is_clause_part, d_holds_under, d_holds, d_all_facts, d_rows_under, d_stands_in, d_clauses_over, d_shortest_of, d__law_hand, d__law_next, d__law_take, d__law_draw, d__law_names, d__law_rule, d__law_holds, d__law_names_of, d__law_all_facts, d__law_is_clause, d__law_stands, d__law_before, d__law_all_clauses, d__law_sits, d__law_shortest, d_law]
def fa : List He.Fa := [.glo "all_names_in", .glo "names_of", .glo "clauses_in_order", .glo "is_clause_part", .glo "holds_under", .glo "holds", .glo "all_facts", .glo "rows_under", .glo "stands_in", .glo "clauses_over", .glo "shortest_of", .glo "_law_hand", .glo "_law_next", .glo "_law_take", .glo "_law_draw", .glo "_law_names", .glo "_law_rule", .glo "_law_holds", .glo "_law_names_of", .glo "_law_all_facts", .glo "_law_is_clause", .glo "_law_stands", .glo "_law_before", .glo "_law_all_clauses", .glo "_law_sits", .glo "_law_shortest", .glo "law", .free "sorted", .free "len", .free "all", .free "dict", .free "any", .free "list", .free "abs", .free "range", .free "bool", .free "isinstance", .free "str", .free "tuple"]
def lf : List Str := ["clauses_in_order"]
abbrev BL (K : PySem.W.Frag) (mg : Str → Option Value) (base : Heap) : Prop := TabsB K mg base ∧ ∀ x ∈ lf, (codeTab K x).isSome = true
section
variable {P : Program} {w : World} {K : PySem.W.Frag} {mg : Str → Option Value} {base : Heap}
abbrev m_all_names_in : Nat → ME := Dl.mAllNames
theorem sc_all_names_in : FnScope ["rule", "names", "part"] ["rule"] (defScope s_all_names_in) := ⟨rfl, rfl, rfl, by decide +kernel, rfl, by decide +kernel, by decide +kernel⟩
theorem ok_all_names_in (T : Txt fa fn K mg) (B : BL K mg base) : ∀ n, Ok P w K mg base (0 + n) "all_names_in" ["rule"] (m_all_names_in n)
 | 0 => by
  obtain ⟨fd, F⟩ := T.d.def_ 0 (d := d_all_names_in) rfl
  have sc := sc_all_names_in
  exact ok_zero F (T.glo 0 "all_names_in" rfl) (F.bindsN fun _ _ _ _ _ _ us hl => match us, hl with | [_], _ => rfl)
 | n + 1 => by
  have ih := ok_all_names_in T B n
  obtain ⟨fd, F⟩ := T.d.def_ 0 (d := d_all_names_in) rfl
  have sc := sc_all_names_in

  refine ok_of (k := 0 + n) F (T.glo 0 "all_names_in" rfl) sc (F.bindsN fun _ _ _ _ _ _ us hl => match us, hl with | [_], _ => rfl) fun cdv A outer s H E hr => ?_
  have hu0 := hr.units0
  have hu1 := room1 hr
  have hu65 := room65 hr
  exact (dss_cons (ds_if (dt_cmp (op_eqD hr.units) snd_eq (de_sub hu1 (de_var (pv 0)) de_int) de_str rfl)
     (dss_one (ds_ret (de_lst (da_cons (de_sub hu1 (de_var (pv 0)) de_int) da_nil))))
     dss_nil)
     (dss_cons (ds_set sc.nd rfl (by first | exact Or.inl rfl | exact Or.inr rfl) (de_lst da_nil))
     (dss_cons (ds_for (passes_of rfl) rfl (di_seq (de_slice (de_var (pv 0)) (do_some de_int) do_none)) (dg_name (pg_name (i := 2) sc.nd rfl (by first | exact Or.inl rfl | exact Or.inr rfl)))
     (dss_one (ds_set sc.nd rfl (by first | exact Or.inl rfl | exact Or.inr rfl) (de_op op_addU snd_add (de_var (pv 1)) (de_callO (ps := ["rule"]) [true] ih hr rfl (takes_of rfl rfl rfl rfl) (da_cons (de_var (pv 2)) da_nil))))))
     (dss_one (ds_ret (de_var (pv 1)))))))
abbrev m_names_of : ME := Dl.mNamesOf
theorem sc_names_of : FnScope ["rule", "seen", "name"] ["rule"] (defScope s_names_of) := ⟨rfl, rfl, rfl, by decide +kernel, rfl, by decide +kernel, by decide +kernel⟩
theorem ok_names_of (T : Txt fa fn K mg) (B : BL K mg base) : Ok P w K mg base 8 "names_of" ["rule"] m_names_of := by
  obtain ⟨fd, F⟩ := T.d.def_ 1 (d := d_names_of) rfl
  have sc := sc_names_of
  have G_all_names_in : Ok P w K mg base 7 "all_names_in" ["rule"] (m_all_names_in 7) := (ok_all_names_in T B 7).mono (by decide)
  have gF_sorted := T.fre 27 "sorted" rfl
  refine ok_of (k := 7) F (T.glo 1 "names_of" rfl) sc (F.bindsN fun _ _ _ _ _ _ us hl => match us, hl with | [_], _ => rfl) fun cdv A outer s H E hr => ?_
  have hu0 := hr.units0
  have hu1 := room1 hr
  have hu65 := room65 hr
  exact (dss_cons (ds_set sc.nd rfl (by first | exact Or.inl rfl | exact Or.inr rfl) de_dict0)
     (dss_cons (ds_for (passes_of rfl) rfl (di_seq (de_callO (ps := ["rule"]) [true] G_all_names_in hr rfl (takes_of rfl rfl rfl rfl) (da_cons (de_var (pv 0)) da_nil))) (dg_name (pg_name (i := 2) sc.nd rfl (by first | exact Or.inl rfl | exact Or.inr rfl)))
     (dss_one (ds_putD hu1 (pv 1) (de_var (pv 2)) de_bl)))
     (dss_one (ds_ret (de_blt (call_sortU rfl) snd_sorted rfl gF_sorted (by decide +kernel) (da_cons (de_var (pv 1)) da_nil))))))
abbrev m_clauses_in_order : ME := Dl.mClausesInOrder
theorem sc_clauses_in_order : FnScope ["clauses", "told", "clause"] ["clauses"] (defScope s_clauses_in_order) := ⟨rfl, rfl, rfl, by decide +kernel, rfl, by decide +kernel, by decide +kernel⟩
theorem ok_clauses_in_order (T : Txt fa fn K mg) (B : BL K mg base) : Ok P w K mg base 4 "clauses_in_order" ["clauses"] m_clauses_in_order := by
  obtain ⟨fd, F⟩ := T.d.def_ 2 (d := d_clauses_in_order) rfl
  have sc := sc_clauses_in_order
  have gF_len := T.fre 28 "len" rfl
  have gF_sorted := T.fre 27 "sorted" rfl
  refine ok_ofC (k := 3) F (T.glo 2 "clauses_in_order" rfl) sc (F.bindsN fun _ _ _ _ _ _ us hl => match us, hl with | [_], _ => rfl) fun cdv A outer s H E hcv hr => ?_
  have hu0 := hr.units0
  have hu1 := room1 hr
  have hu65 := room65 hr
  have hr3 := hr.mono (show 3 ≤ 3 by decide)
  have LA := lamOk_of (P := P) (w := w) F B.1 (x := "clauses_in_order") (by decide +kernel) (B.2 _ (by decide +kernel)) hcv (CX := L2.CX P w) (N := ["clauses", "told", "clause"]) (A := A) (outer := outer) (s := s) (H := H) (E := E)
  exact (dss_cons (ds_set sc.nd rfl (by first | exact Or.inl rfl | exact Or.inr rfl) (de_lst da_nil))
     (dss_cons (ds_for (passes_of rfl) rfl (di_list (de_sortRow LA rfl gF_sorted gF_len hr3 (de_var (pv 0)))) (dg_name (pg_name (i := 2) sc.nd rfl (by first | exact Or.inl rfl | exact Or.inr rfl)))
     (dss_one (ds_if (DW.t (dw_or (dt_cmp (op_eqD hr.units) snd_eq (de_var (pv 1)) (de_lst da_nil) rfl) (dw_or1 (dt_cmp (op_neD hr.units) snd_ne (de_sub hu1 (de_var (pv 1)) (de_neg de_int)) (de_var (pv 2)) rfl))))
     (dss_one (ds_expr (de_mut PySem.F.slot_list_append PySem.F.type_list_append mt_append mut_append (pv 1) (da_cons (de_var (pv 2)) da_nil))))
     dss_nil)))
     (dss_one (ds_ret (de_var (pv 1))))))
abbrev m_is_clause_part : ME := Dl.mIsClausePart
theorem sc_is_clause_part : FnScope ["one", "other", "literal"] ["one", "other"] (defScope s_is_clause_part) := ⟨rfl, rfl, rfl, by decide +kernel, rfl, by decide +kernel, by decide +kernel⟩
theorem ok_is_clause_part (T : Txt fa fn K mg) (B : BL K mg base) : Ok P w K mg base 1 "is_clause_part" ["one", "other"] m_is_clause_part := by
  obtain ⟨fd, F⟩ := T.d.def_ 3 (d := d_is_clause_part) rfl
  have sc := sc_is_clause_part
  have gF_all := T.fre 29 "all" rfl
  refine ok_of (k := 0) F (T.glo 3 "is_clause_part" rfl) sc (F.bindsN fun _ _ _ _ _ _ us hl => match us, hl with | [_, _], _ => rfl) fun cdv A outer s H E hr => ?_
  have hu0 := hr.units0
  have hu1 := room1 hr
  have hu65 := room65 hr
  exact (dss_one (ds_ret (de_blt (cr_all rfl) snd_all rfl gF_all (by decide +kernel) (da_cons (de_lock 0 (de_lcW [("literal", 2)] rfl sc.nd (di_seq (de_var (pv 0))) (by kernel_rfl) (by decide) (fun _ _ _ _ _ => (dg_name (pg_name (i := 2) sc.nd rfl (by first | exact Or.inl rfl | exact Or.inr rfl)))) (fun _ _ _ _ _ => dts_nil) (fun _ _ _ _ _ => (de_in hu65 (de_var (pv 2)) (de_var (pv 1)))))) da_nil))))
abbrev m_holds_under : Nat → ME := Dl.mHoldsUnder
theorem sc_holds_under : FnScope ["rule", "facts", "word", "one", "other"] ["rule", "facts"] (defScope s_holds_under) := ⟨rfl, rfl, rfl, by decide +kernel, rfl, by decide +kernel, by decide +kernel⟩
theorem ok_holds_under (T : Txt fa fn K mg) (B : BL K mg base) : ∀ n, Ok P w K mg base (0 + n) "holds_under" ["rule", "facts"] (m_holds_under n)
 | 0 => by
  obtain ⟨fd, F⟩ := T.d.def_ 4 (d := d_holds_under) rfl
  have sc := sc_holds_under
  exact ok_zero F (T.glo 4 "holds_under" rfl) (F.bindsN fun _ _ _ _ _ _ us hl => match us, hl with | [_, _], _ => rfl)
 | n + 1 => by
  have ih := ok_holds_under T B n
  obtain ⟨fd, F⟩ := T.d.def_ 4 (d := d_holds_under) rfl
  have sc := sc_holds_under

  refine ok_of (k := 0 + n) F (T.glo 4 "holds_under" rfl) sc (F.bindsN fun _ _ _ _ _ _ us hl => match us, hl with | [_, _], _ => rfl) fun cdv A outer s H E hr => ?_
  have hu0 := hr.units0
  have hu1 := room1 hr
  have hu65 := room65 hr
  exact (dss_cons (ds_set sc.nd rfl (by first | exact Or.inl rfl | exact Or.inr rfl) (de_sub hu1 (de_var (pv 0)) de_int))
     (dss_cons (ds_if (dt_cmp (op_eqD hr.units) snd_eq (de_var (pv 2)) de_str rfl)
     (dss_one (ds_ret de_bl))
     dss_nil)
     (dss_cons (ds_if (dt_cmp (op_eqD hr.units) snd_eq (de_var (pv 2)) de_str rfl)
     (dss_one (ds_ret de_bl))
     dss_nil)
     (dss_cons (ds_if (dt_cmp (op_eqD hr.units) snd_eq (de_var (pv 2)) de_str rfl)
     (dss_one (ds_ret (de_sub hu1 (de_var (pv 1)) (de_sub hu1 (de_var (pv 0)) de_int))))
     dss_nil)
     (dss_cons (ds_if (dt_cmp (op_eqD hr.units) snd_eq (de_var (pv 2)) de_str rfl)
     (dss_one (ds_ret (de_not (de_callO (ps := ["rule", "facts"]) [true, true] ih hr rfl (takes_of rfl rfl rfl rfl) (da_cons (de_sub hu1 (de_var (pv 0)) de_int) (da_cons (de_var (pv 1)) da_nil))))))
     dss_nil)
     (dss_cons (ds_set sc.nd rfl (by first | exact Or.inl rfl | exact Or.inr rfl) (de_callO (ps := ["rule", "facts"]) [true, true] ih hr rfl (takes_of rfl rfl rfl rfl) (da_cons (de_sub hu1 (de_var (pv 0)) de_int) (da_cons (de_var (pv 1)) da_nil))))
     (dss_cons (ds_set sc.nd rfl (by first | exact Or.inl rfl | exact Or.inr rfl) (de_callO (ps := ["rule", "facts"]) [true, true] ih hr rfl (takes_of rfl rfl rfl rfl) (da_cons (de_sub hu1 (de_var (pv 0)) de_int) (da_cons (de_var (pv 1)) da_nil))))
     (dss_cons (ds_if (dt_cmp (op_eqD hr.units) snd_eq (de_var (pv 2)) de_str rfl)
     (dss_one (ds_ret (de_and (de_var (pv 3)) (de_one (de_var (pv 4))))))
     dss_nil)
     (dss_cons (ds_if (dt_cmp (op_eqD hr.units) snd_eq (de_var (pv 2)) de_str rfl)
     (dss_one (ds_ret (de_or (de_var (pv 3)) (de_one (de_var (pv 4))))))
     dss_nil)
     (dss_cons (ds_if (dt_cmp (op_eqD hr.units) snd_eq (de_var (pv 2)) de_str rfl)
     (dss_one (ds_ret (de_or (de_var (pv 4)) (de_one (de_not (de_var (pv 3)))))))
     dss_nil)
     (dss_one (ds_ret (de_cmp (op_eqD hr.units) snd_eq (de_var (pv 3)) (de_var (pv 4)) rfl)))))))))))))
abbrev m_holds : ME := Dl.mHolds
theorem sc_holds : FnScope ["rule", "facts", "name"] ["rule", "facts"] (defScope s_holds) := ⟨rfl, rfl, rfl, by decide +kernel, rfl, by decide +kernel, by decide +kernel⟩
theorem ok_holds (T : Txt fa fn K mg) (B : BL K mg base) : Ok P w K mg base 9 "holds" ["rule", "facts"] m_holds := by
  obtain ⟨fd, F⟩ := T.d.def_ 5 (d := d_holds) rfl
  have sc := sc_holds
  have G_names_of : Ok P w K mg base 8 "names_of" ["rule"] m_names_of := (ok_names_of T B).mono (by decide)
  have G_holds_under : Ok P w K mg base 8 "holds_under" ["rule", "facts"] (m_holds_under 7) := (ok_holds_under T B 7).mono (by decide)
  refine ok_of (k := 8) F (T.glo 5 "holds" rfl) sc (F.bindsN fun _ _ _ _ _ _ us hl => match us, hl with | [_, _], _ => rfl) fun cdv A outer s H E hr => ?_
  have hu0 := hr.units0
  have hu1 := room1 hr
  have hu65 := room65 hr
  exact (dss_cons (ds_for (passes_of rfl) rfl (di_seq (de_callO (ps := ["rule"]) [true] G_names_of hr rfl (takes_of rfl rfl rfl rfl) (da_cons (de_var (pv 0)) da_nil))) (dg_name (pg_name (i := 2) sc.nd rfl (by first | exact Or.inl rfl | exact Or.inr rfl)))
     (dss_one (ds_if (dt_notIn hu65 (de_var (pv 2)) (de_var (pv 1)))
     (dss_one ds_never)
     dss_nil)))
     (dss_one (ds_ret (de_callO (ps := ["rule", "facts"]) [true, true] G_holds_under hr rfl (takes_of rfl rfl rfl rfl) (da_cons (de_var (pv 0)) (da_cons (de_var (pv 1)) da_nil))))))
abbrev m_all_facts : ME := Dl.mAllFacts
theorem sc_all_facts : FnScope ["names", "rows", "name", "longer", "facts", "truth", "more"] ["names"] (defScope s_all_facts) := ⟨rfl, rfl, rfl, by decide +kernel, rfl, by decide +kernel, by decide +kernel⟩
theorem ok_all_facts (T : Txt fa fn K mg) (B : BL K mg base) : Ok P w K mg base 1 "all_facts" ["names"] m_all_facts := by
  obtain ⟨fd, F⟩ := T.d.def_ 6 (d := d_all_facts) rfl
  have sc := sc_all_facts
  have gF_dict := T.fre 30 "dict" rfl
  have gF_sorted := T.fre 27 "sorted" rfl
  refine ok_of (k := 0) F (T.glo 6 "all_facts" rfl) sc (F.bindsN fun _ _ _ _ _ _ us hl => match us, hl with | [_], _ => rfl) fun cdv A outer s H E hr => ?_
  have hu0 := hr.units0
  have hu1 := room1 hr
  have hu65 := room65 hr
  exact (dss_cons (ds_set sc.nd rfl (by first | exact Or.inl rfl | exact Or.inr rfl) (de_lst (da_cons de_dict0 da_nil)))
     (dss_cons (ds_for (passes_of rfl) rfl (di_list (de_blt (call_sortU rfl) snd_sorted rfl gF_sorted (by decide +kernel) (da_cons (de_var (pv 0)) da_nil))) (dg_name (pg_name (i := 2) sc.nd rfl (by first | exact Or.inl rfl | exact Or.inr rfl)))
     (dss_cons (ds_set sc.nd rfl (by first | exact Or.inl rfl | exact Or.inr rfl) (de_lst da_nil))
     (dss_cons (ds_lock 1 (ds_for (passes_of rfl) rfl (di_list (de_var (pv 1))) (dg_name (pg_name (i := 4) sc.nd rfl (by first | exact Or.inl rfl | exact Or.inr rfl)))
     (dss_one (ds_for (passes_of rfl) rfl (di_tup (de_tup (da_cons de_bl (da_cons de_bl da_nil)))) (dg_name (pg_name (i := 5) sc.nd rfl (by first | exact Or.inl rfl | exact Or.inr rfl)))
     (dss_cons (ds_set sc.nd rfl (by first | exact Or.inl rfl | exact Or.inr rfl) (de_blty call_dictD snd_dict rfl gF_dict (by decide +kernel) (da_cons (de_var (pv 4)) da_nil)))
     (dss_cons (ds_putD hu1 (pv 6) (de_var (pv 2)) (de_var (pv 5)))
     (dss_one (ds_expr (de_mut PySem.F.slot_list_append PySem.F.type_list_append mt_append mut_append (pv 3) (da_cons (de_var (pv 6)) da_nil))))))))))
     (dss_one (ds_set sc.nd rfl (by first | exact Or.inl rfl | exact Or.inr rfl) (de_var (pv 3)))))))
     (dss_one (ds_ret (de_var (pv 1))))))
abbrev m_rows_under : ME := Dl.mRowsUnder
theorem sc_rows_under : FnScope ["rule", "facts"] ["rule"] (defScope s_rows_under) := ⟨rfl, rfl, rfl, by decide +kernel, rfl, by decide +kernel, by decide +kernel⟩
theorem ok_rows_under (T : Txt fa fn K mg) (B : BL K mg base) : Ok P w K mg base 10 "rows_under" ["rule"] m_rows_under := by
  obtain ⟨fd, F⟩ := T.d.def_ 7 (d := d_rows_under) rfl
  have sc := sc_rows_under
  have G_all_facts : Ok P w K mg base 9 "all_facts" ["names"] m_all_facts := (ok_all_facts T B).mono (by decide)
  have G_holds : Ok P w K mg base 9 "holds" ["rule", "facts"] m_holds := (ok_holds T B).mono (by decide)
  have G_names_of : Ok P w K mg base 9 "names_of" ["rule"] m_names_of := (ok_names_of T B).mono (by decide)
  refine ok_of (k := 9) F (T.glo 7 "rows_under" rfl) sc (F.bindsN fun _ _ _ _ _ _ us hl => match us, hl with | [_], _ => rfl) fun cdv A outer s H E hr => ?_
  have hu0 := hr.units0
  have hu1 := room1 hr
  have hu65 := room65 hr
  exact (dss_one (ds_ret (de_lcW [("facts", 1)] rfl sc.nd (di_seq (de_callO (ps := ["names"]) [true] G_all_facts hr rfl (takes_of rfl rfl rfl rfl) (da_cons (de_callO (ps := ["rule"]) [true] G_names_of hr rfl (takes_of rfl rfl rfl rfl) (da_cons (de_var (pv 0)) da_nil)) da_nil))) (by kernel_rfl) (by decide) (fun _ _ _ _ _ => (dg_name (pg_name (i := 1) sc.nd rfl (by first | exact Or.inl rfl | exact Or.inr rfl)))) (fun _ _ _ _ _ => (dts_one (dt_val (de_callO (ps := ["rule", "facts"]) [true, true] G_holds hr rfl takes0 (da_cons (de_var (pv 0)) (da_cons (de_var (pv 1)) da_nil)))))) (fun _ _ _ _ _ => (de_var (pv 1))))))
abbrev m_stands_in : ME := Dl.mStandsIn
theorem sc_stands_in : FnScope ["rows", "clause", "facts", "name", "truth"] ["rows", "clause"] (defScope s_stands_in) := ⟨rfl, rfl, rfl, by decide +kernel, rfl, by decide +kernel, by decide +kernel⟩
theorem ok_stands_in (T : Txt fa fn K mg) (B : BL K mg base) : Ok P w K mg base 1 "stands_in" ["rows", "clause"] m_stands_in := by
  obtain ⟨fd, F⟩ := T.d.def_ 8 (d := d_stands_in) rfl
  have sc := sc_stands_in
  have gF_any := T.fre 31 "any" rfl
  refine ok_of (k := 0) F (T.glo 8 "stands_in" rfl) sc (F.bindsN fun _ _ _ _ _ _ us hl => match us, hl with | [_, _], _ => rfl) fun cdv A outer s H E hr => ?_
  have hu0 := hr.units0
  have hu1 := room1 hr
  have hu65 := room65 hr
  exact (dss_cons (ds_lock 0 (ds_for (passes_of rfl) rfl (di_seq (de_var (pv 0))) (dg_name (pg_name (i := 2) sc.nd rfl (by first | exact Or.inl rfl | exact Or.inr rfl)))
     (dss_one (ds_if (dt_not (dt_val (de_blt (cr_any rfl) snd_any rfl gF_any (by decide +kernel) (da_cons (de_lock 1 (de_lcW [("name", 3), ("truth", 4)] rfl sc.nd (di_seq (de_var (pv 1))) (by kernel_rfl) (by decide) (fun _ _ _ _ _ => (dg_tup rfl (dgs_cons (dg_name (pg_name (i := 3) sc.nd rfl (by first | exact Or.inl rfl | exact Or.inr rfl))) (dgs_cons (dg_name (pg_name (i := 4) sc.nd rfl (by first | exact Or.inl rfl | exact Or.inr rfl))) dgs_nil)))) (fun _ _ _ _ _ => dts_nil) (fun _ _ _ _ _ => (de_and (de_in hu65 (de_var (pv 3)) (de_var (pv 2))) (de_one (de_cmp (op_eqD hr.units) snd_eq (de_sub hu1 (de_var (pv 2)) (de_var (pv 3))) (de_var (pv 4)) rfl)))))) da_nil))))
     (dss_one (ds_ret de_bl))
     dss_nil))))
     (dss_one (ds_ret de_bl)))
abbrev m_clauses_over : ME := Dl.mClausesOver
theorem sc_clauses_over : FnScope ["names", "rows", "name", "more", "truth", "row"] ["names"] (defScope s_clauses_over) := ⟨rfl, rfl, rfl, by decide +kernel, rfl, by decide +kernel, by decide +kernel⟩
theorem ok_clauses_over (T : Txt fa fn K mg) (B : BL K mg base) : Ok P w K mg base 5 "clauses_over" ["names"] m_clauses_over := by
  obtain ⟨fd, F⟩ := T.d.def_ 9 (d := d_clauses_over) rfl
  have sc := sc_clauses_over
  have G_clauses_in_order : Ok P w K mg base 4 "clauses_in_order" ["clauses"] m_clauses_in_order := (ok_clauses_in_order T B).mono (by decide)
  have gF_list := T.fre 32 "list" rfl
  have gF_sorted := T.fre 27 "sorted" rfl
  refine ok_of (k := 4) F (T.glo 9 "clauses_over" rfl) sc (F.bindsN fun _ _ _ _ _ _ us hl => match us, hl with | [_], _ => rfl) fun cdv A outer s H E hr => ?_
  have hu0 := hr.units0
  have hu1 := room1 hr
  have hu65 := room65 hr
  exact (dss_cons (ds_set sc.nd rfl (by first | exact Or.inl rfl | exact Or.inr rfl) (de_lst (da_cons (de_tup da_nil) da_nil)))
     (dss_cons (ds_for (passes_of rfl) rfl (di_list (de_blt (call_sortU rfl) snd_sorted rfl gF_sorted (by decide +kernel) (da_cons (de_var (pv 0)) da_nil))) (dg_name (pg_name (i := 2) sc.nd rfl (by first | exact Or.inl rfl | exact Or.inr rfl)))
     (dss_cons (ds_set sc.nd rfl (by first | exact Or.inl rfl | exact Or.inr rfl) (de_blty call_list_of snd_list rfl gF_list (by decide +kernel) (da_cons (de_var (pv 1)) da_nil)))
     (dss_cons (ds_for (passes_of rfl) rfl (di_tup (de_tup (da_cons de_bl (da_cons de_bl da_nil)))) (dg_name (pg_name (i := 4) sc.nd rfl (by first | exact Or.inl rfl | exact Or.inr rfl)))
     (dss_one (ds_set sc.nd rfl (by first | exact Or.inl rfl | exact Or.inr rfl) (de_op op_addU snd_add (de_var (pv 3)) (de_lock 1 (de_lcW [("row", 5)] rfl sc.nd (di_list (de_var (pv 1))) (by kernel_rfl) (by decide) (fun _ _ _ _ _ => (dg_name (pg_name (i := 5) sc.nd rfl (by first | exact Or.inl rfl | exact Or.inr rfl)))) (fun _ _ _ _ _ => dts_nil) (fun _ _ _ _ _ => (de_op op_addU snd_add (de_var (pv 5)) (de_tup (da_cons (de_tup (da_cons (de_var (pv 2)) (da_cons (de_var (pv 4)) da_nil))) da_nil))))))))))
     (dss_one (ds_set sc.nd rfl (by first | exact Or.inl rfl | exact Or.inr rfl) (de_var (pv 3)))))))
     (dss_one (ds_ret (de_callO (ps := ["clauses"]) [true] G_clauses_in_order hr rfl (takes_of rfl rfl rfl rfl) (da_cons (de_var (pv 1)) da_nil))))))
abbrev m_shortest_of : ME := Dl.mShortestOf
theorem sc_shortest_of : FnScope ["rule", "rows", "told", "clause", "one"] ["rule"] (defScope s_shortest_of) := ⟨rfl, rfl, rfl, by decide +kernel, rfl, by decide +kernel, by decide +kernel⟩
theorem ok_shortest_of (T : Txt fa fn K mg) (B : BL K mg base) : Ok P w K mg base 11 "shortest_of" ["rule"] m_shortest_of := by
  obtain ⟨fd, F⟩ := T.d.def_ 10 (d := d_shortest_of) rfl
  have sc := sc_shortest_of
  have G_rows_under : Ok P w K mg base 10 "rows_under" ["rule"] m_rows_under := (ok_rows_under T B).mono (by decide)
  have G_clauses_over : Ok P w K mg base 10 "clauses_over" ["names"] m_clauses_over := (ok_clauses_over T B).mono (by decide)
  have G_names_of : Ok P w K mg base 10 "names_of" ["rule"] m_names_of := (ok_names_of T B).mono (by decide)
  have G_stands_in : Ok P w K mg base 10 "stands_in" ["rows", "clause"] m_stands_in := (ok_stands_in T B).mono (by decide)
  have G_is_clause_part : Ok P w K mg base 10 "is_clause_part" ["one", "other"] m_is_clause_part := (ok_is_clause_part T B).mono (by decide)
  have gF_any := T.fre 31 "any" rfl
  refine ok_of (k := 10) F (T.glo 10 "shortest_of" rfl) sc (F.bindsN fun _ _ _ _ _ _ us hl => match us, hl with | [_], _ => rfl) fun cdv A outer s H E hr => ?_
  have hu0 := hr.units0
  have hu1 := room1 hr
  have hu65 := room65 hr
  exact (dss_cons (ds_set sc.nd rfl (by first | exact Or.inl rfl | exact Or.inr rfl) (de_callO (ps := ["rule"]) [true] G_rows_under hr rfl (takes_of rfl rfl rfl rfl) (da_cons (de_var (pv 0)) da_nil)))
     (dss_cons (ds_set sc.nd rfl (by first | exact Or.inl rfl | exact Or.inr rfl) (de_lst da_nil))
     (dss_cons (ds_for (passes_of rfl) rfl (di_seq (de_callO (ps := ["names"]) [true] G_clauses_over hr rfl (takes_of rfl rfl rfl rfl) (da_cons (de_callO (ps := ["rule"]) [true] G_names_of hr rfl (takes_of rfl rfl rfl rfl) (da_cons (de_var (pv 0)) da_nil)) da_nil))) (dg_name (pg_name (i := 3) sc.nd rfl (by first | exact Or.inl rfl | exact Or.inr rfl)))
     (dss_one (ds_if (DW.t (dw_and (dt_not (dt_val (de_blt (cr_any rfl) snd_any rfl gF_any (by decide +kernel) (da_cons (de_lock 2 (de_lcW [("one", 4)] rfl sc.nd (di_list (de_var (pv 2))) (by kernel_rfl) (by decide) (fun _ _ _ _ _ => (dg_name (pg_name (i := 4) sc.nd rfl (by first | exact Or.inl rfl | exact Or.inr rfl)))) (fun _ _ _ _ _ => dts_nil) (fun _ _ _ _ _ => (de_callO (ps := ["one", "other"]) [true, true] G_is_clause_part hr rfl takes0 (da_cons (de_var (pv 4)) (da_cons (de_var (pv 3)) da_nil)))))) da_nil)))) (dw_and1 (dt_val (de_callO (ps := ["rows", "clause"]) [true, true] G_stands_in hr rfl (takes_of rfl rfl rfl rfl) (da_cons (de_var (pv 1)) (da_cons (de_var (pv 3)) da_nil)))))))
     (dss_one (ds_expr (de_mut PySem.F.slot_list_append PySem.F.type_list_append mt_append mut_append (pv 2) (da_cons (de_var (pv 3)) da_nil))))
     dss_nil)))
     (dss_one (ds_ret (de_var (pv 2)))))))
theorem sc__law_hand : FnScope ["_law_script"] ["_law_script"] (defScope s__law_hand) := ⟨rfl, rfl, rfl, by decide +kernel, rfl, by decide +kernel, by decide +kernel⟩
abbrev m__law_next : ME := Dl.mNext
theorem sc__law_next : FnScope ["_law_hand_here"] ["_law_hand_here"] (defScope s__law_next) := ⟨rfl, rfl, rfl, by decide +kernel, rfl, by decide +kernel, by decide +kernel⟩
theorem ok__law_next (T : Txt fa fn K mg) (B : BL K mg base) : Ok P w K mg base 1 "_law_next" ["_law_hand_here"] m__law_next := by
  obtain ⟨fd, F⟩ := T.d.def_ 12 (d := d__law_next) rfl
  have sc := sc__law_next

  refine ok_of (k := 0) F (T.glo 12 "_law_next" rfl) sc (F.bindsN fun _ _ _ _ _ _ us hl => match us, hl with | [_], _ => rfl) fun cdv A outer s H E hr => ?_
  have hu0 := hr.units0
  have hu1 := room1 hr
  have hu65 := room65 hr
  exact (dss_cons (ds_put (pv 0) de_int (de_op op_mod snd_mod (de_op op_mulU snd_mul (de_sub hu1 (de_var (pv 0)) de_int) de_int) de_int))
     (dss_cons (ds_put (pv 0) de_int (de_op op_mod snd_mod (de_op op_mulU snd_mul (de_sub hu1 (de_var (pv 0)) de_int) de_int) de_int))
     (dss_one (ds_ret (de_op op_addU snd_add (de_sub hu1 (de_var (pv 0)) de_int) (de_sub hu1 (de_var (pv 0)) de_int))))))
abbrev m__law_take : ME := Dl.mTake
theorem sc__law_take : FnScope ["_law_hand_here", "_law_cell"] ["_law_hand_here"] (defScope s__law_take) := ⟨rfl, rfl, rfl, by decide +kernel, rfl, by decide +kernel, by decide +kernel⟩
theorem ok__law_take (T : Txt fa fn K mg) (B : BL K mg base) : Ok P w K mg base 2 "_law_take" ["_law_hand_here"] m__law_take := by
  obtain ⟨fd, F⟩ := T.d.def_ 13 (d := d__law_take) rfl
  have sc := sc__law_take
  have G__law_next : Ok P w K mg base 1 "_law_next" ["_law_hand_here"] m__law_next := (ok__law_next T B).mono (by decide)
  have gF_abs := T.fre 33 "abs" rfl
  have gF_len := T.fre 28 "len" rfl
  refine ok_of (k := 1) F (T.glo 13 "_law_take" rfl) sc (F.bindsN fun _ _ _ _ _ _ us hl => match us, hl with | [_], _ => rfl) fun cdv A outer s H E hr => ?_
  have hu0 := hr.units0
  have hu1 := room1 hr
  have hu65 := room65 hr
  exact (dss_cons (ds_set sc.nd rfl (by first | exact Or.inl rfl | exact Or.inr rfl) de_int)
     (dss_cons (ds_if (dt_cmp op_ltU snd_cop (de_sub hu1 (de_var (pv 0)) de_int) (de_blt call_lenU snd_len rfl gF_len (by decide +kernel) (da_cons (de_sub hu1 (de_var (pv 0)) de_int) da_nil)) rfl)
     (dss_one (ds_set sc.nd rfl (by first | exact Or.inl rfl | exact Or.inr rfl) (de_blt call_abs snd_abs rfl gF_abs (by decide +kernel) (da_cons (de_sub hu1 (de_sub hu1 (de_var (pv 0)) de_int) (de_sub hu1 (de_var (pv 0)) de_int)) da_nil))))
     dss_nil)
     (dss_cons (ds_aug ip_add (pv 0) de_int de_int)
     (dss_cons (ds_if (dt_cmp op_geU snd_cop (de_var (pv 1)) (de_op op_pow snd_pow de_int de_int) rfl)
     (dss_one (ds_put (pv 0) de_int (de_var (pv 1))))
     (dss_one (ds_put (pv 0) de_int de_int)))
     (dss_cons (ds_put (pv 0) de_int (de_op op_addU snd_add (de_op op_mod snd_mod (de_op op_addU snd_add (de_sub hu1 (de_var (pv 0)) de_int) (de_op op_mod snd_mod (de_var (pv 1)) de_int)) de_int) de_int))
     (dss_cons (ds_put (pv 0) de_int (de_op op_addU snd_add (de_op op_mod snd_mod (de_op op_addU snd_add (de_op op_mulU snd_mul (de_sub hu1 (de_var (pv 0)) de_int) de_int) (de_op op_mod snd_mod (de_var (pv 1)) de_int)) de_int) de_int))
     (dss_cons (ds_expr (de_callO (ps := ["_law_hand_here"]) [true] G__law_next hr rfl (takes_of rfl rfl rfl rfl) (da_cons (de_var (pv 0)) da_nil)))
     (dss_one (ds_expr (de_callO (ps := ["_law_hand_here"]) [true] G__law_next hr rfl (takes_of rfl rfl rfl rfl) (da_cons (de_var (pv 0)) da_nil)))))))))))
abbrev m__law_draw : ME := Dl.mDraw
theorem sc__law_draw : FnScope ["_law_hand_here", "_law_many", "_law_value", "_law_size", "_law_got"] ["_law_hand_here", "_law_many"] (defScope s__law_draw) := ⟨rfl, rfl, rfl, by decide +kernel, rfl, by decide +kernel, by decide +kernel⟩
theorem ok__law_draw (T : Txt fa fn K mg) (B : BL K mg base) : Ok P w K mg base 3 "_law_draw" ["_law_hand_here", "_law_many"] m__law_draw := by
  obtain ⟨fd, F⟩ := T.d.def_ 14 (d := d__law_draw) rfl
  have sc := sc__law_draw
  have G__law_next : Ok P w K mg base 2 "_law_next" ["_law_hand_here"] m__law_next := (ok__law_next T B).mono (by decide)
  have G__law_take : Ok P w K mg base 2 "_law_take" ["_law_hand_here"] m__law_take := (ok__law_take T B).mono (by decide)
  refine ok_of (k := 2) F (T.glo 14 "_law_draw" rfl) sc (F.bindsN fun _ _ _ _ _ _ us hl => match us, hl with | [_, _], _ => rfl) fun cdv A outer s H E hr => ?_
  have hu0 := hr.units0
  have hu1 := room1 hr
  have hu65 := room65 hr
  exact (dss_cons (ds_if (DW.t (dw_and (dt_cmp (op_eqD hr.units) snd_eq (de_sub hu1 (de_var (pv 0)) de_int) de_int rfl) (dw_and1 (dt_cmp (op_eqD hr.units) snd_eq (de_sub hu1 (de_var (pv 0)) de_int) de_int rfl))))
     (dss_one (ds_expr (de_callO (ps := ["_law_hand_here"]) [true] G__law_take hr rfl (takes_of rfl rfl rfl rfl) (da_cons (de_var (pv 0)) da_nil))))
     dss_nil)
     (dss_cons (ds_if (dt_cmp op_gtU snd_cop (de_sub hu1 (de_var (pv 0)) de_int) de_int rfl)
     (dss_cons (ds_set sc.nd rfl (by first | exact Or.inl rfl | exact Or.inr rfl) (de_op op_mod snd_mod (de_sub hu1 (de_var (pv 0)) de_int) (de_var (pv 1))))
     (dss_cons (ds_put (pv 0) de_int (de_op op_fdivW snd_div (de_sub hu1 (de_var (pv 0)) de_int) (de_var (pv 1))))
     (dss_one (ds_ret (de_var (pv 4))))))
     dss_nil)
     (dss_cons (ds_aug ip_sub (pv 0) de_int de_int)
     (dss_cons (ds_set sc.nd rfl (by first | exact Or.inl rfl | exact Or.inr rfl) (de_callO (ps := ["_law_hand_here"]) [true] G__law_next hr rfl (takes_of rfl rfl rfl rfl) (da_cons (de_var (pv 0)) da_nil)))
     (dss_cons (ds_set sc.nd rfl (by first | exact Or.inl rfl | exact Or.inr rfl) de_int)
     (dss_cons (ds_while 64 (passes_of rfl) (dt_cmp op_ltU snd_cop (de_var (pv 3)) (de_var (pv 1)) rfl)
     (dss_cons (ds_set sc.nd rfl (by first | exact Or.inl rfl | exact Or.inr rfl) (de_op op_addU snd_add (de_op op_mulU snd_mul (de_var (pv 2)) de_int) (de_callO (ps := ["_law_hand_here"]) [true] G__law_next hr rfl (takes_of rfl rfl rfl rfl) (da_cons (de_var (pv 0)) da_nil))))
     (dss_one (ds_set sc.nd rfl (by first | exact Or.inl rfl | exact Or.inr rfl) (de_op op_mulU snd_mul (de_var (pv 3)) de_int)))))
     (dss_one (ds_ret (de_op op_mod snd_mod (de_var (pv 2)) (de_var (pv 1)))))))))))
abbrev m__law_names : ME := Dl.mLawNamesB
theorem sc__law_names : FnScope ["_law_hand_here", "_law_many", "_law_letters", "_law_way", "_law_word", "_law_spot", "_law_start", "_law_names_here", "_law_k", "_law_some", "_law_at", "_law_sign", "_law_name"] ["_law_hand_here", "_law_many"] (defScope s__law_names) := ⟨rfl, rfl, rfl, by decide +kernel, rfl, by decide +kernel, by decide +kernel⟩
theorem ok__law_names (T : Txt fa fn K mg) (B : BL K mg base) : Ok P w K mg base 4 "_law_names" ["_law_hand_here", "_law_many"] m__law_names := by
  obtain ⟨fd, F⟩ := T.d.def_ 15 (d := d__law_names) rfl
  have sc := sc__law_names
  have G__law_draw : Ok P w K mg base 3 "_law_draw" ["_law_hand_here", "_law_many"] m__law_draw := (ok__law_draw T B).mono (by decide)
  have gF_range := T.fre 34 "range" rfl
  refine ok_of (k := 3) F (T.glo 15 "_law_names" rfl) sc (F.bindsN fun _ _ _ _ _ _ us hl => match us, hl with | [_, _], _ => rfl) fun cdv A outer s H E hr => ?_
  have hu0 := hr.units0
  have hu1 := room1 hr
  have hu65 := room65 hr
  exact (dss_cons (ds_set sc.nd rfl (by first | exact Or.inl rfl | exact Or.inr rfl) de_str)
     (dss_cons (ds_set sc.nd rfl (by first | exact Or.inl rfl | exact Or.inr rfl) (de_callO (ps := ["_law_hand_here", "_law_many"]) [true, true] G__law_draw hr rfl (takes_of rfl rfl rfl rfl) (da_cons (de_var (pv 0)) (da_cons de_int da_nil))))
     (dss_cons (ds_if (dt_cmp (op_eqD hr.units) snd_eq (de_var (pv 3)) de_int rfl)
     (dss_cons (ds_set sc.nd rfl (by first | exact Or.inl rfl | exact Or.inr rfl) (de_lst (da_cons de_str (da_cons de_str (da_cons de_str (da_cons de_str (da_cons de_str (da_cons de_str (da_cons de_str (da_cons de_str (da_cons de_str (da_cons de_str (da_cons de_str (da_cons de_str (da_cons de_str da_nil)))))))))))))))
     (dss_cons (ds_set sc.nd rfl (by first | exact Or.inl rfl | exact Or.inr rfl) (de_callO (ps := ["_law_hand_here", "_law_many"]) [true, true] G__law_draw hr rfl (takes_of rfl rfl rfl rfl) (da_cons (de_var (pv 0)) (da_cons de_int da_nil))))
     (dss_one (ds_ret (de_lcW [("_law_k", 8)] rfl sc.nd (di_range rfl gF_range (da_cons (de_var (pv 1)) da_nil)) (by kernel_rfl) (by decide) (fun _ _ _ _ _ => (dg_name (pg_name (i := 8) sc.nd rfl (by first | exact Or.inl rfl | exact Or.inr rfl)))) (fun _ _ _ _ _ => dts_nil) (fun _ _ _ _ _ => (de_sub hu1 (de_var (pv 9)) (de_op op_mod snd_mod (de_op op_addU snd_add (de_var (pv 10)) (de_op op_mulU snd_mul de_int (de_var (pv 8)))) de_int))))))))
     dss_nil)
     (dss_cons (ds_set sc.nd rfl (by first | exact Or.inl rfl | exact Or.inr rfl) (de_join de_str (de_lcW [("_law_k", 8)] rfl sc.nd (di_range rfl gF_range (da_cons de_int da_nil)) (by kernel_rfl) (by decide) (fun _ _ _ _ _ => (dg_name (pg_name (i := 8) sc.nd rfl (by first | exact Or.inl rfl | exact Or.inr rfl)))) (fun _ _ _ _ _ => dts_nil) (fun _ _ _ _ _ => (de_sub hu1 (de_var (pv 2)) (de_callO (ps := ["_law_hand_here", "_law_many"]) [true, true] G__law_draw hr rfl takes0 (da_cons (de_var (pv 0)) (da_cons de_int da_nil)))))) (hstr := fun _ _ _ h => by cases h; exact ⟨_, rfl⟩)))
     (dss_cons (ds_if (dt_cmp (op_eqD hr.units) snd_eq (de_var (pv 3)) de_int rfl)
     (dss_cons (ds_set sc.nd rfl (by first | exact Or.inl rfl | exact Or.inr rfl) (de_callO (ps := ["_law_hand_here", "_law_many"]) [true, true] G__law_draw hr rfl (takes_of rfl rfl rfl rfl) (da_cons (de_var (pv 0)) (da_cons de_int da_nil))))
     (dss_one (ds_ret (de_lcW [("_law_k", 8)] rfl sc.nd (di_range rfl gF_range (da_cons (de_var (pv 1)) da_nil)) (by kernel_rfl) (by decide) (fun _ _ _ _ _ => (dg_name (pg_name (i := 8) sc.nd rfl (by first | exact Or.inl rfl | exact Or.inr rfl)))) (fun _ _ _ _ _ => dts_nil) (fun _ _ _ _ _ => (de_slice (de_var (pv 4)) do_none (do_some (de_op op_addU snd_add (de_op op_mod snd_mod (de_op op_addU snd_add (de_var (pv 10)) (de_op op_mulU snd_mul de_int (de_var (pv 8)))) de_int) de_int))))))))
     dss_nil)
     (dss_cons (ds_set sc.nd rfl (by first | exact Or.inl rfl | exact Or.inr rfl) (de_callO (ps := ["_law_hand_here", "_law_many"]) [true, true] G__law_draw hr rfl (takes_of rfl rfl rfl rfl) (da_cons (de_var (pv 0)) (da_cons de_int da_nil))))
     (dss_cons (ds_set sc.nd rfl (by first | exact Or.inl rfl | exact Or.inr rfl) (de_callO (ps := ["_law_hand_here", "_law_many"]) [true, true] G__law_draw hr rfl (takes_of rfl rfl rfl rfl) (da_cons (de_var (pv 0)) (da_cons de_int da_nil))))
     (dss_cons (ds_set sc.nd rfl (by first | exact Or.inl rfl | exact Or.inr rfl) (de_lst da_nil))
     (dss_cons (ds_for (passes_of rfl) rfl (di_range rfl gF_range (da_cons (de_var (pv 1)) da_nil)) (dg_name (pg_name (i := 8) sc.nd rfl (by first | exact Or.inl rfl | exact Or.inr rfl)))
     (dss_cons (ds_set sc.nd rfl (by first | exact Or.inl rfl | exact Or.inr rfl) (de_sub hu1 (de_var (pv 2)) (de_op op_mod snd_mod (de_op op_addU snd_add (de_var (pv 6)) (de_op op_mulU snd_mul de_int (de_var (pv 8)))) de_int)))
     (dss_cons (ds_set sc.nd rfl (by first | exact Or.inl rfl | exact Or.inr rfl) (de_op op_addU snd_add (de_op op_addU snd_add (de_slice (de_var (pv 4)) do_none (do_some (de_var (pv 5)))) (de_var (pv 11))) (de_slice (de_var (pv 4)) (do_some (de_op op_addU snd_add (de_var (pv 5)) de_int)) do_none)))
     (dss_one (ds_expr (de_mut PySem.F.slot_list_append PySem.F.type_list_append mt_append mut_append (pv 7) (da_cons (de_slice (de_var (pv 12)) do_none (do_some (de_op op_addU snd_add (de_op op_addU snd_add (de_var (pv 5)) de_int) (de_callO (ps := ["_law_hand_here", "_law_many"]) [true, true] G__law_draw hr rfl (takes_of rfl rfl rfl rfl) (da_cons (de_var (pv 0)) (da_cons (de_op op_sub snd_sub de_int (de_var (pv 5))) da_nil)))))) da_nil)))))))
     (dss_one (ds_ret (de_var (pv 7)))))))))))))
abbrev m__law_rule : Nat → ME := Dl.mLawRule
theorem sc__law_rule : FnScope ["_law_hand_here", "_law_names_here", "_law_deep", "_law_way", "_law_one"] ["_law_hand_here", "_law_names_here", "_law_deep"] (defScope s__law_rule) := ⟨rfl, rfl, rfl, by decide +kernel, rfl, by decide +kernel, by decide +kernel⟩
theorem ok__law_rule (T : Txt fa fn K mg) (B : BL K mg base) : ∀ n, Ok P w K mg base (3 + n) "_law_rule" ["_law_hand_here", "_law_names_here", "_law_deep"] (m__law_rule n)
 | 0 => by
  obtain ⟨fd, F⟩ := T.d.def_ 16 (d := d__law_rule) rfl
  have sc := sc__law_rule
  exact ok_zero F (T.glo 16 "_law_rule" rfl) (F.bindsN fun _ _ _ _ _ _ us hl => match us, hl with | [_, _, _], _ => rfl)
 | n + 1 => by
  have ih := ok__law_rule T B n
  obtain ⟨fd, F⟩ := T.d.def_ 16 (d := d__law_rule) rfl
  have sc := sc__law_rule
  have G__law_draw : Ok P w K mg base (3 + n) "_law_draw" ["_law_hand_here", "_law_many"] m__law_draw := (ok__law_draw T B).mono (by omega)
  have gF_len := T.fre 28 "len" rfl
  refine ok_of (k := 3 + n) F (T.glo 16 "_law_rule" rfl) sc (F.bindsN fun _ _ _ _ _ _ us hl => match us, hl with | [_, _, _], _ => rfl) fun cdv A outer s H E hr => ?_
  have hu0 := hr.units0
  have hu1 := room1 hr
  have hu65 := room65 hr
  exact (dss_cons (ds_set sc.nd rfl (by first | exact Or.inl rfl | exact Or.inr rfl) (de_callO (ps := ["_law_hand_here", "_law_many"]) [true, true] G__law_draw hr rfl (takes_of rfl rfl rfl rfl) (da_cons (de_var (pv 0)) (da_cons de_int da_nil))))
     (dss_cons (ds_if (DW.t (dw_or (dt_cmp (op_eqD hr.units) snd_eq (de_var (pv 2)) de_int rfl) (dw_or1 (dt_cmp op_ltU snd_cop (de_var (pv 3)) de_int rfl))))
     (dss_cons (ds_if (DW.t (dw_or (dt_cmp (op_eqD hr.units) snd_eq (de_callO (ps := ["_law_hand_here", "_law_many"]) [true, true] G__law_draw hr rfl (takes_of rfl rfl rfl rfl) (da_cons (de_var (pv 0)) (da_cons de_int da_nil))) de_int rfl) (dw_or1 (dt_cmp (op_eqD hr.units) snd_eq (de_blt call_lenU snd_len rfl gF_len (by decide +kernel) (da_cons (de_var (pv 1)) da_nil)) de_int rfl))))
     (dss_one (ds_ret (de_sub hu1 (de_lst (da_cons (de_tup (da_cons de_str da_nil)) (da_cons (de_tup (da_cons de_str da_nil)) da_nil))) (de_callO (ps := ["_law_hand_here", "_law_many"]) [true, true] G__law_draw hr rfl (takes_of rfl rfl rfl rfl) (da_cons (de_var (pv 0)) (da_cons de_int da_nil))))))
     dss_nil)
     (dss_one (ds_ret (de_tup (da_cons de_str (da_cons (de_sub hu1 (de_var (pv 1)) (de_callO (ps := ["_law_hand_here", "_law_many"]) [true, true] G__law_draw hr rfl (takes_of rfl rfl rfl rfl) (da_cons (de_var (pv 0)) (da_cons (de_blt call_lenU snd_len rfl gF_len (by decide +kernel) (da_cons (de_var (pv 1)) da_nil)) da_nil)))) da_nil))))))
     dss_nil)
     (dss_cons (ds_set sc.nd rfl (by first | exact Or.inl rfl | exact Or.inr rfl) (de_callO (ps := ["_law_hand_here", "_law_names_here", "_law_deep"]) [true, true, true] ih hr rfl (takes_of rfl rfl rfl rfl) (da_cons (de_var (pv 0)) (da_cons (de_var (pv 1)) (da_cons (de_op op_sub snd_sub (de_var (pv 2)) de_int) da_nil)))))
     (dss_cons (ds_if (dt_cmp op_ltU snd_cop (de_var (pv 3)) de_int rfl)
     (dss_one (ds_ret (de_tup (da_cons de_str (da_cons (de_var (pv 4)) da_nil)))))
     dss_nil)
     (dss_one (ds_ret (de_tup (da_cons (de_sub hu1 (de_lst (da_cons de_str (da_cons de_str (da_cons de_str (da_cons de_str da_nil))))) (de_op op_sub snd_sub (de_var (pv 3)) de_int)) (da_cons (de_var (pv 4)) (da_cons (de_callO (ps := ["_law_hand_here", "_law_names_here", "_law_deep"]) [true, true, true] ih hr rfl (takes_of rfl rfl rfl rfl) (da_cons (de_var (pv 0)) (da_cons (de_var (pv 1)) (da_cons (de_op op_sub snd_sub (de_var (pv 2)) de_int) da_nil)))) da_nil))))))))))
abbrev m__law_holds : Nat → ME := Dl.mLawHolds
theorem sc__law_holds : FnScope ["_law_rule_here", "_law_facts", "_law_word", "_law_one", "_law_other"] ["_law_rule_here", "_law_facts"] (defScope s__law_holds) := ⟨rfl, rfl, rfl, by decide +kernel, rfl, by decide +kernel, by decide +kernel⟩
theorem ok__law_holds (T : Txt fa fn K mg) (B : BL K mg base) : ∀ n, Ok P w K mg base (0 + n) "_law_holds" ["_law_rule_here", "_law_facts"] (m__law_holds n)
 | 0 => by
  obtain ⟨fd, F⟩ := T.d.def_ 17 (d := d__law_holds) rfl
  have sc := sc__law_holds
  exact ok_zero F (T.glo 17 "_law_holds" rfl) (F.bindsN fun _ _ _ _ _ _ us hl => match us, hl with | [_, _], _ => rfl)
 | n + 1 => by
  have ih := ok__law_holds T B n
  obtain ⟨fd, F⟩ := T.d.def_ 17 (d := d__law_holds) rfl
  have sc := sc__law_holds

  refine ok_of (k := 0 + n) F (T.glo 17 "_law_holds" rfl) sc (F.bindsN fun _ _ _ _ _ _ us hl => match us, hl with | [_, _], _ => rfl) fun cdv A outer s H E hr => ?_
  have hu0 := hr.units0
  have hu1 := room1 hr
  have hu65 := room65 hr
  exact (dss_cons (ds_set sc.nd rfl (by first | exact Or.inl rfl | exact Or.inr rfl) (de_sub hu1 (de_var (pv 0)) de_int))
     (dss_cons (ds_if (DW.t (dw_or (dt_cmp (op_eqD hr.units) snd_eq (de_var (pv 2)) de_str rfl) (dw_or1 (dt_cmp (op_eqD hr.units) snd_eq (de_var (pv 2)) de_str rfl))))
     (dss_one (ds_ret (de_cmp (op_eqD hr.units) snd_eq (de_var (pv 2)) de_str rfl)))
     dss_nil)
     (dss_cons (ds_if (dt_cmp (op_eqD hr.units) snd_eq (de_var (pv 2)) de_str rfl)
     (dss_one (ds_ret (de_sub hu1 (de_var (pv 1)) (de_sub hu1 (de_var (pv 0)) de_int))))
     dss_nil)
     (dss_cons (ds_set sc.nd rfl (by first | exact Or.inl rfl | exact Or.inr rfl) (de_callO (ps := ["_law_rule_here", "_law_facts"]) [true, true] ih hr rfl (takes_of rfl rfl rfl rfl) (da_cons (de_sub hu1 (de_var (pv 0)) de_int) (da_cons (de_var (pv 1)) da_nil))))
     (dss_cons (ds_if (dt_cmp (op_eqD hr.units) snd_eq (de_var (pv 2)) de_str rfl)
     (dss_one (ds_ret (de_not (de_var (pv 3)))))
     dss_nil)
     (dss_cons (ds_set sc.nd rfl (by first | exact Or.inl rfl | exact Or.inr rfl) (de_callO (ps := ["_law_rule_here", "_law_facts"]) [true, true] ih hr rfl (takes_of rfl rfl rfl rfl) (da_cons (de_sub hu1 (de_var (pv 0)) de_int) (da_cons (de_var (pv 1)) da_nil))))
     (dss_cons (ds_if (dt_cmp (op_eqD hr.units) snd_eq (de_var (pv 2)) de_str rfl)
     (dss_one (ds_ret (de_and (de_var (pv 3)) (de_one (de_var (pv 4))))))
     dss_nil)
     (dss_cons (ds_if (dt_cmp (op_eqD hr.units) snd_eq (de_var (pv 2)) de_str rfl)
     (dss_one (ds_ret (de_or (de_var (pv 3)) (de_one (de_var (pv 4))))))
     dss_nil)
     (dss_cons (ds_if (dt_cmp (op_eqD hr.units) snd_eq (de_var (pv 2)) de_str rfl)
     (dss_one (ds_ret (de_or (de_not (de_var (pv 3))) (de_one (de_var (pv 4))))))
     dss_nil)
     (dss_one (ds_ret (de_cmp (op_eqD hr.units) snd_eq (de_var (pv 3)) (de_var (pv 4)) rfl))))))))))))
abbrev m__law_names_of : Nat → ME := Dl.mLawNamesOf
theorem sc__law_names_of : FnScope ["_law_rule_here", "_law_names_here", "_law_part", "_law_name"] ["_law_rule_here"] (defScope s__law_names_of) := ⟨rfl, rfl, rfl, by decide +kernel, rfl, by decide +kernel, by decide +kernel⟩
theorem ok__law_names_of (T : Txt fa fn K mg) (B : BL K mg base) : ∀ n, Ok P w K mg base (0 + n) "_law_names_of" ["_law_rule_here"] (m__law_names_of n)
 | 0 => by
  obtain ⟨fd, F⟩ := T.d.def_ 18 (d := d__law_names_of) rfl
  have sc := sc__law_names_of
  exact ok_zero F (T.glo 18 "_law_names_of" rfl) (F.bindsN fun _ _ _ _ _ _ us hl => match us, hl with | [_], _ => rfl)
 | n + 1 => by
  have ih := ok__law_names_of T B n
  obtain ⟨fd, F⟩ := T.d.def_ 18 (d := d__law_names_of) rfl
  have sc := sc__law_names_of
  have gF_sorted := T.fre 27 "sorted" rfl
  refine ok_of (k := 0 + n) F (T.glo 18 "_law_names_of" rfl) sc (F.bindsN fun _ _ _ _ _ _ us hl => match us, hl with | [_], _ => rfl) fun cdv A outer s H E hr => ?_
  have hu0 := hr.units0
  have hu1 := room1 hr
  have hu65 := room65 hr
  exact (dss_cons (ds_if (dt_cmp (op_eqD hr.units) snd_eq (de_sub hu1 (de_var (pv 0)) de_int) de_str rfl)
     (dss_one (ds_ret (de_lst (da_cons (de_sub hu1 (de_var (pv 0)) de_int) da_nil))))
     dss_nil)
     (dss_cons (ds_set sc.nd rfl (by first | exact Or.inl rfl | exact Or.inr rfl) (de_lst da_nil))
     (dss_cons (ds_for (passes_of rfl) rfl (di_seq (de_slice (de_var (pv 0)) (do_some de_int) do_none)) (dg_name (pg_name (i := 2) sc.nd rfl (by first | exact Or.inl rfl | exact Or.inr rfl)))
     (dss_one (ds_set sc.nd rfl (by first | exact Or.inl rfl | exact Or.inr rfl) (de_op op_addU snd_add (de_var (pv 1)) (de_lcW [("_law_name", 3)] rfl sc.nd (di_seq (de_callO (ps := ["_law_rule_here"]) [true] ih hr rfl (takes_of rfl rfl rfl rfl) (da_cons (de_var (pv 2)) da_nil))) (by kernel_rfl) (by decide) (fun _ _ _ _ _ => (dg_name (pg_name (i := 3) sc.nd rfl (by first | exact Or.inl rfl | exact Or.inr rfl)))) (fun _ _ _ _ _ => (dts_one (dt_notIn hu65 (de_var (pv 3)) (de_var (pv 1))))) (fun _ _ _ _ _ => (de_var (pv 3))))))))
     (dss_one (ds_ret (de_blt (call_sortU rfl) snd_sorted rfl gF_sorted (by decide +kernel) (da_cons (de_var (pv 1)) da_nil)))))))
abbrev m__law_all_facts : ME := Dl.mLawAllFacts
theorem sc__law_all_facts : FnScope ["_law_names_here", "_law_rows", "_law_name", "_law_more", "_law_row", "_law_truth", "_law_one"] ["_law_names_here"] (defScope s__law_all_facts) := ⟨rfl, rfl, rfl, by decide +kernel, rfl, by decide +kernel, by decide +kernel⟩
theorem ok__law_all_facts (T : Txt fa fn K mg) (B : BL K mg base) : Ok P w K mg base 1 "_law_all_facts" ["_law_names_here"] m__law_all_facts := by
  obtain ⟨fd, F⟩ := T.d.def_ 19 (d := d__law_all_facts) rfl
  have sc := sc__law_all_facts
  have gF_dict := T.fre 30 "dict" rfl
  refine ok_of (k := 0) F (T.glo 19 "_law_all_facts" rfl) sc (F.bindsN fun _ _ _ _ _ _ us hl => match us, hl with | [_], _ => rfl) fun cdv A outer s H E hr => ?_
  have hu0 := hr.units0
  have hu1 := room1 hr
  have hu65 := room65 hr
  exact (dss_cons (ds_set sc.nd rfl (by first | exact Or.inl rfl | exact Or.inr rfl) (de_lst (da_cons de_dict0 da_nil)))
     (dss_cons (ds_lock 0 (ds_for (passes_of rfl) rfl (di_seq (de_var (pv 0))) (dg_name (pg_name (i := 2) sc.nd rfl (by first | exact Or.inl rfl | exact Or.inr rfl)))
     (dss_cons (ds_set sc.nd rfl (by first | exact Or.inl rfl | exact Or.inr rfl) (de_lst da_nil))
     (dss_cons (ds_lock 1 (ds_for (passes_of rfl) rfl (di_list (de_var (pv 1))) (dg_name (pg_name (i := 4) sc.nd rfl (by first | exact Or.inl rfl | exact Or.inr rfl)))
     (dss_one (ds_for (passes_of rfl) rfl (di_tup (de_tup (da_cons de_bl (da_cons de_bl da_nil)))) (dg_name (pg_name (i := 5) sc.nd rfl (by first | exact Or.inl rfl | exact Or.inr rfl)))
     (dss_cons (ds_set sc.nd rfl (by first | exact Or.inl rfl | exact Or.inr rfl) (de_blty call_dictD snd_dict rfl gF_dict (by decide +kernel) (da_cons (de_var (pv 4)) da_nil)))
     (dss_cons (ds_putD hu1 (pv 6) (de_var (pv 2)) (de_var (pv 5)))
     (dss_one (ds_expr (de_mut PySem.F.slot_list_append PySem.F.type_list_append mt_append mut_append (pv 3) (da_cons (de_var (pv 6)) da_nil))))))))))
     (dss_one (ds_set sc.nd rfl (by first | exact Or.inl rfl | exact Or.inr rfl) (de_var (pv 3))))))))
     (dss_one (ds_ret (de_var (pv 1))))))
abbrev m__law_is_clause : ME := Dl.mLawIsClause
theorem sc__law_is_clause : FnScope ["_law_thing", "_law_one", "_law_k"] ["_law_thing"] (defScope s__law_is_clause) := ⟨rfl, rfl, rfl, by decide +kernel, rfl, by decide +kernel, by decide +kernel⟩
theorem ok__law_is_clause (T : Txt fa fn K mg) (B : BL K mg base) : Ok P w K mg base 1 "_law_is_clause" ["_law_thing"] m__law_is_clause := by
  obtain ⟨fd, F⟩ := T.d.def_ 20 (d := d__law_is_clause) rfl
  have sc := sc__law_is_clause
  have gF_all := T.fre 29 "all" rfl
  have gF_bool := T.fre 35 "bool" rfl
  have gF_isinstance := T.fre 36 "isinstance" rfl
  have gF_len := T.fre 28 "len" rfl
  have gF_range := T.fre 34 "range" rfl
  have gF_str := T.fre 37 "str" rfl
  have gF_tuple := T.fre 38 "tuple" rfl
  refine ok_of (k := 0) F (T.glo 20 "_law_is_clause" rfl) sc (F.bindsN fun _ _ _ _ _ _ us hl => match us, hl with | [_], _ => rfl) fun cdv A outer s H E hr => ?_
  have hu0 := hr.units0
  have hu1 := room1 hr
  have hu65 := room65 hr
  exact (dss_cons (ds_if (dt_not (dt_val (de_isi (de_var (pv 0)) rfl gF_isinstance rfl gF_tuple (by decide +kernel))))
     (dss_one (ds_ret de_bl))
     dss_nil)
     (dss_cons (ds_lock 0 (ds_for (passes_of rfl) rfl (di_seq (de_var (pv 0))) (dg_name (pg_name (i := 1) sc.nd rfl (by first | exact Or.inl rfl | exact Or.inr rfl)))
     (dss_one (ds_if (DW.t (dw_or (dt_not (dt_val (de_isi (de_var (pv 1)) rfl gF_isinstance rfl gF_tuple (by decide +kernel)))) (dw_or (dt_cmp (op_neD hr.units) snd_ne (de_blt call_lenU snd_len rfl gF_len (by decide +kernel) (da_cons (de_var (pv 1)) da_nil)) de_int rfl) (dw_or (dt_not (dt_val (de_isi (de_sub hu1 (de_var (pv 1)) de_int) rfl gF_isinstance rfl gF_str (by decide +kernel)))) (dw_or1 (dt_not (dt_val (de_isi (de_sub hu1 (de_var (pv 1)) de_int) rfl gF_isinstance rfl gF_bool (by decide +kernel)))))))))
     (dss_one (ds_ret de_bl))
     dss_nil))))
     (dss_one (ds_ret (de_blt (cr_all rfl) snd_all rfl gF_all (by decide +kernel) (da_cons (de_lcW [("_law_k", 2)] rfl sc.nd (di_range rfl gF_range (da_cons (de_op op_sub snd_sub (de_blt call_lenU snd_len rfl gF_len (by decide +kernel) (da_cons (de_var (pv 0)) da_nil)) de_int) da_nil)) (by kernel_rfl) (by decide) (fun _ _ _ _ _ => (dg_name (pg_name (i := 2) sc.nd rfl (by first | exact Or.inl rfl | exact Or.inr rfl)))) (fun _ _ _ _ _ => dts_nil) (fun _ _ _ _ _ => (de_cmp op_ltU snd_cop (de_sub hu1 (de_sub hu1 (de_var (pv 0)) (de_var (pv 2))) de_int) (de_sub hu1 (de_sub hu1 (de_var (pv 0)) (de_op op_addU snd_add (de_var (pv 2)) de_int)) de_int) rfl))) da_nil))))))
abbrev m__law_stands : ME := Dl.mLawStands
theorem sc__law_stands : FnScope ["_law_clause", "_law_facts", "_law_name", "_law_truth"] ["_law_clause", "_law_facts"] (defScope s__law_stands) := ⟨rfl, rfl, rfl, by decide +kernel, rfl, by decide +kernel, by decide +kernel⟩
theorem ok__law_stands (T : Txt fa fn K mg) (B : BL K mg base) : Ok P w K mg base 1 "_law_stands" ["_law_clause", "_law_facts"] m__law_stands := by
  obtain ⟨fd, F⟩ := T.d.def_ 21 (d := d__law_stands) rfl
  have sc := sc__law_stands

  refine ok_of (k := 0) F (T.glo 21 "_law_stands" rfl) sc (F.bindsN fun _ _ _ _ _ _ us hl => match us, hl with | [_, _], _ => rfl) fun cdv A outer s H E hr => ?_
  have hu0 := hr.units0
  have hu1 := room1 hr
  have hu65 := room65 hr
  exact (dss_cons (ds_lock 0 (ds_for (passes_of rfl) rfl (di_seq (de_var (pv 0))) (dg_tup rfl (dgs_cons (dg_name (pg_name (i := 2) sc.nd rfl (by first | exact Or.inl rfl | exact Or.inr rfl))) (dgs_cons (dg_name (pg_name (i := 3) sc.nd rfl (by first | exact Or.inl rfl | exact Or.inr rfl))) dgs_nil)))
     (dss_one (ds_if (dt_cmp (op_eqD hr.units) snd_eq (de_sub hu1 (de_var (pv 1)) (de_var (pv 2))) (de_var (pv 3)) rfl)
     (dss_one (ds_ret de_bl))
     dss_nil))))
     (dss_one (ds_ret de_bl)))
abbrev m__law_before : ME := Dl.mLawBefore
theorem sc__law_before : FnScope ["_law_one", "_law_other", "_law_k"] ["_law_one", "_law_other"] (defScope s__law_before) := ⟨rfl, rfl, rfl, by decide +kernel, rfl, by decide +kernel, by decide +kernel⟩
theorem ok__law_before (T : Txt fa fn K mg) (B : BL K mg base) : Ok P w K mg base 1 "_law_before" ["_law_one", "_law_other"] m__law_before := by
  obtain ⟨fd, F⟩ := T.d.def_ 22 (d := d__law_before) rfl
  have sc := sc__law_before
  have gF_len := T.fre 28 "len" rfl
  have gF_range := T.fre 34 "range" rfl
  refine ok_of (k := 0) F (T.glo 22 "_law_before" rfl) sc (F.bindsN fun _ _ _ _ _ _ us hl => match us, hl with | [_, _], _ => rfl) fun cdv A outer s H E hr => ?_
  have hu0 := hr.units0
  have hu1 := room1 hr
  have hu65 := room65 hr
  exact (dss_cons (ds_if (dt_cmp (op_neD hr.units) snd_ne (de_blt call_lenU snd_len rfl gF_len (by decide +kernel) (da_cons (de_var (pv 0)) da_nil)) (de_blt call_lenU snd_len rfl gF_len (by decide +kernel) (da_cons (de_var (pv 1)) da_nil)) rfl)
     (dss_one (ds_ret (de_cmp op_ltU snd_cop (de_blt call_lenU snd_len rfl gF_len (by decide +kernel) (da_cons (de_var (pv 0)) da_nil)) (de_blt call_lenU snd_len rfl gF_len (by decide +kernel) (da_cons (de_var (pv 1)) da_nil)) rfl)))
     dss_nil)
     (dss_cons (ds_for (passes_of rfl) rfl (di_range rfl gF_range (da_cons (de_blt call_lenU snd_len rfl gF_len (by decide +kernel) (da_cons (de_var (pv 0)) da_nil)) da_nil)) (dg_name (pg_name (i := 2) sc.nd rfl (by first | exact Or.inl rfl | exact Or.inr rfl)))
     (dss_cons (ds_if (dt_cmp (op_neD hr.units) snd_ne (de_sub hu1 (de_sub hu1 (de_var (pv 0)) (de_var (pv 2))) de_int) (de_sub hu1 (de_sub hu1 (de_var (pv 1)) (de_var (pv 2))) de_int) rfl)
     (dss_one (ds_ret (de_cmp op_ltU snd_cop (de_sub hu1 (de_sub hu1 (de_var (pv 0)) (de_var (pv 2))) de_int) (de_sub hu1 (de_sub hu1 (de_var (pv 1)) (de_var (pv 2))) de_int) rfl)))
     dss_nil)
     (dss_one (ds_if (dt_cmp (op_neD hr.units) snd_ne (de_sub hu1 (de_sub hu1 (de_var (pv 0)) (de_var (pv 2))) de_int) (de_sub hu1 (de_sub hu1 (de_var (pv 1)) (de_var (pv 2))) de_int) rfl)
     (dss_one (ds_ret (de_sub hu1 (de_sub hu1 (de_var (pv 1)) (de_var (pv 2))) de_int)))
     dss_nil))))
     (dss_one (ds_ret de_bl))))
abbrev m__law_all_clauses : ME := Dl.mLawAllClauses
theorem sc__law_all_clauses : FnScope ["_law_names_here", "_law_rows", "_law_name", "_law_more", "_law_truth", "_law_row"] ["_law_names_here"] (defScope s__law_all_clauses) := ⟨rfl, rfl, rfl, by decide +kernel, rfl, by decide +kernel, by decide +kernel⟩
theorem ok__law_all_clauses (T : Txt fa fn K mg) (B : BL K mg base) : Ok P w K mg base 1 "_law_all_clauses" ["_law_names_here"] m__law_all_clauses := by
  obtain ⟨fd, F⟩ := T.d.def_ 23 (d := d__law_all_clauses) rfl
  have sc := sc__law_all_clauses
  have gF_list := T.fre 32 "list" rfl
  refine ok_of (k := 0) F (T.glo 23 "_law_all_clauses" rfl) sc (F.bindsN fun _ _ _ _ _ _ us hl => match us, hl with | [_], _ => rfl) fun cdv A outer s H E hr => ?_
  have hu0 := hr.units0
  have hu1 := room1 hr
  have hu65 := room65 hr
  exact (dss_cons (ds_set sc.nd rfl (by first | exact Or.inl rfl | exact Or.inr rfl) (de_lst (da_cons (de_tup da_nil) da_nil)))
     (dss_cons (ds_lock 0 (ds_for (passes_of rfl) rfl (di_seq (de_var (pv 0))) (dg_name (pg_name (i := 2) sc.nd rfl (by first | exact Or.inl rfl | exact Or.inr rfl)))
     (dss_cons (ds_set sc.nd rfl (by first | exact Or.inl rfl | exact Or.inr rfl) (de_blty call_list_of snd_list rfl gF_list (by decide +kernel) (da_cons (de_var (pv 1)) da_nil)))
     (dss_cons (ds_for (passes_of rfl) rfl (di_tup (de_tup (da_cons de_bl (da_cons de_bl da_nil)))) (dg_name (pg_name (i := 4) sc.nd rfl (by first | exact Or.inl rfl | exact Or.inr rfl)))
     (dss_one (ds_set sc.nd rfl (by first | exact Or.inl rfl | exact Or.inr rfl) (de_op op_addU snd_add (de_var (pv 3)) (de_lock 1 (de_lcW [("_law_row", 5)] rfl sc.nd (di_list (de_var (pv 1))) (by kernel_rfl) (by decide) (fun _ _ _ _ _ => (dg_name (pg_name (i := 5) sc.nd rfl (by first | exact Or.inl rfl | exact Or.inr rfl)))) (fun _ _ _ _ _ => dts_nil) (fun _ _ _ _ _ => (de_op op_addU snd_add (de_var (pv 5)) (de_tup (da_cons (de_tup (da_cons (de_var (pv 2)) (da_cons (de_var (pv 4)) da_nil))) da_nil))))))))))
     (dss_one (ds_set sc.nd rfl (by first | exact Or.inl rfl | exact Or.inr rfl) (de_var (pv 3))))))))
     (dss_one (ds_ret (de_var (pv 1))))))
abbrev m__law_sits : ME := Dl.mLawSits
theorem sc__law_sits : FnScope ["_law_rows", "_law_clause", "_law_facts"] ["_law_rows", "_law_clause"] (defScope s__law_sits) := ⟨rfl, rfl, rfl, by decide +kernel, rfl, by decide +kernel, by decide +kernel⟩
theorem ok__law_sits (T : Txt fa fn K mg) (B : BL K mg base) : Ok P w K mg base 2 "_law_sits" ["_law_rows", "_law_clause"] m__law_sits := by
  obtain ⟨fd, F⟩ := T.d.def_ 24 (d := d__law_sits) rfl
  have sc := sc__law_sits
  have G__law_stands : Ok P w K mg base 1 "_law_stands" ["_law_clause", "_law_facts"] m__law_stands := (ok__law_stands T B).mono (by decide)
  refine ok_of (k := 1) F (T.glo 24 "_law_sits" rfl) sc (F.bindsN fun _ _ _ _ _ _ us hl => match us, hl with | [_, _], _ => rfl) fun cdv A outer s H E hr => ?_
  have hu0 := hr.units0
  have hu1 := room1 hr
  have hu65 := room65 hr
  exact (dss_cons (ds_lock 0 (ds_for (passes_of rfl) rfl (di_seq (de_var (pv 0))) (dg_name (pg_name (i := 2) sc.nd rfl (by first | exact Or.inl rfl | exact Or.inr rfl)))
     (dss_one (ds_if (dt_not (dt_val (de_callO (ps := ["_law_clause", "_law_facts"]) [true, true] G__law_stands hr rfl (takes_of rfl rfl rfl rfl) (da_cons (de_var (pv 1)) (da_cons (de_var (pv 2)) da_nil)))))
     (dss_one (ds_ret de_bl))
     dss_nil))))
     (dss_one (ds_ret de_bl)))
def m__law_shortest : ME := fnSem 1 11
     (sSeq (sSet 1 (eCall 1 [true] (m__law_names_of 7) (aCons (eVar 0) aNil)))
     (sSeq (sSet 2 (eComp [7] (iSeq (eCall 1 [true] m__law_all_facts (aCons (eVar 1) aNil))) (gN 7) (tVal (eCall 2 [true, true] (m__law_holds 7) (aCons (eVar 0) (aCons (eVar 7) aNil)))) (eVar 7)))
     (sSeq (sSet 3 (eComp [5] (iSeq (eCall 1 [true] m__law_all_clauses (aCons (eVar 1) aNil))) (gN 5) (tVal (eCall 2 [true, true] m__law_sits (aCons (eVar 2) (aCons (eVar 5) aNil)))) (eVar 5)))
     (sSeq (sSet 4 (eUse mkLst aNil))
     (sSeq (lkd 3 (sFor (iLst (eVar 3)) (gN 5)
     (sSeq (sSet 6 (eComp [9] (iRng (aCons (eBlt fLen (aCons (eVar 5) aNil)) aNil)) (gN 9) tTrue (eOp2 pyAdd (eSlice (eVar 5) oNone (oSome (eVar 9))) (eSlice (eVar 5) (oSome (eOp2 pyAdd (eVar 9) (eC (.int 1)))) oNone))))
     (sIf (tNotM (tVal (eBlt fAny (aCons (lkd 6 (eComp [10] (iLst (eVar 6)) (gN 10) tTrue (eCall 2 [true, true] m__law_sits (aCons (eVar 2) (aCons (eVar 10) aNil))))) aNil))))
     (sSeq (sSet 8 (eBlt fLen (aCons (eVar 4) aNil)))
     (sSeq (sWhile (tAndM (tVal (eOp2 pyGt (eVar 8) (eC (.int 0)))) (tVal (eCall 2 [true, true] m__law_before (aCons (eVar 5) (aCons (eOp2 pyAt (eVar 4) (eOp2 pySub (eVar 8) (eC (.int 1)))) aNil)))))
     (sAugN 8 (fun i j => i - j) (eC (.int 1))) 300)
     (sExp (eMut 4 mInsert (aCons (eVar 8) (aCons (eVar 5) aNil))))))
     sNil))))
     (sRet (eVar 4)))))))
theorem sc__law_shortest : FnScope ["_law_rule_here", "_law_names_here", "_law_rows", "_law_some", "_law_told", "_law_clause", "_law_less", "_law_facts", "_law_at", "_law_k", "_law_one"] ["_law_rule_here"] (defScope s__law_shortest) := ⟨rfl, rfl, rfl, by decide +kernel, rfl, by decide +kernel, by decide +kernel⟩
theorem ok__law_shortest (T : Txt fa fn K mg) (B : BL K mg base) : Ok P w K mg base 8 "_law_shortest" ["_law_rule_here"] m__law_shortest := by
  obtain ⟨fd, F⟩ := T.d.def_ 25 (d := d__law_shortest) rfl
  have sc := sc__law_shortest
  have G__law_names_of : Ok P w K mg base 7 "_law_names_of" ["_law_rule_here"] (m__law_names_of 7) := (ok__law_names_of T B 7).mono (by decide)
  have G__law_all_facts : Ok P w K mg base 7 "_law_all_facts" ["_law_names_here"] m__law_all_facts := (ok__law_all_facts T B).mono (by decide)
  have G__law_holds : Ok P w K mg base 7 "_law_holds" ["_law_rule_here", "_law_facts"] (m__law_holds 7) := (ok__law_holds T B 7).mono (by decide)
  have G__law_all_clauses : Ok P w K mg base 7 "_law_all_clauses" ["_law_names_here"] m__law_all_clauses := (ok__law_all_clauses T B).mono (by decide)
  have G__law_sits : Ok P w K mg base 7 "_law_sits" ["_law_rows", "_law_clause"] m__law_sits := (ok__law_sits T B).mono (by decide)
  have G__law_before : Ok P w K mg base 7 "_law_before" ["_law_one", "_law_other"] m__law_before := (ok__law_before T B).mono (by decide)
  have gF_any := T.fre 31 "any" rfl
  have gF_len := T.fre 28 "len" rfl
  have gF_range := T.fre 34 "range" rfl
  refine ok_of (k := 7) F (T.glo 25 "_law_shortest" rfl) sc (F.bindsN fun _ _ _ _ _ _ us hl => match us, hl with | [_], _ => rfl) fun cdv A outer s H E hr => ?_
  have hu0 := hr.units0
  have hu1 := room1 hr
  have hu65 := room65 hr
  exact (dss_cons (ds_set sc.nd rfl (by first | exact Or.inl rfl | exact Or.inr rfl) (de_callO (ps := ["_law_rule_here"]) [true] G__law_names_of hr rfl (takes_of rfl rfl rfl rfl) (da_cons (de_var (pv 0)) da_nil)))
     (dss_cons (ds_set sc.nd rfl (by first | exact Or.inl rfl | exact Or.inr rfl) (de_lcW [("_law_facts", 7)] rfl sc.nd (di_seq (de_callO (ps := ["_law_names_here"]) [true] G__law_all_facts hr rfl (takes_of rfl rfl rfl rfl) (da_cons (de_var (pv 1)) da_nil))) (by kernel_rfl) (by decide) (fun _ _ _ _ _ => (dg_name (pg_name (i := 7) sc.nd rfl (by first | exact Or.inl rfl | exact Or.inr rfl)))) (fun _ _ _ _ _ => (dts_one (dt_val (de_callO (ps := ["_law_rule_here", "_law_facts"]) [true, true] G__law_holds hr rfl takes0 (da_cons (de_var (pv 0)) (da_cons (de_var (pv 7)) da_nil)))))) (fun _ _ _ _ _ => (de_var (pv 7)))))
     (dss_cons (ds_setLcW [("_law_clause", 5)] rfl sc.nd (by first | rfl | kernel_rfl) (by first | rfl | kernel_rfl) (sw_true rfl (by first | rfl | kernel_rfl) rfl (by decide +kernel)) (di_seq (de_callO (ps := ["_law_names_here"]) [true] G__law_all_clauses hr rfl (takes_of rfl rfl rfl rfl) (da_cons (de_var (pv 1)) da_nil))) (by kernel_rfl) (by decide) (fun _ _ _ _ _ => (dg_name (pg_name (i := 5) sc.nd rfl (by first | exact Or.inl rfl | exact Or.inr rfl)))) (fun _ _ _ _ _ => (dts_one (dt_val (de_callO (ps := ["_law_rows", "_law_clause"]) [true, true] G__law_sits hr rfl takes0 (da_cons (de_var (pv 2)) (da_cons (de_var (pv 5)) da_nil)))))) (fun _ _ _ _ _ => (de_var (pv 5))))
     (dss_cons (ds_set sc.nd rfl (by first | exact Or.inl rfl | exact Or.inr rfl) (de_lst da_nil))
     (dss_cons (ds_lock 3 (ds_for (passes_of rfl) rfl (di_list (de_var (pv 3))) (dg_name (pg_name (i := 5) sc.nd rfl (by first | exact Or.inl rfl | exact Or.inr rfl)))
     (dss_cons (ds_setLcW [("_law_k", 9)] rfl sc.nd (by first | rfl | kernel_rfl) (by first | rfl | kernel_rfl) (sw_true rfl (by first | rfl | kernel_rfl) rfl (by decide +kernel)) (di_range rfl gF_range (da_cons (de_blt call_lenU snd_len rfl gF_len (by decide +kernel) (da_cons (de_var (pv 5)) da_nil)) da_nil)) (by kernel_rfl) (by decide) (fun _ _ _ _ _ => (dg_name (pg_name (i := 9) sc.nd rfl (by first | exact Or.inl rfl | exact Or.inr rfl)))) (fun _ _ _ _ _ => dts_nil) (fun _ _ _ _ _ => (de_op op_addU snd_add (de_slice (de_var (pv 5)) do_none (do_some (de_var (pv 9)))) (de_slice (de_var (pv 5)) (do_some (de_op op_addU snd_add (de_var (pv 9)) de_int)) do_none))))
     (dss_one (ds_if (dt_not (dt_val (de_blt (cr_any rfl) snd_any rfl gF_any (by decide +kernel) (da_cons (de_lock 6 (de_lcW [("_law_one", 10)] rfl sc.nd (di_list (de_var (pv 6))) (by kernel_rfl) (by decide) (fun _ _ _ _ _ => (dg_name (pg_name (i := 10) sc.nd rfl (by first | exact Or.inl rfl | exact Or.inr rfl)))) (fun _ _ _ _ _ => dts_nil) (fun _ _ _ _ _ => (de_callO (ps := ["_law_rows", "_law_clause"]) [true, true] G__law_sits hr rfl takes0 (da_cons (de_var (pv 2)) (da_cons (de_var (pv 10)) da_nil)))))) da_nil))))
     (dss_cons (ds_set sc.nd rfl (by first | exact Or.inl rfl | exact Or.inr rfl) (de_blt call_lenU snd_len rfl gF_len (by decide +kernel) (da_cons (de_var (pv 4)) da_nil)))
     (dss_cons (ds_while 300 (passes_of rfl) (DW.t (dw_and (dt_cmp op_gtU snd_cop (de_var (pv 8)) de_int rfl) (dw_and1 (dt_val (de_callO (ps := ["_law_one", "_law_other"]) [true, true] G__law_before hr rfl (takes_of rfl rfl rfl rfl) (da_cons (de_var (pv 5)) (da_cons (de_sub hu1 (de_var (pv 4)) (de_op op_sub snd_sub (de_var (pv 8)) de_int)) da_nil)))))))
     (dss_one (ds_augN (fun h => ps_aug sc.nd (i := 8) rfl (by first | exact Or.inl rfl | exact Or.inr rfl) h ip_sub) de_int)))
     (dss_one (ds_expr (de_mut PySem.F.slot_list_insert PySem.F.type_list_insert mt_insert mut_insert (pv 4) (da_cons (de_var (pv 8)) (da_cons (de_var (pv 5)) da_nil)))))))
     dss_nil)))))
     (dss_one (ds_ret (de_var (pv 4)))))))))
def mb_law : MS :=
     (sSeq (sSet 2 (eCall 2 [true, true] m__law_names (aCons (eVar 1) (aCons (eCall 2 [true, true] m__law_draw (aCons (eVar 1) (aCons (eC (.int 6)) aNil))) aNil))))
     (sSeq (sSet 3 (eCall 3 [true, true, true] (m__law_rule 7) (aCons (eVar 1) (aCons (eVar 2) (aCons (eOp2 pyAdd (eC (.int 1)) (eCall 2 [true, true] m__law_draw (aCons (eVar 1) (aCons (eC (.int 6)) aNil)))) aNil)))))
     (sSeq (sSet 4 (eCall 1 [true] m__law_shortest (aCons (eVar 3) aNil)))
     (sSeq (sFor (iRng (aCons (eC (.int 2)) aNil)) (gN 5)
     (sSeq (sSet 6 (eCall 1 [true] m_shortest_of (aCons (eVar 3) aNil)))
     (sSeq (sIf (tOrM (tNotM (tVal (eOp1 (isD "list") (eVar 6)))) (tOrM (tNotM (tVal (eBlt fAll (aCons (lkd 6 (eComp [7] (iSeq (eVar 6)) (gN 7) tTrue (eCall 1 [true] m__law_is_clause (aCons (eVar 7) aNil)))) aNil)))) (tVal (eOp2 pyNe (eVar 6) (eVar 4)))))
     (sRet (eC (.bool false)))
     sNil)
     (sExp (eMut 6 mClear aNil)))))
     (sRet (eAnd (eOp2 pyEq (eCall 1 [true] m_shortest_of (aCons (eUse mkTup (aCons (eC (.str "yes")) aNil)) aNil)) (eUse mkLst aNil)) (eOp2 pyEq (eCall 1 [true] m_shortest_of (aCons (eUse mkTup (aCons (eC (.str "no")) aNil)) aNil)) (eUse mkLst (aCons (eUse mkTup aNil) aNil)))))))))
theorem sc_law : FnScope ["_law_script", "_law_hand_here", "_law_names_here", "_law_rule_here", "_law_due", "_law_k", "_law_told", "_law_one"] ["_law_script"] (defScope s_law) := ⟨rfl, rfl, rfl, by decide +kernel, rfl, by decide +kernel, by decide +kernel⟩
theorem ok_law (T : Txt fa fn K mg) (B : BL K mg base) {f : Addr} {fd : FuncData} (F : FunD K "law" "law" (defArgs s_law) (defBody s_law) (defScope s_law) [] [] f fd)
    (pure : ∀ ns : List Int, ns.length ≤ 63 → ∃ ρ, mb_law (.un :: .own (handD ns) :: List.replicate 6 .un) = .ok (.rt (.val (.bool true))) ρ) : FnOk P w K mg base L2.CX0 13 f fd ["_law_script"] (Dl.spLaw K) := by
  obtain ⟨fdh, FH⟩ := T.d.def_ 11 (d := d__law_hand) rfl
  have gH := T.glo 11 "_law_hand" rfl
  have gl := T.fre 32 "list" rfl
  have sc := sc_law
  have bH : Binds K fdh ["_law_script"] [] := FH.bindsN fun _ _ _ _ _ _ us hl => match us, hl with | [_], _ => rfl
  have GH : FnOk P w K mg base L2.CX0 12 (He.ga K "_law_hand") fdh ["_law_script"] (spHand K) := (hand_ok FH sc__law_hand rfl rfl gl).mono (by decide)
  have G__law_names : Ok P w K mg base 12 "_law_names" ["_law_hand_here", "_law_many"] m__law_names := (ok__law_names T B).mono (by decide)
  have G__law_rule : Ok P w K mg base 12 "_law_rule" ["_law_hand_here", "_law_names_here", "_law_deep"] (m__law_rule 7) := (ok__law_rule T B 7).mono (by decide)
  have G__law_shortest : Ok P w K mg base 12 "_law_shortest" ["_law_rule_here"] m__law_shortest := (ok__law_shortest T B).mono (by decide)
  have G__law_draw : Ok P w K mg base 12 "_law_draw" ["_law_hand_here", "_law_many"] m__law_draw := (ok__law_draw T B).mono (by decide)
  have G_shortest_of : Ok P w K mg base 12 "shortest_of" ["rule"] m_shortest_of := (ok_shortest_of T B).mono (by decide)
  have G__law_is_clause : Ok P w K mg base 12 "_law_is_clause" ["_law_thing"] m__law_is_clause := (ok__law_is_clause T B).mono (by decide)
  have gF_all := T.fre 29 "all" rfl
  have gF_isinstance := T.fre 36 "isinstance" rfl
  have gF_list := T.fre 32 "list" rfl
  have gF_range := T.fre 34 "range" rfl
  refine law_ok (k := 12) (mb := mb_law) F sc rfl (by decide) (fun cdv A outer s H E hr => ?_) (fun cdv A outer s H E hr => ?_) pure
  · exact ps_set (i := 1) sc.nd rfl (by first | exact Or.inl rfl | exact Or.inr rfl) (pe_call GH hr rfl gH FH.kp bH .nil pass0 (pa_cons (pv 0) pa_nil))
  · have hu0 := hr.units0
    have hu1 := room1 hr
    have hu65 := room65 hr
    exact (dss_cons (ds_set sc.nd rfl (by first | exact Or.inl rfl | exact Or.inr rfl) (de_callO (ps := ["_law_hand_here", "_law_many"]) [true, true] G__law_names hr rfl takes0 (da_cons (de_var (pv 1)) (da_cons (de_callO (ps := ["_law_hand_here", "_law_many"]) [true, true] G__law_draw hr rfl takes0 (da_cons (de_var (pv 1)) (da_cons de_int da_nil))) da_nil))))
     (dss_cons (ds_set sc.nd rfl (by first | exact Or.inl rfl | exact Or.inr rfl) (de_callO (ps := ["_law_hand_here", "_law_names_here", "_law_deep"]) [true, true, true] G__law_rule hr rfl takes0 (da_cons (de_var (pv 1)) (da_cons (de_var (pv 2)) (da_cons (de_op op_addU snd_add de_int (de_callO (ps := ["_law_hand_here", "_law_many"]) [true, true] G__law_draw hr rfl takes0 (da_cons (de_var (pv 1)) (da_cons de_int da_nil)))) da_nil)))))
     (dss_cons (ds_set sc.nd rfl (by first | exact Or.inl rfl | exact Or.inr rfl) (de_callO (ps := ["_law_rule_here"]) [true] G__law_shortest hr rfl takes0 (da_cons (de_var (pv 3)) da_nil)))
     (dss_cons (ds_for (passes_of rfl) rfl (di_range rfl gF_range (da_cons de_int da_nil)) (dg_name (pg_name (i := 5) sc.nd rfl (by first | exact Or.inl rfl | exact Or.inr rfl)))
     (dss_cons (ds_set sc.nd rfl (by first | exact Or.inl rfl | exact Or.inr rfl) (de_callO (ps := ["rule"]) [true] G_shortest_of hr rfl takes0 (da_cons (de_var (pv 3)) da_nil)))
     (dss_cons (ds_if (DW.t (dw_or (dt_not (dt_val (de_isi (de_var (pv 6)) rfl gF_isinstance rfl gF_list (by decide +kernel)))) (dw_or (dt_not (dt_val (de_blt (cr_all rfl) snd_all rfl gF_all (by decide +kernel) (da_cons (de_lock 6 (de_lcW [("_law_one", 7)] rfl sc.nd (di_seq (de_var (pv 6))) (by kernel_rfl) (by decide) (fun _ _ _ _ _ => (dg_name (pg_name (i := 7) sc.nd rfl (by first | exact Or.inl rfl | exact Or.inr rfl)))) (fun _ _ _ _ _ => dts_nil) (fun _ _ _ _ _ => (de_callO (ps := ["_law_thing"]) [true] G__law_is_clause hr rfl takes0 (da_cons (de_var (pv 7)) da_nil))))) da_nil)))) (dw_or1 (dt_cmp (op_neD hr.units) snd_ne (de_var (pv 6)) (de_var (pv 4)) rfl)))))
     (dss_one (ds_ret de_bl))
     dss_nil)
     (dss_one (ds_expr (de_mut0 PySem.F.slot_list_clear PySem.F.type_list_clear mt_clear mut_clear (pv 6)))))))
     (dss_one (ds_ret (de_and (de_cmp (op_eqD hr.units) snd_eq (de_callO (ps := ["rule"]) [true] G_shortest_of hr rfl takes0 (da_cons (de_tup (da_cons de_str da_nil)) da_nil)) (de_lst da_nil) rfl) (de_one (de_cmp (op_eqD hr.units) snd_eq (de_callO (ps := ["rule"]) [true] G_shortest_of hr rfl takes0 (da_cons (de_tup (da_cons de_str da_nil)) da_nil)) (de_lst (da_cons (de_tup da_nil) da_nil)) rfl)))))))))
end
/-! ### the head -/
abbrev R : PySem.W.OpenRow := PySem.W.OpenLaw.row PySem.Challenge.rw_truceroll_k26_shortest_clauses
abbrev hk : PySem.W.Hook := hookT 4 fa fn lf
def ob (s : PySem.W.SharedT) : He.AlD × Bool := obsT 4 fa fn lf (HandSHeadRun.getT s)
theorem ob_eq (s : PySem.W.SharedT) : ob s = hk.obs s.abs := obsT_eq (HandSHeadRun.getT_eq s)
abbrev loose : List Str := ["TruceError", "NoFact", "all_names_in", "names_of", "clauses_in_order", "is_clause_part", "holds_under", "holds", "all_facts", "rows_under", "stands_in", "clauses_over", "shortest_of", "_law_hand", "_law_next", "_law_take", "_law_draw", "_law_names", "_law_rule", "_law_holds", "_law_names_of", "_law_all_facts", "_law_is_clause", "_law_stands", "_law_before", "_law_all_clauses", "_law_sits", "_law_shortest"]
theorem run (w : World) : HandSHeadRun.RunEq R (PySem.W.view R.prog [34]) hk ob 6000 loose w := by
  intro os
  kernel_rfl
def Pure : Prop := ∀ ns : List Int, ns.length ≤ 63 → ∃ ρ, mb_law (.un :: .own (handD ns) :: List.replicate 6 .un) = .ok (.rt (.val (.bool true))) ρ
theorem facts {P : Program} {w : World} {K : PySem.W.Frag} {h : Heap} {mg : Str → Option Value} {f : Addr} (pure : Pure) (X : K.In h) (G : h.Ns mainGlobals mg) (hfa : mg ("law" : Str) = some (.ref f)) (c : He.SaysD fa fn K) :
    ∃ fd : FuncData, (∀ (s : Shared) (v : Value), BindsTo s fd ⟨[v], []⟩ [("_law_script", v)]) ∧ ∀ base : Heap, K.In base → base.Ns mainGlobals mg → BL K mg base → FnOk P w K mg base CX0 13 f fd ["_law_script"] (Dl.spLaw K) := by
  obtain ⟨fd, F⟩ := c.def_ 26 (d := d_law) rfl
  have T : Txt fa fn K mg := Txt.of X G c
  have e := hfa.symm.trans (T.glo 26 "law" rfl)
  cases e
  have b := FunD.bindsA (ps := ["_law_script"]) F fun _ _ _ _ _ _ us hl => match us, hl with | [_], _ => rfl
  exact ⟨fd, fun s v => b s [v] rfl, fun base _ _ B => ok_law T B F pure⟩
theorem holds (pure : Pure) : PySem.Challenge.rw_truceroll_k26_shortest_clauses.Holds := by
  w_on; o_law
  refine HandSHeadRun.head_any (r := PySem.W.OpenLaw.row PySem.Challenge.rw_truceroll_k26_shortest_clauses) (q := PySem.W.view (PySem.W.OpenLaw.row PySem.Challenge.rw_truceroll_k26_shortest_clauses).prog [34]) (H := hk) (ob := ob) (M := 6000) (loose := loose) (d := HandSHeadRun.topDef (PySem.W.OpenLaw.row PySem.Challenge.rw_truceroll_k26_shortest_clauses).prog 34) (kwd := []) ob_eq
    (by kernel_rfl) (fun s => by kernel_rfl) run (by kernel_rfl) (by kernel_rfl) (by kernel_rfl) (by rfl) (by first | assumption | decide +kernel) (by decide +kernel) ⟨rfl, rfl, rfl, rfl, rfl, by decide +kernel⟩ ?hw ?hc
  case hw => w_witness2
  case hc =>
    refine LamX.walk_ofTsE (l := PySem.Challenge.rw_truceroll_k26_shortest_clauses) (n := 63) (k := 13) (x := "_law_script") (CX := fun _ => L2.CX0) rfl (by decide) (by kernel_rfl) ⟨rfl, by decide, by decide⟩ ?F (fun _ _ _ _ _ z => z)
    intro w mg fa h Y G hmg0
    obtain ⟨K, KX, c, TH⟩ := Y
    have hmg : mg ("law" : PySem.Str) = some (.ref fa) := by
      have e : (HandSHeadRun.topDef (PySem.W.OpenLaw.row PySem.Challenge.rw_truceroll_k26_shortest_clauses).prog 34).name = ("law" : PySem.Str) := by kernel_rfl
      rw [← e]
      exact hmg0
    obtain ⟨fd, hb, hF⟩ := facts (P := (PySem.Challenge.rw_truceroll_k26_shortest_clauses).prog) (w := w) pure KX G hmg c
    exact ⟨K, KX, lawAt_of TH hb fun base hK hn hB => hF base hK hn ⟨hB, TH.is⟩⟩
end G

set_option maxRecDepth 100000
set_option maxHeartbeats 400000
namespace G
open PySem PySem.Spec L2 Dl
set_option autoImplicit false
theorem overC_nd : ∀ {names : List Str}, names.Nodup → (overC names).Nodup := by
  intro names h
  have key : ∀ k, k ≤ names.length → (overC (names.take k)).Nodup := by
    intro k
    induction k with
    | zero => intro _; exact List.pairwise_singleton ..
    | succ k ih =>
      intro hk
      have hg : names[k]? = some names[k] := List.getElem?_eq_getElem (by omega)
      have e : names.take (k + 1) = names.take k ++ [names[k]] := by rw [List.take_add_one, hg]; rfl
      have hn : names[k] ∉ names.take k := fun hm => by
        have : (names.take (k + 1)).Nodup := h.sublist (List.take_sublist _ _)
        rw [e] at this
        exact (List.nodup_append.mp this).2.2 _ hm _ (List.mem_singleton.mpr rfl) rfl
      have ih := ih (by omega)
      have hf : ∀ c ∈ overC (names.take k), ∀ p ∈ c, p.1 ≠ names[k] := fun c hc p hp z => hn (by
        have := ((overC_mem _).mp hc).subset (List.mem_map.mpr ⟨p, hp, rfl⟩)
        rw [z] at this
        exact this)
      rw [e, overC_snoc]
      generalize overC (names.take k) = rows at *
      generalize names[k] = n at *
      have inj : ∀ t, (rows.map (addL n t)).Nodup := fun t => List.pairwise_map.mpr (ih.imp fun {a b} hab z => hab (List.append_cancel_right z))
      have last : ∀ t c, (n, t) ∈ addL n t c := fun t c => by unfold addL; simp
      unfold extC
      refine List.nodup_append.mpr ⟨List.nodup_append.mpr ⟨ih, inj false, fun a ha b hb z => ?_⟩, inj true, fun a ha b hb z => ?_⟩
      · obtain ⟨c, _, rfl⟩ := List.mem_map.mp hb
        exact hf a ha (n, false) (by rw [z]; exact last false c) rfl
      · obtain ⟨c, _, rfl⟩ := List.mem_map.mp hb
        rcases List.mem_append.mp ha with ha | ha
        · exact hf a ha (n, true) (by rw [z]; exact last true c) rfl
        · obtain ⟨c', _, rfl⟩ := List.mem_map.mp ha
          have := (List.append_inj' (show c' ++ [(n, false)] = c ++ [(n, true)] from z) rfl).2
          injection this with h1 h2
          injection h1 with h3 h4
          cases h4
  have := key names.length (Nat.le_refl _)
  rw [List.take_length] at this
  exact this
/-- a clause less one literal, each in turn -/
def lessC (c : Li) : List Li := (List.range c.length).map fun k => c.take k ++ c.drop (k + 1)
def keep (rows : List Li) (c : Li) : Bool := !((lessC c).any (sits rows))
theorem less_sub {c x : Li} (h : x ∈ lessC c) : x.Sublist c := by
  obtain ⟨k, hk, rfl⟩ := List.mem_map.mp h
  have hk := List.mem_range.mp hk
  have e : c = c.take k ++ c[k] :: c.drop (k + 1) := by
    have := List.take_append_drop k c
    rw [List.drop_eq_getElem_cons hk] at this
    exact this.symm
  have : (c.take k ++ c.drop (k + 1)).Sublist (c.take k ++ c[k] :: c.drop (k + 1)) := List.Sublist.append (List.Sublist.refl _) (List.sublist_cons_self _ _)
  rw [← e] at this
  exact this
/-- the law's own list is the told one -/
theorem due_same {rows : List Li} {names : List Str} {T D : List Li} (hn : RiseN names) (s : Short rows names T) (hD : SS D) (h : ∀ x, x ∈ D ↔ x ∈ overC names ∧ sits rows x = true ∧ keep rows x = true) : T = D := by
  refine s.ss.same hD fun x => ?_
  rw [h]
  constructor
  · intro hx
    refine ⟨s.over x hx, s.sit x hx, ?_⟩
    unfold keep
    rw [Bool.not_eq_true', Bool.eq_false_iff]
    intro ha
    obtain ⟨y, hy, hs⟩ := List.any_eq_true.mp ha
    have sub := less_sub hy
    have hyo : y ∈ overC names := (overC_mem _).mpr ((sub.map _).trans ((overC_mem _).mp (s.over x hx)))
    obtain ⟨t, ht, hp⟩ := s.has y hyo hs
    have e := s.least t ht x hx (part_iff.mpr fun p hp2 => sub.subset (part_iff.mp hp p hp2))
    subst e
    have h1 := part_same (overC_rise hn (s.over t ht)) (overC_rise hn hyo) hp sub.length_le
    obtain ⟨k, hk, e⟩ := List.mem_map.mp hy
    have hk := List.mem_range.mp hk
    have := congrArg List.length e
    rw [← h1, List.length_append, List.length_take, List.length_drop] at this
    omega
  · rintro ⟨ho, hs, hk⟩
    obtain ⟨t, ht, hp⟩ := s.has x ho hs
    by_cases e : x = t
    · rw [e]; exact ht
    · exfalso
      have rx := overC_rise hn ho
      have rt := overC_rise hn (s.over t ht)
      -- some literal of x is not in t
      have : ∃ p ∈ x, p ∉ t := by
        refine Classical.byContradiction fun z => e ?_
        have z : ∀ p ∈ x, p ∈ t := fun p hp => Classical.byContradiction fun w => z ⟨p, hp, w⟩
        exact part_same rx rt (part_iff.mpr z) (rise_sub rt rx (part_iff.mp hp)).length_le
      obtain ⟨p, hpx, hpt⟩ := this
      obtain ⟨k, hkx⟩ := List.mem_iff_getElem?.mp hpx
      obtain ⟨hkl, hke⟩ := List.getElem?_eq_some_iff.mp hkx
      have hm : x.take k ++ x.drop (k + 1) ∈ lessC x := List.mem_map.mpr ⟨k, List.mem_range.mpr hkl, rfl⟩
      have hpart : part t (x.take k ++ x.drop (k + 1)) = true := part_iff.mpr fun q hq => by
        have hqx := part_iff.mp hp q hq
        have esp : x = x.take k ++ x[k] :: x.drop (k + 1) := by
          have := List.take_append_drop k x
          rw [List.drop_eq_getElem_cons hkl] at this
          exact this.symm
        rw [esp] at hqx
        rcases List.mem_append.mp hqx with w | w
        · exact List.mem_append_left _ w
        · rcases List.mem_cons.mp w with w | w
          · rw [hke] at w
            exact absurd (by rw [← w]; exact hq) hpt
          · exact List.mem_append_right _ w
      have := List.any_eq_true.mpr ⟨_, hm, sits_part hpart (s.sit t ht)⟩
      unfold keep at hk
      rw [this] at hk
      cases hk
/-! ### the walk -/
theorem rows_comp {p1 p2 p3 p4 p5 p6 p8 p9 p10 : Dl.Slot} {r : Ru} (hr : r.dep ≤ 6) {fs : List Li} (hk : ∀ f ∈ fs, ∀ n ∈ r.names, (look f n).isSome) (hl : fs.length ≤ 100000) {QO : Opd → Rho → Prop} {X : Ex → Rho → Prop}
    (h : QO (.new (.list ((fs.filter fun f => r.val (ev f)).map fD))) [.dat r.toD, p1, p2, p3, p4, p5, p6, .un, p8, p9, p10]) :
    wp (compL [7] (gN 7) (tVal (eCall 2 [true, true] (m__law_holds 7) (aCons (eVar 0) (aCons (eVar 7) aNil)))) (eVar 7) (fs.map fD) [] [.dat r.toD, p1, p2, p3, p4, p5, p6, .un, p8, p9, p10]) QO X := by
  obtain ⟨I, eI⟩ : ∃ I : Nat → List D → Rho → Prop, I = fun i out ρ => out = ((fs.take i).filter fun f => r.val (ev f)).map fD ∧ ρ = [.dat r.toD, p1, p2, p3, p4, p5, p6, .un, p8, p9, p10] := ⟨_, rfl⟩
  refine wp_cmp I (by rw [eI]; exact ⟨rfl, rfl⟩) (fun i d out ρ hd hI => ?_) fun out ρ hI => ?_
  · rw [eI] at hI
    obtain ⟨rfl, rfl⟩ := hI
    rw [List.getElem?_map, Option.map_eq_some_iff] at hd
    obtain ⟨f, hf, rfl⟩ := hd
    have hh := law_holds_eq (fs := f) 7 r (s := .dat (fD f)) (.inl rfl) (by omega) (hk f (List.mem_of_getElem? hf))
    have hfl : ((fs.take i).filter fun f => r.val (ev f)).length ≤ 100000 := by
      have := List.length_filter_le (fun f => r.val (ev f)) (fs.take i)
      rw [List.length_take] at this
      omega
    have hn : ((fs.take (i + 1)).filter fun f => r.val (ev f)) = ((fs.take i).filter fun f => r.val (ev f)) ++ (if r.val (ev f) = true then [f] else []) := by
      rw [List.take_add_one, hf, List.filter_append]
      cases z : r.val (ev f) <;> simp [z]
    refine ⟨[.dat r.toD, p1, p2, p3, p4, p5, p6, .dat (fD f), p8, p9, p10], rfl, ?_⟩
    generalize (fs.take i).filter (fun f => r.val (ev f)) = out at *
    cases z : r.val (ev f) with
    | true =>
      rw [z] at hh hn
      simp -dsimp -implicitDefEqProofs [Dl.vI, Dl.vB, Dl.vS, Dl.run2, Dl.run1, Dl.deref, Dl.Slot.data?, Dl.useO, Dl.useAll, Dl.boolOf, Dl.putO, Dl.free, Dl.outO, Dl.withAll, Dl.runN, Dl.derefs, Dl.mutO, Dl.isLst, Dl.isDct, Dl.putI, Dl.putD, Dl.setI, Dl.augO, Dl.getI, Dl.slotOf, Dl.slotsOf, Dl.lents, Dl.takeB, Dl.backS, Dl.useSel, Dl.back, Dl.gd, Dl.pyIx, atI, ixN, Dl.pyGet, Dl.pyMul, Dl.pyAdd, Dl.pyEq, Dl.pyNe, Dl.mulOk, Dl.powOk, Dl.pySlice, Dl.fLen, Dl.fList, Dl.fTuple, Dl.mAppend, Dl.mReverse, Dl.mClear, Dl.mExtend, Dl.mInsert, Dl.mkTup, Dl.mkLst, Dl.pyIsN, Dl.pyNotN, Dl.fNeg, Dl.pyRev, Dl.gN, Dl.gsNil, Dl.gsCons, Dl.gT, Dl.srcL, Dl.srcT, Dl.srcS, Dl.srcQ, Dl.srcR1, Dl.srcR2, Dl.hide, Dl.restore, sizeLine_eq, Dl.lockS, hh, show out.length < 16777216 by omega]
      refine ⟨_, _, ⟨rfl, rfl⟩, ?_⟩
      rw [eI]
      exact ⟨by rw [hn]; simp, rfl⟩
    | false =>
      rw [z] at hh hn
      simp -dsimp -implicitDefEqProofs [Dl.vI, Dl.vB, Dl.vS, Dl.run2, Dl.run1, Dl.deref, Dl.Slot.data?, Dl.useO, Dl.useAll, Dl.boolOf, Dl.putO, Dl.free, Dl.outO, Dl.withAll, Dl.runN, Dl.derefs, Dl.mutO, Dl.isLst, Dl.isDct, Dl.putI, Dl.putD, Dl.setI, Dl.augO, Dl.getI, Dl.slotOf, Dl.slotsOf, Dl.lents, Dl.takeB, Dl.backS, Dl.useSel, Dl.back, Dl.gd, Dl.pyIx, atI, ixN, Dl.pyGet, Dl.pyMul, Dl.pyAdd, Dl.pyEq, Dl.pyNe, Dl.mulOk, Dl.powOk, Dl.pySlice, Dl.fLen, Dl.fList, Dl.fTuple, Dl.mAppend, Dl.mReverse, Dl.mClear, Dl.mExtend, Dl.mInsert, Dl.mkTup, Dl.mkLst, Dl.pyIsN, Dl.pyNotN, Dl.fNeg, Dl.pyRev, Dl.gN, Dl.gsNil, Dl.gsCons, Dl.gT, Dl.srcL, Dl.srcT, Dl.srcS, Dl.srcQ, Dl.srcR1, Dl.srcR2, Dl.hide, Dl.restore, sizeLine_eq, Dl.lockS, hh]
      rw [eI]
      exact ⟨by rw [hn]; simp, rfl⟩
  · rw [eI] at hI
    obtain ⟨rfl, rfl⟩ := hI
    rw [List.length_map, List.take_length]
    exact h
theorem some_comp {p0 p1 p3 p4 p6 p7 p8 p9 p10 : Dl.Slot} {rows cs : List Li} (hk : ∀ c ∈ cs, Tells rows c) (hl : cs.length ≤ 100000) {QO : Opd → Rho → Prop} {X : Ex → Rho → Prop}
    (h : QO (.new (.list ((cs.filter (sits rows)).map fT))) [p0, p1, .own (.list (rows.map fD)), p3, p4, .un, p6, p7, p8, p9, p10]) :
    wp (compL [5] (gN 5) (tVal (eCall 2 [true, true] m__law_sits (aCons (eVar 2) (aCons (eVar 5) aNil)))) (eVar 5) (cs.map fT) [] [p0, p1, .own (.list (rows.map fD)), p3, p4, .un, p6, p7, p8, p9, p10]) QO X := by
  obtain ⟨I, eI⟩ : ∃ I : Nat → List D → Rho → Prop, I = fun i out ρ => out = ((cs.take i).filter (sits rows)).map fT ∧ ρ = [p0, p1, .own (.list (rows.map fD)), p3, p4, .un, p6, p7, p8, p9, p10] := ⟨_, rfl⟩
  refine wp_cmp I (by rw [eI]; exact ⟨rfl, rfl⟩) (fun i d out ρ hd hI => ?_) fun out ρ hI => ?_
  · rw [eI] at hI
    obtain ⟨rfl, rfl⟩ := hI
    rw [List.getElem?_map, Option.map_eq_some_iff] at hd
    obtain ⟨c, hc, rfl⟩ := hd
    have hh := law_sits_eq (hk c (List.mem_of_getElem? hc))
    have hfl : ((cs.take i).filter (sits rows)).length ≤ 100000 := by
      have := List.length_filter_le (sits rows) (cs.take i)
      rw [List.length_take] at this
      omega
    have hn : ((cs.take (i + 1)).filter (sits rows)) = ((cs.take i).filter (sits rows)) ++ (if sits rows c = true then [c] else []) := by
      rw [List.take_add_one, hc, List.filter_append]
      cases z : sits rows c <;> simp [z]
    refine ⟨[p0, p1, .own (.list (rows.map fD)), p3, p4, .dat (fT c), p6, p7, p8, p9, p10], rfl, ?_⟩
    generalize (cs.take i).filter (sits rows) = out at *
    cases z : sits rows c with
    | true =>
      rw [z] at hh hn
      simp -dsimp -implicitDefEqProofs [Dl.vI, Dl.vB, Dl.vS, Dl.run2, Dl.run1, Dl.deref, Dl.Slot.data?, Dl.useO, Dl.useAll, Dl.boolOf, Dl.putO, Dl.free, Dl.outO, Dl.withAll, Dl.runN, Dl.derefs, Dl.mutO, Dl.isLst, Dl.isDct, Dl.putI, Dl.putD, Dl.setI, Dl.augO, Dl.getI, Dl.slotOf, Dl.slotsOf, Dl.lents, Dl.takeB, Dl.backS, Dl.useSel, Dl.back, Dl.gd, Dl.pyIx, atI, ixN, Dl.pyGet, Dl.pyMul, Dl.pyAdd, Dl.pyEq, Dl.pyNe, Dl.mulOk, Dl.powOk, Dl.pySlice, Dl.fLen, Dl.fList, Dl.fTuple, Dl.mAppend, Dl.mReverse, Dl.mClear, Dl.mExtend, Dl.mInsert, Dl.mkTup, Dl.mkLst, Dl.pyIsN, Dl.pyNotN, Dl.fNeg, Dl.pyRev, Dl.gN, Dl.gsNil, Dl.gsCons, Dl.gT, Dl.srcL, Dl.srcT, Dl.srcS, Dl.srcQ, Dl.srcR1, Dl.srcR2, Dl.hide, Dl.restore, sizeLine_eq, Dl.lockS, hh, show out.length < 16777216 by omega]
      refine ⟨_, _, ⟨rfl, rfl⟩, ?_⟩
      rw [eI]
      exact ⟨by rw [hn]; simp, rfl⟩
    | false =>
      rw [z] at hh hn
      simp -dsimp -implicitDefEqProofs [Dl.vI, Dl.vB, Dl.vS, Dl.run2, Dl.run1, Dl.deref, Dl.Slot.data?, Dl.useO, Dl.useAll, Dl.boolOf, Dl.putO, Dl.free, Dl.outO, Dl.withAll, Dl.runN, Dl.derefs, Dl.mutO, Dl.isLst, Dl.isDct, Dl.putI, Dl.putD, Dl.setI, Dl.augO, Dl.getI, Dl.slotOf, Dl.slotsOf, Dl.lents, Dl.takeB, Dl.backS, Dl.useSel, Dl.back, Dl.gd, Dl.pyIx, atI, ixN, Dl.pyGet, Dl.pyMul, Dl.pyAdd, Dl.pyEq, Dl.pyNe, Dl.mulOk, Dl.powOk, Dl.pySlice, Dl.fLen, Dl.fList, Dl.fTuple, Dl.mAppend, Dl.mReverse, Dl.mClear, Dl.mExtend, Dl.mInsert, Dl.mkTup, Dl.mkLst, Dl.pyIsN, Dl.pyNotN, Dl.fNeg, Dl.pyRev, Dl.gN, Dl.gsNil, Dl.gsCons, Dl.gT, Dl.srcL, Dl.srcT, Dl.srcS, Dl.srcQ, Dl.srcR1, Dl.srcR2, Dl.hide, Dl.restore, sizeLine_eq, Dl.lockS, hh]
      rw [eI]
      exact ⟨by rw [hn]; simp, rfl⟩
  · rw [eI] at hI
    obtain ⟨rfl, rfl⟩ := hI
    rw [List.length_map, List.take_length]
    exact h
theorem less_comp {p0 p1 p2 p3 p4 p6 p7 p8 p10 : Dl.Slot} {c : Li} (hl : c.length ≤ 1000) {QO : Opd → Rho → Prop} {X : Ex → Rho → Prop}
    (h : QO (.new (.list ((lessC c).map fT))) [p0, p1, p2, p3, p4, .dat (fT c), p6, p7, p8, .un, p10]) :
    wp (compL [9] (gN 9) tTrue (eOp2 pyAdd (eSlice (eVar 5) oNone (oSome (eVar 9))) (eSlice (eVar 5) (oSome (eOp2 pyAdd (eVar 9) (eC (.int 1)))) oNone)) ((List.range c.length).map fun k : Nat => .int (k : Int)) [] [p0, p1, p2, p3, p4, .dat (fT c), p6, p7, p8, .un, p10]) QO X := by
  have ec : fT c = .tuple (c.map liD) := rfl
  obtain ⟨I, eI⟩ : ∃ I : Nat → List D → Rho → Prop, I = fun i out ρ => out = (((List.range c.length).take i).map fun k => c.take k ++ c.drop (k + 1)).map fT ∧ ρ = [p0, p1, p2, p3, p4, .dat (fT c), p6, p7, p8, .un, p10] := ⟨_, rfl⟩
  refine wp_cmp I (by rw [eI]; exact ⟨rfl, rfl⟩) (fun i d out ρ hd hI => ?_) fun out ρ hI => ?_
  · rw [eI] at hI
    obtain ⟨rfl, rfl⟩ := hI
    have hil := (List.getElem?_eq_some_iff.mp hd).1
    rw [List.length_map, List.length_range] at hil
    rw [List.getElem?_map, List.getElem?_range hil] at hd
    have hd : PyData.int (i : Int) = d := Option.some.inj hd
    subst hd
    have hn : ((List.range c.length).take (i + 1)).map (fun k => c.take k ++ c.drop (k + 1)) = ((List.range c.length).take i).map (fun k => c.take k ++ c.drop (k + 1)) ++ [c.take i ++ c.drop (i + 1)] := by
      rw [List.take_add_one, List.getElem?_range hil, List.map_append]
      rfl
    have hfl : (((List.range c.length).take i).map fun k => c.take k ++ c.drop (k + 1)).length < 16777216 := by
      rw [List.length_map, List.length_take, List.length_range]
      omega
    refine ⟨[p0, p1, p2, p3, p4, .dat (fT c), p6, p7, p8, .dat (.int i), p10], rfl, ?_⟩
    have cA : cutD (c.map liD) none (some (i : Int)) = (c.take i).map liD := by rw [cut_map, cutD_pre c (show (0 : Int) ≤ (i : Int) by omega), Int.toNat_natCast]
    have cB : cutD (c.map liD) (some ((i : Int) + 1)) none = (c.drop (i + 1)).map liD := by rw [cut_map, cutD_suf c (show (0 : Int) ≤ (i : Int) + 1 by omega), show ((i : Int) + 1).toNat = i + 1 by omega]
    have lA : (c.take i).length ≤ 1000 := by rw [List.length_take]; omega
    have lB : (c.drop (i + 1)).length ≤ 1000 := by rw [List.length_drop]; omega
    have eft : fT (c.take i ++ c.drop (i + 1)) = .tuple ((c.take i).map liD ++ (c.drop (i + 1)).map liD) := by unfold fT; rw [List.map_append]
    generalize ((List.range c.length).take i).map (fun k => c.take k ++ c.drop (k + 1)) = out at *
    have fin : ∀ x ρ, x = fT (c.take i ++ c.drop (i + 1)) → ρ = [p0, p1, p2, p3, p4, .dat (fT c), p6, p7, p8, .un, p10] → I (i + 1) (out.map fT ++ [x]) ρ := fun x ρ hx hρ => by
      rw [eI]
      refine ⟨?_, hρ⟩
      rw [hn, List.map_append, hx]
      rfl
    rw [eft] at fin
    generalize c.take i = A at *
    generalize c.drop (i + 1) = B at *
    rw [ec] at fin ⊢
    simp -dsimp -implicitDefEqProofs [Dl.vI, Dl.vB, Dl.vS, Dl.run2, Dl.run1, Dl.deref, Dl.Slot.data?, Dl.useO, Dl.useAll, Dl.boolOf, Dl.putO, Dl.free, Dl.outO, Dl.withAll, Dl.runN, Dl.derefs, Dl.mutO, Dl.isLst, Dl.isDct, Dl.putI, Dl.putD, Dl.setI, Dl.augO, Dl.getI, Dl.slotOf, Dl.slotsOf, Dl.lents, Dl.takeB, Dl.backS, Dl.useSel, Dl.back, Dl.gd, Dl.pyIx, atI, ixN, Dl.pyGet, Dl.pyMul, Dl.pyAdd, Dl.pyEq, Dl.pyNe, Dl.mulOk, Dl.powOk, Dl.pySlice, Dl.fLen, Dl.fList, Dl.fTuple, Dl.mAppend, Dl.mReverse, Dl.mClear, Dl.mExtend, Dl.mInsert, Dl.mkTup, Dl.mkLst, Dl.pyIsN, Dl.pyNotN, Dl.fNeg, Dl.pyRev, Dl.gN, Dl.gsNil, Dl.gsCons, Dl.gT, Dl.srcL, Dl.srcT, Dl.srcS, Dl.srcQ, Dl.srcR1, Dl.srcR2, Dl.hide, Dl.restore, sizeLine_eq, Dl.lockS, cA, cB, hfl, show A.length + B.length ≤ 16777216 by omega]
    exact ⟨_, _, ⟨rfl, rfl⟩, fin _ _ rfl rfl⟩
  · rw [eI] at hI
    obtain ⟨rfl, rfl⟩ := hI
    rw [List.length_map, List.take_of_length_le (by simp)]
    exact h
theorem any_comp {p0 p1 p3 p4 p5 p6 p7 p8 p9 : Dl.Slot} {rows cs : List Li} (hk : ∀ c ∈ cs, Tells rows c) (hl : cs.length ≤ 100000) {QO : Opd → Rho → Prop} {X : Ex → Rho → Prop}
    (h : QO (.new (.list ((cs.map (sits rows)).map .bool))) [p0, p1, .own (.list (rows.map fD)), p3, p4, p5, p6, p7, p8, p9, .un]) :
    wp (compL [10] (gN 10) tTrue (eCall 2 [true, true] m__law_sits (aCons (eVar 2) (aCons (eVar 10) aNil))) (cs.map fT) [] [p0, p1, .own (.list (rows.map fD)), p3, p4, p5, p6, p7, p8, p9, .un]) QO X := by
  obtain ⟨I, eI⟩ : ∃ I : Nat → List D → Rho → Prop, I = fun i out ρ => out = ((cs.take i).map (sits rows)).map .bool ∧ ρ = [p0, p1, .own (.list (rows.map fD)), p3, p4, p5, p6, p7, p8, p9, .un] := ⟨_, rfl⟩
  refine wp_cmp I (by rw [eI]; exact ⟨rfl, rfl⟩) (fun i d out ρ hd hI => ?_) fun out ρ hI => ?_
  · rw [eI] at hI
    obtain ⟨rfl, rfl⟩ := hI
    rw [List.getElem?_map, Option.map_eq_some_iff] at hd
    obtain ⟨c, hc, rfl⟩ := hd
    have hil := (List.getElem?_eq_some_iff.mp hc).1
    have hh := law_sits_eq (hk c (List.mem_of_getElem? hc))
    have hn : (cs.take (i + 1)).map (sits rows) = (cs.take i).map (sits rows) ++ [sits rows c] := by rw [List.take_add_one, hc, List.map_append]; rfl
    have hfl : ((cs.take i).map (sits rows)).length < 16777216 := by rw [List.length_map, List.length_take]; omega
    refine ⟨[p0, p1, .own (.list (rows.map fD)), p3, p4, p5, p6, p7, p8, p9, .dat (fT c)], rfl, ?_⟩
    generalize (cs.take i).map (sits rows) = out at *
    simp -dsimp -implicitDefEqProofs [Dl.vI, Dl.vB, Dl.vS, Dl.run2, Dl.run1, Dl.deref, Dl.Slot.data?, Dl.useO, Dl.useAll, Dl.boolOf, Dl.putO, Dl.free, Dl.outO, Dl.withAll, Dl.runN, Dl.derefs, Dl.mutO, Dl.isLst, Dl.isDct, Dl.putI, Dl.putD, Dl.setI, Dl.augO, Dl.getI, Dl.slotOf, Dl.slotsOf, Dl.lents, Dl.takeB, Dl.backS, Dl.useSel, Dl.back, Dl.gd, Dl.pyIx, atI, ixN, Dl.pyGet, Dl.pyMul, Dl.pyAdd, Dl.pyEq, Dl.pyNe, Dl.mulOk, Dl.powOk, Dl.pySlice, Dl.fLen, Dl.fList, Dl.fTuple, Dl.mAppend, Dl.mReverse, Dl.mClear, Dl.mExtend, Dl.mInsert, Dl.mkTup, Dl.mkLst, Dl.pyIsN, Dl.pyNotN, Dl.fNeg, Dl.pyRev, Dl.gN, Dl.gsNil, Dl.gsCons, Dl.gT, Dl.srcL, Dl.srcT, Dl.srcS, Dl.srcQ, Dl.srcR1, Dl.srcR2, Dl.hide, Dl.restore, sizeLine_eq, Dl.lockS, hh, hfl]
    refine ⟨_, _, ⟨rfl, rfl⟩, ?_⟩
    rw [eI]
    exact ⟨by rw [hn, List.map_append]; rfl, rfl⟩
  · rw [eI] at hI
    obtain ⟨rfl, rfl⟩ := hI
    rw [List.length_map, List.take_length]
    exact h
theorem at_row {row : List Li} {i : Int} {l : Li} (h0 : 0 ≤ i) (h : row[i.toNat]? = some l) : pyAt (.list (row.map fT)) (.int i) = some (.val (fT l)) := at_enc (f := fT) h0 h
theorem p63' : (1000 : Int) < 2 ^ 63 := by simp
theorem ins_ok (ds : List D) (i : Int) (k : Nat) (y : D) (hi : i = k) (hk : k ≤ 1000) (hl : ds.length ≤ 1000) : mInsert (.list ds) [.int i, y] = some (.list (ds.take k ++ [y] ++ ds.drop k), .none) := by
  have e : i.toNat = k := by omega
  have h0 : 0 ≤ i := by omega
  have h1 : i ≤ 1000 := by omega
  have h63 : i < 2 ^ 63 := Int.lt_of_le_of_lt h1 p63'
  have hz : ds.length < sizeLine := by rw [sizeLine_eq]; omega
  have hc : 0 ≤ i ∧ i < 2 ^ 63 ∧ ds.length < sizeLine := ⟨h0, h63, hz⟩
  unfold mInsert
  dsimp only
  rw [if_pos hc, e]
structure GL (c : Li) : Prop where
  nm : ∀ p ∈ c, Nm p.1
  len : c.length ≤ 8
theorem ins_step {p0 p1 p2 p3 p6 p7 p9 p10 : Dl.Slot} {row : List Li} {c : Li} {s8 : Dl.Slot} (hs : SS row) (hr : ∀ x ∈ row, GL x) (hc : GL c) (hn : c ∉ row) (hl : row.length ≤ 290) (f8 : frS s8 = true) {N : Rho → Prop} {O : Dl.Flow → Rho → Prop} {X : Ex → Rho → Prop}
    (h : ∀ row' s8, frS s8 = true → SS row' → (∀ x, x ∈ row' ↔ x ∈ row ∨ x = c) → N [p0, p1, p2, p3, .own (.list (row'.map fT)), .dat (fT c), p6, p7, s8, p9, p10]) :
    wp ((sSeq (sSet 8 (eBlt fLen (aCons (eVar 4) aNil)))
     (sSeq (sWhile (tAndM (tVal (eOp2 pyGt (eVar 8) (eC (.int 0)))) (tVal (eCall 2 [true, true] m__law_before (aCons (eVar 5) (aCons (eOp2 pyAt (eVar 4) (eOp2 pySub (eVar 8) (eC (.int 1)))) aNil)))))
     (sAugN 8 (fun i j => i - j) (eC (.int 1))) 300)
     (sExp (eMut 4 mInsert (aCons (eVar 8) (aCons (eVar 5) aNil)))))) [p0, p1, p2, p3, .own (.list (row.map fT)), .dat (fT c), p6, p7, s8, p9, p10]) (kf N O) X := by
  simp only [frS, free, List.getElem?_cons_zero] at f8
  obtain ⟨mI, hmI⟩ : ∃ m, m = mInsert := ⟨_, rfl⟩
  rw [← hmI]
  simp -dsimp -implicitDefEqProofs [Dl.vI, Dl.vB, Dl.vS, Dl.run2, Dl.run1, Dl.deref, Dl.Slot.data?, Dl.useO, Dl.useAll, Dl.boolOf, Dl.putO, Dl.free, Dl.outO, Dl.withAll, Dl.runN, Dl.derefs, Dl.mutO, Dl.isLst, Dl.isDct, Dl.putI, Dl.putD, Dl.setI, Dl.augO, Dl.getI, Dl.slotOf, Dl.slotsOf, Dl.lents, Dl.takeB, Dl.backS, Dl.useSel, Dl.back, Dl.gd, Dl.pyIx, atI, ixN, Dl.pyGet, Dl.pyMul, Dl.pyAdd, Dl.pyEq, Dl.pyNe, Dl.mulOk, Dl.powOk, Dl.pySlice, Dl.fLen, Dl.fList, Dl.fTuple, Dl.mAppend, Dl.mReverse, Dl.mClear, Dl.mExtend, Dl.mInsert, Dl.mkTup, Dl.mkLst, Dl.pyIsN, Dl.pyNotN, Dl.fNeg, Dl.pyRev, Dl.gN, Dl.gsNil, Dl.gsCons, Dl.gT, Dl.srcL, Dl.srcT, Dl.srcS, Dl.srcQ, Dl.srcR1, Dl.srcR2, Dl.hide, Dl.restore, sizeLine_eq, Dl.lockS, f8, show row.length ≤ 16777216 by omega]
  obtain ⟨I, eI⟩ : ∃ I : Nat → Rho → Prop, I = fun j ρ => j ≤ row.length ∧ (∀ k y, row.length - j ≤ k → row[k]? = some y → before c y = true) ∧ ρ = [p0, p1, p2, p3, .own (.list (row.map fT)), .dat (fT c), p6, p7, .dat (.int ((row.length : Int) - j)), p9, p10] := ⟨_, rfl⟩
  refine wp_turns I (N := 300) (fun j ρ hI => ?_) (j := 0) rfl (by rw [eI]; exact ⟨Nat.zero_le _, fun k y hk hy => absurd (List.getElem?_eq_some_iff.mp hy).1 (by omega), by simp⟩)
  rw [eI] at hI
  obtain ⟨hj, hb, rfl⟩ := hI
  refine ⟨by omega, ?_⟩
  have fin : ∀ (k : Nat), (∀ y ∈ row.drop k, before c y = true) → (∀ x ∈ row.take k, before x c = true) → k ≤ row.length → N [p0, p1, p2, p3, .own (.list ((row.take k ++ [c] ++ row.drop k).map fT)), .dat (fT c), p6, p7, .dat (.int k), p9, p10] := fun k h1 h2 hk =>
    h _ _ rfl (insert_ss hs h1 h2) (fun x => insert_mem k)
  have hdrop : ∀ (k : Nat), k = row.length - j → ∀ y ∈ row.drop k, before c y = true := fun k ek y hy => by
    obtain ⟨i, hi⟩ := List.mem_iff_getElem?.mp hy
    rw [List.getElem?_drop] at hi
    exact hb (k + i) y (by omega) hi
  have ee : ∀ k, (row.take k ++ [c] ++ row.drop k).map fT = (row.map fT).take k ++ fT c :: (row.map fT).drop k := fun k => by simp
  by_cases e0 : row.length = j
  · have ez : (row.length : Int) - (j : Int) = 0 := by omega
    have f0 := fin 0 (hdrop 0 (by omega)) (fun x hx => by cases hx) (Nat.zero_le _)
    rw [ee] at f0
    have ins := ins_ok (row.map fT) 0 0 (fT c) rfl (by omega) (by rw [List.length_map]; omega)
    rw [← hmI] at ins
    rw [ez]
    simp -dsimp -implicitDefEqProofs [Dl.vI, Dl.vB, Dl.vS, Dl.run2, Dl.run1, Dl.deref, Dl.Slot.data?, Dl.useO, Dl.useAll, Dl.boolOf, Dl.putO, Dl.free, Dl.outO, Dl.withAll, Dl.runN, Dl.derefs, Dl.mutO, Dl.isLst, Dl.isDct, Dl.putI, Dl.putD, Dl.setI, Dl.augO, Dl.getI, Dl.slotOf, Dl.slotsOf, Dl.lents, Dl.takeB, Dl.backS, Dl.useSel, Dl.back, Dl.gd, Dl.pyIx, atI, ixN, Dl.pyGet, Dl.pyMul, Dl.pyAdd, Dl.pyEq, Dl.pyNe, Dl.mulOk, Dl.powOk, Dl.pySlice, Dl.fLen, Dl.fList, Dl.fTuple, Dl.mAppend, Dl.mReverse, Dl.mClear, Dl.mExtend, Dl.mInsert, Dl.mkTup, Dl.mkLst, Dl.pyIsN, Dl.pyNotN, Dl.fNeg, Dl.pyRev, Dl.gN, Dl.gsNil, Dl.gsCons, Dl.gT, Dl.srcL, Dl.srcT, Dl.srcS, Dl.srcQ, Dl.srcR1, Dl.srcR2, Dl.hide, Dl.restore, sizeLine_eq, Dl.lockS, ins]
    exact f0
  · obtain ⟨k, hk⟩ : ∃ k, row.length - j = k + 1 := ⟨row.length - j - 1, by omega⟩
    obtain ⟨l, hlk⟩ : ∃ l, row[k]? = some l := ⟨_, List.getElem?_eq_getElem (by omega)⟩
    have ek : (row.length : Int) - (j : Int) = (k : Int) + 1 := by omega
    have gl := hr l (List.mem_of_getElem? hlk)
    have a1 := at_row (row := row) (i := (k : Int)) (by omega) (by rw [Int.toNat_natCast]; exact hlk)
    have bq := before_eq (a := c) (b := l) hc.nm gl.nm (by have := hc.len; omega) (by have := gl.len; omega)
    have hne : l ≠ c := fun z => hn (by rw [← z]; exact List.mem_of_getElem? hlk)
    rw [ek]
    cases hbl : before c l with
    | true =>
      rw [hbl] at bq
      simp -dsimp -implicitDefEqProofs [Dl.vI, Dl.vB, Dl.vS, Dl.run2, Dl.run1, Dl.deref, Dl.Slot.data?, Dl.useO, Dl.useAll, Dl.boolOf, Dl.putO, Dl.free, Dl.outO, Dl.withAll, Dl.runN, Dl.derefs, Dl.mutO, Dl.isLst, Dl.isDct, Dl.putI, Dl.putD, Dl.setI, Dl.augO, Dl.getI, Dl.slotOf, Dl.slotsOf, Dl.lents, Dl.takeB, Dl.backS, Dl.useSel, Dl.back, Dl.gd, Dl.pyIx, atI, ixN, Dl.pyGet, Dl.pyMul, Dl.pyAdd, Dl.pyEq, Dl.pyNe, Dl.mulOk, Dl.powOk, Dl.pySlice, Dl.fLen, Dl.fList, Dl.fTuple, Dl.mAppend, Dl.mReverse, Dl.mClear, Dl.mExtend, Dl.mInsert, Dl.mkTup, Dl.mkLst, Dl.pyIsN, Dl.pyNotN, Dl.fNeg, Dl.pyRev, Dl.gN, Dl.gsNil, Dl.gsCons, Dl.gT, Dl.srcL, Dl.srcT, Dl.srcS, Dl.srcQ, Dl.srcR1, Dl.srcR2, Dl.hide, Dl.restore, sizeLine_eq, Dl.lockS, a1, bq, show ¬ ((k : Int) + 1 ≤ 0) by omega, show (0 : Int) < (k : Int) + 1 by omega, -pyAt_list]
      rw [eI]
      refine ⟨by omega, fun i y hi hy => ?_, ?_⟩
      · by_cases e : i = k
        · subst e
          rw [hlk] at hy
          cases hy
          exact hbl
        · exact hb i y (by omega) hy
      · have : (k : Int) = (row.length : Int) - ((j + 1 : Nat) : Int) := by omega
        rw [this]
    | false =>
      rw [hbl] at bq
      have f1 := fin (k + 1) (hdrop (k + 1) (by omega)) (place_low hs hlk hbl hne) (by omega)
      have ins := ins_ok (row.map fT) ((k : Int) + 1) (k + 1) (fT c) (by omega) (by omega) (by rw [List.length_map]; omega)
      rw [← hmI] at ins
      rw [ee] at f1
      simp -dsimp -implicitDefEqProofs [Dl.vI, Dl.vB, Dl.vS, Dl.run2, Dl.run1, Dl.deref, Dl.Slot.data?, Dl.useO, Dl.useAll, Dl.boolOf, Dl.putO, Dl.free, Dl.outO, Dl.withAll, Dl.runN, Dl.derefs, Dl.mutO, Dl.isLst, Dl.isDct, Dl.putI, Dl.putD, Dl.setI, Dl.augO, Dl.getI, Dl.slotOf, Dl.slotsOf, Dl.lents, Dl.takeB, Dl.backS, Dl.useSel, Dl.back, Dl.gd, Dl.pyIx, atI, ixN, Dl.pyGet, Dl.pyMul, Dl.pyAdd, Dl.pyEq, Dl.pyNe, Dl.mulOk, Dl.powOk, Dl.pySlice, Dl.fLen, Dl.fList, Dl.fTuple, Dl.mAppend, Dl.mReverse, Dl.mClear, Dl.mExtend, Dl.mInsert, Dl.mkTup, Dl.mkLst, Dl.pyIsN, Dl.pyNotN, Dl.fNeg, Dl.pyRev, Dl.gN, Dl.gsNil, Dl.gsCons, Dl.gT, Dl.srcL, Dl.srcT, Dl.srcS, Dl.srcQ, Dl.srcR1, Dl.srcR2, Dl.hide, Dl.restore, sizeLine_eq, Dl.lockS, a1, bq, ins, show ¬ ((k : Int) + 1 = 0) by omega, show (0 : Int) < (k : Int) + 1 by omega, -pyAt_list]
      exact f1
def mIns : MS := (sSeq (sSet 8 (eBlt fLen (aCons (eVar 4) aNil)))
     (sSeq (sWhile (tAndM (tVal (eOp2 pyGt (eVar 8) (eC (.int 0)))) (tVal (eCall 2 [true, true] m__law_before (aCons (eVar 5) (aCons (eOp2 pyAt (eVar 4) (eOp2 pySub (eVar 8) (eC (.int 1)))) aNil)))))
     (sAugN 8 (fun i j => i - j) (eC (.int 1))) 300)
     (sExp (eMut 4 mInsert (aCons (eVar 8) (aCons (eVar 5) aNil))))))
theorem keep_loop {p0 p1 p3 p7 : Dl.Slot} {rows cs : List Li} (hnd : cs.Nodup) (hgl : ∀ c ∈ cs, GL c) (hl : cs.length ≤ 280) (htl : ∀ c ∈ cs, Tells rows c) {QF : Dl.Flow → Rho → Prop} {X : Ex → Rho → Prop}
    (h : ∀ row s5 s6 s8, SS row → (∀ x, x ∈ row ↔ x ∈ cs ∧ keep rows x = true) → QF .nx [p0, p1, .own (.list (rows.map fD)), p3, .own (.list (row.map fT)), s5, s6, p7, s8, .un, .un]) :
    wp (sLoop (gN 5) (sSeq (sSet 6 (eComp [9] (iRng (aCons (eBlt fLen (aCons (eVar 5) aNil)) aNil)) (gN 9) tTrue (eOp2 pyAdd (eSlice (eVar 5) oNone (oSome (eVar 9))) (eSlice (eVar 5) (oSome (eOp2 pyAdd (eVar 9) (eC (.int 1)))) oNone))))
     (sIf (tNotM (tVal (eBlt fAny (aCons (lkd 6 (eComp [10] (iLst (eVar 6)) (gN 10) tTrue (eCall 2 [true, true] m__law_sits (aCons (eVar 2) (aCons (eVar 10) aNil))))) aNil))))
     (sSeq (sSet 8 (eBlt fLen (aCons (eVar 4) aNil)))
     (sSeq (sWhile (tAndM (tVal (eOp2 pyGt (eVar 8) (eC (.int 0)))) (tVal (eCall 2 [true, true] m__law_before (aCons (eVar 5) (aCons (eOp2 pyAt (eVar 4) (eOp2 pySub (eVar 8) (eC (.int 1)))) aNil)))))
     (sAugN 8 (fun i j => i - j) (eC (.int 1))) 300)
     (sExp (eMut 4 mInsert (aCons (eVar 8) (aCons (eVar 5) aNil))))))
     sNil)) (cs.map fT) [p0, p1, .own (.list (rows.map fD)), p3, .own (.list []), .un, .un, p7, .un, .un, .un]) QF X := by
  obtain ⟨I, eI⟩ : ∃ I : Nat → Rho → Prop, I = fun i ρ => ∃ row s5 s6 s8, (frS s5 = true ∧ frS s6 = true ∧ frS s8 = true) ∧ SS row ∧ (∀ x, x ∈ row ↔ x ∈ cs.take i ∧ keep rows x = true) ∧ ρ = [p0, p1, .own (.list (rows.map fD)), p3, .own (.list (row.map fT)), s5, s6, p7, s8, .un, .un] := ⟨_, rfl⟩
  refine wp_for I (by rw [eI]; exact ⟨[], .un, .un, .un, ⟨rfl, rfl, rfl⟩, .nil, fun x => by simp, rfl⟩) (fun i x ρ hx hI => ?_) fun ρ hI => ?_
  · rw [eI] at hI
    obtain ⟨row, s5, s6, s8, ⟨f5, f6, f8⟩, hss, hm, rfl⟩ := hI
    have g8 := f8
    simp only [frS, free, List.getElem?_cons_zero] at f5 f6 f8
    rw [List.getElem?_map, Option.map_eq_some_iff] at hx
    obtain ⟨c, hc, rfl⟩ := hx
    have hmc := List.mem_of_getElem? hc
    have gc := hgl c hmc
    have hcl := gc.len
    have hil := (List.getElem?_eq_some_iff.mp hc).1
    have hrl : row.length ≤ 280 := by
      have := hss.nd.length_le_of_subset (fun x hx => List.mem_of_mem_take ((hm x).mp hx).1)
      omega
    have hnew : c ∉ row := fun z => by
      have z := ((hm c).mp z).1
      obtain ⟨j, hj⟩ := List.mem_iff_getElem?.mp z
      rw [List.getElem?_take] at hj
      split at hj
      · rename_i hji
        obtain ⟨p1, q1⟩ := List.getElem?_eq_some_iff.mp hj
        obtain ⟨p2, q2⟩ := List.getElem?_eq_some_iff.mp hc
        exact List.pairwise_iff_getElem.mp hnd j i p1 p2 hji (q1.trans q2.symm)
      · cases hj
    have htk : cs.take (i + 1) = cs.take i ++ [c] := by rw [List.take_add_one, hc]; rfl
    have elen : fLen [fT c] = some (.val (.int (c.length : Int))) := by unfold fLen fT; simp
    refine ⟨[p0, p1, .own (.list (rows.map fD)), p3, .own (.list (row.map fT)), .dat (fT c), s6, p7, s8, .un, .un], ?_, ?_⟩
    · simp -dsimp -implicitDefEqProofs [Dl.vI, Dl.vB, Dl.vS, Dl.run2, Dl.run1, Dl.deref, Dl.Slot.data?, Dl.useO, Dl.useAll, Dl.boolOf, Dl.putO, Dl.free, Dl.outO, Dl.withAll, Dl.runN, Dl.derefs, Dl.mutO, Dl.isLst, Dl.isDct, Dl.putI, Dl.putD, Dl.setI, Dl.augO, Dl.getI, Dl.slotOf, Dl.slotsOf, Dl.lents, Dl.takeB, Dl.backS, Dl.useSel, Dl.back, Dl.gd, Dl.pyIx, atI, ixN, Dl.pyGet, Dl.pyMul, Dl.pyAdd, Dl.pyEq, Dl.pyNe, Dl.mulOk, Dl.powOk, Dl.pySlice, Dl.fLen, Dl.fList, Dl.fTuple, Dl.mAppend, Dl.mReverse, Dl.mClear, Dl.mExtend, Dl.mInsert, Dl.mkTup, Dl.mkLst, Dl.pyIsN, Dl.pyNotN, Dl.fNeg, Dl.pyRev, Dl.gN, Dl.gsNil, Dl.gsCons, Dl.gT, Dl.srcL, Dl.srcT, Dl.srcS, Dl.srcQ, Dl.srcR1, Dl.srcR2, Dl.hide, Dl.restore, sizeLine_eq, Dl.lockS, f5]
    have hmB : mIns = (sSeq (sSet 8 (eBlt fLen (aCons (eVar 4) aNil)))
     (sSeq (sWhile (tAndM (tVal (eOp2 pyGt (eVar 8) (eC (.int 0)))) (tVal (eCall 2 [true, true] m__law_before (aCons (eVar 5) (aCons (eOp2 pyAt (eVar 4) (eOp2 pySub (eVar 8) (eC (.int 1)))) aNil)))))
     (sAugN 8 (fun i j => i - j) (eC (.int 1))) 300)
     (sExp (eMut 4 mInsert (aCons (eVar 8) (aCons (eVar 5) aNil)))))) := by unfold mIns; exact Eq.refl _
    generalize hg : mIns = mB at hmB
    rw [← hmB]
    simp -dsimp -implicitDefEqProofs [Dl.vI, Dl.vB, Dl.vS, Dl.run2, Dl.run1, Dl.deref, Dl.Slot.data?, Dl.useO, Dl.useAll, Dl.boolOf, Dl.putO, Dl.free, Dl.outO, Dl.withAll, Dl.runN, Dl.derefs, Dl.mutO, Dl.isLst, Dl.isDct, Dl.putI, Dl.putD, Dl.setI, Dl.augO, Dl.getI, Dl.slotOf, Dl.slotsOf, Dl.lents, Dl.takeB, Dl.backS, Dl.useSel, Dl.back, Dl.gd, Dl.pyIx, atI, ixN, Dl.pyGet, Dl.pyMul, Dl.pyAdd, Dl.pyEq, Dl.pyNe, Dl.mulOk, Dl.powOk, Dl.pySlice, Dl.fList, Dl.fTuple, Dl.mAppend, Dl.mReverse, Dl.mClear, Dl.mExtend, Dl.mInsert, Dl.mkTup, Dl.mkLst, Dl.pyIsN, Dl.pyNotN, Dl.fNeg, Dl.pyRev, Dl.gN, Dl.gsNil, Dl.gsCons, Dl.gT, Dl.srcL, Dl.srcT, Dl.srcS, Dl.srcQ, Dl.srcR1, Dl.srcR2, Dl.hide, Dl.restore, sizeLine_eq, Dl.lockS, elen, show ((c.length : Nat) : Int) < 4611686018427387904 by omega]
    refine less_comp (by omega) ?_
    simp -dsimp -implicitDefEqProofs [Dl.vI, Dl.vB, Dl.vS, Dl.run2, Dl.run1, Dl.deref, Dl.Slot.data?, Dl.useO, Dl.useAll, Dl.boolOf, Dl.putO, Dl.free, Dl.outO, Dl.withAll, Dl.runN, Dl.derefs, Dl.mutO, Dl.isLst, Dl.isDct, Dl.putI, Dl.putD, Dl.setI, Dl.augO, Dl.getI, Dl.slotOf, Dl.slotsOf, Dl.lents, Dl.takeB, Dl.backS, Dl.useSel, Dl.back, Dl.gd, Dl.pyIx, atI, ixN, Dl.pyGet, Dl.pyMul, Dl.pyAdd, Dl.pyEq, Dl.pyNe, Dl.mulOk, Dl.powOk, Dl.pySlice, Dl.fLen, Dl.fList, Dl.fTuple, Dl.mAppend, Dl.mReverse, Dl.mClear, Dl.mExtend, Dl.mInsert, Dl.mkTup, Dl.mkLst, Dl.pyIsN, Dl.pyNotN, Dl.fNeg, Dl.pyRev, Dl.gN, Dl.gsNil, Dl.gsCons, Dl.gT, Dl.srcL, Dl.srcT, Dl.srcS, Dl.srcQ, Dl.srcR1, Dl.srcR2, Dl.hide, Dl.restore, sizeLine_eq, Dl.lockS, f6]
    refine any_comp (rows := rows) (cs := lessC c) (fun x hx f hf p hp => htl c hmc f hf p ((less_sub hx).subset hp)) (by unfold lessC; rw [List.length_map, List.length_range]; omega) ?_
    have ha := any_map ((lessC c).map (sits rows))
    have hm2 : ((lessC c).map (sits rows)).any id = !(keep rows c) := by unfold keep; rw [List.any_map, Bool.not_not]; rfl
    rw [hm2] at ha
    generalize ((lessC c).map (sits rows)).map PyData.bool = bs at *
    cases hk : keep rows c with
    | true =>
      rw [hk] at ha
      simp -dsimp -implicitDefEqProofs [Dl.vI, Dl.vB, Dl.vS, Dl.run2, Dl.run1, Dl.deref, Dl.Slot.data?, Dl.useO, Dl.useAll, Dl.boolOf, Dl.putO, Dl.free, Dl.outO, Dl.withAll, Dl.runN, Dl.derefs, Dl.mutO, Dl.isLst, Dl.isDct, Dl.putI, Dl.putD, Dl.setI, Dl.augO, Dl.getI, Dl.slotOf, Dl.slotsOf, Dl.lents, Dl.takeB, Dl.backS, Dl.useSel, Dl.back, Dl.gd, Dl.pyIx, atI, ixN, Dl.pyGet, Dl.pyMul, Dl.pyAdd, Dl.pyEq, Dl.pyNe, Dl.mulOk, Dl.powOk, Dl.pySlice, Dl.fLen, Dl.fList, Dl.fTuple, Dl.mAppend, Dl.mReverse, Dl.mClear, Dl.mExtend, Dl.mInsert, Dl.mkTup, Dl.mkLst, Dl.pyIsN, Dl.pyNotN, Dl.fNeg, Dl.pyRev, Dl.gN, Dl.gsNil, Dl.gsCons, Dl.gT, Dl.srcL, Dl.srcT, Dl.srcS, Dl.srcQ, Dl.srcR1, Dl.srcR2, Dl.hide, Dl.restore, sizeLine_eq, Dl.lockS, ha]
      rw [hmB]
      refine ins_step hss (fun x hx => hgl x (List.mem_of_mem_take ((hm x).mp hx).1)) gc hnew (by omega) g8 fun row' s8 f8 hss' hm' => ?_
      rw [eI]
      refine ⟨row', _, _, s8, ⟨rfl, rfl, f8⟩, hss', fun x => ?_, rfl⟩
      rw [hm', hm, htk, List.mem_append, List.mem_singleton]
      constructor
      · rintro (⟨a, b⟩ | rfl)
        · exact ⟨.inl a, b⟩
        · exact ⟨.inr rfl, hk⟩
      · rintro ⟨a | rfl, b⟩
        · exact .inl ⟨a, b⟩
        · exact .inr rfl
    | false =>
      rw [hk] at ha
      simp -dsimp -implicitDefEqProofs [Dl.vI, Dl.vB, Dl.vS, Dl.run2, Dl.run1, Dl.deref, Dl.Slot.data?, Dl.useO, Dl.useAll, Dl.boolOf, Dl.putO, Dl.free, Dl.outO, Dl.withAll, Dl.runN, Dl.derefs, Dl.mutO, Dl.isLst, Dl.isDct, Dl.putI, Dl.putD, Dl.setI, Dl.augO, Dl.getI, Dl.slotOf, Dl.slotsOf, Dl.lents, Dl.takeB, Dl.backS, Dl.useSel, Dl.back, Dl.gd, Dl.pyIx, atI, ixN, Dl.pyGet, Dl.pyMul, Dl.pyAdd, Dl.pyEq, Dl.pyNe, Dl.mulOk, Dl.powOk, Dl.pySlice, Dl.fLen, Dl.fList, Dl.fTuple, Dl.mAppend, Dl.mReverse, Dl.mClear, Dl.mExtend, Dl.mInsert, Dl.mkTup, Dl.mkLst, Dl.pyIsN, Dl.pyNotN, Dl.fNeg, Dl.pyRev, Dl.gN, Dl.gsNil, Dl.gsCons, Dl.gT, Dl.srcL, Dl.srcT, Dl.srcS, Dl.srcQ, Dl.srcR1, Dl.srcR2, Dl.hide, Dl.restore, sizeLine_eq, Dl.lockS, ha]
      rw [eI]
      refine ⟨row, _, _, s8, ⟨rfl, rfl, g8⟩, hss, fun x => ?_, rfl⟩
      rw [hm, htk, List.mem_append, List.mem_singleton]
      constructor
      · rintro ⟨a, b⟩
        exact ⟨.inl a, b⟩
      · rintro ⟨a | rfl, b⟩
        · exact ⟨a, b⟩
        · rw [hk] at b
          cases b
  · rw [eI] at hI
    obtain ⟨row, s5, s6, s8, ⟨f5, f6, f8⟩, hss, hm, rfl⟩ := hI
    rw [List.length_map, List.take_length] at hm
    exact h row s5 s6 s8 hss hm
theorem law_shortest_eq {r : Ru} (hrd : r.dep ≤ 6) (hrc : (canon r.names).length ≤ 5) (hrn : ∀ s ∈ r.names, Nm s) {Q : Opd → Rho → Prop} {X : Ex → Rho → Prop} (h : Q (.new (.list ((shortest r).map fT))) [.dat r.toD]) : wp (m__law_shortest [.dat r.toD]) Q X := by
  unfold m__law_shortest
  have e2 := law_names_of_eq 7 r (by omega) hrd hrn
  have hcn : ∀ s ∈ canon r.names, Nm s := canon_nm hrn
  have hfk : ∀ f ∈ allF (canon r.names), ∀ n ∈ r.names, (look f n).isSome := fun f hf n hn => allF_look hf (canon_mem.mpr hn)
  have hfl : (allF (canon r.names)).length ≤ 32 := by
    rw [allF_len]
    exact Nat.le_trans (Nat.pow_le_pow_right (by decide) hrc) (by decide)
  have hol : (overC (canon r.names)).length ≤ 243 := by
    rw [overC_len]
    exact Nat.le_trans (Nat.pow_le_pow_right (by decide) hrc) (by decide)
  have htl : ∀ c ∈ overC (canon r.names), Tells (under r) c := fun c hc f hf p hp => allF_look (List.mem_filter.mp hf).1 (((overC_mem _).mp hc).subset (List.mem_map.mpr ⟨p, hp, rfl⟩))
  have hsub : ∀ c ∈ overC (canon r.names), ∀ x ∈ lessC c, x ∈ overC (canon r.names) := fun c hc x hx => (overC_mem _).mpr (((less_sub hx).map _).trans ((overC_mem _).mp hc))
  have hgl : ∀ c ∈ overC (canon r.names), GL c := fun c hc => ⟨fun p hp => hcn _ (((overC_mem _).mp hc).subset (List.mem_map.mpr ⟨p, hp, rfl⟩)), by have := overC_short hc; omega⟩
  have hnd := overC_nd (canon_nodup r.names)
  have sp := shortest_spec r
  have eu : under r = (allF (canon r.names)).filter fun f => r.val (ev f) := rfl
  have hfo : ((overC (canon r.names)).filter (sits (under r))).length ≤ 243 := Nat.le_trans (List.length_filter_le _ _) hol
  have hfm : ∀ c ∈ (overC (canon r.names)).filter (sits (under r)), c ∈ overC (canon r.names) := fun c hc => (List.mem_filter.mp hc).1
  simp -dsimp -implicitDefEqProofs [Dl.vI, Dl.vB, Dl.vS, Dl.run2, Dl.run1, Dl.deref, Dl.Slot.data?, Dl.useO, Dl.useAll, Dl.boolOf, Dl.putO, Dl.free, Dl.outO, Dl.withAll, Dl.runN, Dl.derefs, Dl.mutO, Dl.isLst, Dl.isDct, Dl.putI, Dl.putD, Dl.setI, Dl.augO, Dl.getI, Dl.slotOf, Dl.slotsOf, Dl.lents, Dl.takeB, Dl.backS, Dl.useSel, Dl.back, Dl.gd, Dl.pyIx, atI, ixN, Dl.pyGet, Dl.pyMul, Dl.pyAdd, Dl.pyEq, Dl.pyNe, Dl.mulOk, Dl.powOk, Dl.pySlice, Dl.fLen, Dl.fList, Dl.fTuple, Dl.mAppend, Dl.mReverse, Dl.mClear, Dl.mExtend, Dl.mInsert, Dl.mkTup, Dl.mkLst, Dl.pyIsN, Dl.pyNotN, Dl.fNeg, Dl.pyRev, Dl.gN, Dl.gsNil, Dl.gsCons, Dl.gT, Dl.srcL, Dl.srcT, Dl.srcS, Dl.srcQ, Dl.srcR1, Dl.srcR2, Dl.hide, Dl.restore, sizeLine_eq, Dl.lockS, e2]
  refine law_all_facts_eq (by omega) ⟨?_, ?_⟩
  all_goals
    simp -dsimp -implicitDefEqProofs [Dl.vI, Dl.vB, Dl.vS, Dl.run2, Dl.run1, Dl.deref, Dl.Slot.data?, Dl.useO, Dl.useAll, Dl.boolOf, Dl.putO, Dl.free, Dl.outO, Dl.withAll, Dl.runN, Dl.derefs, Dl.mutO, Dl.isLst, Dl.isDct, Dl.putI, Dl.putD, Dl.setI, Dl.augO, Dl.getI, Dl.slotOf, Dl.slotsOf, Dl.lents, Dl.takeB, Dl.backS, Dl.useSel, Dl.back, Dl.gd, Dl.pyIx, atI, ixN, Dl.pyGet, Dl.pyMul, Dl.pyAdd, Dl.pyEq, Dl.pyNe, Dl.mulOk, Dl.powOk, Dl.pySlice, Dl.fLen, Dl.fList, Dl.fTuple, Dl.mAppend, Dl.mReverse, Dl.mClear, Dl.mExtend, Dl.mInsert, Dl.mkTup, Dl.mkLst, Dl.pyIsN, Dl.pyNotN, Dl.fNeg, Dl.pyRev, Dl.gN, Dl.gsNil, Dl.gsCons, Dl.gT, Dl.srcL, Dl.srcT, Dl.srcS, Dl.srcQ, Dl.srcR1, Dl.srcR2, Dl.hide, Dl.restore, sizeLine_eq, Dl.lockS]
    refine rows_comp hrd hfk (by omega) ?_
    rw [← eu]
    simp -dsimp -implicitDefEqProofs [Dl.vI, Dl.vB, Dl.vS, Dl.run2, Dl.run1, Dl.deref, Dl.Slot.data?, Dl.useO, Dl.useAll, Dl.boolOf, Dl.putO, Dl.free, Dl.outO, Dl.withAll, Dl.runN, Dl.derefs, Dl.mutO, Dl.isLst, Dl.isDct, Dl.putI, Dl.putD, Dl.setI, Dl.augO, Dl.getI, Dl.slotOf, Dl.slotsOf, Dl.lents, Dl.takeB, Dl.backS, Dl.useSel, Dl.back, Dl.gd, Dl.pyIx, atI, ixN, Dl.pyGet, Dl.pyMul, Dl.pyAdd, Dl.pyEq, Dl.pyNe, Dl.mulOk, Dl.powOk, Dl.pySlice, Dl.fLen, Dl.fList, Dl.fTuple, Dl.mAppend, Dl.mReverse, Dl.mClear, Dl.mExtend, Dl.mInsert, Dl.mkTup, Dl.mkLst, Dl.pyIsN, Dl.pyNotN, Dl.fNeg, Dl.pyRev, Dl.gN, Dl.gsNil, Dl.gsCons, Dl.gT, Dl.srcL, Dl.srcT, Dl.srcS, Dl.srcQ, Dl.srcR1, Dl.srcR2, Dl.hide, Dl.restore, sizeLine_eq, Dl.lockS]
    refine law_all_clauses_eq (by omega) fun o ho => ?_
    rcases ho with rfl | rfl
    all_goals
      simp -dsimp -implicitDefEqProofs [Dl.vI, Dl.vB, Dl.vS, Dl.run2, Dl.run1, Dl.deref, Dl.Slot.data?, Dl.useO, Dl.useAll, Dl.boolOf, Dl.putO, Dl.free, Dl.outO, Dl.withAll, Dl.runN, Dl.derefs, Dl.mutO, Dl.isLst, Dl.isDct, Dl.putI, Dl.putD, Dl.setI, Dl.augO, Dl.getI, Dl.slotOf, Dl.slotsOf, Dl.lents, Dl.takeB, Dl.backS, Dl.useSel, Dl.back, Dl.gd, Dl.pyIx, atI, ixN, Dl.pyGet, Dl.pyMul, Dl.pyAdd, Dl.pyEq, Dl.pyNe, Dl.mulOk, Dl.powOk, Dl.pySlice, Dl.fLen, Dl.fList, Dl.fTuple, Dl.mAppend, Dl.mReverse, Dl.mClear, Dl.mExtend, Dl.mInsert, Dl.mkTup, Dl.mkLst, Dl.pyIsN, Dl.pyNotN, Dl.fNeg, Dl.pyRev, Dl.gN, Dl.gsNil, Dl.gsCons, Dl.gT, Dl.srcL, Dl.srcT, Dl.srcS, Dl.srcQ, Dl.srcR1, Dl.srcR2, Dl.hide, Dl.restore, sizeLine_eq, Dl.lockS]
      refine some_comp htl (by omega) ?_
      simp -dsimp -implicitDefEqProofs [Dl.vI, Dl.vB, Dl.vS, Dl.run2, Dl.run1, Dl.deref, Dl.Slot.data?, Dl.useO, Dl.useAll, Dl.boolOf, Dl.putO, Dl.free, Dl.outO, Dl.withAll, Dl.runN, Dl.derefs, Dl.mutO, Dl.isLst, Dl.isDct, Dl.putI, Dl.putD, Dl.setI, Dl.augO, Dl.getI, Dl.slotOf, Dl.slotsOf, Dl.lents, Dl.takeB, Dl.backS, Dl.useSel, Dl.back, Dl.gd, Dl.pyIx, atI, ixN, Dl.pyGet, Dl.pyMul, Dl.pyAdd, Dl.pyEq, Dl.pyNe, Dl.mulOk, Dl.powOk, Dl.pySlice, Dl.fLen, Dl.fList, Dl.fTuple, Dl.mAppend, Dl.mReverse, Dl.mClear, Dl.mExtend, Dl.mInsert, Dl.mkTup, Dl.mkLst, Dl.pyIsN, Dl.pyNotN, Dl.fNeg, Dl.pyRev, Dl.gN, Dl.gsNil, Dl.gsCons, Dl.gT, Dl.srcL, Dl.srcT, Dl.srcS, Dl.srcQ, Dl.srcR1, Dl.srcR2, Dl.hide, Dl.restore, sizeLine_eq, Dl.lockS]
      refine keep_loop (hnd.filter _) (fun c hc => hgl c (hfm c hc)) (by omega) (fun c hc => htl c (hfm c hc)) fun row s5 s6 s8 hss hm => ?_
      have e := due_same (canon_rise _) sp hss fun x => by rw [hm, List.mem_filter, and_assoc]
      rw [← e]
      simp -dsimp -implicitDefEqProofs [Dl.vI, Dl.vB, Dl.vS, Dl.run2, Dl.run1, Dl.deref, Dl.Slot.data?, Dl.useO, Dl.useAll, Dl.boolOf, Dl.putO, Dl.free, Dl.outO, Dl.withAll, Dl.runN, Dl.derefs, Dl.mutO, Dl.isLst, Dl.isDct, Dl.putI, Dl.putD, Dl.setI, Dl.augO, Dl.getI, Dl.slotOf, Dl.slotsOf, Dl.lents, Dl.takeB, Dl.backS, Dl.useSel, Dl.back, Dl.gd, Dl.pyIx, atI, ixN, Dl.pyGet, Dl.pyMul, Dl.pyAdd, Dl.pyEq, Dl.pyNe, Dl.mulOk, Dl.powOk, Dl.pySlice, Dl.fLen, Dl.fList, Dl.fTuple, Dl.mAppend, Dl.mReverse, Dl.mClear, Dl.mExtend, Dl.mInsert, Dl.mkTup, Dl.mkLst, Dl.pyIsN, Dl.pyNotN, Dl.fNeg, Dl.pyRev, Dl.gN, Dl.gsNil, Dl.gsCons, Dl.gT, Dl.srcL, Dl.srcT, Dl.srcS, Dl.srcQ, Dl.srcR1, Dl.srcR2, Dl.hide, Dl.restore, sizeLine_eq, Dl.lockS]
      exact h
theorem canon_nil : canon [] = [] := List.eq_nil_of_length_eq_zero (Nat.le_zero.mp (canon_len []))
theorem cy : canon Ru.yes.names = [] := canon_nil
theorem cn : canon Ru.no.names = [] := canon_nil
theorem short_yes : shortest .yes = [] := by
  have s := shortest_spec .yes
  refine List.eq_nil_iff_forall_not_mem.mpr fun t ht => ?_
  have h := s.sit t ht
  unfold sits at h
  rw [List.all_eq_true] at h
  have hm : ([] : Li) ∈ under .yes := List.mem_filter.mpr ⟨by rw [cy]; exact List.mem_singleton.mpr rfl, rfl⟩
  obtain ⟨p, _, e⟩ := met_iff.mp (h [] hm)
  cases e
theorem short_no : shortest .no = [[]] := by
  have s := shortest_spec .no
  have ho : ∀ t ∈ shortest .no, t = [] := fun t ht => by
    have := s.over t ht
    rw [cn] at this
    exact List.mem_singleton.mp this
  have hs : sits (under .no) [] = true := by
    unfold sits
    rw [List.all_eq_true]
    intro f hf
    have := (List.mem_filter.mp hf).2
    cases this
  obtain ⟨t, ht, _⟩ := s.has [] (by rw [cn]; exact List.mem_singleton.mpr rfl) hs
  have nd := s.ss.nd
  match e : shortest .no, ho, ht, nd with
  | [], _, ht, _ => cases ht
  | [a], ho, _, _ => rw [ho a List.mem_cons_self]
  | a :: b :: l, ho, _, nd =>
    exfalso
    exact (List.pairwise_cons.mp nd).1 b List.mem_cons_self ((ho a List.mem_cons_self).trans (ho b (by simp)).symm)
theorem told_comp {p0 p1 p2 p3 p4 p5 p6 : Dl.Slot} {cs : List Li} (hg : ∀ c ∈ cs, RiseP c ∧ c.length ≤ 800) (hl : cs.length ≤ 1000) {QO : Opd → Rho → Prop} {X : Ex → Rho → Prop}
    (h : QO (.new (.list (List.replicate cs.length (.bool true)))) [p0, p1, p2, p3, p4, p5, p6, .un]) :
    wp (compL [7] (gN 7) tTrue (eCall 1 [true] m__law_is_clause (aCons (eVar 7) aNil)) (cs.map fT) [] [p0, p1, p2, p3, p4, p5, p6, .un]) QO X := by
  obtain ⟨I, eI⟩ : ∃ I : Nat → List D → Rho → Prop, I = fun i out ρ => out = List.replicate i (.bool true) ∧ ρ = [p0, p1, p2, p3, p4, p5, p6, .un] := ⟨_, rfl⟩
  refine wp_cmp I (by rw [eI]; exact ⟨rfl, rfl⟩) (fun i d out ρ hd hI => ?_) fun out ρ hI => ?_
  · rw [eI] at hI
    obtain ⟨rfl, rfl⟩ := hI
    rw [List.getElem?_map, Option.map_eq_some_iff] at hd
    obtain ⟨c, hc, rfl⟩ := hd
    obtain ⟨g1, g2⟩ := hg c (List.mem_of_getElem? hc)
    have hil := (List.getElem?_eq_some_iff.mp hc).1
    refine ⟨[p0, p1, p2, p3, p4, p5, p6, .dat (fT c)], rfl, ?_⟩
    simp -dsimp -implicitDefEqProofs [Dl.vI, Dl.vB, Dl.vS, Dl.run2, Dl.run1, Dl.deref, Dl.Slot.data?, Dl.useO, Dl.useAll, Dl.boolOf, Dl.putO, Dl.free, Dl.outO, Dl.withAll, Dl.runN, Dl.derefs, Dl.mutO, Dl.isLst, Dl.isDct, Dl.putI, Dl.putD, Dl.setI, Dl.augO, Dl.getI, Dl.slotOf, Dl.slotsOf, Dl.lents, Dl.takeB, Dl.backS, Dl.useSel, Dl.back, Dl.gd, Dl.pyIx, atI, ixN, Dl.pyGet, Dl.pyMul, Dl.pyAdd, Dl.pyEq, Dl.pyNe, Dl.mulOk, Dl.powOk, Dl.pySlice, Dl.fLen, Dl.fList, Dl.fTuple, Dl.mAppend, Dl.mReverse, Dl.mClear, Dl.mExtend, Dl.mInsert, Dl.mkTup, Dl.mkLst, Dl.pyIsN, Dl.pyNotN, Dl.fNeg, Dl.pyRev, Dl.gN, Dl.gsNil, Dl.gsCons, Dl.gT, Dl.srcL, Dl.srcT, Dl.srcS, Dl.srcQ, Dl.srcR1, Dl.srcR2, Dl.hide, Dl.restore, sizeLine_eq, Dl.lockS]
    refine is_clause_eq (l := c) (by omega) g1.rise ?_
    simp -dsimp -implicitDefEqProofs [Dl.vI, Dl.vB, Dl.vS, Dl.run2, Dl.run1, Dl.deref, Dl.Slot.data?, Dl.useO, Dl.useAll, Dl.boolOf, Dl.putO, Dl.free, Dl.outO, Dl.withAll, Dl.runN, Dl.derefs, Dl.mutO, Dl.isLst, Dl.isDct, Dl.putI, Dl.putD, Dl.setI, Dl.augO, Dl.getI, Dl.slotOf, Dl.slotsOf, Dl.lents, Dl.takeB, Dl.backS, Dl.useSel, Dl.back, Dl.gd, Dl.pyIx, atI, ixN, Dl.pyGet, Dl.pyMul, Dl.pyAdd, Dl.pyEq, Dl.pyNe, Dl.mulOk, Dl.powOk, Dl.pySlice, Dl.fLen, Dl.fList, Dl.fTuple, Dl.mAppend, Dl.mReverse, Dl.mClear, Dl.mExtend, Dl.mInsert, Dl.mkTup, Dl.mkLst, Dl.pyIsN, Dl.pyNotN, Dl.fNeg, Dl.pyRev, Dl.gN, Dl.gsNil, Dl.gsCons, Dl.gT, Dl.srcL, Dl.srcT, Dl.srcS, Dl.srcQ, Dl.srcR1, Dl.srcR2, Dl.hide, Dl.restore, sizeLine_eq, Dl.lockS, show i < 16777216 by omega]
    refine ⟨_, _, ⟨rfl, rfl⟩, ?_⟩
    rw [eI]
    exact ⟨by rw [List.replicate_succ'], rfl⟩
  · rw [eI] at hI
    obtain ⟨rfl, rfl⟩ := hI
    rw [List.length_map]
    exact h
theorem pure : Pure := by
  intro ns hl
  have hd : Hand (handD ns) := ⟨ns, 0, 0, 0, 20011, 40009, rfl, by decide⟩
  generalize handD ns = d at *
  have this : wp (mb_law [.un, .own d, .un, .un, .un, .un, .un, .un]) (kf (fun _ => False) (fun f _ => f = .rt (.val (.bool true)))) NoX := by
    unfold mb_law
    simp -dsimp -implicitDefEqProofs [Dl.vI, Dl.vB, Dl.vS, Dl.run2, Dl.run1, Dl.deref, Dl.Slot.data?, Dl.useO, Dl.useAll, Dl.boolOf, Dl.putO, Dl.free, Dl.outO, Dl.withAll, Dl.runN, Dl.derefs, Dl.mutO, Dl.isLst, Dl.isDct, Dl.putI, Dl.putD, Dl.setI, Dl.augO, Dl.getI, Dl.slotOf, Dl.slotsOf, Dl.lents, Dl.takeB, Dl.backS, Dl.useSel, Dl.back, Dl.gd, Dl.pyIx, atI, ixN, Dl.pyGet, Dl.pyMul, Dl.pyAdd, Dl.pyEq, Dl.pyNe, Dl.mulOk, Dl.powOk, Dl.pySlice, Dl.fLen, Dl.fList, Dl.fTuple, Dl.mAppend, Dl.mReverse, Dl.mClear, Dl.mExtend, Dl.mInsert, Dl.mkTup, Dl.mkLst, Dl.pyIsN, Dl.pyNotN, Dl.fNeg, Dl.pyRev, Dl.gN, Dl.gsNil, Dl.gsCons, Dl.gT, Dl.srcL, Dl.srcT, Dl.srcS, Dl.srcQ, Dl.srcR1, Dl.srcR2, Dl.hide, Dl.restore, sizeLine_eq, Dl.lockS]
    refine wp_draw hd (by decide) (by decide) fun w d hd w0 w1 => ?_
    simp -dsimp -implicitDefEqProofs [Dl.vI, Dl.vB, Dl.vS, Dl.run2, Dl.run1, Dl.deref, Dl.Slot.data?, Dl.useO, Dl.useAll, Dl.boolOf, Dl.putO, Dl.free, Dl.outO, Dl.withAll, Dl.runN, Dl.derefs, Dl.mutO, Dl.isLst, Dl.isDct, Dl.putI, Dl.putD, Dl.setI, Dl.augO, Dl.getI, Dl.slotOf, Dl.slotsOf, Dl.lents, Dl.takeB, Dl.backS, Dl.useSel, Dl.back, Dl.gd, Dl.pyIx, atI, ixN, Dl.pyGet, Dl.pyMul, Dl.pyAdd, Dl.pyEq, Dl.pyNe, Dl.mulOk, Dl.powOk, Dl.pySlice, Dl.fLen, Dl.fList, Dl.fTuple, Dl.mAppend, Dl.mReverse, Dl.mClear, Dl.mExtend, Dl.mInsert, Dl.mkTup, Dl.mkLst, Dl.pyIsN, Dl.pyNotN, Dl.fNeg, Dl.pyRev, Dl.gN, Dl.gsNil, Dl.gsCons, Dl.gT, Dl.srcL, Dl.srcT, Dl.srcS, Dl.srcQ, Dl.srcR1, Dl.srcR2, Dl.hide, Dl.restore, sizeLine_eq, Dl.lockS]
    refine law_namesB (n := w) hd (by omega) (by omega) fun ss d hd hn hg hs => ?_
    have hg := hg (by omega)
    simp -dsimp -implicitDefEqProofs [Dl.vI, Dl.vB, Dl.vS, Dl.run2, Dl.run1, Dl.deref, Dl.Slot.data?, Dl.useO, Dl.useAll, Dl.boolOf, Dl.putO, Dl.free, Dl.outO, Dl.withAll, Dl.runN, Dl.derefs, Dl.mutO, Dl.isLst, Dl.isDct, Dl.putI, Dl.putD, Dl.setI, Dl.augO, Dl.getI, Dl.slotOf, Dl.slotsOf, Dl.lents, Dl.takeB, Dl.backS, Dl.useSel, Dl.back, Dl.gd, Dl.pyIx, atI, ixN, Dl.pyGet, Dl.pyMul, Dl.pyAdd, Dl.pyEq, Dl.pyNe, Dl.mulOk, Dl.powOk, Dl.pySlice, Dl.fLen, Dl.fList, Dl.fTuple, Dl.mAppend, Dl.mReverse, Dl.mClear, Dl.mExtend, Dl.mInsert, Dl.mkTup, Dl.mkLst, Dl.pyIsN, Dl.pyNotN, Dl.fNeg, Dl.pyRev, Dl.gN, Dl.gsNil, Dl.gsCons, Dl.gT, Dl.srcL, Dl.srcT, Dl.srcS, Dl.srcQ, Dl.srcR1, Dl.srcR2, Dl.hide, Dl.restore, sizeLine_eq, Dl.lockS]
    refine wp_draw hd (by decide) (by decide) fun v d hd v0 v1 => ?_
    simp -dsimp -implicitDefEqProofs [Dl.vI, Dl.vB, Dl.vS, Dl.run2, Dl.run1, Dl.deref, Dl.Slot.data?, Dl.useO, Dl.useAll, Dl.boolOf, Dl.putO, Dl.free, Dl.outO, Dl.withAll, Dl.runN, Dl.derefs, Dl.mutO, Dl.isLst, Dl.isDct, Dl.putI, Dl.putD, Dl.setI, Dl.augO, Dl.getI, Dl.slotOf, Dl.slotsOf, Dl.lents, Dl.takeB, Dl.backS, Dl.useSel, Dl.back, Dl.gd, Dl.pyIx, atI, ixN, Dl.pyGet, Dl.pyMul, Dl.pyAdd, Dl.pyEq, Dl.pyNe, Dl.mulOk, Dl.powOk, Dl.pySlice, Dl.fLen, Dl.fList, Dl.fTuple, Dl.mAppend, Dl.mReverse, Dl.mClear, Dl.mExtend, Dl.mInsert, Dl.mkTup, Dl.mkLst, Dl.pyIsN, Dl.pyNotN, Dl.fNeg, Dl.pyRev, Dl.gN, Dl.gsNil, Dl.gsCons, Dl.gT, Dl.srcL, Dl.srcT, Dl.srcS, Dl.srcQ, Dl.srcR1, Dl.srcR2, Dl.hide, Dl.restore, sizeLine_eq, Dl.lockS]
    refine law_rule 7 (1 + v) d _ (by omega) (by omega) hd (by omega) fun r d hd hdep hmem => ?_
    have hrn : ∀ s ∈ r.names, Nm s := fun s hs => hn s (hmem s hs)
    have hrc : (canon r.names).length ≤ 5 := by
      have := (canon_nodup r.names).length_le_of_subset (fun s hs => hmem s (canon_mem.mp hs))
      omega
    have hrd : r.dep ≤ 6 := by omega
    simp -dsimp -implicitDefEqProofs [Dl.vI, Dl.vB, Dl.vS, Dl.run2, Dl.run1, Dl.deref, Dl.Slot.data?, Dl.useO, Dl.useAll, Dl.boolOf, Dl.putO, Dl.free, Dl.outO, Dl.withAll, Dl.runN, Dl.derefs, Dl.mutO, Dl.isLst, Dl.isDct, Dl.putI, Dl.putD, Dl.setI, Dl.augO, Dl.getI, Dl.slotOf, Dl.slotsOf, Dl.lents, Dl.takeB, Dl.backS, Dl.useSel, Dl.back, Dl.gd, Dl.pyIx, atI, ixN, Dl.pyGet, Dl.pyMul, Dl.pyAdd, Dl.pyEq, Dl.pyNe, Dl.mulOk, Dl.powOk, Dl.pySlice, Dl.fLen, Dl.fList, Dl.fTuple, Dl.mAppend, Dl.mReverse, Dl.mClear, Dl.mExtend, Dl.mInsert, Dl.mkTup, Dl.mkLst, Dl.pyIsN, Dl.pyNotN, Dl.fNeg, Dl.pyRev, Dl.gN, Dl.gsNil, Dl.gsCons, Dl.gT, Dl.srcL, Dl.srcT, Dl.srcS, Dl.srcQ, Dl.srcR1, Dl.srcR2, Dl.hide, Dl.restore, sizeLine_eq, Dl.lockS]
    refine law_shortest_eq hrd hrc hrn ?_
    have sp := shortest_spec r
    have hol := overC_len (canon r.names)
    have hTl : (shortest r).length ≤ 800 := by
      have h1 := sp.ss.nd.length_le_of_subset sp.over
      have h2 : 3 ^ (canon r.names).length ≤ 3 ^ 5 := Nat.pow_le_pow_right (by decide) hrc
      have h3 : (3 : Nat) ^ 5 = 243 := by decide
      omega
    have hcn : ∀ s ∈ canon r.names, Nm s := canon_nm hrn
    have hTg : ∀ c ∈ shortest r, RiseP c ∧ c.length ≤ 800 := fun c hc => ⟨overC_rise (canon_rise _) (sp.over c hc), by have := overC_short (sp.over c hc); omega⟩
    have hTn : ∀ c ∈ shortest r, ∀ p ∈ c, Nm p.1 := fun c hc p hp => hcn _ (((overC_mem _).mp (sp.over c hc)).subset (List.mem_map.mpr ⟨p, hp, rfl⟩))
    have il : isD "list" (.list ((shortest r).map fT)) = some (.val (.bool true)) := by
      have h : kitB "list" "list" = some true := by decide +kernel
      unfold isD tyN
      rw [h]
      rfl
    have en := (enc_list enc_cl).pyNe (x := shortest r) (y := shortest r) (by decide) hTn hTn
    simp only [decide_true, Bool.not_true] at en
    have ar := all_rep (shortest r).length
    simp -dsimp -implicitDefEqProofs [Dl.vI, Dl.vB, Dl.vS, Dl.run2, Dl.run1, Dl.deref, Dl.Slot.data?, Dl.useO, Dl.useAll, Dl.boolOf, Dl.putO, Dl.free, Dl.outO, Dl.withAll, Dl.runN, Dl.derefs, Dl.mutO, Dl.isLst, Dl.isDct, Dl.putI, Dl.putD, Dl.setI, Dl.augO, Dl.getI, Dl.slotOf, Dl.slotsOf, Dl.lents, Dl.takeB, Dl.backS, Dl.useSel, Dl.back, Dl.gd, Dl.pyIx, atI, ixN, Dl.pyGet, Dl.pyMul, Dl.pyAdd, Dl.pyEq, Dl.pyNe, Dl.mulOk, Dl.powOk, Dl.pySlice, Dl.fLen, Dl.fList, Dl.fTuple, Dl.mAppend, Dl.mReverse, Dl.mClear, Dl.mExtend, Dl.mInsert, Dl.mkTup, Dl.mkLst, Dl.pyIsN, Dl.pyNotN, Dl.fNeg, Dl.pyRev, Dl.gN, Dl.gsNil, Dl.gsCons, Dl.gT, Dl.srcL, Dl.srcT, Dl.srcS, Dl.srcQ, Dl.srcR1, Dl.srcR2, Dl.hide, Dl.restore, sizeLine_eq, Dl.lockS]
    obtain ⟨I, eI⟩ : ∃ I : Nat → Rho → Prop, I = fun _ ρ => ∃ s5 s6, (frS s5 = true ∧ frS s6 = true) ∧ ρ = [.un, .own d, .own (.list (ss.map .str)), .dat r.toD, .own (.list ((shortest r).map fT)), s5, s6, .un] := ⟨_, rfl⟩
    refine wp_for I (by rw [eI]; exact ⟨.un, .un, ⟨rfl, rfl⟩, rfl⟩) (fun i x ρ hx hI => ?_) fun ρ hI => ?_
    · rw [eI] at hI
      obtain ⟨s5, s6, ⟨f5, f6⟩, rfl⟩ := hI
      simp only [frS, free, List.getElem?_cons_zero] at f5 f6
      refine ⟨[.un, .own d, .own (.list (ss.map .str)), .dat r.toD, .own (.list ((shortest r).map fT)), .dat x, s6, .un], ?_, ?_⟩
      · simp -dsimp -implicitDefEqProofs [Dl.vI, Dl.vB, Dl.vS, Dl.run2, Dl.run1, Dl.deref, Dl.Slot.data?, Dl.useO, Dl.useAll, Dl.boolOf, Dl.putO, Dl.free, Dl.outO, Dl.withAll, Dl.runN, Dl.derefs, Dl.mutO, Dl.isLst, Dl.isDct, Dl.putI, Dl.putD, Dl.setI, Dl.augO, Dl.getI, Dl.slotOf, Dl.slotsOf, Dl.lents, Dl.takeB, Dl.backS, Dl.useSel, Dl.back, Dl.gd, Dl.pyIx, atI, ixN, Dl.pyGet, Dl.pyMul, Dl.pyAdd, Dl.pyEq, Dl.pyNe, Dl.mulOk, Dl.powOk, Dl.pySlice, Dl.fLen, Dl.fList, Dl.fTuple, Dl.mAppend, Dl.mReverse, Dl.mClear, Dl.mExtend, Dl.mInsert, Dl.mkTup, Dl.mkLst, Dl.pyIsN, Dl.pyNotN, Dl.fNeg, Dl.pyRev, Dl.gN, Dl.gsNil, Dl.gsCons, Dl.gT, Dl.srcL, Dl.srcT, Dl.srcS, Dl.srcQ, Dl.srcR1, Dl.srcR2, Dl.hide, Dl.restore, sizeLine_eq, Dl.lockS, f5]
      simp -dsimp -implicitDefEqProofs [Dl.vI, Dl.vB, Dl.vS, Dl.run2, Dl.run1, Dl.deref, Dl.Slot.data?, Dl.useO, Dl.useAll, Dl.boolOf, Dl.putO, Dl.free, Dl.outO, Dl.withAll, Dl.runN, Dl.derefs, Dl.mutO, Dl.isLst, Dl.isDct, Dl.putI, Dl.putD, Dl.setI, Dl.augO, Dl.getI, Dl.slotOf, Dl.slotsOf, Dl.lents, Dl.takeB, Dl.backS, Dl.useSel, Dl.back, Dl.gd, Dl.pyIx, atI, ixN, Dl.pyGet, Dl.pyMul, Dl.pyAdd, Dl.pyEq, Dl.pyNe, Dl.mulOk, Dl.powOk, Dl.pySlice, Dl.fLen, Dl.fList, Dl.fTuple, Dl.mAppend, Dl.mReverse, Dl.mClear, Dl.mExtend, Dl.mInsert, Dl.mkTup, Dl.mkLst, Dl.pyIsN, Dl.pyNotN, Dl.fNeg, Dl.pyRev, Dl.gN, Dl.gsNil, Dl.gsCons, Dl.gT, Dl.srcL, Dl.srcT, Dl.srcS, Dl.srcQ, Dl.srcR1, Dl.srcR2, Dl.hide, Dl.restore, sizeLine_eq, Dl.lockS]
      refine shortest_eq hrd (by omega) hrn ?_
      simp -dsimp -implicitDefEqProofs [Dl.vI, Dl.vB, Dl.vS, Dl.run2, Dl.run1, Dl.deref, Dl.Slot.data?, Dl.useO, Dl.useAll, Dl.boolOf, Dl.putO, Dl.free, Dl.outO, Dl.withAll, Dl.runN, Dl.derefs, Dl.mutO, Dl.isLst, Dl.isDct, Dl.putI, Dl.putD, Dl.setI, Dl.augO, Dl.getI, Dl.slotOf, Dl.slotsOf, Dl.lents, Dl.takeB, Dl.backS, Dl.useSel, Dl.back, Dl.gd, Dl.pyIx, atI, ixN, Dl.pyGet, Dl.pyMul, Dl.pyAdd, Dl.pyEq, Dl.pyNe, Dl.mulOk, Dl.powOk, Dl.pySlice, Dl.fLen, Dl.fList, Dl.fTuple, Dl.mAppend, Dl.mReverse, Dl.mClear, Dl.mExtend, Dl.mInsert, Dl.mkTup, Dl.mkLst, Dl.pyIsN, Dl.pyNotN, Dl.fNeg, Dl.pyRev, Dl.gN, Dl.gsNil, Dl.gsCons, Dl.gT, Dl.srcL, Dl.srcT, Dl.srcS, Dl.srcQ, Dl.srcR1, Dl.srcR2, Dl.hide, Dl.restore, sizeLine_eq, Dl.lockS, f6, il]
      refine told_comp hTg (by omega) ?_
      simp -dsimp -implicitDefEqProofs [Dl.vI, Dl.vB, Dl.vS, Dl.run2, Dl.run1, Dl.deref, Dl.Slot.data?, Dl.useO, Dl.useAll, Dl.boolOf, Dl.putO, Dl.free, Dl.outO, Dl.withAll, Dl.runN, Dl.derefs, Dl.mutO, Dl.isLst, Dl.isDct, Dl.putI, Dl.putD, Dl.setI, Dl.augO, Dl.getI, Dl.slotOf, Dl.slotsOf, Dl.lents, Dl.takeB, Dl.backS, Dl.useSel, Dl.back, Dl.gd, Dl.pyIx, atI, ixN, Dl.pyGet, Dl.pyMul, Dl.pyAdd, Dl.pyEq, Dl.mulOk, Dl.powOk, Dl.pySlice, Dl.fLen, Dl.fList, Dl.fTuple, Dl.mAppend, Dl.mReverse, Dl.mClear, Dl.mExtend, Dl.mInsert, Dl.mkTup, Dl.mkLst, Dl.pyIsN, Dl.pyNotN, Dl.fNeg, Dl.pyRev, Dl.gN, Dl.gsNil, Dl.gsCons, Dl.gT, Dl.srcL, Dl.srcT, Dl.srcS, Dl.srcQ, Dl.srcR1, Dl.srcR2, Dl.hide, Dl.restore, sizeLine_eq, Dl.lockS, ar, en]
      rw [eI]
      exact ⟨_, _, ⟨rfl, rfl⟩, rfl⟩
    · rw [eI] at hI
      obtain ⟨s5, s6, ⟨f5, f6⟩, rfl⟩ := hI
      have ey : PyData.tuple [.str "yes"] = Ru.yes.toD := rfl
      have eno : PyData.tuple [.str "no"] = Ru.no.toD := rfl
      simp -dsimp -implicitDefEqProofs [Dl.vI, Dl.vB, Dl.vS, Dl.run2, Dl.run1, Dl.deref, Dl.Slot.data?, Dl.useO, Dl.useAll, Dl.boolOf, Dl.putO, Dl.free, Dl.outO, Dl.withAll, Dl.runN, Dl.derefs, Dl.mutO, Dl.isLst, Dl.isDct, Dl.putI, Dl.putD, Dl.setI, Dl.augO, Dl.getI, Dl.slotOf, Dl.slotsOf, Dl.lents, Dl.takeB, Dl.backS, Dl.useSel, Dl.back, Dl.gd, Dl.pyIx, atI, ixN, Dl.pyGet, Dl.pyMul, Dl.pyAdd, Dl.pyEq, Dl.pyNe, Dl.mulOk, Dl.powOk, Dl.pySlice, Dl.fLen, Dl.fList, Dl.fTuple, Dl.mAppend, Dl.mReverse, Dl.mClear, Dl.mExtend, Dl.mInsert, Dl.mkTup, Dl.mkLst, Dl.pyIsN, Dl.pyNotN, Dl.fNeg, Dl.pyRev, Dl.gN, Dl.gsNil, Dl.gsCons, Dl.gT, Dl.srcL, Dl.srcT, Dl.srcS, Dl.srcQ, Dl.srcR1, Dl.srcR2, Dl.hide, Dl.restore, sizeLine_eq, Dl.lockS, ey, eno]
      refine shortest_eq (r := .yes) (by decide) (by rw [cy]; decide) (fun s hs => by cases hs) ?_
      rw [short_yes]
      have e1 : pyEq (.list []) (.list []) = some (.val (.bool true)) := rfl
      have e2 : pyEq (.list [.tuple []]) (.list [.tuple []]) = some (.val (.bool true)) := rfl
      simp -dsimp -implicitDefEqProofs [Dl.vI, Dl.vB, Dl.vS, Dl.run2, Dl.run1, Dl.deref, Dl.Slot.data?, Dl.useO, Dl.useAll, Dl.boolOf, Dl.putO, Dl.free, Dl.outO, Dl.withAll, Dl.runN, Dl.derefs, Dl.mutO, Dl.isLst, Dl.isDct, Dl.putI, Dl.putD, Dl.setI, Dl.augO, Dl.getI, Dl.slotOf, Dl.slotsOf, Dl.lents, Dl.takeB, Dl.backS, Dl.useSel, Dl.back, Dl.gd, Dl.pyIx, atI, ixN, Dl.pyGet, Dl.pyMul, Dl.pyAdd, Dl.pyNe, Dl.mulOk, Dl.powOk, Dl.pySlice, Dl.fLen, Dl.fList, Dl.fTuple, Dl.mAppend, Dl.mReverse, Dl.mClear, Dl.mExtend, Dl.mInsert, Dl.mkTup, Dl.mkLst, Dl.pyIsN, Dl.pyNotN, Dl.fNeg, Dl.pyRev, Dl.gN, Dl.gsNil, Dl.gsCons, Dl.gT, Dl.srcL, Dl.srcT, Dl.srcS, Dl.srcQ, Dl.srcR1, Dl.srcR2, Dl.hide, Dl.restore, sizeLine_eq, Dl.lockS, e1]
      refine shortest_eq (r := .no) (by decide) (by rw [cn]; decide) (fun s hs => by cases hs) ?_
      rw [short_no]
      have e3 : fT [] = .tuple [] := rfl
      simp -dsimp -implicitDefEqProofs [Dl.vI, Dl.vB, Dl.vS, Dl.run2, Dl.run1, Dl.deref, Dl.Slot.data?, Dl.useO, Dl.useAll, Dl.boolOf, Dl.putO, Dl.free, Dl.outO, Dl.withAll, Dl.runN, Dl.derefs, Dl.mutO, Dl.isLst, Dl.isDct, Dl.putI, Dl.putD, Dl.setI, Dl.augO, Dl.getI, Dl.slotOf, Dl.slotsOf, Dl.lents, Dl.takeB, Dl.backS, Dl.useSel, Dl.back, Dl.gd, Dl.pyIx, atI, ixN, Dl.pyGet, Dl.pyMul, Dl.pyAdd, Dl.pyNe, Dl.mulOk, Dl.powOk, Dl.pySlice, Dl.fLen, Dl.fList, Dl.fTuple, Dl.mAppend, Dl.mReverse, Dl.mClear, Dl.mExtend, Dl.mInsert, Dl.mkTup, Dl.mkLst, Dl.pyIsN, Dl.pyNotN, Dl.fNeg, Dl.pyRev, Dl.gN, Dl.gsNil, Dl.gsCons, Dl.gT, Dl.srcL, Dl.srcT, Dl.srcS, Dl.srcQ, Dl.srcR1, Dl.srcR2, Dl.hide, Dl.restore, sizeLine_eq, Dl.lockS, e2, e3]
  obtain ⟨f, ρ, e, h⟩ := wp_out this
  cases f with
  | nx => exact h.elim
  | bk => cases h
  | ct => cases h
  | rt o =>
    have h : Dl.Flow.rt o = .rt (.val (.bool true)) := h
    exact ⟨ρ, by rw [← h]; exact e⟩
end G

theorem PySem.Challenge.cw_truceroll_k26_shortest_clauses_holds : PySem.Challenge.rw_truceroll_k26_shortest_clauses.Holds := by
  exact G.holds G.pure
