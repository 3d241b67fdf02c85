import PyProof.Rows.All
import HandS.SetBool
import Wide.All
import OpenK.AllK
import Wide.FinOn
import HandS.ForMost
import HandS.ForExc
import HandS.IsInst
import HandS.Flow
import HandS.Style
import HandS.Conv
import HandS.Wide
import HandS.SortInts
import HandS.Defaults
import HandS.HeadHook1
import HandS.Lambda
import HandS.Nested
import KE.KDictKeyed
import HandS.ExcOwn
import HandS.WordsExc
import HandS.Deep
import HandS.TupAny
import HandS.NoneIn
import HandS.Text
import HandS.HeadHook2
import HandS.HeadEnd
import HandS.More
import HandS.SetKeys
import HandS.DictComp
import HandS.Zip
import KE.SortKeyHeap
import HandS.SortKw
import HandS.Head2
import HandS.HeadWalk
import KE.OsArith
import HandS.ExcInit
import HandS.ExcField
import HandS.TryOnly
import KE.KExcIs
import HandS.Iter
import HandS.Finally
import HandS.SetFor
import HandS.Strs
import PyProof.AutoSeq1
import KE.FramesApart
import PyProof.DictUpdate
import HandS.Head0
import HandS.Head1
import PySem.Challenge.RW_truceroll_k13_holds
set_option Elab.async false
set_option linter.all false
set_option maxRecDepth 100000
set_option maxHeartbeats 4000000
namespace Dl
open PySem PySem.Spec L2
set_option autoImplicit false
abbrev Sg := L2.St
abbrev D := PyData
mutual
/-- v stands for the tree d, read in F alone -/
inductive Rp (K : PySem.W.Frag) (F : Hp) : V → D → Prop
  | non : Rp K F .non .none
  | bl (b : Bool) : Rp K F (.bl b) (.bool b)
  | int (i : Int) : Rp K F (.int i) (.int i)
  | str (x : Str) : Rp K F (.str x) (.str x)
  | lst {a : Addr} {xs : List V} {ds : List D} : F a = some (.lst xs) → RpA K F xs ds → Rp K F (.ref a) (.list ds)
  | tup {a : Addr} {xs : List V} {ds : List D} : F a = some (.tup xs) → RpA K F xs ds → Rp K F (.ref a) (.tuple ds)
  | dct {a : Addr} {kvs : List (Key × V)} {ps : List (D × D)} : Rd F a (.dK kvs) → RpD K F kvs ps → Rp K F (.ref a) (.dict ps)
inductive RpA (K : PySem.W.Frag) (F : Hp) : List V → List D → Prop
  | nil : RpA K F [] []
  | cons {v : V} {vs : List V} {d : D} {ds : List D} : Rp K F v d → RpA K F vs ds → RpA K F (v :: vs) (d :: ds)
inductive RpD (K : PySem.W.Frag) (F : Hp) : List (Key × V) → List (D × D) → Prop
  | nil : RpD K F [] []
  | cons {k : Key} {v : V} {kvs : List (Key × V)} {c d : D} {ps : List (D × D)} : c = (match k with | .inl i => .int i | .inr x => .str x) → Rp K F v d → RpD K F kvs ps → RpD K F ((k, v) :: kvs) ((c, d) :: ps)
end
def Ext (F F' : Hp) : Prop := ∀ a o, F a = some o → F' a = some o
theorem Ext.refl (F : Hp) : Ext F F := fun _ _ h => h
theorem Ext.rd {F F' : Hp} (e : Ext F F') {a : Addr} {u : HO} (h : Rd F a u) : Rd F' a u := h.imp (e _ _) fun ⟨o, z⟩ => ⟨o, e _ _ z⟩
theorem Ext.trans {F G H : Hp} (a : Ext F G) (b : Ext G H) : Ext F H := fun x o h => b x o (a x o h)
mutual
theorem Rp.mono {K : PySem.W.Frag} {F F' : Hp} (e : Ext F F') : ∀ {v : V} {d : D}, Rp K F v d → Rp K F' v d
  | _, _, .non => .non
  | _, _, .bl b => .bl b
  | _, _, .int i => .int i
  | _, _, .str x => .str x
  | _, _, .lst h r => .lst (e _ _ h) (RpA.mono e r)
  | _, _, .tup h r => .tup (e _ _ h) (RpA.mono e r)
  | _, _, .dct h r => .dct (e.rd h) (RpD.mono e r)
theorem RpA.mono {K : PySem.W.Frag} {F F' : Hp} (e : Ext F F') : ∀ {vs : List V} {ds : List D}, RpA K F vs ds → RpA K F' vs ds
  | _, _, .nil => .nil
  | _, _, .cons h r => .cons (Rp.mono e h) (RpA.mono e r)
theorem RpD.mono {K : PySem.W.Frag} {F F' : Hp} (e : Ext F F') : ∀ {vs : List (Key × V)} {ds : List (D × D)}, RpD K F vs ds → RpD K F' vs ds
  | _, _, .nil => .nil
  | _, _, .cons c h r => .cons c (Rp.mono e h) (RpD.mono e r)
end
theorem RpA.length {K : PySem.W.Frag} {F : Hp} : ∀ {vs : List V} {ds : List D}, RpA K F vs ds → vs.length = ds.length
  | _, _, .nil => rfl
  | _, _, .cons _ r => congrArg Nat.succ (RpA.length r)
theorem RpD.length {K : PySem.W.Frag} {F : Hp} : ∀ {vs : List (Key × V)} {ds : List (D × D)}, RpD K F vs ds → vs.length = ds.length
  | _, _, .nil => rfl
  | _, _, .cons _ _ r => congrArg Nat.succ (RpD.length r)
theorem RpA.take {K : PySem.W.Frag} {F : Hp} : ∀ {vs : List V} {ds : List D} (n : Nat), RpA K F vs ds → RpA K F (vs.take n) (ds.take n)
  | _, _, 0, _ => .nil
  | _, _, _ + 1, .nil => .nil
  | _, _, n + 1, .cons h r => .cons h (RpA.take n r)
theorem RpA.drop {K : PySem.W.Frag} {F : Hp} : ∀ {vs : List V} {ds : List D} (n : Nat), RpA K F vs ds → RpA K F (vs.drop n) (ds.drop n)
  | _, _, 0, r => r
  | _, _, _ + 1, .nil => .nil
  | _, _, n + 1, .cons _ r => RpA.drop n r
theorem RpA.set {K : PySem.W.Frag} {F : Hp} {v : V} {d : D} (h : Rp K F v d) : ∀ {vs : List V} {ds : List D} (n : Nat), RpA K F vs ds → RpA K F (vs.set n v) (ds.set n d)
  | _, _, _, .nil => .nil
  | _, _, 0, .cons _ r => .cons h r
  | _, _, n + 1, .cons g r => .cons g (RpA.set h n r)
def lamNames : List Str := ["clauses_in_order", "in_order", "least_masks", "law", "Truce.__init__"]
/-- what is made within it -/
def lamIn (x : Str) : Str := if x = "law" then "_law_ask" else "<lambda>"
def tabAt : Option Obj → Option Addr
  | some o => (match o.data with
    | .fields vs => (match (vs[11]? : Option Value) with
      | some (.ref P) => some P
      | _ => none)
    | _ => none)
  | none => none
def codeAt : Option Obj → Option Addr
  | some o => (match o.data with
    | .func fd => (match fd.code with
      | .ref c => some c
      | _ => none)
    | _ => none)
  | none => none
/-- where the def x stands -/
def defAd (K : PySem.W.Frag) (x : Str) : Option Addr := if x = "Truce.__init__" then some (He.fAd K ("Truce", some "__init__")) else match PySem.W.nsIn K mainGlobals x with
  | some (some (.ref a)) => some a
  | _ => none
/-- the code object of the def x, its table -/
def codeTab (K : PySem.W.Frag) (x : Str) : Option (Addr × Addr) := (defAd K x).bind fun a => (codeAt (K.lookup a)).bind fun c => (tabAt (K.lookup c)).map fun P => (c, P)
def tabsOf (K : PySem.W.Frag) : List (Addr × Str) := lamNames.filterMap fun x => (codeTab K x).map fun p => (p.2, (x ++ ".<locals>.") ++ lamIn x)
/-- what tells of a dict at one place -/
def KDp (φ : Heap → Prop) : Prop := ∃ a, ∀ h : Heap, φ h → ∃ o es ep, h.get? a = some o ∧ o.data = .dict es ep
theorem get_rep {o : Obj} (ho : ∀ c d s, o ≠ ⟨c, d, .freed, s⟩) (n a : Nat) : (Heap.get? ⟨Array.replicate n o, {}⟩ a = some o ∧ a < n) ∨ Heap.get? ⟨Array.replicate n o, {}⟩ a = none := by
  by_cases h : a < n
  · refine .inl ⟨?_, h⟩
    have e : (Array.replicate n o)[a]? = some o := by simp [h]
    unfold Heap.get?
    simp only [e]
    split
    · rename_i c d s z
      exact absurd (Option.some.inj z) (ho _ _ _)
    · rfl
  · refine .inr ?_
    have e : (Array.replicate n o)[a]? = none := by simp [h]
    unfold Heap.get?
    simp only [e]
theorem not_kd {φ : Heap → Prop} {o : Obj} (ho : ∀ c d s, o ≠ ⟨c, d, .freed, s⟩) (hd : ∀ es ep, o.data ≠ .dict es ep) (n : Nat) (h : φ ⟨Array.replicate n o, {}⟩) : ¬ KDp φ := fun ⟨a, k⟩ => by
  obtain ⟨q, es, ep, e1, e2⟩ := k _ h
  rcases get_rep ho n a with ⟨z, _⟩ | z
  · rw [z] at e1; cases e1; exact hd es ep e2
  · rw [z] at e1; cases e1
theorem rep_at {o : Obj} (ho : ∀ c d s, o ≠ ⟨c, d, .freed, s⟩) (a : Nat) : Heap.get? ⟨Array.replicate (a + 1) o, {}⟩ a = some o := by
  rcases get_rep ho (a + 1) a with ⟨z, _⟩ | z
  · exact z
  · have e : (Array.replicate (a + 1) o)[a]? = some o := by simp
    unfold Heap.get? at z
    simp only [e] at z
    split at z
    · rename_i c d s q
      exact absurd (Option.some.inj q) (ho _ _ _)
    · cases z
def markP : HO → Prop
  | .ext φ => ¬ KDp φ
  | _ => False
theorem code_mark (c : Addr) (q : Str) : markP (LamX.CodeO c q) := by
  refine not_kd (o := ⟨.none, none, .fields #[.none, .str q default], #[]⟩) (fun c d s e => by cases e) (fun es ep e => by cases e) (c + 1) ?_
  exact ⟨_, #[.none, .str q default], default, rep_at (fun c d s e => by cases e) c, rfl, rfl⟩
theorem fn_mark (f : Addr) (F : NdefX.NF) : markP (NdefX.FnO f F) := by
  refine not_kd (o := ⟨.type "function", none, .func (F.fd .none .none .none), #[]⟩) (fun c d s e => by cases e) (fun es ep e => by cases e) (f + 1) ?_
  exact ⟨none, #[], .none, .none, .none, rep_at (fun c d s e => by cases e) f⟩
def isTE : HO → Prop
  | .tbl _ => True
  | .ext φ => ¬ KDp φ
  | _ => False
theorem tabS_keep {H H' : Hp} {P : Addr} {q : Str} (e : ∀ b o, H b = some o → isTE o → H' b = some o) (t : LamX.TabS H P q) : LamX.TabS H' P q := by
  obtain ⟨ps, h1, h2, h3⟩ := t
  refine ⟨ps, e _ _ h1 trivial, h2, fun pos cv hc => ?_⟩
  obtain ⟨c, e1, e2⟩ := h3 pos cv hc
  exact ⟨c, e1, e _ _ e2 (code_mark c q)⟩
theorem tabs_keep {T : List (Addr × Str)} {H H' : Hp} (e : ∀ b o, H b = some o → isTE o → H' b = some o) (t : LamX.Tabs T H) : LamX.Tabs T H' := fun p hp => tabS_keep e (t p hp)
theorem tabs_upd {T : List (Addr × Str)} {H : Hp} {a : Addr} {o : HO} (h : ∀ u, H a = some u → ¬ isTE u) (t : LamX.Tabs T H) : LamX.Tabs T (upd H a o) := tabs_keep (fun b v e q => by
  by_cases hb : b = a
  · subst hb
    exact absurd q (h v e)
  · rw [upd_ne hb]
    exact e) t
/-- the text of a def in a def: its name, its qualified name, the statement, the names that it captures -/
structure Clo where
  nm : Str
  qual : Str
  st : Stmt
  fr : List Str
  ex : Option Expr := none
/-- a function made from that text: where it stands, its cells, its code object; what the cells hold as long as it is handed on -/
structure CloV where
  k : Clo
  f : Addr
  cl : List (Str × Addr)
  c : Addr
  ws : List V
abbrev CloV.nf (z : CloV) : NdefX.NF := NdefX.NF.of z.k.st z.k.nm z.k.qual z.cl z.c
/-- the object at f is the lambda F with the body b -/
def FnL (f : Addr) (F : NdefX.NF) (b : Expr) : HO := .ext fun h => ∃ (od : Option Addr) (sl : Array (Option Value)) (pm ctv : Value), h.get? f = some (⟨.type "function", od, .func (PySem.W.kla_fn F.name F.qual F.params b F.scope F.cl pm (.ref F.c) ctv), sl⟩ : Obj)
theorem lam_mark (f : Addr) (F : NdefX.NF) (b : Expr) : markP (FnL f F b) := by
  refine not_kd (o := ⟨.type "function", none, .func (PySem.W.kla_fn F.name F.qual F.params b F.scope F.cl .none (.ref F.c) .none), #[]⟩) (fun c d s e => by cases e) (fun es ep e => by cases e) (f + 1) ?_
  exact ⟨none, #[], .none, .none, rep_at (fun c d s e => by cases e) f⟩
/-- what stands at the function -/
def CloV.mark (z : CloV) : HO := match z.k.ex with
  | none => NdefX.FnO z.f z.nf
  | some b => FnL z.f z.nf b
theorem mark_mark (z : CloV) : markP z.mark := by
  unfold CloV.mark
  split
  · exact fn_mark _ _
  · exact lam_mark _ _ _
/-- a tree of objects that are not frozen: fr: frozen data; own: a list or dict of frozen things; dtx: a dict whose keys are data; gone: nothing is known -/
inductive T where
  | fr (d : D) | own (d : D) | dtx (w : World) (ps : List (D × D)) | dbl (ps : List (Bool × D)) | tup (ts : List T) | lst (ts : List T) | ins (c : Str) (ns : List Str) (ts : List T) | gone
  | slf (c : Str) (ns : List Str) (n : Nat) | clo (z : CloV) (ts : List T) | fzi (c : Str) (ns : List Str) (ds : List D)
/-- an error: its class's name, its fields -/
structure Ex where
  cls : Str
  fs : List (Str × D)
/-- an exception that a suite holds: where it stands, its dict -/
structure XRef where
  a : Addr
  d : Option Addr
  x : Ex
/-- a name's place -/
inductive Slot where
  | un | dat (d : D) | own (d : D) | par (d : D) | lck (d : D) | obj (t : T) | opa (t : T) | exc (q : XRef)
abbrev Rho := List Slot
def Slot.data? : Slot → Option D
  | .un => none
  | .dat d => some d
  | .own d => some d
  | .par d => some d
  | .lck d => some d
  | .obj _ => none
  | .opa _ => none
  | .exc _ => none
def Slot.live : Slot → Bool
  | .un => false
  | .exc _ => false
  | _ => true
def Slot.mine : Slot → Bool
  | .own _ => true
  | .par _ => true
  | .lck _ => true
  | _ => false
/-- an object that a name holds alone -/
def OwnAt (K : PySem.W.Frag) (F H : Hp) (a : Addr) : D → Prop
  | .list ds => ∃ vs, H a = some (.lst vs) ∧ RpA K F vs ds
  | .dict ps => ∃ kvs, H a = some (.dK kvs) ∧ RpD K F kvs ps
  | _ => False
theorem OwnAt.mono {K : PySem.W.Frag} {F F' H H' : Hp} {a : Addr} (e : Ext F F') (k : ∀ o, H a = some o → H' a = some o) : ∀ {d : D}, OwnAt K F H a d → OwnAt K F' H' a d
  | .list _, ⟨vs, h, r⟩ => ⟨vs, k _ h, r.mono e⟩
  | .dict _, ⟨vs, h, r⟩ => ⟨vs, k _ h, r.mono e⟩
/-- no table -/
def ntb : HO → Prop
  | .tbl _ => False
  | _ => True
/-- no table, no mark of a function or of its code -/
def nt : HO → Prop
  | .tbl _ => False
  | .ext φ => KDp φ
  | _ => True
theorem OwnAt.some {K : PySem.W.Frag} {F H : Hp} {a : Addr} : ∀ {d : D}, OwnAt K F H a d → ∃ o, H a = Option.some o ∧ nt o
  | .list _, ⟨_, h, _⟩ => ⟨_, h, trivial⟩
  | .dict _, ⟨_, h, _⟩ => ⟨_, h, trivial⟩
def refsV : V → List Addr
  | .ref a => [a]
  | _ => []
/-- what stands within the object at a -/
def kidsO : Option HO → List V
  | some (.lst vs) => vs
  | some (.tup vs) => vs
  | some (.ins _ _ fs) => fs.map (·.2)
  | _ => []
def dxO : Option HO → List Addr
  | some (.ins _ dx _) => [dx]
  | _ => []
def kidsV (H : Hp) : V → List V
  | .ref a => kidsO (H a)
  | _ => []
def dxV (H : Hp) : V → List Addr
  | .ref a => dxO (H a)
  | _ => []
mutual
/-- the addresses of the tree t at v -/
def fpT (H : Hp) (v : V) : T → List Addr
  | .fr _ => []
  | .gone => []
  | .own _ => refsV v
  | .dtx _ _ => refsV v
  | .dbl _ => refsV v
  | .tup ts => refsV v ++ fpL H (kidsV H v) ts
  | .lst ts => refsV v ++ fpL H (kidsV H v) ts
  | .ins _ _ ts => refsV v ++ (dxV H v ++ fpL H (kidsV H v) ts)
  | .slf _ _ _ => refsV v ++ dxV H v
  | .clo z ts => fpL H z.ws ts
  | .fzi _ _ _ => []
def fpL (H : Hp) : List V → List T → List Addr
  | v :: vs, t :: ts => fpT H v t ++ fpL H vs ts
  | _, _ => []
end
mutual
def keyN : D → Option NestedKey
  | .none => some .none
  | .bool b => some (.num (if b = true then 1 else 0))
  | .int i => some (.num i)
  | .str x => some (.text x)
  | .tuple ds => (keyNs ds).map .tup
  | _ => none
def keyNs : List D → Option (List NestedKey)
  | [] => some []
  | d :: ds => match keyN d, keyNs ds with
    | some k, some ks => some (k :: ks)
    | _, _ => none
end
def entN (w : World) (x : NestedKey × Addr × Value) : DictEntry := ⟨x.1.hash w, .ref x.2.1, x.2.2⟩
def kdφ (w : World) (a : Addr) (xs : List (NestedKey × Addr × Value)) : Heap → Prop := fun h => (a == sysModules) = false ∧ (xs.map (·.1)).Nodup ∧ ∃ o es ep, h.get? a = some o ∧ o.ExactDict ∧ o.data = .dict es ep ∧ es.toList = xs.map (entN w)
theorem kd_is (w : World) (a : Addr) (xs : List (NestedKey × Addr × Value)) : KDp (kdφ w a xs) := ⟨a, fun h ⟨_, _, o, es, ep, e, _, d, _⟩ => ⟨o, es, ep, e, d⟩⟩
def KdRel (K : PySem.W.Frag) (F : Hp) (x : NestedKey × Addr × Value) (p : D × D) : Prop := keyN p.1 = some x.1 ∧ Rp K F (.ref x.2.1) p.1 ∧ ∃ v, RelV v x.2.2 ∧ Rp K F v p.2
def DtxAt (K : PySem.W.Frag) (F H : Hp) (a : Addr) (w : World) (ps : List (D × D)) : Prop := ∃ xs : List (NestedKey × Addr × Value), H a = some (.ext (kdφ w a xs)) ∧ Paired (KdRel K F) xs ps
def entB (x : Bool × Value) : DictEntry := ⟨PpSet.hB x.1, .bool x.1, x.2⟩
def bkφ (a : Addr) (xs : List (Bool × Value)) : Heap → Prop := fun h => (a == sysModules) = false ∧ (xs.map (·.1)).Nodup ∧ ∃ o es ep, h.get? a = some o ∧ o.ExactDict ∧ o.data = .dict es ep ∧ es.toList = xs.map entB
theorem bk_is (a : Addr) (xs : List (Bool × Value)) : KDp (bkφ a xs) := ⟨a, fun h ⟨_, _, o, es, ep, e, _, d, _⟩ => ⟨o, es, ep, e, d⟩⟩
def BkRel (K : PySem.W.Frag) (F : Hp) (x : Bool × Value) (p : Bool × D) : Prop := x.1 = p.1 ∧ ∃ v, RelV v x.2 ∧ Rp K F v p.2
def DblAt (K : PySem.W.Frag) (F H : Hp) (a : Addr) (ps : List (Bool × D)) : Prop := ∃ xs : List (Bool × Value), H a = some (.ext (bkφ a xs)) ∧ Paired (BkRel K F) xs ps
mutual
def TAt (K : PySem.W.Frag) (F H : Hp) (v : V) : T → Prop
  | .fr d => Rp K F v d
  | .gone => True
  | .own d => ∃ a, v = .ref a ∧ F a = none ∧ OwnAt K F H a d
  | .dtx w ps => ∃ a, v = .ref a ∧ F a = none ∧ DtxAt K F H a w ps
  | .dbl ps => ∃ a, v = .ref a ∧ F a = none ∧ DblAt K F H a ps
  | .tup ts => ∃ a, v = .ref a ∧ F a = none ∧ H a = some (.tup (kidsV H v)) ∧ TAtL K F H (kidsV H v) ts
  | .lst ts => ∃ a, v = .ref a ∧ F a = none ∧ H a = some (.lst (kidsV H v)) ∧ TAtL K F H (kidsV H v) ts
  | .ins c ns ts => ∃ a dx, v = .ref a ∧ F a = none ∧ H a = some (.ins (He.ga K c) dx (ns.zip (kidsV H v))) ∧ ns.length = ts.length ∧ F dx = none ∧ H dx = some (.own a) ∧ TAtL K F H (kidsV H v) ts
  | .slf c ns _ => ∃ a dx, v = .ref a ∧ F a = none ∧ H a = some (.ins (He.ga K c) dx (ns.zip (kidsV H v))) ∧ (kidsV H v).length = ns.length ∧ F dx = none ∧ H dx = some (.own a)
  | .clo z ts => v = .ref z.f ∧ F z.f = some z.mark ∧ F z.c = some (LamX.CodeO z.c z.k.qual) ∧ TAtL K F H z.ws ts
  | .fzi c ns ds => ∃ a dx vs, v = .ref a ∧ F a = some (.ins (He.ga K c) dx (ns.zip vs)) ∧ ns.length = vs.length ∧ RpA K F vs ds
def TAtL (K : PySem.W.Frag) (F H : Hp) : List V → List T → Prop
  | [], [] => True
  | v :: vs, t :: ts => TAt K F H v t ∧ TAtL K F H vs ts
  | _, _ => False
end
def Slot.fp (H : Hp) (v : V) : Slot → List Addr
  | .own _ => refsV v
  | .par _ => refsV v
  | .lck _ => refsV v
  | .obj t => fpT H v t
  | .opa t => fpT H v t
  | _ => []
def Slot.tree? : Slot → Option T
  | .obj t => some t
  | .opa t => some t
  | _ => none
/-- the name at i holds the object at a alone -/
def Mine (H : Hp) (σ : Sg) (ρ : Rho) (i : Nat) (a : Addr) : Prop := ∃ s v, ρ[i]? = some s ∧ σ[i]? = some (some v) ∧ a ∈ s.fp H v
def Own (H : Hp) (σ : Sg) (ρ : Rho) (a : Addr) : Prop := ∃ i, Mine H σ ρ i a
theorem mem_refs {v : V} {a : Addr} : a ∈ refsV v ↔ v = .ref a := by
  cases v <;> simp [refsV]
  exact eq_comm
theorem fp_mine {H : Hp} {v : V} {a : Addr} {s : Slot} (m : s.mine = true) : a ∈ s.fp H v ↔ v = .ref a := by
  cases s <;> first | (cases m; done) | exact mem_refs
theorem Mine.of {H : Hp} {σ : Sg} {ρ : Rho} {i : Nat} {a : Addr} {s : Slot} (e : ρ[i]? = some s) (m : s.mine = true) (h : σ[i]? = some (some (.ref a))) : Mine H σ ρ i a := ⟨s, _, e, h, (fp_mine m).mpr rfl⟩
theorem Mine.ref {H : Hp} {σ : Sg} {ρ : Rho} {i : Nat} {a : Addr} {s : Slot} (e : ρ[i]? = some s) (m : s.mine = true) (h : Mine H σ ρ i a) : σ[i]? = some (some (.ref a)) := by
  obtain ⟨t, v, e1, h1, ha⟩ := h
  rw [e] at e1
  cases e1
  rw [h1, (fp_mine m).mp ha]
/-- (none that is frozen: a dict that is walked is told so in the ghost, too) -/
def isDc : HO → Prop := fun u => ∃ ps, u = .tbl ps
/-- u stands at a, or it is a dict that is walked there -/
def Rdn (H : Hp) (a : Addr) (u : HO) : Prop := H a = some u ∨ ∃ o, H a = some (.frz o u) ∧ isDc u
theorem Rdn.rd {H : Hp} {a : Addr} {u : HO} (h : Rdn H a u) : Rd H a u := h.elim .inl fun ⟨o, z, _⟩ => .inr ⟨o, z⟩
theorem DtxAt.mono {K : PySem.W.Frag} {F F' H H' : Hp} {a : Addr} {w : World} {ps : List (D × D)} (e : Ext F F') (k : ∀ o, H a = some o → H' a = some o) : DtxAt K F H a w ps → DtxAt K F' H' a w ps := fun ⟨xs, h, n⟩ => ⟨xs, k _ h, Paired.mapP n fun _ _ ⟨h1, h2, v, h3, h4⟩ => ⟨h1, h2.mono e, v, h3, h4.mono e⟩⟩
theorem DtxAt.some {K : PySem.W.Frag} {F H : Hp} {a : Addr} {w : World} {ps : List (D × D)} : DtxAt K F H a w ps → ∃ o, H a = Option.some o ∧ nt o := fun ⟨_, h, _⟩ => ⟨_, h, kd_is w a _⟩
theorem DblAt.mono {K : PySem.W.Frag} {F F' H H' : Hp} {a : Addr} {ps : List (Bool × D)} (e : Ext F F') (k : ∀ o, H a = some o → H' a = some o) : DblAt K F H a ps → DblAt K F' H' a ps := fun ⟨xs, h, r⟩ => ⟨xs, k _ h, Paired.mapP r fun x p ⟨h1, v, h3, h4⟩ => ⟨h1, v, h3, h4.mono e⟩⟩
theorem DblAt.some {K : PySem.W.Frag} {F H : Hp} {a : Addr} {ps : List (Bool × D)} : DblAt K F H a ps → ∃ o, H a = Option.some o ∧ nt o := fun ⟨_, h, _⟩ => ⟨_, h, bk_is a _⟩
theorem kidsV_eq {H H' : Hp} {v : V} (h : ∀ a, v = .ref a → H' a = H a) : kidsV H' v = kidsV H v := by
  cases v <;> first | rfl | (show kidsO (H' _) = kidsO (H _); rw [h _ rfl])
theorem dxV_eq {H H' : Hp} {v : V} (h : ∀ a, v = .ref a → H' a = H a) : dxV H' v = dxV H v := by
  cases v <;> first | rfl | (show dxO (H' _) = dxO (H _); rw [h _ rfl])
mutual
/-- what stands at the tree's addresses -/
theorem fp_some {K : PySem.W.Frag} {F H : Hp} : ∀ {t : T} {v : V}, TAt K F H v t → ∀ a ∈ fpT H v t, F a = none ∧ ∃ o, H a = some o ∧ nt o
  | .fr _, v, _, a, ha => by unfold fpT at ha; cases ha
  | .gone, v, _, a, ha => by unfold fpT at ha; cases ha
  | .fzi _ _ _, v, _, a, ha => by unfold fpT at ha; cases ha
  | .own d, v, h, a, ha => by
    unfold TAt at h
    obtain ⟨b, e, f, o⟩ := h
    unfold fpT at ha
    rw [mem_refs.mp ha] at e
    cases e
    exact ⟨f, o.some⟩
  | .dtx w d, v, h, a, ha => by
    unfold TAt at h
    obtain ⟨b, e, f, o⟩ := h
    unfold fpT at ha
    rw [mem_refs.mp ha] at e
    cases e
    exact ⟨f, o.some⟩
  | .dbl d, v, h, a, ha => by
    unfold TAt at h
    obtain ⟨b, e, f, o⟩ := h
    unfold fpT at ha
    rw [mem_refs.mp ha] at e
    cases e
    exact ⟨f, o.some⟩
  | .tup ts, v, h, a, ha => by
    unfold TAt at h
    obtain ⟨b, e, f, o, r⟩ := h
    unfold fpT at ha
    rcases List.mem_append.mp ha with ha | ha
    · rw [mem_refs.mp ha] at e
      cases e
      exact ⟨f, _, o, trivial⟩
    · exact fps_some r a ha
  | .lst ts, v, h, a, ha => by
    unfold TAt at h
    obtain ⟨b, e, f, o, r⟩ := h
    unfold fpT at ha
    rcases List.mem_append.mp ha with ha | ha
    · rw [mem_refs.mp ha] at e
      cases e
      exact ⟨f, _, o, trivial⟩
    · exact fps_some r a ha
  | .ins c ns ts, v, h, a, ha => by
    unfold TAt at h
    obtain ⟨b, dx, e, f, o, _, f2, o2, r⟩ := h
    unfold fpT at ha
    rcases List.mem_append.mp ha with ha | ha
    · rw [mem_refs.mp ha] at e
      cases e
      exact ⟨f, _, o, trivial⟩
    · rcases List.mem_append.mp ha with ha | ha
      · subst e
        have ha : a ∈ dxO (H b) := ha
        rw [o] at ha
        have : a = dx := by simpa [dxO] using ha
        subst this
        exact ⟨f2, _, o2, trivial⟩
      · exact fps_some r a ha
  | .slf c ns n, v, h, a, ha => by
    unfold TAt at h
    obtain ⟨b, dx, e, f, o, _, f2, o2⟩ := h
    unfold fpT at ha
    rcases List.mem_append.mp ha with ha | ha
    · rw [mem_refs.mp ha] at e
      cases e
      exact ⟨f, _, o, trivial⟩
    · subst e
      have ha : a ∈ dxO (H b) := ha
      rw [o] at ha
      have : a = dx := by simpa [dxO] using ha
      subst this
      exact ⟨f2, _, o2, trivial⟩
  | .clo z ts, v, h, a, ha => by
    unfold TAt at h
    unfold fpT at ha
    exact fps_some h.2.2.2 a ha
theorem fps_some {K : PySem.W.Frag} {F H : Hp} : ∀ {ts : List T} {vs : List V}, TAtL K F H vs ts → ∀ a ∈ fpL H vs ts, F a = none ∧ ∃ o, H a = some o ∧ nt o
  | [], [], _, a, ha => by unfold fpL at ha; cases ha
  | [], _ :: _, _, a, ha => by unfold fpL at ha; cases ha
  | _ :: _, [], _, a, ha => by unfold fpL at ha; cases ha
  | t :: ts, v :: vs, h, a, ha => by
    unfold TAtL at h
    unfold fpL at ha
    rcases List.mem_append.mp ha with ha | ha
    · exact fp_some h.1 a ha
    · exact fps_some h.2 a ha
end
mutual
/-- a tree stays where its objects stay -/
theorem TAt.stay {K : PySem.W.Frag} {F F' H H' : Hp} (ex : Ext F F') : ∀ {t : T} {v : V}, TAt K F H v t → (∀ a ∈ fpT H v t, H' a = H a ∧ (F a = none → F' a = none)) → fpT H' v t = fpT H v t ∧ TAt K F' H' v t
  | .fr _, v, h, _ => ⟨by unfold fpT; rfl, by unfold TAt at h ⊢; exact Rp.mono ex h⟩
  | .gone, v, h, _ => ⟨by unfold fpT; rfl, by unfold TAt; trivial⟩
  | .fzi c ns ds, v, h, _ => ⟨by unfold fpT; rfl, by
    unfold TAt at h ⊢
    obtain ⟨a, dx, vs, e, f, l, r⟩ := h
    exact ⟨a, dx, vs, e, ex _ _ f, l, r.mono ex⟩⟩
  | .own d, v, h, k => ⟨by unfold fpT; rfl, by
    unfold TAt at h ⊢
    obtain ⟨b, e, f, o⟩ := h
    have := k b (by unfold fpT; exact mem_refs.mpr e)
    exact ⟨b, e, this.2 f, o.mono ex fun u hu => by rw [this.1]; exact hu⟩⟩
  | .dtx w d, v, h, k => ⟨by unfold fpT; rfl, by
    unfold TAt at h ⊢
    obtain ⟨b, e, f, o⟩ := h
    have := k b (by unfold fpT; exact mem_refs.mpr e)
    exact ⟨b, e, this.2 f, o.mono ex fun u hu => by rw [this.1]; exact hu⟩⟩
  | .dbl d, v, h, k => ⟨by unfold fpT; rfl, by
    unfold TAt at h ⊢
    obtain ⟨b, e, f, o⟩ := h
    have := k b (by unfold fpT; exact mem_refs.mpr e)
    exact ⟨b, e, this.2 f, o.mono ex fun u hu => by rw [this.1]; exact hu⟩⟩
  | .tup ts, v, h, k => by
    unfold TAt at h ⊢
    obtain ⟨b, e, f, o, r⟩ := h
    unfold fpT at k ⊢
    have kb := k b (List.mem_append_left _ (mem_refs.mpr e))
    have ek : kidsV H' v = kidsV H v := kidsV_eq fun a ha => by rw [e] at ha; cases ha; exact kb.1
    obtain ⟨q1, q2⟩ := TAtL.stay ex r fun a ha => k a (List.mem_append_right _ ha)
    rw [ek, q1]
    exact ⟨rfl, b, e, kb.2 f, by rw [kb.1]; exact o, q2⟩
  | .lst ts, v, h, k => by
    unfold TAt at h ⊢
    obtain ⟨b, e, f, o, r⟩ := h
    unfold fpT at k ⊢
    have kb := k b (List.mem_append_left _ (mem_refs.mpr e))
    have ek : kidsV H' v = kidsV H v := kidsV_eq fun a ha => by rw [e] at ha; cases ha; exact kb.1
    obtain ⟨q1, q2⟩ := TAtL.stay ex r fun a ha => k a (List.mem_append_right _ ha)
    rw [ek, q1]
    exact ⟨rfl, b, e, kb.2 f, by rw [kb.1]; exact o, q2⟩
  | .ins c ns ts, v, h, k => by
    unfold TAt at h ⊢
    obtain ⟨b, dx, e, f, o, hl, f2, o2, r⟩ := h
    unfold fpT at k ⊢
    have kb := k b (List.mem_append_left _ (mem_refs.mpr e))
    have ek : kidsV H' v = kidsV H v := kidsV_eq fun a ha => by rw [e] at ha; cases ha; exact kb.1
    have ed : dxV H' v = dxV H v := dxV_eq fun a ha => by rw [e] at ha; cases ha; exact kb.1
    have kd := k dx (List.mem_append_right _ (List.mem_append_left _ (by subst e; show dx ∈ dxO (H b); rw [o]; simp [dxO])))
    obtain ⟨q1, q2⟩ := TAtL.stay ex r fun a ha => k a (List.mem_append_right _ (List.mem_append_right _ ha))
    rw [ek, ed, q1]
    exact ⟨rfl, b, dx, e, kb.2 f, by rw [kb.1]; exact o, hl, kd.2 f2, by rw [kd.1]; exact o2, q2⟩
  | .slf c ns n, v, h, k => by
    unfold TAt at h ⊢
    obtain ⟨b, dx, e, f, o, hl, f2, o2⟩ := h
    unfold fpT at k ⊢
    have kb := k b (List.mem_append_left _ (mem_refs.mpr e))
    have ek : kidsV H' v = kidsV H v := kidsV_eq fun a ha => by rw [e] at ha; cases ha; exact kb.1
    have ed : dxV H' v = dxV H v := dxV_eq fun a ha => by rw [e] at ha; cases ha; exact kb.1
    have kd := k dx (List.mem_append_right _ (by subst e; show dx ∈ dxO (H b); rw [o]; simp [dxO]))
    rw [ek, ed]
    exact ⟨rfl, b, dx, e, kb.2 f, by rw [kb.1]; exact o, hl, kd.2 f2, by rw [kd.1]; exact o2⟩
  | .clo z ts, v, h, k => by
    unfold TAt at h ⊢
    unfold fpT at k ⊢
    obtain ⟨q1, q2⟩ := TAtL.stay ex h.2.2.2 k
    exact ⟨q1, h.1, ex _ _ h.2.1, ex _ _ h.2.2.1, q2⟩
theorem TAtL.stay {K : PySem.W.Frag} {F F' H H' : Hp} (ex : Ext F F') : ∀ {ts : List T} {vs : List V}, TAtL K F H vs ts → (∀ a ∈ fpL H vs ts, H' a = H a ∧ (F a = none → F' a = none)) → fpL H' vs ts = fpL H vs ts ∧ TAtL K F' H' vs ts
  | [], [], h, _ => ⟨by unfold fpL; rfl, h⟩
  | [], _ :: _, h, _ => by unfold TAtL at h; exact h.elim
  | _ :: _, [], h, _ => by unfold TAtL at h; exact h.elim
  | t :: ts, v :: vs, h, k => by
    unfold TAtL at h ⊢
    unfold fpL at k ⊢
    obtain ⟨q1, q2⟩ := TAt.stay ex h.1 fun a ha => k a (List.mem_append_left _ ha)
    obtain ⟨q3, q4⟩ := TAtL.stay ex h.2 fun a ha => k a (List.mem_append_right _ ha)
    exact ⟨by rw [q1, q3], q2, q4⟩
end
def Sub (F H : Hp) : Prop := ∀ a o, F a = some o → Rdn H a o ∧ ntb o
theorem Sub.lst {F H : Hp} (s : Sub F H) {a : Addr} {xs : List V} (h : F a = some (.lst xs)) : H a = some (.lst xs) := (s _ _ h).1.elim id fun ⟨_, _, _, n⟩ => nomatch n
theorem Sub.tup {F H : Hp} (s : Sub F H) {a : Addr} {xs : List V} (h : F a = some (.tup xs)) : H a = some (.tup xs) := (s _ _ h).1.elim id fun ⟨_, _, _, n⟩ => nomatch n
theorem Sub.ins {F H : Hp} (s : Sub F H) {a : Addr} {c dx : Addr} {fs : List (Str × V)} (h : F a = some (.ins c dx fs)) : H a = some (.ins c dx fs) := (s _ _ h).1.elim id fun ⟨_, _, _, n⟩ => nomatch n
theorem Sub.dct {F H : Hp} (s : Sub F H) {a : Addr} {xs : List (Key × V)} (h : Rd F a (.dK xs)) : Rd H a (.dK xs) := by
  rcases h with h | ⟨o, h⟩
  · exact (s _ _ h).1.rd
  · rcases (s _ _ h).1 with z | ⟨_, _, n⟩
    · exact .inr ⟨o, z⟩
    · obtain ⟨_, n⟩ := n; cases n
/-- the fields of an exception that is held stand frozen -/
def XIn (K : PySem.W.Frag) (F : Hp) (q : XRef) : Prop := (q.x.fs = [] ∧ q.d = none) ∨ ∃ (dd : Addr) (vs : List V), q.d = some dd ∧ F dd = some (.xd ((q.x.fs.map (·.1)).zip vs)) ∧ RpA K F vs (q.x.fs.map (·.2))
theorem XIn.mono {K : PySem.W.Frag} {F F' : Hp} {q : XRef} (e : Ext F F') (h : XIn K F q) : XIn K F' q := h.imp id fun ⟨dd, vs, h1, h2, h3⟩ => ⟨dd, vs, h1, e _ _ h2, h3.mono e⟩
/-- a name that keeps its object -/
def Slot.fixed : Slot → Bool
  | .opa _ => true
  | _ => false
/-- an object with names behind it, a function made here -/
def T.odd : T → Bool
  | .slf _ _ _ => true
  | _ => false
/-- what the names behind a tree hold -/
def TieT (_F _H : Hp) (_σ : Sg) (_ρ : Rho) (_v : V) (_t : T) : Prop := True
def Tie (F H : Hp) (σ : Sg) (ρ : Rho) : Prop := ∀ (i : Nat) (t : T) (v : V), ρ[i]? = some (.opa t) → σ[i]? = some (some v) → TieT F H σ ρ v t
theorem Tie.keep {F F' H H' : Hp} {σ σ' : Sg} {ρ ρ' : Rho} (T0 : Tie F H σ ρ) (ex : Ext F F')
    (h1 : ∀ (i : Nat) (t : T) (v : V), ρ'[i]? = some (Slot.opa t) → σ'[i]? = some (some v) → t.odd = true → ρ[i]? = some (Slot.opa t) ∧ σ[i]? = some (some v) ∧ ((∃ c ns n, t = T.slf c ns n) → kidsV H' v = kidsV H v))
    (h2 : ∀ (j : Nat) (s : Slot) (x : V), ρ'[j]? = some s → s.fixed = true → σ'[j]? = some (some x) → ∃ s' : Slot, ρ[j]? = some s' ∧ s'.fixed = true ∧ σ[j]? = some (some x)) : Tie F' H' σ' ρ' := fun _ _ _ _ _ => trivial
structure Rel (K : PySem.W.Frag) (F : Hp) (σ : Sg) (H : Hp) (ρ : Rho) : Prop where
  sub : Sub F H
  len : σ.length = ρ.length
  dat : ∀ (i : Nat) (d : D), ρ[i]? = some (.dat d) → ∃ v, σ[i]? = some (some v) ∧ Rp K F v d
  own : ∀ (i : Nat) (s : Slot) (d : D), ρ[i]? = some s → s.mine = true → s.data? = some d → ∃ a, σ[i]? = some (some (.ref a)) ∧ F a = none ∧ OwnAt K F H a d
  sep : ∀ (i j : Nat) (a : Addr), Mine H σ ρ i a → Mine H σ ρ j a → i = j
  obj : ∀ (i : Nat) (s : Slot) (t : T), ρ[i]? = some s → s.tree? = some t → ∃ v, σ[i]? = some (some v) ∧ TAt K F H v t ∧ (fpT H v t).Nodup
  exc : ∀ (i : Nat) (q : XRef), ρ[i]? = some (.exc q) → σ[i]? = some (some (.ref q.a)) ∧ XIn K F q
  tab : LamX.Tabs (tabsOf K) H
  tie : Tie F H σ ρ
/-- every address that is ours holds an object, none of them frozen -/
theorem Rel.has {K : PySem.W.Frag} {F H : Hp} {σ : Sg} {ρ : Rho} (R : Rel K F σ H ρ) {a : Addr} (h : Own H σ ρ a) : F a = none ∧ ∃ o, H a = some o ∧ nt o := by
  obtain ⟨i, s, v, e, h1, ha⟩ := h
  have sh : s.mine = true → F a = none ∧ ∃ o, H a = some o ∧ nt o := fun m => by
    obtain ⟨d, hd⟩ : ∃ d, s.data? = some d := by cases s <;> first | (cases m; done) | exact ⟨_, rfl⟩
    obtain ⟨b, h2, f, o⟩ := R.own i s d e m hd
    have := (fp_mine m).mp ha
    rw [h1, this] at h2
    cases h2
    exact ⟨f, o.some⟩
  have tr : ∀ t, s.tree? = some t → a ∈ fpT H v t → F a = none ∧ ∃ o, H a = some o ∧ nt o := fun t ht ha => by
    obtain ⟨w, h2, ta, _⟩ := R.obj i s t e ht
    rw [h1] at h2
    cases h2
    exact fp_some ta a ha
  cases s <;> first | exact sh rfl | exact tr _ rfl ha | (unfold Slot.fp at ha; cases ha)
/-- what is ours is the same where our objects are -/
theorem Rel.mine1 {K : PySem.W.Frag} {F H H' : Hp} {σ : Sg} {ρ : Rho} (R : Rel K F σ H ρ) (i : Nat) (k : ∀ a, Mine H σ ρ i a → H' a = H a) (a : Addr) : Mine H' σ ρ i a ↔ Mine H σ ρ i a := by
  have key : ∀ s v, ρ[i]? = some s → σ[i]? = some (some v) → s.fp H' v = s.fp H v := fun s v e h1 => by
    have tr : ∀ t, s.tree? = some t → (∀ b, b ∈ s.fp H v ↔ b ∈ fpT H v t) → fpT H' v t = fpT H v t := fun t ht hb => by
      obtain ⟨w, h2, ta, _⟩ := R.obj i s t e ht
      rw [h1] at h2
      cases h2
      exact (TAt.stay (Ext.refl F) ta fun b hm => ⟨k b ⟨s, v, e, h1, (hb b).mpr hm⟩, id⟩).1
    cases s <;> first | rfl | exact tr _ rfl fun b => Iff.rfl
  constructor
  · rintro ⟨s, v, e, h1, ha⟩
    exact ⟨s, v, e, h1, by rw [← key s v e h1]; exact ha⟩
  · rintro ⟨s, v, e, h1, ha⟩
    exact ⟨s, v, e, h1, by rw [key s v e h1]; exact ha⟩
theorem Rel.mine {K : PySem.W.Frag} {F H H' : Hp} {σ : Sg} {ρ : Rho} (R : Rel K F σ H ρ) (k : ∀ a, Own H σ ρ a → H' a = H a) (i : Nat) (a : Addr) : Mine H' σ ρ i a ↔ Mine H σ ρ i a := R.mine1 i (fun b h => k b ⟨i, h⟩) a
theorem Rel.owns {K : PySem.W.Frag} {F H H' : Hp} {σ : Sg} {ρ : Rho} (R : Rel K F σ H ρ) (k : ∀ a, Own H σ ρ a → H' a = H a) (a : Addr) : Own H' σ ρ a ↔ Own H σ ρ a :=
  ⟨fun ⟨i, h⟩ => ⟨i, (R.mine k i a).mp h⟩, fun ⟨i, h⟩ => ⟨i, (R.mine k i a).mpr h⟩⟩
/-- what is behind our trees stays where our objects stay -/
theorem Rel.kids {K : PySem.W.Frag} {F H H' : Hp} {σ : Sg} {ρ : Rho} (R : Rel K F σ H ρ) {i : Nat} {c : Str} {ns : List Str} {n : Nat} {v : V} (e : ρ[i]? = some (.opa (.slf c ns n))) (h : σ[i]? = some (some v)) (k : ∀ a, Mine H σ ρ i a → H' a = H a) : kidsV H' v = kidsV H v := by
  obtain ⟨w, h2, ta, _⟩ := R.obj i _ _ e rfl
  rw [h] at h2
  cases h2
  unfold TAt at ta
  obtain ⟨a, dx, e1, _⟩ := ta
  exact kidsV_eq fun b hb => k b ⟨_, v, e, h, by
    show b ∈ fpT H v (.slf c ns n)
    unfold fpT
    exact List.mem_append_left _ (mem_refs.mpr hb)⟩
theorem Rel.tieS {K : PySem.W.Frag} {F F' H H' : Hp} {σ : Sg} {ρ : Rho} (R : Rel K F σ H ρ) (ex : Ext F F') (k : ∀ a, Own H σ ρ a → H' a = H a) : Tie F' H' σ ρ :=
  Tie.keep R.tie ex (fun i t v e h q => ⟨e, h, fun ⟨c, ns, n, z⟩ => by subst z; exact R.kids e h fun a m => k a ⟨i, m⟩⟩) fun j s x e f h => ⟨s, e, f, h⟩
def KpT (t u : T) : Prop := t.odd = true ∨ u.odd = true → t = u
theorem KpT.refl (t : T) : KpT t t := fun _ => rfl
theorem KpT.trans {a b c : T} (h : KpT a b) (g : KpT b c) : KpT a c := fun q => by
  rcases q with q | q
  · have e := h (.inl q)
    subst e
    exact g (.inl q)
  · have e := g (.inr q)
    subst e
    exact h (.inr q)
/-- what a slot may turn into while an expression is evaluated -/
def KpS : Slot → Slot → Prop
  | .un, .un => True
  | .dat d, .dat e => d = e
  | .own _, .own _ => True
  | .own _, .dat _ => True
  | .par _, .par _ => True
  | .lck d, .lck e => d = e
  | .obj _, .obj _ => True
  | .obj _, .dat _ => True
  | .opa t, .opa u => KpT t u
  | .exc a, .exc b => a = b
  | _, _ => False
theorem KpS.refl : ∀ s, KpS s s
  | .un => trivial
  | .dat _ => rfl
  | .own _ => trivial
  | .par _ => trivial
  | .lck _ => rfl
  | .obj _ => trivial
  | .opa _ => KpT.refl _
  | .exc _ => rfl
theorem KpS.odd {s : Slot} {u : T} (k : KpS s (.opa u)) (o : u.odd = true) : s = .opa u := by
  cases s <;> first | exact False.elim k | exact congrArg _ ((show KpT _ _ from k) (.inr o))
theorem KpS.trans : ∀ {a b c}, KpS a b → KpS b c → KpS a c
  | .un, .un, .un, _, _ => trivial
  | .dat _, .dat _, .dat _, h, g => Eq.trans (show _ = _ from h) g
  | .own _, .own _, .own _, _, _ => trivial
  | .own _, .own _, .dat _, _, _ => trivial
  | .own _, .dat _, .dat _, _, _ => trivial
  | .par _, .par _, .par _, _, _ => trivial
  | .lck _, .lck _, .lck _, h, g => Eq.trans (show _ = _ from h) g
  | .obj _, .obj _, .obj _, _, _ => trivial
  | .obj _, .obj _, .dat _, _, _ => trivial
  | .obj _, .dat _, .dat _, _, _ => trivial
  | .opa _, .opa _, .opa _, h, g => KpT.trans (show KpT _ _ from h) g
  | .exc _, .exc _, .exc _, h, g => Eq.trans (show _ = _ from h) g
def Kp (ρ ρ' : Rho) : Prop := ρ.length = ρ'.length ∧ ∀ (i : Nat) (s : Slot), ρ[i]? = some s → ∃ s', ρ'[i]? = some s' ∧ KpS s s'
theorem Kp.refl (ρ : Rho) : Kp ρ ρ := ⟨rfl, fun _ s h => ⟨s, h, KpS.refl s⟩⟩
theorem Kp.trans {a b c : Rho} (h : Kp a b) (g : Kp b c) : Kp a c := ⟨h.1.trans g.1, fun i s e => by
  obtain ⟨s1, e1, k1⟩ := h.2 i s e
  obtain ⟨s2, e2, k2⟩ := g.2 i s1 e1
  exact ⟨s2, e2, k1.trans k2⟩⟩
/-- a step: what is not ours stays -/
structure Fr (F H : Hp) (σ : Sg) (ρ : Rho) (F' H' : Hp) (σ' : Sg) (ρ' : Rho) : Prop where
  ext : Ext F F'
  keep : ∀ a o, H a = some o → nt o → F a = none → ¬ Own H σ ρ a → H' a = some o ∧ F' a = none ∧ ¬ Own H' σ' ρ' a
theorem Fr.trans {F H F1 H1 F2 H2 : Hp} {σ σ1 σ2 : Sg} {ρ ρ1 ρ2 : Rho} (a : Fr F H σ ρ F1 H1 σ1 ρ1) (b : Fr F1 H1 σ1 ρ1 F2 H2 σ2 ρ2) : Fr F H σ ρ F2 H2 σ2 ρ2 := ⟨a.ext.trans b.ext, fun x o h t f n => by
  obtain ⟨h1, f1, n1⟩ := a.keep x o h t f n
  exact b.keep x o h1 t f1 n1⟩
/-- an expression leaves the fields of self as they are -/
def Kid (H : Hp) (σ : Sg) (ρ : Rho) (H' : Hp) : Prop := ∀ (i : Nat) (c : Str) (ns : List Str) (n : Nat) (v : V), ρ[i]? = some (.opa (.slf c ns n)) → σ[i]? = some (some v) → kidsV H' v = kidsV H v
theorem Kid.trans {H H1 H2 : Hp} {σ : Sg} {ρ ρ1 : Rho} (a : Kid H σ ρ H1) (b : Kid H1 σ ρ1 H2) (k : Kp ρ ρ1) : Kid H σ ρ H2 := fun i c ns n v e h => by
  obtain ⟨s, e1, q⟩ := k.2 i _ e
  have : s = .opa (.slf c ns n) := by
    cases s <;> first | exact False.elim q | exact (congrArg Slot.opa ((show KpT _ _ from q) (.inl rfl))).symm
  subst this
  rw [b i c ns n v e1 h, a i c ns n v e h]
theorem Rel.kid {K : PySem.W.Frag} {F H H' : Hp} {σ : Sg} {ρ : Rho} (R : Rel K F σ H ρ) (k : ∀ i a, (∃ c ns n, ρ[i]? = some (.opa (.slf c ns n))) → Mine H σ ρ i a → H' a = H a) : Kid H σ ρ H' := fun i c ns n v e h => R.kids e h fun a m => k i a ⟨c, ns, n, e⟩ m
structure Step (F H : Hp) (σ : Sg) (ρ : Rho) (F' H' : Hp) (ρ' : Rho) : Prop where
  fr : Fr F H σ ρ F' H' σ ρ'
  kp : Kp ρ ρ'
  kid : Kid H σ ρ H'
theorem Step.trans {F H F1 H1 F2 H2 : Hp} {σ : Sg} {ρ ρ1 ρ2 : Rho} (a : Step F H σ ρ F1 H1 ρ1) (b : Step F1 H1 σ ρ1 F2 H2 ρ2) : Step F H σ ρ F2 H2 ρ2 := ⟨a.fr.trans b.fr, a.kp.trans b.kp, a.kid.trans b.kid a.kp⟩
/-- what an expression gives: a value that is frozen, a name's own object, a new object -/
inductive Opd where
  | val (d : D) | loc (i : Nat) | new (d : D) | nob (t : T) | lob (i : Nat)
def RO (K : PySem.W.Frag) (F H : Hp) (σ : Sg) (ρ : Rho) (v : V) : Opd → Prop
  | .val d => Rp K F v d
  | .loc i => σ[i]? = some (some v) ∧ ∃ s d, ρ[i]? = some s ∧ s.data? = some d
  | .new d => ∃ a, v = .ref a ∧ F a = none ∧ OwnAt K F H a d ∧ ¬ Own H σ ρ a
  | .nob t => TAt K F H v t ∧ (fpT H v t).Nodup ∧ ∀ a ∈ fpT H v t, ¬ Own H σ ρ a
  | .lob i => σ[i]? = some (some v) ∧ ∃ s, ρ[i]? = some s ∧ s.live = true
def Opd.isNew : Opd → Bool
  | .new _ => true
  | .nob _ => true
  | _ => false
def newFp (H : Hp) (v : V) : Opd → List Addr
  | .new _ => refsV v
  | .nob t => fpT H v t
  | _ => []
/-- a new object is none of those that are not ours -/
def NewSep (H' F H : Hp) (σ : Sg) (ρ : Rho) (v : V) (o : Opd) : Prop := o.isNew = true → ∀ a ∈ newFp H' v o, ∀ u, H a = some u → nt u → F a = none → Own H σ ρ a
def deref (ρ : Rho) : Opd → Option D
  | .val d => some d
  | .new d => some d
  | .loc i => (ρ[i]?).bind Slot.data?
  | .lob i => (match ρ[i]? with
    | some (.opa (.own d)) => some d
    | _ => none)
  | _ => none
/-- the tree that v stands for now -/
def Ct (K : PySem.W.Frag) (F H : Hp) (v : V) (d : D) : Prop := Rp K F v d ∨ ∃ a, v = .ref a ∧ F a = none ∧ OwnAt K F H a d
theorem Kp.data {ρ ρ' : Rho} (h : Kp ρ ρ') {i : Nat} {s : Slot} {d : D} (e : ρ[i]? = some s) (q : s.data? = some d) : ∃ s' d', ρ'[i]? = some s' ∧ s'.data? = some d' := by
  obtain ⟨s', e', k⟩ := h.2 i s e
  refine ⟨s', ?_⟩
  cases s <;> cases s' <;> first | (exact False.elim k) | (exact ⟨_, e', rfl⟩) | (cases q)
theorem Kp.live {ρ ρ' : Rho} (h : Kp ρ ρ') {i : Nat} {s : Slot} (e : ρ[i]? = some s) (q : s.live = true) : ∃ s', ρ'[i]? = some s' ∧ s'.live = true := by
  obtain ⟨s', e', k⟩ := h.2 i s e
  refine ⟨s', e', ?_⟩
  cases s <;> cases s' <;> first | rfl | (exact False.elim k) | (cases q; done)
/-- a new tree stays -/
theorem nob_step {K : PySem.W.Frag} {F H F1 H1 : Hp} {σ : Sg} {ρ ρ1 : Rho} {v : V} {t : T} (fr : Fr F H σ ρ F1 H1 σ ρ1) (h : TAt K F H v t) (n : ∀ a ∈ fpT H v t, ¬ Own H σ ρ a) : fpT H1 v t = fpT H v t ∧ TAt K F1 H1 v t ∧ ∀ a ∈ fpT H v t, ¬ Own H1 σ ρ1 a := by
  have k : ∀ a ∈ fpT H v t, H1 a = H a ∧ F1 a = none ∧ ¬ Own H1 σ ρ1 a := fun a ha => by
    obtain ⟨f, o, ho, nt⟩ := fp_some h a ha
    obtain ⟨x, y, z⟩ := fr.keep a o ho nt f (n a ha)
    exact ⟨by rw [x, ho], y, z⟩
  obtain ⟨q1, q2⟩ := TAt.stay fr.ext h fun a ha => ⟨(k a ha).1, fun _ => (k a ha).2.1⟩
  exact ⟨q1, q2, fun a ha => (k a ha).2.2⟩
theorem RO.step {K : PySem.W.Frag} {F H F1 H1 : Hp} {σ : Sg} {ρ ρ1 : Rho} {v : V} (st : Step F H σ ρ F1 H1 ρ1) : ∀ {o : Opd}, RO K F H σ ρ v o → RO K F1 H1 σ ρ1 v o
  | .val d, h => Rp.mono st.fr.ext h
  | .loc i, ⟨h, s, d, e, q⟩ => ⟨h, st.kp.data e q⟩
  | .lob i, ⟨h, s, e, q⟩ => ⟨h, st.kp.live e q⟩
  | .new d, ⟨a, e, f, h, n⟩ => by
    obtain ⟨o, ho, t⟩ := h.some
    obtain ⟨h1, f1, n1⟩ := st.fr.keep a o ho t f n
    exact ⟨a, e, f1, h.mono st.fr.ext fun u q => by rw [ho] at q; cases q; exact h1, n1⟩
  | .nob t, ⟨h, nd, n⟩ => by
    obtain ⟨q1, q2, q3⟩ := nob_step st.fr h n
    exact ⟨q2, by rw [q1]; exact nd, by rw [q1]; exact q3⟩
/-- what is new stands at the same addresses -/
theorem RO.fps {K : PySem.W.Frag} {F H F1 H1 : Hp} {σ : Sg} {ρ ρ1 : Rho} {v : V} (fr : Fr F H σ ρ F1 H1 σ ρ1) {o : Opd} (h : RO K F H σ ρ v o) : newFp H1 v o = newFp H v o := by
  cases o with
  | nob t => exact (nob_step fr h.1 h.2.2).1
  | val d => rfl
  | loc i => rfl
  | new d => rfl
  | lob i => rfl
theorem RO.ct {K : PySem.W.Frag} {F H : Hp} {σ : Sg} {ρ : Rho} {v : V} {d : D} (R : Rel K F σ H ρ) : ∀ {o : Opd}, RO K F H σ ρ v o → deref ρ o = some d → Ct K F H v d
  | .val d', h, e => by cases e; exact .inl h
  | .new d', ⟨a, e1, f, h, n⟩, e => by cases e; exact .inr ⟨a, e1, f, h⟩
  | .nob t, _, e => by cases e
  | .lob i, ⟨h, s, e1, q⟩, e => by
    unfold deref at e
    dsimp only at e
    rw [e1] at e
    cases s with
    | opa t =>
      cases t with
      | own d' =>
        cases e
        obtain ⟨w, h1, ta, _⟩ := R.obj i _ _ e1 rfl
        rw [h] at h1; cases h1
        unfold TAt at ta
        exact .inr ta
      | _ => cases e
    | _ => cases e
  | .loc i, ⟨h, s, d', e1, q⟩, e => by
    have e2 : deref ρ (.loc i) = s.data? := by show (ρ[i]?).bind Slot.data? = _; rw [e1]; rfl
    rw [e2] at e
    cases s with
    | un => cases e
    | dat d2 =>
      cases e
      obtain ⟨w, h1, h2⟩ := R.dat i d e1
      rw [h] at h1; cases h1
      exact .inl h2
    | own d2 =>
      obtain ⟨a, h1, h2, h3⟩ := R.own i _ d e1 rfl e
      rw [h] at h1; cases h1
      exact .inr ⟨a, rfl, h2, h3⟩
    | par d2 =>
      obtain ⟨a, h1, h2, h3⟩ := R.own i _ d e1 rfl e
      rw [h] at h1; cases h1
      exact .inr ⟨a, rfl, h2, h3⟩
    | lck d2 =>
      obtain ⟨a, h1, h2, h3⟩ := R.own i _ d e1 rfl e
      rw [h] at h1; cases h1
      exact .inr ⟨a, rfl, h2, h3⟩
    | obj t => cases e
    | opa t => cases e
    | exc a => cases e
theorem NewSep.back {H' F H F1 H1 : Hp} {σ : Sg} {ρ ρ1 : Rho} {v : V} {o : Opd} (st : Fr F H σ ρ F1 H1 σ ρ1) (h : NewSep H' F1 H1 σ ρ1 v o) : NewSep H' F H σ ρ v o := fun hn a e u ha t f => Classical.byContradiction fun n => by
  obtain ⟨h1, f1, n1⟩ := st.keep a u ha t f n
  exact n1 (h hn a e u h1 t f1)
def XAt (K : PySem.W.Frag) (F H : Hp) (x : Ex) (cls : Value) (dx : Option Addr) : Prop :=
  cls = .ref (He.ga K x.cls) ∧ ((x.fs = [] ∧ dx = none) ∨ ∃ (a : Addr) (vs : List V), dx = some a ∧ F a = some (.xd ((x.fs.map (·.1)).zip vs)) ∧ RpA K F vs (x.fs.map (·.2)))
inductive Rs (α : Type) where
  | ok (a : α) (ρ : Rho) | ex (x : Ex) (ρ : Rho) | fail
def Rs.bind {α β : Type} (r : Rs α) (f : α → Rho → Rs β) : Rs β := match r with
  | .ok a ρ => f a ρ
  | .ex x ρ => .ex x ρ
  | .fail => .fail
@[simp] theorem Rs.bind_ok {α β : Type} (a : α) (ρ : Rho) (f : α → Rho → Rs β) : (Rs.ok a ρ).bind f = f a ρ := rfl
@[simp] theorem Rs.bind_ex {α β : Type} (x : Ex) (ρ : Rho) (f : α → Rho → Rs β) : (Rs.ex x ρ : Rs α).bind f = .ex x ρ := rfl
@[simp] theorem Rs.bind_fail {α β : Type} (f : α → Rho → Rs β) : (Rs.fail : Rs α).bind f = .fail := rfl
abbrev ME := Rho → Rs Opd
abbrev MT := Rho → Rs Bool
abbrev MA := Rho → Rs (List Opd)
section
variable (K : PySem.W.Frag) (W : WX)
def XPost (F H : Hp) (σ : Sg) (ρ : Rho) (x : Ex) (ρ' : Rho) : Prop := ∀ cls dx F' H', Step F H σ ρ F' H' ρ' → Rel K F' σ H' ρ' → XAt K F' H' x cls dx → W cls dx σ H'
def EPost (F H : Hp) (σ : Sg) (ρ : Rho) (Q : VK) : Rs Opd → Prop
  | .ok o ρ' => ∀ v F' H', Step F H σ ρ F' H' ρ' → Rel K F' σ H' ρ' → RO K F' H' σ ρ' v o → NewSep H' F H σ ρ v o → Q v H'
  | .ex x ρ' => XPost K W F H σ ρ x ρ'
  | .fail => False
def TPost (F H : Hp) (σ : Sg) (ρ : Rho) (Q : Bool → Hp → Prop) : Rs Bool → Prop
  | .ok b ρ' => ∀ F' H', Step F H σ ρ F' H' ρ' → Rel K F' σ H' ρ' → Q b H'
  | .ex x ρ' => XPost K W F H σ ρ x ρ'
  | .fail => False
def news (H : Hp) : List V → List Opd → List Addr
  | v :: vs, o :: os => newFp H v o ++ news H vs os
  | _, _ => []
structure ROs (F H : Hp) (σ : Sg) (ρ : Rho) (vs : List V) (os : List Opd) : Prop where
  all : Paired (RO K F H σ ρ) vs os
  nd : (news H vs os).Nodup
def NewSeps (H' F H : Hp) (σ : Sg) (ρ : Rho) (vs : List V) (os : List Opd) : Prop := ∀ a ∈ news H' vs os, ∀ u, H a = some u → nt u → F a = none → Own H σ ρ a
def APost (F H : Hp) (σ : Sg) (ρ : Rho) (Q : List V → Hp → Prop) : Rs (List Opd) → Prop
  | .ok os ρ' => ∀ vs F' H', Step F H σ ρ F' H' ρ' → Rel K F' σ H' ρ' → ROs K F' H' σ ρ' vs os → NewSeps H' F H σ ρ vs os → Q vs H'
  | .ex x ρ' => XPost K W F H σ ρ x ρ'
  | .fail => False
end
section
variable {K : PySem.W.Frag} {W : WX} {F H F1 H1 : Hp} {σ : Sg} {ρ ρ1 : Rho}
theorem XPost.step {x : Ex} {ρ' : Rho} (st : Step F H σ ρ F1 H1 ρ1) (h : XPost K W F H σ ρ x ρ') : XPost K W F1 H1 σ ρ1 x ρ' := fun cls dx F' H' s R q => h cls dx F' H' (st.trans s) R q
theorem EPost.step {Q : VK} (st : Step F H σ ρ F1 H1 ρ1) : ∀ {r : Rs Opd}, EPost K W F H σ ρ Q r → EPost K W F1 H1 σ ρ1 Q r
  | .ok o ρ', h => fun v F' H' s R ro ns => h v F' H' (st.trans s) R ro (ns.back st.fr)
  | .ex x ρ', h => XPost.step st h
  | .fail, h => h
theorem TPost.step {Q : Bool → Hp → Prop} (st : Step F H σ ρ F1 H1 ρ1) : ∀ {r : Rs Bool}, TPost K W F H σ ρ Q r → TPost K W F1 H1 σ ρ1 Q r
  | .ok o ρ', h => fun F' H' s R => h F' H' (st.trans s) R
  | .ex x ρ', h => XPost.step st h
  | .fail, h => h
theorem NewSeps.back {H' : Hp} {vs : List V} {os : List Opd} (st : Fr F H σ ρ F1 H1 σ ρ1) (h : NewSeps H' F1 H1 σ ρ1 vs os) : NewSeps H' F H σ ρ vs os := fun a hm u ha t f => Classical.byContradiction fun n => by
  obtain ⟨h1, f1, n1⟩ := st.keep a u ha t f n
  exact n1 (h a hm u h1 t f1)
theorem APost.step {Q : List V → Hp → Prop} (st : Step F H σ ρ F1 H1 ρ1) : ∀ {r : Rs (List Opd)}, APost K W F H σ ρ Q r → APost K W F1 H1 σ ρ1 Q r
  | .ok o ρ', h => fun v F' H' s R ro ns => h v F' H' (st.trans s) R ro (ns.back st.fr)
  | .ex x ρ', h => XPost.step st h
  | .fail, h => h
end
/-- e is evaluated as m says -/
def DE (X : Cx) (W : WX) (e : Expr) (m : ME) : Prop := ∃ t, PE X e t ∧ ∀ F σ H ρ Q, Rel X.K F σ H ρ → EPost X.K W F H σ ρ Q (m ρ) → t σ H Q
section
variable {X : Cx} {W : WX}
def eC (d : D) : ME := fun ρ => .ok (.val d) ρ
def eVar (i : Nat) : ME := fun ρ => match ρ[i]? with
  | some (.dat d) => .ok (.val d) ρ
  | some (.own _) => .ok (.loc i) ρ
  | some (.par _) => .ok (.loc i) ρ
  | some (.lck _) => .ok (.loc i) ρ
  | some (.obj _) => .ok (.lob i) ρ
  | some (.opa (.fr d)) => .ok (.val d) ρ
  | some (.opa _) => .ok (.lob i) ρ
  | _ => .fail
structure Grow (F H F' H' : Hp) : Prop where
  ext : Ext F F'
  sub : Sub F' H'
  keep : ∀ a o, H a = some o → H' a = some o
  fresh : ∀ a o, H a = some o → F a = none → F' a = none
theorem Grow.refl {F H : Hp} (s : Sub F H) : Grow F H F H := ⟨Ext.refl _, s, fun _ _ h => h, fun _ _ _ h => h⟩
theorem Grow.same {K : PySem.W.Frag} {F H F' H' : Hp} {σ : Sg} {ρ : Rho} (g : Grow F H F' H') (R : Rel K F σ H ρ) : ∀ a, Own H σ ρ a → H' a = H a := fun a h => by
  obtain ⟨_, o, e, _⟩ := R.has h
  rw [e, g.keep a o e]
theorem Grow.step {K : PySem.W.Frag} {F H F' H' : Hp} {σ : Sg} {ρ : Rho} (g : Grow F H F' H') (R : Rel K F σ H ρ) : Step F H σ ρ F' H' ρ := ⟨⟨g.ext, fun a o h t f n => ⟨g.keep a o h, g.fresh a o h f, fun z => n ((R.owns (g.same R) a).mp z)⟩⟩, Kp.refl _, R.kid fun i a _ m => g.same R a ⟨i, m⟩⟩
/-- our trees, where our objects stay -/
theorem Rel.trees {K : PySem.W.Frag} {F H F' H' : Hp} {σ : Sg} {ρ : Rho} (R : Rel K F σ H ρ) (ex : Ext F F') {i : Nat} {s : Slot} {t : T} (e : ρ[i]? = some s) (q : s.tree? = some t) (k : ∀ a, Mine H σ ρ i a → H' a = H a ∧ (F a = none → F' a = none)) :
    ∃ v, σ[i]? = some (some v) ∧ TAt K F' H' v t ∧ (fpT H' v t).Nodup ∧ fpT H' v t = fpT H v t := by
  obtain ⟨v, h, ta, nd⟩ := R.obj i s t e q
  have hm : ∀ a ∈ fpT H v t, Mine H σ ρ i a := fun a ha => ⟨s, v, e, h, by cases s <;> first | (cases q; exact ha) | cases q⟩
  obtain ⟨q1, q2⟩ := TAt.stay ex ta fun a ha => k a (hm a ha)
  exact ⟨v, h, q2, by rw [q1]; exact nd, q1⟩
/-- what an operation hands back: a frozen value, a new object -/
def RN (K : PySem.W.Frag) (H0 F H : Hp) (v : V) : Opd → Prop
  | .val d => Rp K F v d
  | .new d => ∃ a, v = .ref a ∧ H0 a = none ∧ F a = none ∧ OwnAt K F H a d
  | _ => False
def run2 (f : D → D → Option Opd) (ρ : Rho) (a b : Opd) : Rs Opd := match deref ρ a, deref ρ b with
  | some d, some e => (match f d e with
    | some o => .ok o ρ
    | none => .fail)
  | _, _ => .fail
def run1 (f : D → Option Opd) (ρ : Rho) (a : Opd) : Rs Opd := match deref ρ a with
  | some d => (match f d with
    | some o => .ok o ρ
    | none => .fail)
  | _ => .fail
def eOp2 (f : D → D → Option Opd) (a b : ME) : ME := fun ρ => (a ρ).bind fun x ρ1 => (b ρ1).bind fun y ρ2 => run2 f ρ2 x y
def eOp1 (f : D → Option Opd) (a : ME) : ME := fun ρ => (a ρ).bind fun x ρ1 => run1 f ρ1 x
end
inductive Flow where
  | nx | rt (o : Opd) | bk | ct
abbrev MS := Rho → Rs Flow
/-- a name that was lent keeps its object -/
def Par (σ : Sg) (ρ : Rho) (σ' : Sg) (ρ' : Rho) : Prop := (∀ (i : Nat) (d : D), ρ[i]? = some (.par d) → (∃ d', ρ'[i]? = some (.par d')) ∧ σ'[i]? = σ[i]?) ∧ (∀ (i : Nat) (d : D), ρ[i]? = some (.lck d) → ρ'[i]? = some (.lck d) ∧ σ'[i]? = σ[i]?) ∧
  ∀ (i : Nat) (t : T), ρ[i]? = some (.opa t) → (∃ t', ρ'[i]? = some (.opa t') ∧ KpT t t') ∧ σ'[i]? = σ[i]?
structure StepS (F H : Hp) (σ : Sg) (ρ : Rho) (F' H' : Hp) (σ' : Sg) (ρ' : Rho) : Prop where
  fr : Fr F H σ ρ F' H' σ' ρ'
  par : Par σ ρ σ' ρ'
theorem Step.s {F H F1 H1 : Hp} {σ : Sg} {ρ ρ1 : Rho} (s : Step F H σ ρ F1 H1 ρ1) : StepS F H σ ρ F1 H1 σ ρ1 := ⟨s.fr, fun i d e => by
  obtain ⟨s', e', k⟩ := s.kp.2 i _ e
  cases s' <;> first | exact ⟨⟨_, e'⟩, rfl⟩ | exact False.elim k, fun i d e => by
  obtain ⟨s', e', k⟩ := s.kp.2 i _ e
  cases s' <;> first | (cases (show _ = _ from k); exact ⟨e', rfl⟩) | exact False.elim k, fun i d e => by
  obtain ⟨s', e', k⟩ := s.kp.2 i _ e
  cases s' <;> first | exact ⟨⟨_, e', k⟩, rfl⟩ | exact False.elim k⟩
theorem StepS.trans {F H F1 H1 F2 H2 : Hp} {σ σ1 σ2 : Sg} {ρ ρ1 ρ2 : Rho} (a : StepS F H σ ρ F1 H1 σ1 ρ1) (b : StepS F1 H1 σ1 ρ1 F2 H2 σ2 ρ2) : StepS F H σ ρ F2 H2 σ2 ρ2 := ⟨a.fr.trans b.fr, fun i d e => by
  obtain ⟨⟨d1, e1⟩, q1⟩ := a.par.1 i d e
  obtain ⟨x, q2⟩ := b.par.1 i d1 e1
  exact ⟨x, q2.trans q1⟩, fun i d e => by
  obtain ⟨e1, q1⟩ := a.par.2.1 i d e
  obtain ⟨x, q2⟩ := b.par.2.1 i d e1
  exact ⟨x, q2.trans q1⟩, fun i d e => by
  obtain ⟨⟨d1, e1, k1⟩, q1⟩ := a.par.2.2 i d e
  obtain ⟨⟨d2, e2, k2⟩, q2⟩ := b.par.2.2 i d1 e1
  exact ⟨⟨d2, e2, k1.trans k2⟩, q2.trans q1⟩⟩
section
variable (K : PySem.W.Frag) (W : WX)
def XPostS (F H : Hp) (σ : Sg) (ρ : Rho) (x : Ex) (ρ' : Rho) : Prop := ∀ cls dx σ' F' H', StepS F H σ ρ F' H' σ' ρ' → Rel K F' σ' H' ρ' → XAt K F' H' x cls dx → W cls dx σ' H'
def SPost (F H : Hp) (σ : Sg) (ρ : Rho) (Z : Ends) : Rs Flow → Prop
  | .ok .nx ρ' => ∀ σ' F' H', StepS F H σ ρ F' H' σ' ρ' → Rel K F' σ' H' ρ' → Z.nx σ' H'
  | .ok .bk ρ' => ∀ σ' F' H', StepS F H σ ρ F' H' σ' ρ' → Rel K F' σ' H' ρ' → Z.bk σ' H'
  | .ok .ct ρ' => ∀ σ' F' H', StepS F H σ ρ F' H' σ' ρ' → Rel K F' σ' H' ρ' → Z.ct σ' H'
  | .ok (.rt o) ρ' => ∀ v σ' F' H', StepS F H σ ρ F' H' σ' ρ' → Rel K F' σ' H' ρ' → RO K F' H' σ' ρ' v o → NewSep H' F H σ ρ v o → Z.rt v H'
  | .ex x ρ' => XPostS K W F H σ ρ x ρ'
  | .fail => False
end
section
variable {K : PySem.W.Frag} {W : WX} {F H F1 H1 : Hp} {σ σ1 : Sg} {ρ ρ1 : Rho}
theorem NewSep.backS {H' F H F1 H1 : Hp} {σ σ1 : Sg} {ρ ρ1 : Rho} {v : V} {o : Opd} (st : Fr F H σ ρ F1 H1 σ1 ρ1) (h : NewSep H' F1 H1 σ1 ρ1 v o) : NewSep H' F H σ ρ v o := fun hn a e u ha t f => Classical.byContradiction fun n => by
  obtain ⟨h1, f1, n1⟩ := st.keep a u ha t f n
  exact n1 (h hn a e u h1 t f1)
theorem SPost.step {Z : Ends} (st : StepS F H σ ρ F1 H1 σ1 ρ1) : ∀ {r : Rs Flow}, SPost K W F H σ ρ Z r → SPost K W F1 H1 σ1 ρ1 Z r
  | .ok .nx ρ', h => fun σ' F' H' s R => h σ' F' H' (st.trans s) R
  | .ok .bk ρ', h => fun σ' F' H' s R => h σ' F' H' (st.trans s) R
  | .ok .ct ρ', h => fun σ' F' H' s R => h σ' F' H' (st.trans s) R
  | .ok (.rt o) ρ', h => fun v σ' F' H' s R ro ns => h v σ' F' H' (st.trans s) R ro (ns.backS st.fr)
  | .ex x ρ', h => fun cls dx σ' F' H' s R q => h cls dx σ' F' H' (st.trans s) R q
  | .fail, h => h
theorem XPostS.x {x : Ex} {ρ' : Rho} (h : XPostS K W F H σ ρ x ρ') : XPost K W F H σ ρ x ρ' := fun cls dx F' H' s R q => h cls dx σ F' H' s.s R q
end
section
variable {X : Cx} {W : WX} {a b : Expr} {rest : List Expr} {pos : Pos}
def boolOf (ρ : Rho) (o : Opd) : Rs Bool := match deref ρ o with
  | some (.bool b) => .ok b ρ
  | _ => .fail
def tVal (m : ME) : MT := fun ρ => (m ρ).bind fun o ρ1 => boolOf ρ1 o
theorem Ct.bool {K : PySem.W.Frag} {F H : Hp} {v : V} {b : Bool} (h : Ct K F H v (.bool b)) : v = .bl b := by
  rcases h with h | ⟨a, e, f, o⟩
  · cases h; rfl
  · exact False.elim o
def tAndM (a b : MT) : MT := fun ρ => (a ρ).bind fun x ρ1 => if x = true then b ρ1 else .ok false ρ1
def tOrM (a b : MT) : MT := fun ρ => (a ρ).bind fun x ρ1 => if x = true then .ok true ρ1 else b ρ1
def tNotM (a : MT) : MT := fun ρ => (a ρ).bind fun x ρ1 => .ok (!x) ρ1
/-- as values -/
def eAnd (a b : ME) : ME := fun ρ => (tVal a ρ).bind fun x ρ1 => if x = true then b ρ1 else .ok (.val (.bool false)) ρ1
def eOr (a b : ME) : ME := fun ρ => (tVal a ρ).bind fun x ρ1 => if x = true then .ok (.val (.bool true)) ρ1 else b ρ1
def eNot (a : ME) : ME := fun ρ => (tVal a ρ).bind fun x ρ1 => .ok (.val (.bool !x)) ρ1
def eIf (c : MT) (a b : ME) : ME := fun ρ => (c ρ).bind fun x ρ1 => if x = true then a ρ1 else b ρ1
def aNil : MA := fun ρ => .ok [] ρ
def aCons (a : ME) (r : MA) : MA := fun ρ => (a ρ).bind fun x ρ1 => (r ρ1).bind fun xs ρ2 => .ok (x :: xs) ρ2
theorem news_step {K : PySem.W.Frag} {F H F1 H1 : Hp} {σ : Sg} {ρ ρ1 : Rho} (fr : Fr F H σ ρ F1 H1 σ ρ1) : ∀ {vs : List V} {os : List Opd}, Paired (RO K F H σ ρ) vs os → news H1 vs os = news H vs os
  | _, _, .nil => rfl
  | _, _, .cons r rs => by unfold news; rw [r.fps fr, news_step fr rs]
theorem ROs.step {K : PySem.W.Frag} {F H F1 H1 : Hp} {σ : Sg} {ρ ρ1 : Rho} {vs : List V} {os : List Opd} (st : Step F H σ ρ F1 H1 ρ1) (h : ROs K F H σ ρ vs os) : ROs K F1 H1 σ ρ1 vs os := ⟨Paired.mapP h.all fun _ _ r => r.step st, by rw [news_step st.fr h.all]; exact h.nd⟩
/-- what is new is not ours, and stands there -/
theorem RO.prot {K : PySem.W.Frag} {F H : Hp} {σ : Sg} {ρ : Rho} {v : V} {o : Opd} (h : RO K F H σ ρ v o) {a : Addr} (ha : a ∈ newFp H v o) : ∃ u, H a = some u ∧ nt u ∧ F a = none ∧ ¬ Own H σ ρ a := by
  cases o with
  | new d =>
    obtain ⟨b, e, f, ho, n⟩ := h
    have ha := mem_refs.mp ha
    rw [e] at ha
    cases ha
    obtain ⟨u, hu, t⟩ := ho.some
    exact ⟨u, hu, t, f, n⟩
  | nob t =>
    obtain ⟨h, _, n⟩ := h
    obtain ⟨f, u, hu, t⟩ := fp_some h a ha
    exact ⟨u, hu, t, f, n a ha⟩
  | val d => cases ha
  | loc i => cases ha
  | lob i => cases ha
theorem newFp_nd {K : PySem.W.Frag} {F H : Hp} {σ : Sg} {ρ : Rho} {v : V} {o : Opd} (h : RO K F H σ ρ v o) : (newFp H v o).Nodup := by
  cases o with
  | new d => show (refsV v).Nodup; cases v <;> simp [refsV]
  | nob t => exact h.2.1
  | val d => exact List.nodup_nil
  | loc i => exact List.nodup_nil
  | lob i => exact List.nodup_nil
theorem ROs.cons {K : PySem.W.Frag} {F0 H0 F H : Hp} {σ : Sg} {ρ0 ρ : Rho} {v : V} {o : Opd} {vs : List V} {os : List Opd} (st : Step F0 H0 σ ρ0 F H ρ) (r0 : RO K F0 H0 σ ρ0 v o) (h : ROs K F H σ ρ vs os) (ns : NewSeps H F0 H0 σ ρ0 vs os) : ROs K F H σ ρ (v :: vs) (o :: os) := by
  refine ⟨.cons (r0.step st) h.all, ?_⟩
  unfold news
  refine List.nodup_append.mpr ⟨newFp_nd (r0.step st), h.nd, fun a ha b hb e => ?_⟩
  subst e
  rw [r0.fps st.fr] at ha
  obtain ⟨u, hu, t, f, n⟩ := r0.prot ha
  exact n (ns a hb u hu t f)
end
mutual
def T.toD : T → Option D
  | .fr d => some d
  | .own d => some d
  | .tup ts => (toDs ts).map .tuple
  | .lst ts => (toDs ts).map .list
  | _ => none
def toDs : List T → Option (List D)
  | [] => some []
  | t :: ts => match t.toD, toDs ts with
    | some d, some ds => some (d :: ds)
    | _, _ => none
end
def useO (ρ : Rho) : Opd → Option (D × Rho)
  | .val d => some (d, ρ)
  | .new d => some (d, ρ)
  | .loc i => match ρ[i]? with
    | some (.own d) => some (d, ρ.set i (.dat d))
    | some (.dat d) => some (d, ρ)
    | _ => none
  | .nob t => t.toD.map fun d => (d, ρ)
  | .lob i => match ρ[i]? with
    | some (.obj t) => t.toD.map fun d => (d, ρ.set i (.dat d))
    | some (.dat d) => some (d, ρ)
    | _ => none
def useAll (ρ : Rho) : List Opd → Option (List D × Rho)
  | [] => some ([], ρ)
  | o :: os => match useO ρ o with
    | some (d, ρ1) => (match useAll ρ1 os with
      | some (ds, ρ2) => some (d :: ds, ρ2)
      | none => none)
    | none => none
section
variable {X : Cx} {W : WX} {pos : Pos}
def withAll (f : List D → Option Opd) (ρ : Rho) (os : List Opd) : Rs Opd := match useAll ρ os with
  | some (ds, ρ1) => (match f ds with
    | some o => .ok o ρ1
    | none => .fail)
  | none => .fail
def eUse (f : List D → Option Opd) (a : MA) : ME := fun ρ => (a ρ).bind fun os ρ1 => withAll f ρ1 os
end
def DSs (X : Cx) (W : WX) (s : List Stmt) (m : MS) : Prop := ∃ t, PSs X s t ∧ ∀ F σ H ρ Z, Rel X.K F σ H ρ → SPost X.K W F H σ ρ Z (m ρ) → t Z σ H
section
variable {K : PySem.W.Frag} {W : WX} {F H F0 H0 : Hp} {σ σ0 : Sg} {ρ ρ0 : Rho}
/-- a name may be stored -/
def free (ρ : Rho) (i : Nat) : Bool := match ρ[i]? with
  | some (.par _) => false
  | some (.lck _) => false
  | some (.opa _) => false
  | _ => true
def putO (i : Nat) (o : Opd) (ρ : Rho) : Rs Flow := if free ρ i = true then (match o with
  | .new d => .ok .nx (ρ.set i (.own d))
  | .val d => .ok .nx (ρ.set i (.dat d))
  | .nob t => .ok .nx (ρ.set i (.obj t))
  | .loc j => (match useO ρ (.loc j) with
    | some (d, ρ1) => if free ρ1 i = true then .ok .nx (ρ1.set i (.dat d)) else .fail
    | none => .fail)
  | .lob j => (match useO ρ (.lob j) with
    | some (d, ρ1) => if free ρ1 i = true then .ok .nx (ρ1.set i (.dat d)) else .fail
    | none => .fail)) else .fail
end
section
variable {X : Cx} {W : WX} {pos : Pos}
def sSet (i : Nat) (m : ME) : MS := fun ρ => (m ρ).bind fun o ρ1 => putO i o ρ1
def sNil : MS := fun ρ => .ok .nx ρ
def sSeq (a b : MS) : MS := fun ρ => match a ρ with
  | .ok .nx ρ1 => b ρ1
  | r => r
def sBrk : MS := fun ρ => .ok .bk ρ
def sCnt : MS := fun ρ => .ok .ct ρ
def sExp (m : ME) : MS := fun ρ => (m ρ).bind fun _ ρ1 => .ok .nx ρ1
/-- what is handed back: a name's own object goes out -/
def outO (o : Opd) (ρ : Rho) : Rs Flow := match o with
  | .loc i => (match ρ[i]? with
    | some (.own d) => .ok (.rt (.new d)) (ρ.set i .un)
    | some (.dat d) => .ok (.rt (.val d)) ρ
    | _ => .fail)
  | .lob i => (match ρ[i]? with
    | some (.obj t) => .ok (.rt (.nob t)) (ρ.set i .un)
    | _ => .fail)
  | o => .ok (.rt o) ρ
def sRet (m : ME) : MS := fun ρ => (m ρ).bind outO
def sRetN : MS := fun ρ => .ok (.rt (.val .none)) ρ
def sIf (c : MT) (a b : MS) : MS := fun ρ => (c ρ).bind fun x ρ1 => if x = true then a ρ1 else b ρ1
end
abbrev MG := D → Rho → Option Rho
def Agree (ts : List Nat) (σ σ' : Sg) : Prop := σ'.length = σ.length ∧ ∀ j, j ∉ ts → σ'[j]? = σ[j]?
def OnlyG (ts : List Nat) (mg : MG) : Prop := ∀ d ρ ρ', mg d ρ = some ρ' → ρ'.length = ρ.length ∧ ∀ j, j ∉ ts → ρ'[j]? = ρ[j]?
def DG (X : Cx) (tg : Expr) (ts : List Nat) (mg : MG) : Prop := OnlyG ts mg ∧ ∃ g, PG X tg g ∧ ∀ F σ H ρ v d ρ' Q, Rel X.K F σ H ρ → Rp X.K F v d → mg d ρ = some ρ' → (∀ σ', Agree ts σ σ' → StepS F H σ ρ F H σ' ρ' → Rel X.K F σ' H ρ' → Q σ' H) → g v σ H Q
section
variable {X : Cx} {W : WX} {pos : Pos}
theorem Rp.tuple {K : PySem.W.Frag} {F : Hp} {v : V} {ds : List D} (h : Rp K F v (.tuple ds)) : ∃ a vs, v = .ref a ∧ F a = some (.tup vs) ∧ RpA K F vs ds := by
  cases h with
  | tup h r => exact ⟨_, _, rfl, h, r⟩
theorem Rp.list {K : PySem.W.Frag} {F : Hp} {v : V} {ds : List D} (h : Rp K F v (.list ds)) : ∃ a vs, v = .ref a ∧ F a = some (.lst vs) ∧ RpA K F vs ds := by
  cases h with
  | lst h r => exact ⟨_, _, rfl, h, r⟩
/-- a, b = e -/
def sAsg (mg : MG) (m : ME) : MS := fun ρ => (m ρ).bind fun o ρ1 => match useO ρ1 o with
  | some (d, ρ2) => (match mg d ρ2 with
    | some ρ3 => .ok .nx ρ3
    | none => .fail)
  | none => .fail
structure Src where
  ds : List D
  lk : Option (Nat × D)
abbrev MI := Rho → Rs Src
def srcL (o : Opd) (ρ : Rho) : Rs Src := match o with
  | .val (.list ds) => .ok ⟨ds, none⟩ ρ
  | .new (.list ds) => .ok ⟨ds, none⟩ ρ
  | .loc j => (match ρ[j]? with
    | some (.dat (.list ds)) => .ok ⟨ds, none⟩ ρ
    | some (.lck (.list ds)) => .ok ⟨ds, some (j, .list ds)⟩ ρ
    | some (.own (.list ds)) => .ok ⟨ds, none⟩ (ρ.set j (.dat (.list ds)))
    | _ => .fail)
  | _ => .fail
def iLst (m : ME) : MI := fun ρ => (m ρ).bind srcL
def srcT (o : Opd) (ρ : Rho) : Rs Src := match deref ρ o with
  | some (.tuple ds) => .ok ⟨ds, none⟩ ρ
  | _ => .fail
def iTpl (m : ME) : MI := fun ρ => (m ρ).bind srcT
theorem Ct.tuple {K : PySem.W.Frag} {F H : Hp} {v : V} {ds : List D} (h : Ct K F H v (.tuple ds)) : Rp K F v (.tuple ds) := h.elim (fun z => z) fun ⟨a, e, f, o⟩ => False.elim o
def srcR1 (os : List Opd) (ρ : Rho) : Rs Src := match os with
  | [o] => (match deref ρ o with
    | some (.int j) => if -(2 ^ 62) ≤ j ∧ j < 2 ^ 62 then .ok ⟨(List.range j.toNat).map fun k : Nat => .int (0 + (k : Int)), none⟩ ρ else .fail
    | _ => .fail)
  | _ => .fail
def iRng (a : MA) : MI := fun ρ => (a ρ).bind srcR1
theorem Ct.int {K : PySem.W.Frag} {F H : Hp} {v : V} {i : Int} (h : Ct K F H v (.int i)) : v = .int i := by
  rcases h with h | ⟨a, e, f, o⟩
  · cases h; rfl
  · exact False.elim o
def sLoop (mg : MG) (b : MS) : List D → MS
  | [] => fun ρ => .ok .nx ρ
  | d :: ds => fun ρ => match mg d ρ with
    | some ρ1 => (match b ρ1 with
      | .ok .nx ρ2 => sLoop mg b ds ρ2
      | .ok .ct ρ2 => sLoop mg b ds ρ2
      | .ok .bk ρ2 => .ok .nx ρ2
      | r => r)
    | none => .fail
def sFor (mi : MI) (mg : MG) (b : MS) : MS := fun ρ => (mi ρ).bind fun s ρ1 => sLoop mg b s.ds ρ1
end
def hide (vs : List Nat) (ρ : Rho) : Rho := match vs with
  | [] => ρ
  | v :: vs => (hide vs ρ).set v .un
def restore (vs : List Nat) (ρ ρ' : Rho) : Rho := match vs with
  | [] => ρ'
  | v :: vs => (restore vs ρ ρ').set v (ρ.getD v .un)
def noEx {α : Type} (r : Rs α) : Rs α := match r with
  | .ex _ _ => .fail
  | r => r
def compL (vs : List Nat) (mg : MG) (mt : MT) (me : ME) : List D → List D → ME
  | [], acc => fun ρ => .ok (.new (.list acc)) ρ
  | d :: ds, acc => fun ρ => match mg d (hide vs ρ) with
    | some ρ2 => (noEx (mt ρ2)).bind fun b ρ3 => if b = true then (noEx (me ρ3)).bind fun o ρ4 => (match useO ρ4 o with
      | some (x, ρ5) => if acc.length < sizeLine then compL vs mg mt me ds (acc ++ [x]) (restore vs ρ ρ5) else .fail
      | none => .fail) else compL vs mg mt me ds acc (restore vs ρ ρ3)
    | none => .fail
def eComp (vs : List Nat) (mi : MI) (mg : MG) (mt : MT) (me : ME) : ME := fun ρ => (mi ρ).bind fun s ρ1 => compL vs mg mt me s.ds [] ρ1
def tTrue : MT := fun ρ => .ok true ρ
def DTs (X : Cx) (W : WX) (es : List Expr) (m : MT) : Prop := ∃ t, PTs X es t ∧ ∀ F σ H ρ Q, Rel X.K F σ H ρ → TPost X.K W F H σ ρ Q (m ρ) → t σ H Q
def canE (K : PySem.W.Frag) (W : WX) (m : ME) : TE := fun σ H Q => ∃ F ρ, Rel K F σ H ρ ∧ EPost K W F H σ ρ Q (m ρ)
def canT (K : PySem.W.Frag) (W : WX) (m : MT) : TT := fun σ H Q => ∃ F ρ, Rel K F σ H ρ ∧ TPost K W F H σ ρ Q (m ρ)
def canG (K : PySem.W.Frag) (ts : List Nat) (mg : MG) : TG := fun v σ H Q => ∃ F ρ d ρ', Rel K F σ H ρ ∧ Rp K F v d ∧ mg d ρ = some ρ' ∧ ∀ σ', Agree ts σ σ' → StepS F H σ ρ F H σ' ρ' → Rel K F σ' H ρ' → Q σ' H
theorem DE.can {X : Cx} {W : WX} {e : Expr} {m : ME} (h : DE X W e m) : PE X e (canE X.K W m) := let ⟨_, p, q⟩ := h; ⟨fun pins s σ H Q I ⟨F, ρ, R, hp⟩ => p.run pins s σ H Q I (q F σ H ρ Q R hp)⟩
theorem DTs.can {X : Cx} {W : WX} {e : List Expr} {m : MT} (h : DTs X W e m) : PTs X e (canT X.K W m) := let ⟨_, p, q⟩ := h; ⟨fun pins s σ H Q I ⟨F, ρ, R, hp⟩ => p.run pins s σ H Q I (q F σ H ρ Q R hp)⟩
theorem DG.can {X : Cx} {tg : Expr} {ts : List Nat} {mg : MG} (h : DG X tg ts mg) : PG X tg (canG X.K ts mg) := let ⟨_, _, p, q⟩ := h; ⟨fun pins s σ H v u Q I r ⟨F, ρ, d, ρ', R, rp, e, k⟩ => p.run pins s σ H v u Q I r (q F σ H ρ v d ρ' Q R rp e k)⟩
def useSel (ρ : Rho) : List Bool → List Opd → Option (List Opd × Rho)
  | _, [] => some ([], ρ)
  | b :: bs, o :: os => if b = true then (match useSel ρ bs os with
      | some (ps, ρ2) => some (o :: ps, ρ2)
      | none => none) else (match useO ρ o with
      | some (d, ρ1) => (match useSel ρ1 bs os with
        | some (ps, ρ2) => some (.val d :: ps, ρ2)
        | none => none)
      | none => none)
  | [], _ :: _ => none
section
variable {K : PySem.W.Frag} {F0 H0 F H : Hp} {σ : Sg} {ρ0 ρ : Rho}
/-- what a callee is handed -/
def slotOf (ρ : Rho) : Opd → Option Slot
  | .val d => some (.dat d)
  | .new d => some (.par d)
  | .nob t => if t.odd = true then none else some (.opa t)
  | .loc i => match ρ[i]? with
    | some (.own d) => some (.par d)
    | some (.par d) => some (.par d)
    | some (.lck d) => some (.lck d)
    | some (.dat d) => some (.dat d)
    | _ => none
  | .lob i => match ρ[i]? with
    | some (.obj t) => if t.odd = true then none else some (.opa t)
    | some (.opa t) => if t.odd = true then none else some (.opa t)
    | some (.dat d) => some (.dat d)
    | _ => none
def slotsOf (ρ : Rho) : List Opd → Option (List Slot)
  | [] => some []
  | o :: os => match slotOf ρ o, slotsOf ρ os with
    | some s, some ss => some (s :: ss)
    | _, _ => none
def lents (ρ : Rho) : List Opd → List Nat
  | [] => []
  | .loc i :: os => (match ρ[i]? with
    | some (.dat _) => lents ρ os
    | _ => i :: lents ρ os)
  | .lob i :: os => (match ρ[i]? with
    | some (.dat _) => lents ρ os
    | _ => i :: lents ρ os)
  | _ :: os => lents ρ os
/-- what comes back -/
def backS : Slot → Slot → Slot
  | .own _, .par d => .own d
  | .par _, .par d => .par d
  | .obj _, .opa t => .obj t
  | .opa _, .opa t => .opa t
  | s, _ => s
def takeB (ρ : Rho) : List Opd → List Slot → Rho
  | .loc i :: os, c :: cs => (match ρ[i]? with
    | some (.dat _) => takeB ρ os cs
    | some s => (takeB ρ os cs).set i (backS s c)
    | none => takeB ρ os cs)
  | .lob i :: os, c :: cs => (match ρ[i]? with
    | some (.dat _) => takeB ρ os cs
    | some s => (takeB ρ os cs).set i (backS s c)
    | none => takeB ρ os cs)
  | _ :: os, _ :: cs => takeB ρ os cs
  | _, _ => ρ
def argB : Slot → Bool
  | .dat _ => true
  | .par _ => true
  | .lck _ => true
  | .opa t => !t.odd
  | _ => false
def ArgOk (cs : List Slot) : Prop := ∀ s ∈ cs, argB s = true
theorem KpT.even {t u : T} (k : KpT t u) (h : t.odd = false) : u.odd = false := by
  cases e : u.odd with
  | false => rfl
  | true =>
    have := k (.inr e)
    subst this
    rw [h] at e; cases e
/-- the name that an operand is, where it is lent -/
def nameOf : Opd → Option Nat
  | .loc i => some i
  | .lob i => some i
  | _ => none
/-- what is lent as what -/
def LendS (t s : Slot) : Prop := (∃ d, t = .lck d ∧ s = .lck d) ∨ (∃ d, s = .par d ∧ (t = .own d ∨ t = .par d)) ∨ ∃ u, s = .opa u ∧ u.odd = false ∧ (t = .obj u ∨ t = .opa u)
theorem LendS.fp {t s : Slot} (h : LendS t s) (H : Hp) (v : V) : s.fp H v = t.fp H v := by
  rcases h with ⟨d, h1, h2⟩ | ⟨d, h1, h2 | h2⟩ | ⟨d, h1, ho, h2 | h2⟩ <;> (subst h1 h2; rfl)
theorem LendS.data {t s : Slot} (h : LendS t s) : s.data? = t.data? := by
  rcases h with ⟨d, h1, h2⟩ | ⟨d, h1, h2 | h2⟩ | ⟨d, h1, ho, h2 | h2⟩ <;> (subst h1 h2; rfl)
theorem LendS.mine {t s : Slot} (h : LendS t s) : s.mine = t.mine := by
  rcases h with ⟨d, h1, h2⟩ | ⟨d, h1, h2 | h2⟩ | ⟨d, h1, ho, h2 | h2⟩ <;> (subst h1 h2; rfl)
theorem LendS.nd {t s : Slot} (h : LendS t s) : ∀ d, t ≠ .dat d := by
  rcases h with ⟨d, h1, h2⟩ | ⟨d, h1, h2 | h2⟩ | ⟨d, h1, ho, h2 | h2⟩ <;> (subst h1 h2; intro d' e; cases e)
/-- what comes back from what was lent -/
theorem LendS.back {t c c' : Slot} (h : LendS t c) (k : KpS c c') : KpS t (backS t c') ∧ LendS (backS t c') c' := by
  rcases h with ⟨d, h1, h2⟩ | ⟨d, h1, h2 | h2⟩ | ⟨d, h1, ho, h2 | h2⟩ <;> (subst h1 h2; cases c' <;> try exact False.elim k)
  · cases (show d = _ from k); exact ⟨rfl, .inl ⟨_, rfl, rfl⟩⟩
  · exact ⟨trivial, .inr (.inl ⟨_, rfl, .inl rfl⟩)⟩
  · exact ⟨trivial, .inr (.inl ⟨_, rfl, .inr rfl⟩)⟩
  · exact ⟨trivial, .inr (.inr ⟨_, rfl, KpT.even k ho, .inl rfl⟩)⟩
  · exact ⟨k, .inr (.inr ⟨_, rfl, KpT.even k ho, .inr rfl⟩)⟩
/-- the value of a name operand -/
theorem RO.name {v : V} {o : Opd} {i : Nat} (r : RO K F H σ ρ v o) (h : nameOf o = some i) : σ[i]? = some (some v) := by cases o <;> cases h <;> exact r.1
end
def spOf (K : PySem.W.Frag) (n : Nat) (m : ME) : Sp := fun vs H Q E => vs.length = n ∧ ∃ F cs, Rel K F (vs.map some) H cs ∧ ArgOk cs ∧ EPost K (fun cls dx _ H => E cls dx H) F H (vs.map some) cs Q (m cs)
def retO (r : Rs Opd) (ps : List Opd) (ρ : Rho) : Rs Opd := match r with
  | .ok (.val d) cs => .ok (.val d) (takeB ρ ps cs)
  | .ok (.new d) cs => .ok (.new d) (takeB ρ ps cs)
  | .ok (.nob t) cs => .ok (.nob t) (takeB ρ ps cs)
  | .ex x cs => .ex x (takeB ρ ps cs)
  | _ => .fail
def callO (n : Nat) (fl : List Bool) (sem : ME) (os : List Opd) (ρ : Rho) : Rs Opd := match useSel ρ fl os with
  | some (ps, ρ2) => (match slotsOf ρ2 ps with
    | some cs => if (lents ρ2 ps).Nodup ∧ cs.length = n then retO (sem cs) ps ρ2 else .fail
    | none => .fail)
  | none => .fail
def eCall (n : Nat) (fl : List Bool) (sem : ME) (ma : MA) : ME := fun ρ => (ma ρ).bind fun os ρ1 => callO n fl sem os ρ1
section
variable {X : Cx} {W : WX} {pos : Pos}
theorem ROs.len {K : PySem.W.Frag} {F H : Hp} {σ : Sg} {ρ : Rho} {vs : List V} {os : List Opd} (r : ROs K F H σ ρ vs os) : vs.length = os.length := Paired.length r.all
variable {k : Nat} {f : Addr} {fd : FuncData} {ps : List Str} {x : Str} {p : Pos} {e : Expr} {es : List Expr} {n : Nat} {sem : ME} {ma : MA}
end
def back : Rho → Rho → Rho
  | c :: cs, r :: rs => (match c with
    | .par _ => r
    | .opa _ => r
    | c => c) :: back cs rs
  | cs, _ => cs
def fin (cs : Rho) (r : Rs Flow) : Rs Opd := match r with
  | .ok (.rt o) ρ => .ok o (back cs ρ)
  | .ok .nx ρ => .ok (.val .none) (back cs ρ)
  | .ex x ρ => .ex x (back cs ρ)
  | _ => .fail
def noLoc (r : Rs Opd) : Rs Opd := match r with
  | .ok (.loc _) _ => .fail
  | .ok (.lob _) _ => .fail
  | r => r
/-- what a def of n parameters and l names does -/
def fnSem (n l : Nat) (mb : MS) : ME := fun cs => noLoc (fin cs (mb (cs ++ List.replicate (l - n) .un)))
section
variable {K : PySem.W.Frag} {F H : Hp} {v : V}
theorem Ct.str {x : Str} (h : Ct K F H v (.str x)) : v = .str x := by
  rcases h with h | ⟨a, e, f, o⟩
  · cases h; rfl
  · exact False.elim o
theorem Ct.none (h : Ct K F H v .none) : v = .non := by
  rcases h with h | ⟨a, e, f, o⟩
  · cases h; rfl
  · exact False.elim o
theorem Ct.list {ds : List D} (s : Sub F H) (h : Ct K F H v (.list ds)) : ∃ a vs, v = .ref a ∧ H a = some (.lst vs) ∧ RpA K F vs ds := by
  rcases h with h | ⟨a, e, f, vs, hh, r⟩
  · obtain ⟨a, vs, e, q, r⟩ := h.list
    exact ⟨a, vs, e, s.lst q, r⟩
  · exact ⟨a, vs, e, hh, r⟩
theorem Ct.tup {ds : List D} (s : Sub F H) (h : Ct K F H v (.tuple ds)) : ∃ a vs, v = .ref a ∧ H a = some (.tup vs) ∧ RpA K F vs ds ∧ F a = some (.tup vs) := by
  obtain ⟨a, vs, e, q, r⟩ := h.tuple.tuple
  exact ⟨a, vs, e, s.tup q, r, q⟩
theorem Ct.dict {ps : List (D × D)} (s : Sub F H) (h : Ct K F H v (.dict ps)) : ∃ a kvs, v = .ref a ∧ Rd H a (.dK kvs) ∧ RpD K F kvs ps := by
  rcases h with h | ⟨a, e, f, vs, hh, r⟩
  · cases h with
    | dct h r => exact ⟨_, _, rfl, s.dct h, r⟩
  · exact ⟨a, vs, e, .inl hh, r⟩
end
section
variable {K : PySem.W.Frag} {F H : Hp} {Q : VK}
theorem same {v : V} {d : D} (s : Sub F H) (r : Rp K F v d) (k : ∀ u F' H', Grow F H F' H' → RN K H F' H' u (.val d) → Q u H') : Q v H := k v F H (Grow.refl s) r
end
def gd (b : Bool) (o : Opd) : Option Opd := if b = true then some o else none
@[simp] theorem gd_true {o : Opd} : gd true o = some o := rfl
abbrev vI (i : Int) : Opd := .val (.int i)
abbrev vB (b : Bool) : Opd := .val (.bool b)
abbrev vS (s : Str) : Opd := .val (.str s)
def iop (f : Int → Int → Int) (c : Int → Int → Bool) : D → D → Option Opd
  | .int i, .int j => gd (c i j) (vI (f i j))
  | _, _ => none
section
variable {X : Cx}
abbrev okk : Int → Int → Bool := fun _ _ => true
def pySub := iop (fun i j => i - j) okk
theorem OpR.or {f : Value → Value → Sem Value} {r r' : R2} (h : OpR X f r) (h' : OpR X f r') : OpR X f (fun x y H Q => r x y H Q ∨ r' x y H Q) := by
  intro pins s σ H x y v u Q I rx ry q
  rcases q with q | q
  · exact h pins s σ H x y v u Q I rx ry q
  · exact h' pins s σ H x y v u Q I rx ry q
def pyDiv := iop (fun i j => i / j) (fun _ j => decide (0 < j) && decide (j.natAbs.log2 < 9000))
def pyMod := iop (fun i j => i % j) (fun _ j => decide (0 < j))
def powOk (i j : Int) : Bool := decide (0 ≤ j) && decide (j ≤ 1000000) && decide (i.natAbs < 2 ^ 64)
def pyPow := iop (fun i j => i ^ j.toNat) powOk
def pyShl := iop (fun i j => i * 2 ^ j.toNat) powOk
def pyShr := iop (fun i j => i / 2 ^ j.toNat) (fun _ j => decide (0 ≤ j))
def pyAnd := iop (fun i j => Builtin.bitAnd i j) okk
def pyOr := iop (fun i j => Builtin.bitOr i j) okk
/-- <, <=, >, >= of ints and of texts -/
def cop (f : Int → Int → Bool) (g : List Nat → List Nat → Bool) : D → D → Option Opd
  | .int i, .int j => some (vB (f i j))
  | .str i, .str j => some (vB (g i.cps.toList j.cps.toList))
  | _, _ => none
def pyLt := cop (fun i j => decide (i < j)) (fun a b => decide (a < b))
def pyLe := cop (fun i j => decide (i ≤ j)) (fun a b => !decide (b < a))
def pyGt := cop (fun i j => decide (j < i)) (fun a b => decide (b < a))
def pyGe := cop (fun i j => decide (j ≤ i)) (fun a b => !decide (a < b))
def sgn? (x : Str) : Option Nat := match x.cps.toList with
  | [c] => some c
  | _ => none
def hasD (d e : D) : Option Bool := match e with
  | .list ds => if SeqAt.shaped d && SeqAt.shaped (.list ds) then some (ds.any fun z => PyData.eqv z d) else none
  | .tuple ds => if SeqAt.shaped d && SeqAt.shaped (.list ds) then some (ds.any fun z => PyData.eqv z d) else none
  | .str z => (match d with
    | .str x => (match sgn? x with
      | some c => some (decide (c ∈ z.cps.toList))
      | none => none)
    | _ => none)
  | _ => none
def pyIn (d e : D) : Option Opd := (hasD d e).map fun b => vB b
def pyNotIn (d e : D) : Option Opd := (hasD d e).map fun b => vB (!b)
end
def orf (f g : D → D → Option Opd) : D → D → Option Opd := fun d e => match f d e with
  | some o => some o
  | none => g d e
section
variable {X : Cx} {W : WX} {pos : Pos}
def pyIx : D → D → Option Opd
  | .list ds, .int i => (atI ds i).map .val
  | .tuple ds, .int i => (atI ds i).map .val
  | .str z, .int i => if z.length ≤ sizeLine then (atI z.cps.toList i).map fun c => vS ⟨#[c]⟩ else none
  | _, _ => none
def keyOf : D → Option Key
  | .int i => some (.inl i)
  | .str x => some (.inr x)
  | _ => none
def dlook : List (D × D) → Key → Option D
  | [], _ => none
  | (c, d) :: ps, k => if keyOf c = some k then some d else dlook ps k
def pyGet : D → D → Option Opd
  | .dict ps, k => (match keyOf k with
    | some κ => (dlook ps κ).map .val
    | none => none)
  | _, _ => none
theorem DGet.rd {H : Hp} {a : Addr} {kvs : List (Key × V)} {k : Key} (e : Rd H a (.dK kvs)) : DGet H a (kV k) (valV kvs k) := .inl ⟨kvs, k, e, rfl, rfl⟩
def pyAt : D → D → Option Opd := orf pyIx pyGet
def oNone : Rho → Rs (Option Int) := fun ρ => .ok none ρ
def oSome (m : ME) : Rho → Rs (Option Int) := fun ρ => (m ρ).bind fun o ρ1 => match deref ρ1 o with
  | some (.int i) => .ok (some i) ρ1
  | _ => .fail
def cutD {α : Type} (xs : List α) (lo hi : Option Int) : List α := (xs.drop (HT.sIx xs.length 0 lo)).take (HT.sIx xs.length xs.length hi - HT.sIx xs.length 0 lo)
def pySlice (lo hi : Option Int) : D → Option Opd
  | .list ds => some (.new (.list (cutD ds lo hi)))
  | .tuple ds => some (.val (.tuple (cutD ds lo hi)))
  | .str z => gd (decide (z.length ≤ sizeLine)) (vS (cutS z lo hi))
  | _ => none
def eSlice (a : ME) (lo hi : Rho → Rs (Option Int)) : ME := fun ρ => (a ρ).bind fun x ρ1 => (lo ρ1).bind fun l ρ2 => (hi ρ2).bind fun h ρ3 => run1 (pySlice l h) ρ3 x
def derefs (ρ : Rho) : List Opd → Option (List D)
  | [] => some []
  | o :: os => match deref ρ o, derefs ρ os with
    | some d, some ds => some (d :: ds)
    | _, _ => none
def runN (f : List D → Option Opd) (ρ : Rho) (os : List Opd) : Rs Opd := match derefs ρ os with
  | some ds => (match f ds with
    | some o => .ok o ρ
    | none => .fail)
  | none => .fail
def eBlt (f : List D → Option Opd) (a : MA) : ME := fun ρ => (a ρ).bind fun os ρ1 => runN f ρ1 os
variable {x : Str} {p : Pos} {e : Expr} {es : List Expr} {ma : MA} {id T : String} {r : List V → Hp → VK → Prop} {f : List D → Option Opd}
end
section
variable {X : Cx} {W : WX} {pos : Pos}
def fAbs : List D → Option Opd
  | [.int i] => some (vI (if i < 0 then -i else i))
  | _ => none
def mutO (i : Nat) (f : D → List D → Option (D × D)) (os : List Opd) (ρ : Rho) : Rs Opd := match useAll ρ os with
  | some (ds, ρ2) => (match ρ2[i]? with
    | some (.own d) => (match f d ds with
      | some (d', x) => .ok (.val x) (ρ2.set i (.own d'))
      | none => .fail)
    | some (.par d) => (match f d ds with
      | some (d', x) => .ok (.val x) (ρ2.set i (.par d'))
      | none => .fail)
    | _ => .fail)
  | none => .fail
def isLst (ρ : Rho) (i : Nat) : Bool := match ρ[i]? with
  | some (.own (.list _)) => true
  | some (.par (.list _)) => true
  | _ => false
def eMut (i : Nat) (f : D → List D → Option (D × D)) (ma : MA) : ME := fun ρ => if isLst ρ i = true then (ma ρ).bind fun os ρ1 => mutO i f os ρ1 else .fail
def setI (d k v : D) : Option D := match d, k with
  | .list ds, .int i => (ixN ds.length i).map fun j => .list (ds.set j v)
  | _, _ => none
def putI (i : Nat) (d : D) (k : Opd) (v : D) (ρ : Rho) : Rs Flow := match deref ρ k with
  | some κ => (match ρ[i]? with
    | some (.own d0) => (match setI d0 κ v with
      | some d' => .ok .nx (ρ.set i (.own d'))
      | none => .fail)
    | some (.par d0) => (match setI d0 κ v with
      | some d' => .ok .nx (ρ.set i (.par d'))
      | none => .fail)
    | _ => .fail)
  | none => .fail
/-- x[k] = e, x the name at i: e is frozen -/
def sPut (i : Nat) (mk me : ME) : MS := fun ρ => (me ρ).bind fun o ρ1 => match useO ρ1 o with
  | some (v, ρ2) => if isLst ρ2 i = true then (mk ρ2).bind fun k ρ3 => putI i .none k v ρ3 else .fail
  | none => .fail
def augO (i : Nat) (f : Int → Int → Int) (k o : Opd) (x : D) (ρ : Rho) : Rs Flow := match deref ρ o, x with
  | some (.int b), .int a => putI i .none k (.int (f a b)) ρ
  | _, _ => .fail
def getI (i : Nat) (k : Opd) (ρ : Rho) : Option D := match deref ρ k, (ρ[i]?).bind Slot.data? with
  | some (.int j), some (.list ds) => if 0 ≤ j then ds[j.toNat]? else none
  | _, _ => none
def sAug (i : Nat) (f : Int → Int → Int) (mk me : ME) : MS := fun ρ => if isLst ρ i = true then (mk ρ).bind fun k ρ1 => match getI i k ρ1 with
  | some x => (me ρ1).bind fun o ρ2 => augO i f k o x ρ2
  | none => .fail else .fail
end
def lockS (ρ : Rho) (j : Nat) : Option (Slot × D) := match ρ[j]? with
  | some (.own d) => some (.own d, d)
  | some (.par d) => some (.par d, d)
  | _ => none
def unlk {α : Type} (j : Nat) (s : Slot) : Rs α → Rs α
  | .ok a ρ => .ok a (ρ.set j s)
  | .ex x ρ => .ex x (ρ.set j s)
  | .fail => .fail
def lkd {α : Type} (j : Nat) (m : Rho → Rs α) : Rho → Rs α := fun ρ => match lockS ρ j with
  | some (s, d) => unlk j s (m (ρ.set j (.lck d)))
  | none => m ρ
section
variable {X : Cx} {W : WX} {pos : Pos}
def sAugN (i : Nat) (f : Int → Int → Int) (me : ME) : MS := fun ρ => match ρ[i]? with
  | some (.dat (.int a)) => (me ρ).bind fun o ρ1 => (match deref ρ1 o with
    | some (.int b) => if free ρ1 i = true then .ok .nx (ρ1.set i (.dat (.int (f a b)))) else .fail
    | _ => .fail)
  | _ => .fail
def Ok (P : Program) (w : World) (K : PySem.W.Frag) (mg : Str → Option Value) (base : Heap) (k : Nat) (name : Str) (ps : List Str) (sem : ME) : Prop :=
  ∃ fd, Binds K fd ps [] ∧ FnOk P w K mg base (L2.CX P w) k (He.ga K name) fd ps (spOf K ps.length sem) ∧ PySem.W.keepIn K (.ref (He.ga K name)) = true ∧ mg name = some (.ref (He.ga K name))
theorem Ok.mono {P : Program} {w : World} {K : PySem.W.Frag} {mg : Str → Option Value} {base : Heap} {k j : Nat} {name : Str} {ps : List Str} {sem : ME} (h : Ok P w K mg base k name ps sem) (l : k ≤ j) : Ok P w K mg base j name ps sem :=
  let ⟨fd, a, F, b, c⟩ := h; ⟨fd, a, F.mono l, b, c⟩
end
/-- x is not behind y -/
def strLe (x y : Str) : Bool := !decide (y.cps.toList < x.cps.toList)
theorem strLe_anti {a b : Str} (h1 : strLe a b = true) (h2 : strLe b a = true) : a = b := by
  unfold strLe at *
  simp only [Bool.not_eq_true', decide_eq_false_iff_not] at *
  have := List.le_antisymm h1 h2
  obtain ⟨⟨x⟩⟩ := a
  obtain ⟨⟨y⟩⟩ := b
  simp at this
  rw [this]
section
variable {X : Cx} {W : WX} {pos : Pos}
def hasK (e d : D) : Option Bool := match d with
  | .dict ps => (match keyOf e with
    | some κ => some (dlook ps κ).isSome
    | none => none)
  | _ => none
def pyInK (e d : D) : Option Opd := (hasK e d).map fun b => vB b
def pyNotInK (e d : D) : Option Opd := (hasK e d).map fun b => vB (!b)
def keyD : Key → D
  | .inl i => .int i
  | .inr x => .str x
theorem keyOf_D (κ : Key) : keyOf (keyD κ) = some κ := by cases κ <;> rfl
/-- in its place, or behind -/
def dput (ps : List (D × D)) (κ : Key) (v : D) : List (D × D) :=
  if ps.any (fun p => decide (keyOf p.1 = some κ)) = true then ps.map (fun p => if keyOf p.1 = some κ then (p.1, v) else p) else ps ++ [(keyD κ, v)]
def setK (d k v : D) : Option D := match d with
  | .dict ps => (match keyOf k with
    | some κ => if ps.length < sizeLine then some (.dict (dput ps κ v)) else none
    | none => none)
  | _ => none
theorem RpD.key {K : PySem.W.Frag} {F : Hp} {k : Key} {v : V} {c d : D} {kvs : List (Key × V)} {ps : List (D × D)} (r : RpD K F ((k, v) :: kvs) ((c, d) :: ps)) : c = keyD k ∧ Rp K F v d ∧ RpD K F kvs ps := by
  cases r with
  | cons e h r => exact ⟨by cases k <;> exact e, h, r⟩
theorem RpD.mk {K : PySem.W.Frag} {F : Hp} {k : Key} {v : V} {d : D} {kvs : List (Key × V)} {ps : List (D × D)} (h : Rp K F v d) (r : RpD K F kvs ps) : RpD K F ((k, v) :: kvs) ((keyD k, d) :: ps) := .cons (by cases k <;> rfl) h r
theorem RpD.any {K : PySem.W.Frag} {F : Hp} {k : Key} : ∀ {kvs : List (Key × V)} {ps : List (D × D)}, RpD K F kvs ps → kvs.any (fun kv => decide (kv.1 = k)) = ps.any (fun p => decide (keyOf p.1 = some k))
  | [], [], _ => rfl
  | [], _ :: _, r => by cases r
  | _ :: _, [], r => by cases r
  | (k', v) :: kvs, (c, d) :: ps, r => by
    obtain ⟨e, h, r'⟩ := r.key
    subst e
    rw [List.any_cons, List.any_cons, RpD.any r', keyOf_D]
    have : decide ((k', v).1 = k) = decide (some (k', v).1 = some k) := by simp
    rw [this]
theorem RpD.map {K : PySem.W.Frag} {F : Hp} {k : Key} {w : V} {x : D} (hw : Rp K F w x) : ∀ {kvs : List (Key × V)} {ps : List (D × D)}, RpD K F kvs ps → RpD K F (kvs.map fun kv => if kv.1 = k then (kv.1, w) else kv) (ps.map fun p => if keyOf p.1 = some k then (p.1, x) else p)
  | [], [], _ => .nil
  | [], _ :: _, r => by cases r
  | _ :: _, [], r => by cases r
  | (k', v) :: kvs, (c, d) :: ps, r => by
    obtain ⟨e, h, r'⟩ := r.key
    subst e
    rw [List.map_cons, List.map_cons, keyOf_D]
    by_cases e : k' = k
    · rw [if_pos e, if_pos (by rw [e])]
      exact .mk hw (RpD.map hw r')
    · rw [if_neg e, if_neg (fun z => e (Option.some.inj z))]
      exact .mk h (RpD.map hw r')
def isDct (ρ : Rho) (i : Nat) : Bool := match ρ[i]? with
  | some (.own (.dict _)) => true
  | some (.par (.dict _)) => true
  | _ => false
def putD (i : Nat) (k : Opd) (v : D) (ρ : Rho) : Rs Flow := match deref ρ k with
  | some κ => (match ρ[i]? with
    | some (.own d0) => (match setK d0 κ v with
      | some d' => .ok .nx (ρ.set i (.own d'))
      | none => .fail)
    | some (.par d0) => (match setK d0 κ v with
      | some d' => .ok .nx (ρ.set i (.par d'))
      | none => .fail)
    | _ => .fail)
  | none => .fail
def sPutD (i : Nat) (mk me : ME) : MS := fun ρ => (me ρ).bind fun o ρ1 => match useO ρ1 o with
  | some (v, ρ2) => if isDct ρ2 i = true then (mk ρ2).bind fun k ρ3 => putD i k v ρ3 else .fail
  | none => .fail
end
def iOr (a b : MI) : MI := fun ρ => match a ρ with
  | .fail => b ρ
  | r => r
section
variable {X : Cx} {W : WX} {tg : Expr}
def srcR2 (os : List Opd) (ρ : Rho) : Rs Src := match derefs ρ os with
  | some [.int i, .int j] => if -(2 ^ 62) ≤ i ∧ i < 2 ^ 62 ∧ -(2 ^ 62) ≤ j ∧ j < 2 ^ 62 then .ok ⟨(List.range (j - i).toNat).map fun k : Nat => .int (i + (k : Int)), none⟩ ρ else .fail
  | _ => .fail
def iRng2 (a : MA) : MI := fun ρ => (a ρ).bind srcR2
def signs (x : Str) : List D := x.cps.toList.map fun c => .str ⟨#[c]⟩
def srcS (o : Opd) (ρ : Rho) : Rs Src := match deref ρ o with
  | some (.str x) => .ok ⟨signs x, none⟩ ρ
  | _ => .fail
def iTxt (m : ME) : MI := fun ρ => (m ρ).bind srcS
def iSeq (m : ME) : MI := iOr (iLst m) (iTpl m)
end
structure Txt (fa : List He.Fa) (fn : List He.DefD) (K : PySem.W.Frag) (mg : Str → Option Value) : Prop where
  d : He.SaysD fa fn K
  glo : ∀ (i : Nat) (x : Str), fa[i]? = some (He.Fa.glo x) → mg x = some (Value.ref (He.ga K x))
  fre : ∀ (i : Nat) (x : Str), fa[i]? = some (He.Fa.free x) → mg x = none
  int : ∀ (i : Nat) (x : Str) (v : Int), fa[i]? = some (He.Fa.int x v) → ∃ t, mg x = some (Value.int v t)
  str : ∀ (i : Nat) (x v : Str), fa[i]? = some (He.Fa.str x v) → ∃ t, mg x = some (Value.str v t)
theorem Txt.of {fa : List He.Fa} {fn : List He.DefD} {K : PySem.W.Frag} {h : Heap} {mg : Str → Option Value} (X : K.In h) (G : h.Ns mainGlobals mg) (c : He.SaysD fa fn K) : Txt fa fn K mg :=
  ⟨c, fun i x e => He.glo_ok X G (c.fact i (f := .glo x) e), fun i x e => He.free_ok X G (c.fact i (f := .free x) e), fun i x v e => He.int_ok X G (c.fact i (f := .int x v) e), fun i x v e => He.str_ok X G (c.fact i (f := .str x v) e)⟩
end Dl
set_option maxRecDepth 100000
set_option maxHeartbeats 4000000
namespace Dl
open PySem PySem.Spec
set_option autoImplicit false
/-- so that no rewriting goes into what is still to come -/
structure Ph {α : Type} (Q : α → Rho → Prop) (X : Ex → Rho → Prop) : Type where
def wp {α : Type} (r : Rs α) (Q : α → Rho → Prop) (X : Ex → Rho → Prop) (u : Ph Q X := ⟨⟩) : Prop := match r with
  | .ok a ρ => Q a ρ
  | .ex x ρ => X x ρ
  | .fail => False
abbrev NoX : Ex → Rho → Prop := fun _ _ => False
theorem wp_ext {α : Type} {r : Rs α} {Q Q' : α → Rho → Prop} {X : Ex → Rho → Prop} (h : ∀ a ρ, Q a ρ = Q' a ρ) : wp r Q X = wp r Q' X := by
  cases r with
  | ok a ρ => exact h a ρ
  | ex x ρ => rfl
  | fail => rfl
section
variable {α β : Type} {Q : α → Rho → Prop} {Q' : β → Rho → Prop} {QO : Opd → Rho → Prop} {QF : Flow → Rho → Prop} {QA : List Opd → Rho → Prop} {QB : Bool → Rho → Prop} {X : Ex → Rho → Prop} {ρ : Rho}
/-- N: what comes next; O: what else -/
def kf (N : Rho → Prop) (O : Flow → Rho → Prop) : Flow → Rho → Prop := fun f ρ => match f with
  | .nx => N ρ
  | f => O f ρ
@[simp ↓] theorem kf_nx {N : Rho → Prop} {O : Flow → Rho → Prop} : kf N O .nx ρ = N ρ := rfl
@[simp ↓] theorem kf_rt {N : Rho → Prop} {O : Flow → Rho → Prop} (o : Opd) : kf N O (.rt o) ρ = O (.rt o) ρ := rfl
@[simp ↓] theorem kf_bk {N : Rho → Prop} {O : Flow → Rho → Prop} : kf N O .bk ρ = O .bk ρ := rfl
@[simp ↓] theorem kf_ct {N : Rho → Prop} {O : Flow → Rho → Prop} : kf N O .ct ρ = O .ct ρ := rfl
/-- a list or a tuple -/
def srcQ (o : Opd) (ρ : Rho) : Rs Src := match srcL o ρ with
  | .fail => srcT o ρ
  | r => r
/-- no local comes out -/
def noL (Q : Opd → Rho → Prop) : Opd → Rho → Prop := fun o ρ => match o with
  | .loc _ => False
  | .lob _ => False
  | o => Q o ρ
@[simp ↓] theorem noL_nob (d : T) : noL QO (.nob d) ρ = QO (.nob d) ρ := rfl
@[simp ↓] theorem noL_val (d : D) : noL QO (.val d) ρ = QO (.val d) ρ := rfl
@[simp ↓] theorem noL_new (d : D) : noL QO (.new d) ρ = QO (.new d) ρ := rfl
/-- what a def tells -/
def kr (Q : Opd → Rho → Prop) : Flow → Rho → Prop := fun f ρ => match f with
  | .rt o => noL Q o ρ
  | _ => False
@[simp ↓] theorem kr_rt (o : Opd) : kr QO (.rt o) ρ = noL QO o ρ := rfl
/-- behind a turn -/
def kl (I : Rho → Prop) (Q : Flow → Rho → Prop) : Flow → Rho → Prop := fun f ρ => match f with
  | .ct => I ρ
  | .bk => Q .nx ρ
  | f => Q f ρ
@[simp ↓] theorem kl_ct {I : Rho → Prop} : kl I QF .ct ρ = I ρ := rfl
@[simp ↓] theorem kl_bk {I : Rho → Prop} : kl I QF .bk ρ = QF .nx ρ := rfl
@[simp ↓] theorem kl_rt {I : Rho → Prop} (o : Opd) : kl I QF (.rt o) ρ = QF (.rt o) ρ := rfl
end
end Dl
set_option maxRecDepth 100000
set_option maxHeartbeats 4000000
namespace Dl
open PySem PySem.Spec L2
set_option autoImplicit false
@[simp] theorem pyAt_list (ds : List D) (i : Int) : pyAt (.list ds) (.int i) = (atI ds i).map .val := by
  unfold pyAt orf
  show (match (atI ds i).map Opd.val with | some o => some o | none => pyGet (.list ds) (.int i)) = _
  cases (atI ds i).map Opd.val <;> rfl
@[simp] theorem pyAt_tuple (ds : List D) (i : Int) : pyAt (.tuple ds) (.int i) = (atI ds i).map .val := by
  unfold pyAt orf
  show (match (atI ds i).map Opd.val with | some o => some o | none => pyGet (.tuple ds) (.int i)) = _
  cases (atI ds i).map Opd.val <;> rfl
@[simp] theorem pySub_int (i j : Int) : pySub (.int i) (.int j) = some (vI (i - j)) := rfl
@[simp] theorem pyDiv_int (i j : Int) : pyDiv (.int i) (.int j) = gd (decide (0 < j) && decide (j.natAbs.log2 < 9000)) (vI (i / j)) := rfl
@[simp] theorem pyMod_int (i j : Int) : pyMod (.int i) (.int j) = gd (decide (0 < j)) (vI (i % j)) := rfl
@[simp] theorem pyPow_int (i j : Int) : pyPow (.int i) (.int j) = gd (powOk i j) (vI (i ^ j.toNat)) := rfl
@[simp] theorem pyShl_int (i j : Int) : pyShl (.int i) (.int j) = gd (powOk i j) (vI (i * 2 ^ j.toNat)) := rfl
@[simp] theorem pyShr_int (i j : Int) : pyShr (.int i) (.int j) = gd (decide (0 ≤ j)) (vI (i / 2 ^ j.toNat)) := rfl
@[simp] theorem pyAnd_int (i j : Int) : pyAnd (.int i) (.int j) = some (vI (Builtin.bitAnd i j)) := rfl
@[simp] theorem pyOr_int (i j : Int) : pyOr (.int i) (.int j) = some (vI (Builtin.bitOr i j)) := rfl
@[simp] theorem pyLt_int (i j : Int) : pyLt (.int i) (.int j) = some (vB (decide (i < j))) := rfl
@[simp] theorem pyLe_int (i j : Int) : pyLe (.int i) (.int j) = some (vB (decide (i ≤ j))) := rfl
@[simp] theorem pyGt_int (i j : Int) : pyGt (.int i) (.int j) = some (vB (decide (j < i))) := rfl
@[simp] theorem pyGe_int (i j : Int) : pyGe (.int i) (.int j) = some (vB (decide (j ≤ i))) := rfl
@[simp] theorem in_list (d : D) (ds : List D) : orf pyIn pyInK d (.list ds) = (hasD d (.list ds)).map fun b => vB b := by
  unfold orf pyIn pyInK
  cases hasD d (.list ds) <;> rfl
@[simp] theorem in_tuple (d : D) (ds : List D) : orf pyIn pyInK d (.tuple ds) = (hasD d (.tuple ds)).map fun b => vB b := by
  unfold orf pyIn pyInK
  cases hasD d (.tuple ds) <;> rfl
@[simp] theorem notIn_list (d : D) (ds : List D) : orf pyNotIn pyNotInK d (.list ds) = (hasD d (.list ds)).map fun b => vB (!b) := by
  unfold orf pyNotIn pyNotInK
  cases hasD d (.list ds) <;> rfl
@[simp] theorem notIn_tuple (d : D) (ds : List D) : orf pyNotIn pyNotInK d (.tuple ds) = (hasD d (.tuple ds)).map fun b => vB (!b) := by
  unfold orf pyNotIn pyNotInK
  cases hasD d (.tuple ds) <;> rfl
def iabs (i : Int) : Int := if i < 0 then -i else i
@[simp] theorem fAbs_int (i : Int) : fAbs [.int i] = some (vI (iabs i)) := rfl
@[simp] theorem shaped_int (i : Int) : SeqAt.shaped (.int i) = true := rfl
theorem shaped_str {x : Str} (h : PyData.canLay0 (.str x) = true) : SeqAt.shaped (.str x) = true := by unfold SeqAt.shaped; rw [h]; rfl
@[simp] theorem shaped_bool (b : Bool) : SeqAt.shaped (.bool b) = true := rfl
@[simp] theorem shaped_none : SeqAt.shaped .none = true := rfl
@[simp] theorem eqv_int (i j : Int) : PyData.eqv (.int i) (.int j) = (i == j) := rfl
@[simp] theorem eqv_str (i j : Str) : PyData.eqv (.str i) (.str j) = (i == j) := rfl
def ofO (o : Option Rho) : Rs Unit := match o with
  | some ρ => .ok () ρ
  | none => .fail
@[simp] theorem ofO_some (ρ : Rho) : ofO (some ρ) = .ok () ρ := rfl
@[simp] theorem ofO_none : ofO none = .fail := rfl
@[simp] theorem cut_tail (d : D) (ds : List D) : cutD (d :: ds) (some 1) none = ds := by
  unfold cutD
  have h1 : HT.sIx (d :: ds).length 0 (some 1) = 1 := by
    rw [show (some (1 : Int)) = some ((1 : Nat) : Int) from rfl, HT.sIx_nat, List.length_cons]
    omega
  rw [h1]
  rw [show HT.sIx (d :: ds).length (d :: ds).length none = ds.length + 1 from rfl]
  simp
def lkQ {α : Type} (o : Option (Slot × D)) (j : Nat) (m : Rho → Rs α) (ρ : Rho) (Q : α → Rho → Prop) (X : Ex → Rho → Prop) (u : Ph Q X := ⟨⟩) : Prop := match o with
  | some (s, d) => wp (m (ρ.set j (.lck d))) (fun a ρ' => Q a (ρ'.set j s)) (fun x ρ' => X x (ρ'.set j s))
  | none => wp (m ρ) Q X
@[simp] theorem lkQ_some {α : Type} {Q : α → Rho → Prop} {X : Ex → Rho → Prop} {ρ : Rho} (s : Slot) (d : D) (j : Nat) (m : Rho → Rs α) : lkQ (some (s, d)) j m ρ Q X = wp (m (ρ.set j (.lck d))) (fun a ρ' => Q a (ρ'.set j s)) (fun x ρ' => X x (ρ'.set j s)) := rfl
@[simp] theorem lkQ_none {α : Type} {Q : α → Rho → Prop} {X : Ex → Rho → Prop} {ρ : Rho} (j : Nat) (m : Rho → Rs α) : lkQ none j m ρ Q X = wp (m ρ) Q X := rfl
def hd (ns : List Int) (i b k x y : Int) : D := .list [.list (ns.map .int), .int i, .int b, .int k, .int x, .int y]
def okC (cs : List Nat) : Prop := ∀ c ∈ cs, c < 1114112
structure Nm (s : Str) : Prop where
  ok : okC s.cps.toList
  len : s.cps.toList.length ≤ 64
theorem strOk_of {s : Str} (h : okC s.cps.toList) : PyData.canLay0 (.str s) = true := by
  show (s.cps.all (· < 0x110000)) = true
  rw [← Array.all_toList]
  exact List.all_eq_true.mpr fun c hc => decide_eq_true (h c hc)
@[simp] theorem Nm.shaped {s : Str} (h : Nm s) : SeqAt.shaped (.str s) = true := shaped_str (strOk_of h.ok)
def addS (ks : List Str) (s : Str) : List Str := if s ∈ ks then ks else ks ++ [s]
def dd (ss : List Str) : List Str := ss.foldl addS []
inductive Op4 | and | or | thn | same
def Op4.str : Op4 → Str
  | .and => "and"
  | .or => "or"
  | .thn => "then"
  | .same => "same"
inductive Ru
  | is (s : Str)
  | yes
  | no
  | not (r : Ru)
  | two (o : Op4) (a b : Ru)
def Ru.toD : Ru → D
  | .is s => .tuple [.str "is", .str s]
  | .yes => .tuple [.str "yes"]
  | .no => .tuple [.str "no"]
  | .not r => .tuple [.str "not", r.toD]
  | .two o a b => .tuple [.str o.str, a.toD, b.toD]
def Ru.names : Ru → List Str
  | .is s => [s]
  | .yes => []
  | .no => []
  | .not r => r.names
  | .two _ a b => a.names ++ b.names
def Ru.dep : Ru → Nat
  | .is _ => 1
  | .yes => 1
  | .no => 1
  | .not r => r.dep + 1
  | .two _ a b => max a.dep b.dep + 1
theorem Ru.len : ∀ r : Ru, r.names.length ≤ 2 ^ (r.dep - 1)
  | .is s => Nat.le_refl _
  | .yes => Nat.zero_le _
  | .no => Nat.zero_le _
  | .not r => by
    have h := r.len
    have : 2 ^ (r.dep - 1) ≤ 2 ^ (r.dep + 1 - 1) := Nat.pow_le_pow_right (by decide) (by omega)
    exact Nat.le_trans h this
  | .two o a b => by
    have h1 := a.len
    have h2 := b.len
    have p : ∀ r : Ru, 1 ≤ r.dep := fun r => by cases r <;> simp [Ru.dep]
    have pa := p a
    have pb := p b
    show (a.names ++ b.names).length ≤ 2 ^ (max a.dep b.dep + 1 - 1)
    rw [List.length_append]
    have e : max a.dep b.dep + 1 - 1 = (max a.dep b.dep - 1) + 1 := by omega
    rw [e, Nat.pow_succ]
    have : 2 ^ (a.dep - 1) ≤ 2 ^ (max a.dep b.dep - 1) := Nat.pow_le_pow_right (by decide) (by omega)
    have : 2 ^ (b.dep - 1) ≤ 2 ^ (max a.dep b.dep - 1) := Nat.pow_le_pow_right (by decide) (by omega)
    omega
@[simp] theorem sh_is : SeqAt.shaped (.str "is") = true := by decide +kernel
@[simp] theorem sh_yes : SeqAt.shaped (.str "yes") = true := by decide +kernel
@[simp] theorem sh_no : SeqAt.shaped (.str "no") = true := by decide +kernel
@[simp] theorem sh_not : SeqAt.shaped (.str "not") = true := by decide +kernel
@[simp] theorem sh_op (o : Op4) : SeqAt.shaped (.str o.str) = true := by cases o <;> decide +kernel
@[simp] theorem ne_yes : (("yes" : Str) == "is") = false := by decide +kernel
@[simp] theorem ne_no : (("no" : Str) == "is") = false := by decide +kernel
@[simp] theorem ne_not : (("not" : Str) == "is") = false := by decide +kernel
@[simp] theorem ne_op (o : Op4) : (o.str == "is") = false := by cases o <;> decide +kernel
/-- what of ss is not yet in acc -/
def fresh (acc ss : List Str) : List Str := ss.filter fun s => decide (s ∉ acc)
def Ru.ok (r : Ru) : Prop := ∀ s ∈ r.names, Nm s
def okL (cs : List Nat) : Prop := ∀ c ∈ cs, 97 ≤ c ∧ c ≤ 122
theorem okL.c {cs : List Nat} (h : okL cs) : okC cs := fun c hc => by have := h c hc; omega
/-- a name of the tongue's letters -/
structure Lw (s : Str) : Prop where
  lo : 1 ≤ s.cps.toList.length
  hi : s.cps.toList.length ≤ 8
  ok : okL s.cps.toList
structure Gd (ss : List Str) : Prop where
  nd : ss.Nodup
  lw : ∀ s ∈ ss, Lw s
theorem Gd.nil : Gd [] := ⟨.nil, fun s h => by cases h⟩
def eChain (f g : D → D → Option Opd) (a b c : ME) : ME := fun ρ => (a ρ).bind fun x ρ1 => (b ρ1).bind fun y ρ2 => match run2 f ρ2 x y with
  | .ok (.val (.bool true)) ρ2 => (c ρ2).bind fun z ρ3 => run2 g ρ3 y z
  | .ok (.val (.bool false)) ρ2 => .ok (.val (.bool false)) ρ2
  | _ => .fail
def setdO (i : Nat) (k : Opd) (v : D) (ρ : Rho) : Rs Opd := match deref ρ k with
  | some κ => (match keyOf κ with
    | some κ => (match ρ[i]? with
      | some (.own (.dict ps)) => if ps.length < sizeLine then (match dlook ps κ with
        | some d => .ok (.val d) ρ
        | none => .ok (.val v) (ρ.set i (.own (.dict (dput ps κ v))))) else .fail
      | some (.par (.dict ps)) => if ps.length < sizeLine then (match dlook ps κ with
        | some d => .ok (.val d) ρ
        | none => .ok (.val v) (ρ.set i (.par (.dict (dput ps κ v))))) else .fail
      | _ => .fail)
    | none => .fail)
  | none => .fail
def eSetd (i : Nat) (mk mv : ME) : ME := fun ρ => if isDct ρ i = true then (mk ρ).bind fun k ρ1 => (mv ρ1).bind fun v ρ2 => match useO ρ2 v with
  | some (d, ρ3) => setdO i k d ρ3
  | none => .fail else .fail
def sameF : D → D → Bool
  | .none, .none => true
  | .bool a, .bool b => a == b
  | .int a, .int b => a == b
  | .str a, .str b => a == b
  | _, _ => false
def alike (ps qs : List (D × D)) : Bool := decide (ps.length = qs.length) && ps.all fun p => match keyOf p.1 with
  | some κ => (match dlook qs κ with
    | some d => sameF p.2 d
    | none => false)
  | none => false
abbrev Li := List (Str × Bool)
def liD (p : Str × Bool) : D := .tuple [.str p.1, .bool p.2]
def tr (ks : Li) : List (D × D) := ks.map fun p => (.str p.1, .bool p.2)
def look (ks : Li) (s : Str) : Option Bool := (ks.find? fun p => decide (p.1 = s)).map (·.2)
def putB (ks : Li) (s : Str) (b : Bool) : Li := if ks.any (fun p => decide (p.1 = s)) = true then ks.map (fun p => if p.1 = s then (p.1, b) else p) else ks ++ [(s, b)]
@[simp] theorem shaped_bl (b : Bool) : SeqAt.shaped (.bool b) = true := rfl
@[simp] theorem eqv_bl (a b : Bool) : PyData.eqv (.bool a) (.bool b) = (a == b) := rfl
structure Enc {α : Type} [DecidableEq α] (f : α → D) (P : α → Prop) (n : Nat) : Prop where
  eq : ∀ x y, PyData.eqv (f x) (f y) = decide (x = y)
  can : ∀ x, P x → PyData.canLay0 (f x) = true
  dep : ∀ x, (f x).depth ≤ n
theorem enc_li : Enc liD (fun p => Nm p.1) 1 := ⟨fun x y => by
  obtain ⟨a, b⟩ := x
  obtain ⟨c, d⟩ := y
  show (PyData.eqv (.str a) (.str c) && (PyData.eqv (.bool b) (.bool d) && true)) = _
  by_cases h : a = c
  · subst h
    cases b <;> cases d <;> simp
  · simp [h], fun x h => by
  obtain ⟨a, b⟩ := x
  show (PyData.canLay0 (.str a) && (PyData.canLay0 (.bool b) && true)) = true
  rw [strOk_of h.ok]
  rfl, fun x => Nat.le_of_eq rfl⟩
section
variable {α : Type} [DecidableEq α] {f : α → D} {P : α → Prop} {n : Nat}
theorem Enc.eqAll (E : Enc f P n) : ∀ (a b : List α), PyData.eqvAll (a.map f) (b.map f) = decide (a = b)
  | [], [] => by simp [PyData.eqvAll]
  | [], _ :: _ => by simp [PyData.eqvAll]
  | _ :: _, [] => by simp [PyData.eqvAll]
  | x :: a, y :: b => by
    rw [List.map_cons, List.map_cons]
    show (PyData.eqv (f x) (f y) && PyData.eqvAll (a.map f) (b.map f)) = _
    rw [E.eqAll a b, E.eq]
    by_cases h : x = y
    · subst h; by_cases h2 : a = b <;> simp [h2]
    · simp [h]
theorem Enc.shaped (E : Enc f P n) (hn : n ≤ 63) {x : α} (h : P x) : SeqAt.shaped (f x) = true := by
  unfold SeqAt.shaped
  rw [E.can x h]
  have := E.dep x
  simp
  omega
theorem Enc.any (E : Enc f P n) (x : α) : ∀ xs : List α, (xs.map f).any (fun z => PyData.eqv z (f x)) = decide (x ∈ xs)
  | [] => by simp
  | t :: xs => by
    rw [List.map_cons, List.any_cons, E.any x xs, E.eq]
    by_cases h : t = x
    · subst h; simp
    · have : ¬ x = t := fun e => h e.symm
      simp [h, this]
end
def step (ks : Li) (p : Str × Bool) : Option Li := match look ks p.1 with
  | some b => if b = p.2 then some ks else none
  | none => some (ks ++ [p])
def RiseP (l : Li) : Prop := l.Pairwise fun a b => a.1.cps.toList < b.1.cps.toList
theorem lt_irr (xs : List Nat) : ¬ xs < xs := fun h => List.lt_irrefl _ h
theorem RiseP.nd {l : Li} (h : RiseP l) : (l.map (·.1)).Nodup := List.pairwise_map.mpr (h.imp fun {a b} z e => by rw [e] at z; exact lt_irr _ z)
set_option maxHeartbeats 400000
@[simp] theorem wd_is_yes : (("is" : Str) == "yes") = false := by decide +kernel
@[simp] theorem wd_is_no : (("is" : Str) == "no") = false := by decide +kernel
@[simp] theorem wd_is_not : (("is" : Str) == "not") = false := by decide +kernel
@[simp] theorem wd_is_and : (("is" : Str) == "and") = false := by decide +kernel
@[simp] theorem wd_is_or : (("is" : Str) == "or") = false := by decide +kernel
@[simp] theorem wd_is_then : (("is" : Str) == "then") = false := by decide +kernel
@[simp] theorem wd_is_same : (("is" : Str) == "same") = false := by decide +kernel
@[simp] theorem wd_yes_is : (("yes" : Str) == "is") = false := by decide +kernel
@[simp] theorem wd_yes_no : (("yes" : Str) == "no") = false := by decide +kernel
@[simp] theorem wd_yes_not : (("yes" : Str) == "not") = false := by decide +kernel
@[simp] theorem wd_yes_and : (("yes" : Str) == "and") = false := by decide +kernel
@[simp] theorem wd_yes_or : (("yes" : Str) == "or") = false := by decide +kernel
@[simp] theorem wd_yes_then : (("yes" : Str) == "then") = false := by decide +kernel
@[simp] theorem wd_yes_same : (("yes" : Str) == "same") = false := by decide +kernel
@[simp] theorem wd_no_is : (("no" : Str) == "is") = false := by decide +kernel
@[simp] theorem wd_no_yes : (("no" : Str) == "yes") = false := by decide +kernel
@[simp] theorem wd_no_not : (("no" : Str) == "not") = false := by decide +kernel
@[simp] theorem wd_no_and : (("no" : Str) == "and") = false := by decide +kernel
@[simp] theorem wd_no_or : (("no" : Str) == "or") = false := by decide +kernel
@[simp] theorem wd_no_then : (("no" : Str) == "then") = false := by decide +kernel
@[simp] theorem wd_no_same : (("no" : Str) == "same") = false := by decide +kernel
@[simp] theorem wd_not_is : (("not" : Str) == "is") = false := by decide +kernel
@[simp] theorem wd_not_yes : (("not" : Str) == "yes") = false := by decide +kernel
@[simp] theorem wd_not_no : (("not" : Str) == "no") = false := by decide +kernel
@[simp] theorem wd_not_and : (("not" : Str) == "and") = false := by decide +kernel
@[simp] theorem wd_not_or : (("not" : Str) == "or") = false := by decide +kernel
@[simp] theorem wd_not_then : (("not" : Str) == "then") = false := by decide +kernel
@[simp] theorem wd_not_same : (("not" : Str) == "same") = false := by decide +kernel
@[simp] theorem wd_and_is : (("and" : Str) == "is") = false := by decide +kernel
@[simp] theorem wd_and_yes : (("and" : Str) == "yes") = false := by decide +kernel
@[simp] theorem wd_and_no : (("and" : Str) == "no") = false := by decide +kernel
@[simp] theorem wd_and_not : (("and" : Str) == "not") = false := by decide +kernel
@[simp] theorem wd_and_or : (("and" : Str) == "or") = false := by decide +kernel
@[simp] theorem wd_and_then : (("and" : Str) == "then") = false := by decide +kernel
@[simp] theorem wd_and_same : (("and" : Str) == "same") = false := by decide +kernel
@[simp] theorem wd_or_is : (("or" : Str) == "is") = false := by decide +kernel
@[simp] theorem wd_or_yes : (("or" : Str) == "yes") = false := by decide +kernel
@[simp] theorem wd_or_no : (("or" : Str) == "no") = false := by decide +kernel
@[simp] theorem wd_or_not : (("or" : Str) == "not") = false := by decide +kernel
@[simp] theorem wd_or_and : (("or" : Str) == "and") = false := by decide +kernel
@[simp] theorem wd_or_then : (("or" : Str) == "then") = false := by decide +kernel
@[simp] theorem wd_or_same : (("or" : Str) == "same") = false := by decide +kernel
@[simp] theorem wd_then_is : (("then" : Str) == "is") = false := by decide +kernel
@[simp] theorem wd_then_yes : (("then" : Str) == "yes") = false := by decide +kernel
@[simp] theorem wd_then_no : (("then" : Str) == "no") = false := by decide +kernel
@[simp] theorem wd_then_not : (("then" : Str) == "not") = false := by decide +kernel
@[simp] theorem wd_then_and : (("then" : Str) == "and") = false := by decide +kernel
@[simp] theorem wd_then_or : (("then" : Str) == "or") = false := by decide +kernel
@[simp] theorem wd_then_same : (("then" : Str) == "same") = false := by decide +kernel
@[simp] theorem wd_same_is : (("same" : Str) == "is") = false := by decide +kernel
@[simp] theorem wd_same_yes : (("same" : Str) == "yes") = false := by decide +kernel
@[simp] theorem wd_same_no : (("same" : Str) == "no") = false := by decide +kernel
@[simp] theorem wd_same_not : (("same" : Str) == "not") = false := by decide +kernel
@[simp] theorem wd_same_and : (("same" : Str) == "and") = false := by decide +kernel
@[simp] theorem wd_same_or : (("same" : Str) == "or") = false := by decide +kernel
@[simp] theorem wd_same_then : (("same" : Str) == "then") = false := by decide +kernel
@[simp] theorem shw_and : SeqAt.shaped (.str "and") = true := by decide +kernel
@[simp] theorem shw_or : SeqAt.shaped (.str "or") = true := by decide +kernel
@[simp] theorem shw_then : SeqAt.shaped (.str "then") = true := by decide +kernel
@[simp] theorem shw_same : SeqAt.shaped (.str "same") = true := by decide +kernel
def Ru.val (f : Str → Bool) : Ru → Bool
  | .is s => f s
  | .yes => true
  | .no => false
  | .not r => !(r.val f)
  | .two .and a b => a.val f && b.val f
  | .two .or a b => a.val f || b.val f
  | .two .thn a b => !(a.val f) || b.val f
  | .two .same a b => a.val f == b.val f
/-- the facts' place -/
def FS (s : Slot) (fs : Li) : Prop := s = .dat (.dict (tr fs)) ∨ s = .par (.dict (tr fs)) ∨ s = .lck (.dict (tr fs))
def fD (f : Li) : D := .dict (tr f)
def ext (rows : List Li) (n : Str) : List Li := rows.flatMap fun f => [putB f n false, putB f n true]
theorem FS.d {f : Li} : FS (.dat (fD f)) f := .inl rfl
@[simp] theorem has_yn_is : hasD (.str "is") (.tuple [.str "yes", .str "no"]) = some false := by decide +kernel
@[simp] theorem has_yn_yes : hasD (.str "yes") (.tuple [.str "yes", .str "no"]) = some true := by decide +kernel
@[simp] theorem has_yn_no : hasD (.str "no") (.tuple [.str "yes", .str "no"]) = some true := by decide +kernel
@[simp] theorem has_yn_not : hasD (.str "not") (.tuple [.str "yes", .str "no"]) = some false := by decide +kernel
@[simp] theorem has_yn_and : hasD (.str "and") (.tuple [.str "yes", .str "no"]) = some false := by decide +kernel
@[simp] theorem has_yn_or : hasD (.str "or") (.tuple [.str "yes", .str "no"]) = some false := by decide +kernel
@[simp] theorem has_yn_then : hasD (.str "then") (.tuple [.str "yes", .str "no"]) = some false := by decide +kernel
@[simp] theorem has_yn_same : hasD (.str "same") (.tuple [.str "yes", .str "no"]) = some false := by decide +kernel
@[simp] theorem has_bin_is : hasD (.str "is") (.tuple [.str "and", .str "or", .str "then", .str "same"]) = some false := by decide +kernel
@[simp] theorem has_bin_yes : hasD (.str "yes") (.tuple [.str "and", .str "or", .str "then", .str "same"]) = some false := by decide +kernel
@[simp] theorem has_bin_no : hasD (.str "no") (.tuple [.str "and", .str "or", .str "then", .str "same"]) = some false := by decide +kernel
@[simp] theorem has_bin_not : hasD (.str "not") (.tuple [.str "and", .str "or", .str "then", .str "same"]) = some false := by decide +kernel
@[simp] theorem has_bin_and : hasD (.str "and") (.tuple [.str "and", .str "or", .str "then", .str "same"]) = some true := by decide +kernel
@[simp] theorem has_bin_or : hasD (.str "or") (.tuple [.str "and", .str "or", .str "then", .str "same"]) = some true := by decide +kernel
@[simp] theorem has_bin_then : hasD (.str "then") (.tuple [.str "and", .str "or", .str "then", .str "same"]) = some true := by decide +kernel
@[simp] theorem has_bin_same : hasD (.str "same") (.tuple [.str "and", .str "or", .str "then", .str "same"]) = some true := by decide +kernel
@[simp] theorem has_all5_is : hasD (.str "is") (.tuple [.str "not", .str "and", .str "or", .str "then", .str "same"]) = some false := by decide +kernel
@[simp] theorem has_all5_yes : hasD (.str "yes") (.tuple [.str "not", .str "and", .str "or", .str "then", .str "same"]) = some false := by decide +kernel
@[simp] theorem has_all5_no : hasD (.str "no") (.tuple [.str "not", .str "and", .str "or", .str "then", .str "same"]) = some false := by decide +kernel
@[simp] theorem has_all5_not : hasD (.str "not") (.tuple [.str "not", .str "and", .str "or", .str "then", .str "same"]) = some true := by decide +kernel
@[simp] theorem has_all5_and : hasD (.str "and") (.tuple [.str "not", .str "and", .str "or", .str "then", .str "same"]) = some true := by decide +kernel
@[simp] theorem has_all5_or : hasD (.str "or") (.tuple [.str "not", .str "and", .str "or", .str "then", .str "same"]) = some true := by decide +kernel
@[simp] theorem has_all5_then : hasD (.str "then") (.tuple [.str "not", .str "and", .str "or", .str "then", .str "same"]) = some true := by decide +kernel
@[simp] theorem has_all5_same : hasD (.str "same") (.tuple [.str "not", .str "and", .str "or", .str "then", .str "same"]) = some true := by decide +kernel
def chQ (QO : Opd → Rho → Prop) (k : Rho → Prop) : Opd → Rho → Prop
  | .val (.bool true), ρ => k ρ
  | .val (.bool false), ρ => QO (.val (.bool false)) ρ
  | _, _ => False
@[simp] theorem chQ_t {QO : Opd → Rho → Prop} {k : Rho → Prop} {ρ : Rho} : chQ QO k (.val (.bool true)) ρ = k ρ := rfl
@[simp] theorem chQ_f {QO : Opd → Rho → Prop} {k : Rho → Prop} {ρ : Rho} : chQ QO k (.val (.bool false)) ρ = QO (.val (.bool false)) ρ := rfl
def Ru.words : Ru → List Str
  | .is s => ["is", s]
  | .yes => ["yes"]
  | .no => ["no"]
  | .not r => "not" :: r.words
  | .two o a b => o.str :: (a.words ++ b.words)
def Ru.text (r : Ru) : Str := Txt.join " " r.words
theorem Lw.nm {s : Str} (h : Lw s) : Nm s := ⟨h.ok.c, Nat.le_trans h.hi (by decide)⟩
def Ru.lw (r : Ru) : Prop := ∀ s ∈ r.names, Lw s
theorem Ru.lw.k {r : Ru} (h : r.lw) : r.ok := fun s hs => (h s hs).nm
end Dl
set_option maxRecDepth 100000
set_option maxHeartbeats 4000000
set_option maxRecDepth 100000
set_option maxHeartbeats 4000000
namespace SL
open PySem PySem.Spec PySem.W PyProof.Rows L2 LamX
set_option autoImplicit false
mutual
def noL : PyData → Bool
  | .list _ => false
  | .dict _ => false
  | .tuple ds => noLA ds
  | _ => true
def noLA : List PyData → Bool
  | [] => true
  | d :: ds => noL d && noLA ds
end
/-- the key of a row -/
def rowK : PyData → PyData
  | .tuple ds => .tuple [.int ds.length, .tuple ds]
  | d => d
def rowLe (d e : PyData) : Bool := PySem.W.dataLe false rowK d e
/-- rows that can be sorted so -/
structure Rows (ds : List PyData) : Prop where
  tup : ∀ d ∈ ds, ∃ es, d = .tuple es ∧ es.length ≤ sizeLine
  flat : ∀ d ∈ ds, noL d = true
  can : ∀ d ∈ ds, d.canLay0 = true
  dep : ∀ d ∈ ds, d.depth ≤ 10
  like : ∀ d ∈ ds, ∀ e ∈ ds, PySem.W.alike (rowK d) (rowK e) = true
  len : ds.length ≤ sizeLine
end SL
set_option maxRecDepth 100000
set_option maxHeartbeats 4000000
namespace Dl
open PySem PySem.Spec L2 LamX
set_option autoImplicit false
section
variable {K : PySem.W.Frag} {F H H' : Hp} {σ : Sg} {ρ : Rho}
theorem OwnAt.ntb {a : Addr} : ∀ {d : D}, OwnAt K F H a d → ∀ o, H a = Option.some o → ∀ ps, o ≠ HO.tbl ps
  | .list _, ⟨_, h, _⟩, o, e => by rw [h] at e; cases e; exact fun ps z => by cases z
  | .dict _, ⟨_, h, _⟩, o, e => by rw [h] at e; cases e; exact fun ps z => by cases z
end
end Dl
set_option maxRecDepth 100000
set_option maxHeartbeats 4000000
namespace Dl
open PySem PySem.Spec PyProof.Rows L2 LamX He
set_option autoImplicit false
def codeB (g : Addr → Option Obj) (c P : Addr) : Bool := match g c with
  | some o => decide (o.cls = .type "code") && (match o.data with
    | .fields vs => decide ((vs[11]? : Option Value) = some (.ref P)) && (decide (vs.getD 11 .none = .ref P) && ((match vs.getD 18 .none with
      | .str _ _ => true
      | _ => false) && ((match vs.getD 7 .none with
      | .int _ _ => true
      | _ => false) && ((match vs.getD 9 .none with
      | .bool _ => true
      | _ => false) && ((match vs.getD 10 .none with
      | .int _ _ => true
      | _ => false) && !decide (c = P))))))
    | _ => false)
  | none => false
theorem codeB_ok {h : Heap} {c P : Addr} (e : codeB h.get? c P = true) : PySem.W.CodeHd h c P := by
  unfold codeB at e
  split at e
  · rename_i o ho
    rw [Bool.and_eq_true] at e
    obtain ⟨e1, e⟩ := e
    split at e
    · rename_i vs hv
      simp only [Bool.and_eq_true] at e
      obtain ⟨e2, e3, e4, e5, e6, e7, e8⟩ := e
      split at e4
      · rename_i q18
        split at e5
        · rename_i q7
          split at e6
          · rename_i q9
            split at e7
            · rename_i q10
              exact ⟨o, vs, _, _, _, _, _, _, _, ho, of_decide_eq_true e1, hv, of_decide_eq_true e2, of_decide_eq_true e3, q18, q7, q9, q10, by simpa using e8⟩
            · cases e7
          · cases e6
        · cases e5
      · cases e4
    · cases e
  · cases e
def emptyB (g : Addr → Option Obj) (P : Addr) : Bool := match g P with
  | some ⟨.none, none, .fields vs, sl⟩ => vs.isEmpty && sl.isEmpty
  | _ => false
theorem emptyB_ok {h : Heap} {P : Addr} (e : emptyB h.get? P = true) : h.get? P = some (PySem.W.tabObj #[]) := by
  unfold emptyB at e
  split at e
  · rename_i vs sl ho
    rw [Bool.and_eq_true] at e
    have e1 : vs = #[] := by simpa using e.1
    have e2 : sl = #[] := by simpa using e.2
    subst e1 e2
    exact ho
  · cases e
def tabsT (g : Addr → Option Obj) (K : PySem.W.Frag) (lf : List Str) : Bool :=
  (lamNames.all fun x => match codeTab K x with
    | some (c, P) => codeB g c P && (emptyB g P && (K.lookup P).isNone)
    | none => true) && (((tabsOf K).all fun p => (tabsOf K).all fun p' => !decide (p.1 = p'.1) || decide (p.2 = p'.2)) && lf.all fun x => (codeTab K x).isSome)
structure TabsH (h : Heap) (K : PySem.W.Frag) (lf : List Str) : Prop where
  tab : ∀ x c P, x ∈ lamNames → codeTab K x = some (c, P) → PySem.W.CodeHd h c P ∧ h.get? P = some (PySem.W.tabObj #[]) ∧ K.lookup P = none
  uq : ∀ p ∈ tabsOf K, ∀ p' ∈ tabsOf K, p.1 = p'.1 → p.2 = p'.2
  is : ∀ x ∈ lf, (codeTab K x).isSome = true
theorem tabsT_ok {h : Heap} {K : PySem.W.Frag} {lf : List Str} (e : tabsT h.get? K lf = true) : TabsH h K lf := by
  unfold tabsT at e
  simp only [Bool.and_eq_true] at e
  obtain ⟨e1, e2, e3⟩ := e
  refine ⟨fun x c P hx hc => ?_, fun p hp p' hp' q => ?_, fun x hx => List.all_eq_true.mp e3 x hx⟩
  · have z := List.all_eq_true.mp e1 x hx
    rw [hc] at z
    simp only [Bool.and_eq_true] at z
    exact ⟨codeB_ok z.1, emptyB_ok z.2.1, by simpa using z.2.2⟩
  · have z := List.all_eq_true.mp (List.all_eq_true.mp e2 p hp) p' hp'
    rw [Bool.or_eq_true] at z
    rcases z with z | z
    · simp at z
      exact absurd q z
    · exact of_decide_eq_true z
def tabAddrs (K : PySem.W.Frag) : List Addr := lamNames.filterMap fun x => (codeTab K x).map (·.2)
def fragT (n : Nat) (g : Addr → Option Obj) : PySem.W.Frag := frG g ((asD g n).filter fun a => !((tabAddrs (frG g (asD g n))).contains a))
end Dl
set_option maxRecDepth 100000
set_option maxHeartbeats 400000
namespace Dl
open PySem PySem.Spec L2
set_option autoImplicit false
def lexB : Li → Li → Bool
  | (n, t) :: a, (m, u) :: b => if n ≠ m then decide (n.cps.toList < m.cps.toList) else if t ≠ u then u else lexB a b
  | _, _ => false
def before (a b : Li) : Bool := if a.length ≠ b.length then decide (a.length < b.length) else lexB a b
def fT (cl : Li) : D := .tuple (cl.map liD)
open PySem.W in
theorem li_alike (p q : Str × Bool) : PySem.W.alike (liD p) (liD q) = true := by
  unfold liD
  simp [PySem.W.alike, PySem.W.alikeAll]
open PySem.W in
theorem lis_alike : ∀ a b : Li, PySem.W.alikeAll (a.map liD) (b.map liD) = true
  | [], b => by cases b <;> simp [PySem.W.alikeAll]
  | p :: a, [] => by simp [PySem.W.alikeAll]
  | p :: a, q :: b => by
    rw [List.map_cons, List.map_cons, PySem.W.alikeAll, li_alike, lis_alike a b]
    rfl
open PySem.W in
theorem lt_li (n m : Str) (t u : Bool) (h : (n, t) ≠ (m, u)) : dataLt (liD (n, t)) (liD (m, u)) = if n ≠ m then decide (n.cps.toList < m.cps.toList) else u := by
  show dataLt (.tuple [.str n, .bool t]) (.tuple [.str m, .bool u]) = _
  rw [dataLt_tuple]
  by_cases e : n = m
  · subst e
    have ht : t ≠ u := fun z => h (by rw [z])
    rw [dataLt_all_yes (by simp [PySem.W.alike]) (by show (n == n) = true; simp), dataLt_all_no (by simp [PySem.W.alike]) (by show (t == u) = false; simpa using ht), dataLt_bool]
    cases t <;> cases u <;> simp_all <;> decide
  · rw [dataLt_all_no (by simp [PySem.W.alike]) (by show (n == m) = false; simpa using e), dataLt_str, if_pos e]
open PySem.W in
theorem lt_lis : ∀ a b : Li, a.length = b.length → PyProof.Rows.lexLt PyProof.Rows.itemOrd (keyToksAll (a.map liD)) (keyToksAll (b.map liD)) = lexB a b
  | [], [], _ => PyProof.Rows.lex_irrefl _
  | [], _ :: _, h => by cases h
  | _ :: _, [], h => by cases h
  | (n, t) :: a, (m, u) :: b, h => by
    rw [List.map_cons, List.map_cons]
    by_cases e : (n, t) = (m, u)
    · cases e
      rw [dataLt_all_yes (li_alike _ _) (by rw [enc_li.eq]; simp), lt_lis a b (by simpa using h)]
      simp [lexB]
    · rw [dataLt_all_no (li_alike _ _) (by rw [enc_li.eq]; simpa using e), lt_li n m t u e]
      unfold lexB
      by_cases hn : n = m
      · subst hn
        have ht : t ≠ u := fun z => e (by rw [z])
        simp [ht]
      · simp [hn]
open PySem.W in
theorem lt_row (a b : Li) : dataLt (SL.rowK (fT a)) (SL.rowK (fT b)) = before a b := by
  show dataLt (.tuple [.int (a.map liD).length, .tuple (a.map liD)]) (.tuple [.int (b.map liD).length, .tuple (b.map liD)]) = _
  rw [dataLt_tuple, List.length_map, List.length_map]
  unfold before
  by_cases h : a.length = b.length
  · rw [if_neg (by simpa using h), dataLt_all_yes (by simp [PySem.W.alike]) (by show ((a.length : Int) == (b.length : Int)) = true; simp [h])]
    by_cases e : a = b
    · subst e
      rw [PyProof.Rows.lex_irrefl, ← lt_lis a a rfl, PyProof.Rows.lex_irrefl]
    · rw [dataLt_all_no (by simp [PySem.W.alike, lis_alike]) (by show PyData.eqvAll (a.map liD) (b.map liD) = false; rw [enc_li.eqAll]; simpa using e), dataLt_tuple, lt_lis a b h]
  · rw [if_pos h, dataLt_all_no (by simp [PySem.W.alike]) (by show ((a.length : Int) == (b.length : Int)) = false; simp; omega), dataLt_int]
    simp
theorem rowLe_eq (a b : Li) : SL.rowLe (fT a) (fT b) = !(before b a) := by
  rw [← lt_row]
  rfl
def le (a b : Li) : Bool := !(before b a)
theorem le_row (a b : Li) : le a b = SL.rowLe (fT a) (fT b) := (rowLe_eq a b).symm
theorem le_trans (a b c : Li) (h1 : le a b = true) (h2 : le b c = true) : le a c = true := by
  rw [le_row] at *
  exact (PySem.W.sortLe_total (PyProof.Rows.listOrd PyProof.Rows.itemOrd) false fun b => PySem.W.keyToks (SL.rowK b)).trans _ _ _ h1 h2
theorem le_total (a b : Li) : (le a b || le b a) = true := by
  rw [le_row, le_row, Bool.or_eq_true]
  exact (PySem.W.sortLe_total (PyProof.Rows.listOrd PyProof.Rows.itemOrd) false fun b => PySem.W.keyToks (SL.rowK b)).total _ _
theorem lexB_anti : ∀ {a b : Li}, a.length = b.length → lexB a b = false → lexB b a = false → a = b
  | [], [], _, _, _ => rfl
  | [], _ :: _, h, _, _ => by cases h
  | _ :: _, [], h, _, _ => by cases h
  | (n, t) :: a, (m, u) :: b, h, h1, h2 => by
    unfold lexB at h1 h2
    by_cases e : n = m
    · subst e
      by_cases f : t = u
      · subst f
        simp at h1 h2
        rw [lexB_anti (by simpa using h) h1 h2]
      · have f' : u ≠ t := fun z => f z.symm
        simp [f] at h1
        simp [f'] at h2
        rw [h1, h2] at f
        exact absurd rfl f
    · have e' : m ≠ n := fun z => e z.symm
      rw [if_pos e] at h1
      rw [if_pos e'] at h2
      exact absurd (strLe_anti (a := n) (b := m) (by unfold strLe; rw [h2]; rfl) (by unfold strLe; rw [h1]; rfl)) e
theorem le_anti {a b : Li} (h1 : le a b = true) (h2 : le b a = true) : a = b := by
  unfold le before at h1 h2
  by_cases h : a.length = b.length
  · rw [if_neg (by simp [h])] at h1 h2
    exact lexB_anti h (by simpa using h2) (by simpa using h1)
  · have h' : b.length ≠ a.length := fun z => h z.symm
    rw [if_pos h'] at h1
    rw [if_pos h] at h2
    simp at h1 h2
    omega
theorem before_iff {a b : Li} : before a b = true ↔ le a b = true ∧ a ≠ b := by
  constructor
  · intro h
    refine ⟨?_, fun z => ?_⟩
    · have := le_total a b
      unfold le at this ⊢
      rw [h] at this
      simpa using this
    · subst z
      have := le_total a a
      unfold le at this
      rw [h] at this
      cases this
  · rintro ⟨h1, h2⟩
    cases h : before a b with
    | true => rfl
    | false => exact absurd (le_anti h1 (by unfold le; rw [h]; rfl)) h2
/-- strictly in order -/
def SS (l : List Li) : Prop := l.Pairwise fun a b => before a b = true
theorem SS.nd {l : List Li} (h : SS l) : l.Nodup := h.imp fun {a b} z => (before_iff.mp z).2
theorem SS.same {a b : List Li} (ha : SS a) (hb : SS b) (h : ∀ x, x ∈ a ↔ x ∈ b) : a = b :=
  List.Perm.eq_of_pairwise (le := fun a b => le a b = true) (fun a b _ _ h1 h2 => le_anti h1 h2) (ha.imp fun {a b} z => (before_iff.mp z).1) (hb.imp fun {a b} z => (before_iff.mp z).1) ((List.perm_ext_iff_of_nodup ha.nd hb.nd).mpr h)
def lexI : List Int → List Int → Bool
  | n :: a, m :: b => if n ≠ m then decide (n < m) else lexI a b
  | _, _ => false
theorem enc_int : Enc PyData.int (fun _ => True) 0 := ⟨fun x y => by show (x == y) = _; by_cases h : x = y <;> simp [h], fun x h => rfl, fun x => Nat.le_of_eq rfl⟩
def beforeI (a b : (List Int)) : Bool := if a.length ≠ b.length then decide (a.length < b.length) else lexI a b
def fI (cl : (List Int)) : D := .tuple (cl.map PyData.int)
open PySem.W in
theorem int_alike (p q : Int) : PySem.W.alike (.int p) (.int q) = true := by simp [PySem.W.alike]
open PySem.W in
theorem ints_alike : ∀ a b : (List Int), PySem.W.alikeAll (a.map PyData.int) (b.map PyData.int) = true
  | [], b => by cases b <;> simp [PySem.W.alikeAll]
  | p :: a, [] => by simp [PySem.W.alikeAll]
  | p :: a, q :: b => by
    rw [List.map_cons, List.map_cons, PySem.W.alikeAll, int_alike, ints_alike a b]
    rfl
open PySem.W in
theorem lt_ints : ∀ a b : List Int, a.length = b.length → PyProof.Rows.lexLt PyProof.Rows.itemOrd (keyToksAll (a.map PyData.int)) (keyToksAll (b.map PyData.int)) = lexI a b
  | [], [], _ => PyProof.Rows.lex_irrefl _
  | [], _ :: _, h => by cases h
  | _ :: _, [], h => by cases h
  | n :: a, m :: b, h => by
    rw [List.map_cons, List.map_cons]
    by_cases e : n = m
    · cases e
      rw [dataLt_all_yes (int_alike _ _) (by rw [enc_int.eq]; simp), lt_ints a b (by simpa using h)]
      simp [lexI]
    · rw [dataLt_all_no (int_alike _ _) (by rw [enc_int.eq]; simpa using e), dataLt_int]
      unfold lexI
      simp [e]
open PySem.W in
theorem lt_rowI (a b : (List Int)) : dataLt (SL.rowK (fI a)) (SL.rowK (fI b)) = beforeI a b := by
  show dataLt (.tuple [.int (a.map PyData.int).length, .tuple (a.map PyData.int)]) (.tuple [.int (b.map PyData.int).length, .tuple (b.map PyData.int)]) = _
  rw [dataLt_tuple, List.length_map, List.length_map]
  unfold beforeI
  by_cases h : a.length = b.length
  · rw [if_neg (by simpa using h), dataLt_all_yes (by simp [PySem.W.alike]) (by show ((a.length : Int) == (b.length : Int)) = true; simp [h])]
    by_cases e : a = b
    · subst e
      rw [PyProof.Rows.lex_irrefl, ← lt_ints a a rfl, PyProof.Rows.lex_irrefl]
    · rw [dataLt_all_no (by simp [PySem.W.alike, ints_alike]) (by show PyData.eqvAll (a.map PyData.int) (b.map PyData.int) = false; rw [enc_int.eqAll]; simpa using e), dataLt_tuple, lt_ints a b h]
  · rw [if_pos h, dataLt_all_no (by simp [PySem.W.alike]) (by show ((a.length : Int) == (b.length : Int)) = false; simp; omega), dataLt_int]
    simp
theorem rowLeI_eq (a b : (List Int)) : SL.rowLe (fI a) (fI b) = !(beforeI b a) := by
  rw [← lt_rowI]
  rfl
def leI (a b : (List Int)) : Bool := !(beforeI b a)
theorem leI_row (a b : (List Int)) : leI a b = SL.rowLe (fI a) (fI b) := (rowLeI_eq a b).symm
theorem leI_trans (a b c : (List Int)) (h1 : leI a b = true) (h2 : leI b c = true) : leI a c = true := by
  rw [leI_row] at *
  exact (PySem.W.sortLe_total (PyProof.Rows.listOrd PyProof.Rows.itemOrd) false fun b => PySem.W.keyToks (SL.rowK b)).trans _ _ _ h1 h2
theorem leI_total (a b : (List Int)) : (leI a b || leI b a) = true := by
  rw [leI_row, leI_row, Bool.or_eq_true]
  exact (PySem.W.sortLe_total (PyProof.Rows.listOrd PyProof.Rows.itemOrd) false fun b => PySem.W.keyToks (SL.rowK b)).total _ _
theorem lexI_anti : ∀ {a b : List Int}, a.length = b.length → lexI a b = false → lexI b a = false → a = b
  | [], [], _, _, _ => rfl
  | [], _ :: _, h, _, _ => by cases h
  | _ :: _, [], h, _, _ => by cases h
  | n :: a, m :: b, h, h1, h2 => by
    unfold lexI at h1 h2
    by_cases e : n = m
    · subst e
      simp at h1 h2
      rw [lexI_anti (by simpa using h) h1 h2]
    · have e' : m ≠ n := fun z => e z.symm
      rw [if_pos e] at h1
      rw [if_pos e'] at h2
      simp at h1 h2
      omega
theorem leI_anti {a b : (List Int)} (h1 : leI a b = true) (h2 : leI b a = true) : a = b := by
  unfold leI beforeI at h1 h2
  by_cases h : a.length = b.length
  · rw [if_neg (by simp [h])] at h1 h2
    exact lexI_anti h (by simpa using h2) (by simpa using h1)
  · have h' : b.length ≠ a.length := fun z => h z.symm
    rw [if_pos h'] at h1
    rw [if_pos h] at h2
    simp at h1 h2
    omega
theorem beforeI_iff {a b : (List Int)} : beforeI a b = true ↔ leI a b = true ∧ a ≠ b := by
  constructor
  · intro h
    refine ⟨?_, fun z => ?_⟩
    · have := leI_total a b
      unfold leI at this ⊢
      rw [h] at this
      simpa using this
    · subst z
      have := leI_total a a
      unfold leI at this
      rw [h] at this
      cases this
  · rintro ⟨h1, h2⟩
    cases h : beforeI a b with
    | true => rfl
    | false => exact absurd (leI_anti h1 (by unfold leI; rw [h]; rfl)) h2
/-- strictly in order -/
def SSI (l : List (List Int)) : Prop := l.Pairwise fun a b => beforeI a b = true
theorem SSI.nd {l : List (List Int)} (h : SSI l) : l.Nodup := h.imp fun {a b} z => (beforeI_iff.mp z).2
theorem SSI.same {a b : List (List Int)} (ha : SSI a) (hb : SSI b) (h : ∀ x, x ∈ a ↔ x ∈ b) : a = b :=
  List.Perm.eq_of_pairwise (le := fun a b => leI a b = true) (fun a b _ _ h1 h2 => leI_anti h1 h2) (ha.imp fun {a b} z => (beforeI_iff.mp z).1) (hb.imp fun {a b} z => (beforeI_iff.mp z).1) ((List.perm_ext_iff_of_nodup ha.nd hb.nd).mpr h)
abbrev Se := List Int
def Asc (s : Se) : Prop := s.Pairwise (· < ·)
def mk (m : Nat) : D := .int (m : Int)
inductive Tr where
  | cl (s : Se) | pe (s : Se) | ask (m : Int) (a b : Tr)
def Tr.toD : Tr → D
  | .cl s => .tuple [.str "clash", fI s]
  | .pe s => .tuple [.str "peace", fI s]
  | .ask m a b => .tuple [.str "ask", .int m, a.toD, b.toD]
def Tr.dep : Tr → Nat
  | .cl _ => 1
  | .pe _ => 1
  | .ask _ a b => max a.dep b.dep + 1
/-- what was asked about on the way -/
structure Way (whole h l : Se) : Prop where
  sub : h.Sublist (whole.take (h.length + l.length))
  all : ∀ m ∈ whole.take (h.length + l.length), m ∈ h ∨ m ∈ l
  low : ∀ m ∈ l, m ∈ whole.take (h.length + l.length)
  few : h.length + l.length ≤ whole.length
theorem Way.nil (whole : Se) : Way whole [] [] := ⟨List.nil_sublist _, fun m hm => (by simp at hm), fun m hm => (by cases hm), Nat.zero_le _⟩
theorem beforeI_trans {a b c : Se} (h1 : beforeI a b = true) (h2 : beforeI b c = true) : beforeI a c = true := by
  obtain ⟨p1, q1⟩ := beforeI_iff.mp h1
  obtain ⟨p2, q2⟩ := beforeI_iff.mp h2
  refine beforeI_iff.mpr ⟨leI_trans a b c p1 p2, fun z => ?_⟩
  subst z
  exact q1 (leI_anti p1 p2)
theorem SSI.ins {row : List Se} {c : Se} {k : Nat} (h : SSI row) (hk : k ≤ row.length) (up : ∀ i r, k ≤ i → row[i]? = some r → beforeI c r = true) (lo : ∀ r, row[k - 1]? = some r → 0 < k → beforeI r c = true) : SSI (row.take k ++ [c] ++ row.drop k) := by
  have e : row.take k ++ row.drop k = row := List.take_append_drop k row
  have hp : (row.take k ++ row.drop k).Pairwise (fun a b => beforeI a b = true) := by rw [e]; exact h
  obtain ⟨p1, p2, p3⟩ := List.pairwise_append.mp hp
  have ups : ∀ r ∈ row.drop k, beforeI c r = true := fun r hr => by
    obtain ⟨i, hi⟩ := List.mem_iff_getElem?.mp hr
    rw [List.getElem?_drop] at hi
    exact up (k + i) r (by omega) hi
  have los : ∀ r ∈ row.take k, beforeI r c = true := fun r hr => by
    obtain ⟨i, hi⟩ := List.mem_iff_getElem?.mp hr
    have hik : i < k := by
      have := (List.getElem?_eq_some_iff.mp hi).1
      rw [List.length_take] at this
      omega
    rw [List.getElem?_take, if_pos hik] at hi
    have hk0 : 0 < k := by omega
    obtain ⟨q, hq⟩ : ∃ q, row[k - 1]? = some q := ⟨_, List.getElem?_eq_getElem (by omega)⟩
    have hqc := lo q hq hk0
    by_cases z : i = k - 1
    · rw [z, hq] at hi
      cases hi
      exact hqc
    · obtain ⟨a1, a2⟩ := List.getElem?_eq_some_iff.mp hi
      obtain ⟨b1, b2⟩ := List.getElem?_eq_some_iff.mp hq
      have := List.pairwise_iff_getElem.mp h i (k - 1) a1 b1 (by omega)
      rw [a2, b2] at this
      exact beforeI_trans this hqc
  refine List.pairwise_append.mpr ⟨List.pairwise_append.mpr ⟨p1, by simp, fun a ha b hb => ?_⟩, p2, fun a ha b hb => ?_⟩
  · rw [List.mem_singleton.mp hb]; exact los a ha
  · rcases List.mem_append.mp ha with z | z
    · exact p3 a z b hb
    · rw [List.mem_singleton.mp z]; exact ups b hb
theorem Asc.nd {a : Se} (h : Asc a) : a.Nodup := h.imp fun {x y} z e => by omega
set_option maxHeartbeats 4000000
def canSs (K : PySem.W.Frag) (W : WX) (m : MS) : TS := fun Z σ H => ∃ F ρ, Rel K F σ H ρ ∧ SPost K W F H σ ρ Z (m ρ)
theorem DSs.can {X : Cx} {W : WX} {s : List Stmt} {m : MS} (h : DSs X W s m) : PSs X s (canSs X.K W m) := let ⟨_, p, q⟩ := h; ⟨fun pins s σ H D I ⟨F, ρ, R, hp⟩ => p.run pins s σ H D I (q F σ H ρ D R hp)⟩
section
variable {X : Cx} {W : WX} {pos : Pos}
def sRaise0 (c : Str) : MS := fun ρ => .ex ⟨c, []⟩ ρ
def sRaise1 (c f : Str) (m : ME) : MS := fun ρ => (m ρ).bind fun o ρ1 => match useO ρ1 o with
  | some (d, ρ2) => .ex ⟨c, [(f, d)]⟩ ρ2
  | none => .fail
/-- what is known of a class whose errors are asked about -/
structure ExA (K : PySem.W.Frag) (D : Addr) : Prop where
  hc : (PySem.W.clsIn K D).isSome = true
  hg : PySem.W.findIn K (.ref D) "__getattribute__" = some (some (.builtin "BaseException.__getattribute__"))
  hk : PySem.W.findIn K (.ref D) "__getattr__" = some none
  hs : PySem.W.subIn K (.ref D) (.type "BaseException") = some true
  ha : PySem.W.findIn K (.ref D) "__class__" = some (some (.builtin "object.__class__"))
  hn : PySem.W.specialIn K (.builtin "object.__class__") "__get__" = some (some (.builtin "getset_descriptor.__get__"))
  ht : PySem.W.takesIn K (.builtin "object.__class__") = some true
  hm : PySem.W.mroIn K D (.type "object") = some true
  hd : PySem.W.hasDictIn K D = true
/-- classes as values -/
def ClsK (K : PySem.W.Frag) (c : V) (cv : Value) : Prop := ∀ u, RelV c u → u = cv
theorem ClsK.all {K : PySem.W.Frag} : ∀ {cs : List V} {cvs us : List Value}, Paired (ClsK K) cs cvs → Vals cs us → us = cvs
  | _, _, _, .nil, .nil => rfl
  | _, _, _, .cons h t, .cons r s => by rw [h _ r, ClsK.all t s]
/-- isinstance(n, ..) of the error that the suite holds -/
def eIsX (i : Nat) (a : Addr) (d : Option Addr) (b : Option Bool) : ME := fun ρ => match ρ[i]? with
  | some (.exc q) => if q.a = a ∧ q.d = d then (match b with
    | some b => .ok (.val (.bool b)) ρ
    | none => .fail) else .fail
  | _ => .fail
/-- a class as a name -/
inductive CName (X : Cx) : Expr → V → Value → Prop
  | own {y : Str} {p : Pos} : Gl X y → X.mg y = some (.ref (He.ga X.K y)) → (y == ("__debug__" : Str)) = false → CName X (.Name y p) (.ref (He.ga X.K y)) (.ref (He.ga X.K y))
  | blt {y : Str} {p : Pos} {T : String} : Gl X y → X.mg y = none → bootBuiltins y = some (.type T) → y ≠ "__name__" → (y == ("__debug__" : Str)) = false → CName X (.Name y p) (.ty T) (.type T)
theorem CName.pe {X : Cx} {e : Expr} {c : V} {cv : Value} (h : CName X e c cv) : PE X e (tC c) := by
  cases h with
  | own h1 h2 h3 => exact pe_glob h1 h2 rfl h3
  | blt h1 h2 h3 h4 h5 => exact pe_bltn h1 h2 h3 rfl h4 h5
theorem CName.k {X : Cx} {e : Expr} {c : V} {cv : Value} (h : CName X e c cv) : ClsK X.K c cv := by
  cases h with
  | own h1 h2 h3 => exact fun u r => r
  | blt h1 h2 h3 h4 h5 => exact fun u r => r
/-- a field of the error -/
def eXf (i : Nat) (a : Addr) (d : Option Addr) (f : Str) : ME := fun ρ => match ρ[i]? with
  | some (.exc q) => if q.a = a ∧ q.d = d then (match q.x.fs with
    | [(g, v)] => if g = f then .ok (.val v) ρ else .fail
    | _ => .fail) else .fail
  | _ => .fail
/-- several classes -/
inductive CNames (X : Cx) : List Expr → List V → List Value → Prop
  | nil : CNames X [] [] []
  | cons {e : Expr} {es : List Expr} {c : V} {cs : List V} {cv : Value} {cvs : List Value} : CName X e c cv → CNames X es cs cvs → starEach (e :: es) X.env = (false, eval e X.env) :: starEach es X.env → CNames X (e :: es) (c :: cs) (cv :: cvs)
theorem CNames.k {X : Cx} : ∀ {es : List Expr} {cs : List V} {cvs : List Value}, CNames X es cs cvs → Paired (ClsK X.K) cs cvs
  | _, _, _, .nil => .nil
  | _, _, _, .cons h t _ => .cons h.k t.k
end
inductive Fx where
  | ini (c f : Str) | ask (c : Str) | nof (c f : Str) | kit (c y : Str) (b : Bool) | kitT (c : Str) (t : String) (b : Bool) | kitA (c : Str) (ys : List Str) (b : Bool) | exm (c y : Str) (b : Bool)
  deriving DecidableEq
def inib (K : PySem.W.Frag) (C : Addr) : Bool := match K.lookup C with
  | some ⟨.type "type", _, .cls cd, sl⟩ => (match cd.mro, sl.toList with
    | .ref C' :: bm, [_, _, _, _, some (.builtin n), _] => C' == C && n == "ValueError.__new__" && cd.hasDict && !cd.hasDel && PySem.HandSPX.refsVE bm
    | _, _ => false)
  | _ => false
theorem inib_ok {K : PySem.W.Frag} {C : Addr} (q : inib K C = true) : ∃ nm q N bs bm sn sub ab col dd k0 k1 k2 k3 k5, K.lookup C = some (excClassObj nm q C N bs bm true sn sub ab col dd k0 k1 k2 k3 k5 "ValueError.__new__") ∧ PySem.HandSPX.refsVE bm = true := by
  unfold inib at q
  split at q
  · rename_i dd cd sl ho
    split at q
    · rename_i C' bm k0 k1 k2 k3 n k5 hm hs
      simp only [Bool.and_eq_true, beq_iff_eq, Bool.not_eq_true'] at q
      obtain ⟨⟨⟨⟨rfl, rfl⟩, hhd⟩, hdel⟩, hr⟩ := q
      obtain ⟨nm, bs, mro, ns, qn, hd, sn, sub, ab, col, del⟩ := cd
      dsimp only at hm hdel hhd
      subst hm hdel hhd
      have hsl : sl = #[k0, k1, k2, k3, some (.builtin "ValueError.__new__"), k5] := by
        obtain ⟨l⟩ := sl
        simp only at hs
        rw [hs]
      subst hsl
      exact ⟨nm, qn, ns, bs, bm, sn, sub, ab, col, dd, k0, k1, k2, k3, k5, ho, hr⟩
    · cases q
  · cases q
def Fx.ok (K : PySem.W.Frag) : Fx → Bool
  | .ini c f => inib K (He.ga K c) && (decide (PySem.W.findIn K (.ref (He.ga K c)) "__setattr__" = some (some (.builtin "object.__setattr__"))) && (decide (PySem.W.subIn K (.ref (He.ga K c)) (.type "BaseException") = some true) && (decide (PySem.W.typeIn K (.ref (He.ga K c)) = some (.type "type")) &&
      (PySem.W.keepIn K (.ref (He.ga K c)) && (decide (PySem.W.findIn K (.ref (He.ga K c)) f = some none) && (decide (PySem.W.findIn K (.ref (He.ga K c)) "__init__" = some (some (.ref (He.fAd K (c, some "__init__"))))) && decide (PySem.W.typeIn K (.ref (He.fAd K (c, some "__init__"))) = some (.type "function"))))))))
  | .ask c => (PySem.W.clsIn K (He.ga K c)).isSome && (decide (PySem.W.findIn K (.ref (He.ga K c)) "__getattribute__" = some (some (.builtin "BaseException.__getattribute__"))) && (decide (PySem.W.findIn K (.ref (He.ga K c)) "__getattr__" = some none) && (decide (PySem.W.subIn K (.ref (He.ga K c)) (.type "BaseException") = some true) &&
      (decide (PySem.W.findIn K (.ref (He.ga K c)) "__class__" = some (some (.builtin "object.__class__"))) && (decide (PySem.W.specialIn K (.builtin "object.__class__") "__get__" = some (some (.builtin "getset_descriptor.__get__"))) && (decide (PySem.W.takesIn K (.builtin "object.__class__") = some true) &&
      (decide (PySem.W.mroIn K (He.ga K c) (.type "object") = some true) && PySem.W.hasDictIn K (He.ga K c))))))))
  | .nof c f => decide (PySem.W.findIn K (.ref (He.ga K c)) f = some none)
  | .kit c y b => decide (PySem.W.kitOne K (.ref (He.ga K c)) (.ref (He.ga K y)) = some b)
  | .kitT c t b => decide (PySem.W.kitOne K (.ref (He.ga K c)) (.type t) = some b)
  | .kitA c ys b => decide (PySem.W.kitAny K (.ref (He.ga K c)) (ys.map fun y => .ref (He.ga K y)) = some b)
  | .exm c y b => decide (PySem.W.exmOne K (.ref (He.ga K c)) (.ref (He.ga K y)) = some b)
abbrev FxOk (K : PySem.W.Frag) (fx : List Fx) : Prop := ∀ x ∈ fx, x.ok K = true
section
variable {K : PySem.W.Frag} {fx : List Fx}
structure ExIp (K : PySem.W.Frag) (c f : Str) : Prop where
  oex : OexC K (He.ga K c)
  nof : PySem.W.findIn K (.ref (He.ga K c)) f = some none
  ini : PySem.W.findIn K (.ref (He.ga K c)) "__init__" = some (some (.ref (He.fAd K (c, some "__init__"))))
  tyI : PySem.W.typeIn K (.ref (He.fAd K (c, some "__init__"))) = some (.type "function")
theorem FxOk.ini {c f : Str} (h : FxOk K fx) (m : Fx.ini c f ∈ fx) : ExIp K c f := by
  have q := h _ m
  simp only [Fx.ok, Bool.and_eq_true, decide_eq_true_eq] at q
  obtain ⟨q1, q2, q3, q4, q5, q6, q7, q8⟩ := q
  exact ⟨⟨inib_ok q1, q2, q3, q4, q5⟩, q6, q7, q8⟩
theorem FxOk.ask {c : Str} (h : FxOk K fx) (m : Fx.ask c ∈ fx) : ExA K (He.ga K c) := by
  have q := h _ m
  simp only [Fx.ok, Bool.and_eq_true, decide_eq_true_eq] at q
  obtain ⟨q1, q2, q3, q4, q5, q6, q7, q8, q9⟩ := q
  exact ⟨q1, q2, q3, q4, q5, q6, q7, q8, q9⟩
theorem FxOk.nof {c f : Str} (h : FxOk K fx) (m : Fx.nof c f ∈ fx) : PySem.W.findIn K (.ref (He.ga K c)) f = some none := by
  have q := h _ m
  simpa only [Fx.ok, decide_eq_true_eq] using q
end
def obsX (n : Nat) (fa : List He.Fa) (fn : List He.DefD) (lf : List Str) (fx : List Fx) (g : Addr → Option Obj) : He.AlD × Bool := (He.obsD fa fn (fragT n g), tabsT g (fragT n g) lf && fx.all fun x => x.ok (fragT n g))
def hookX (n : Nat) (fa : List He.Fa) (fn : List He.DefD) (lf : List Str) (fx : List Fx) : PySem.W.Hook where
  α := He.AlD × Bool
  obs := fun s => obsX n fa fn lf fx s.heap.get?
  val := fun _ => (He.valD fn, true)
  says := fun _ h => ∃ K : PySem.W.Frag, K.In h ∧ He.SaysD fa fn K ∧ TabsH h K lf ∧ FxOk K fx
  of := fun _ _ e => ⟨_, He.frG_in, congrArg Prod.fst e, let q := Bool.and_eq_true_iff.mp (congrArg Prod.snd e); ⟨tabsT_ok q.1, fun x hx => List.all_eq_true.mp q.2 x hx⟩⟩
  keeps := fun _ _ _ ⟨K, hK, c, t, f⟩ k => ⟨K, PySem.W.Frag.In.keeps hK k, c, ⟨fun x c P hx hc => let ⟨a, b, d⟩ := t.tab x c P hx hc; ⟨a.keeps k, k _ _ b, d⟩, t.uq, t.is⟩, f⟩
theorem obsX_eq {n : Nat} {fa : List He.Fa} {fn : List He.DefD} {lf : List Str} {fx : List Fx} {g : Addr → Option Obj} {s : Shared} (h : ∀ a, g a = s.heap.get? a) : obsX n fa fn lf fx g = (hookX n fa fn lf fx).obs s := by
  have e : g = s.heap.get? := funext h
  rw [e] <;> rfl
section
variable {QF : Flow → Rho → Prop} {QO : Opd → Rho → Prop} {X : Ex → Rho → Prop} {ρ : Rho}
end
def ddel (ps : List (D × D)) (κ : Key) : List (D × D) := ps.filter fun p => decide (keyOf p.1 ≠ some κ)
def dpopO (i : Nat) (k : Opd) (ρ : Rho) : Rs Opd := match deref ρ k with
  | some κ => (match keyOf κ with
    | some κ => (match ρ[i]? with
      | some (.own (.dict ps)) => (match dlook ps κ with
        | some d => .ok (.val d) (ρ.set i (.own (.dict (ddel ps κ))))
        | none => .fail)
      | some (.par (.dict ps)) => (match dlook ps κ with
        | some d => .ok (.val d) (ρ.set i (.par (.dict (ddel ps κ))))
        | none => .fail)
      | _ => .fail)
    | none => .fail)
  | none => .fail
def eDPop (i : Nat) (mk : ME) : ME := fun ρ => if isDct ρ i = true then (mk ρ).bind fun k ρ1 => dpopO i k ρ1 else .fail
def newsOf : List Opd → Option (List D)
  | [] => some []
  | .new d :: os => (newsOf os).map (d :: ·)
  | _ => none
def lstN (os : List Opd) (ρ : Rho) : Rs Opd := match newsOf os with
  | some ds => if ds.length ≤ sizeLine then .ok (.nob (.lst (ds.map .own))) ρ else .fail
  | none => .fail
def eLstN (ma : MA) : ME := fun ρ => (ma ρ).bind lstN
inductive QA where
  | nm (j : Nat) | kid (k : Nat)
def ownsT : List T → Option (List D)
  | [] => some []
  | .own d :: ts => (ownsT ts).map (d :: ·)
  | _ => none
@[simp] theorem ownsT_map (ds : List D) : ownsT (ds.map .own) = some ds := by
  induction ds with
  | nil => rfl
  | cons d ds ih => rw [List.map_cons, ownsT, ih]; rfl
def QVal (σ : Sg) (vs : List V) : QA → V → Prop
  | .nm j, v => σ[j]? = some (some v)
  | .kid k, v => vs[k]? = some v
inductive QArg (X : Cx) (i : Nat) : Expr → QA → Prop
  | nm {e : Expr} {j : Nat} : PE X e (tVar j) → QArg X i e (.nm j)
  | kid {e f : Expr} {k : Nat} {pos : Pos} : PE X e (tVar i) → PE X f (tC (V.int k)) → PlainIx f → QArg X i (.Subscript e f pos) (.kid k)
section
variable {X : Cx} {W : WX} {pos : Pos}
theorem QArg.pe {i : Nat} {e : Expr} {q : QA} (h : QArg X i e q) : ∃ t, PE X e t ∧ ∀ (σ : Sg) (H : Hp) (Q : VK) (a : Addr) (vs : List V) (v : V), σ[i]? = some (some (.ref a)) → H a = some (.lst vs) → QVal σ vs q v → Q v H → t σ H Q := by
  cases h with
  | nm p => exact ⟨_, p, fun σ H Q a vs v _ _ hv hq => ⟨v, hv, hq⟩⟩
  | @kid e f k pos p p2 hp => exact ⟨_, pe_ix ix_seq p p2 hp, fun σ H Q a vs v h1 h2 hv hq => ⟨.ref a, h1, .inl ⟨a, vs, (k : Int), v, rfl, rfl, SqL.of h2, by
      have hl := (List.getElem?_eq_some_iff.mp hv).1
      unfold atI ixN
      rw [if_pos (by omega), if_pos (by omega)]
      rw [show (k : Int).toNat = k by omega]
      exact hv, hq⟩⟩⟩
end
def sUnp (i j : Nat) (m : ME) : MS := fun ρ => (m ρ).bind fun o ρ1 => match o with
  | .nob (.tup [.own d, .own e]) => if i ≠ j ∧ free ρ1 i = true ∧ free ρ1 j = true then .ok .nx ((ρ1.set i (.own d)).set j (.own e)) else .fail
  | _ => .fail
end Dl
set_option maxRecDepth 100000
set_option maxHeartbeats 4000000
namespace Dl
open PySem PySem.Spec L2 PyProof.Rows
set_option autoImplicit false
theorem Grow.trans {F0 H0 F1 H1 F2 H2 : Hp} (a : Grow F0 H0 F1 H1) (b : Grow F1 H1 F2 H2) : Grow F0 H0 F2 H2 := ⟨a.ext.trans b.ext, b.sub, fun x o h => b.keep x o (a.keep x o h), fun x o h f => b.fresh x o (a.keep x o h) (a.fresh x o h f)⟩
end Dl
set_option maxRecDepth 100000
set_option maxHeartbeats 4000000
namespace Dl
open PySem PySem.Spec L2
set_option autoImplicit false
def enD (ds : List D) : List D := ds.mapIdx fun i d => .tuple [.int (i : Nat), d]
def srcE (o : Opd) (ρ : Rho) : Rs Src := match o with
  | .val (.list ds) => .ok ⟨enD ds, none⟩ ρ
  | .new (.list ds) => .ok ⟨enD ds, none⟩ ρ
  | .loc j => (match ρ[j]? with
    | some (.dat (.list ds)) => .ok ⟨enD ds, none⟩ ρ
    | some (.lck (.list ds)) => .ok ⟨enD ds, some (j, .list ds)⟩ ρ
    | some (.own (.list ds)) => .ok ⟨enD ds, none⟩ (ρ.set j (.dat (.list ds)))
    | _ => .fail)
  | _ => .fail
def iEnM (m : ME) : MI := fun ρ => (m ρ).bind srcE
def ixD (ds : List D) (d : D) : Option Nat := ds.findIdx? fun z => PyData.eqv z d
def eIdx (a b : ME) : ME := fun ρ => (a ρ).bind fun x ρ1 => match x with
  | .val (.list ds) => (b ρ1).bind fun y ρ2 => (match deref ρ2 y with
    | some d => if SeqAt.shaped (.list ds) = true ∧ SeqAt.shaped d = true then (match ixD ds d with
      | some j => .ok (.val (.int (j : Nat))) ρ2
      | none => .fail) else .fail
    | none => .fail)
  | _ => .fail
def OkM (P : Program) (w : World) (K : PySem.W.Frag) (mg : Str → Option Value) (base : Heap) (k : Nat) (c m : Str) (ps : List Str) (sem : ME) : Prop :=
  ∃ fd, Binds K fd ps [] ∧ FnOk P w K mg base (L2.CX P w) k (He.fAd K (c, some m)) fd ps (spOf K ps.length sem)
theorem OkM.mono {P : Program} {w : World} {K : PySem.W.Frag} {mg : Str → Option Value} {base : Heap} {k j : Nat} {c m : Str} {ps : List Str} {sem : ME} (h : OkM P w K mg base k c m ps sem) (l : k ≤ j) : OkM P w K mg base j c m ps sem :=
  let ⟨fd, a, F⟩ := h; ⟨fd, a, F.mono l⟩
def getO (i : Nat) (k : Opd) (v : D) (ρ : Rho) : Rs Opd := match deref ρ k with
  | some κ => (match keyOf κ with
    | some κ => (match ρ[i]? with
      | some (.own (.dict ps)) => .ok (.val ((dlook ps κ).getD v)) ρ
      | some (.par (.dict ps)) => .ok (.val ((dlook ps κ).getD v)) ρ
      | _ => .fail)
    | none => .fail)
  | none => .fail
def eGet (i : Nat) (mk mv : ME) : ME := fun ρ => if isDct ρ i = true then (mk ρ).bind fun k ρ1 => (mv ρ1).bind fun v ρ2 => match useO ρ2 v with
  | some (d, ρ3) => getO i k d ρ3
  | none => .fail else .fail
def eMutD (i : Nat) (f : D → List D → Option (D × D)) (ma : MA) : ME := fun ρ => if isDct ρ i = true then (ma ρ).bind fun os ρ1 => mutO i f os ρ1 else .fail
end Dl
set_option maxRecDepth 100000
set_option maxHeartbeats 3200000
namespace Dl
open PySem PySem.Spec PyProof.Rows L2
set_option autoImplicit false
set_option maxHeartbeats 4000000
end Dl
set_option maxRecDepth 100000
set_option maxHeartbeats 4000000
namespace L2
open PySem PySem.Spec PyProof.Rows
end L2
namespace Dl
open PySem PySem.Spec PyProof.Rows L2
set_option autoImplicit false
set_option maxRecDepth 100000
set_option maxHeartbeats 3200000
end Dl
set_option maxRecDepth 100000
set_option maxHeartbeats 4000000
set_option autoImplicit false
namespace PySem.AutoSeq1
open SeqRoads2
end PySem.AutoSeq1
namespace Dl
open PySem PySem.Spec L2
end Dl
set_option maxRecDepth 100000
set_option maxHeartbeats 4000000
set_option maxRecDepth 100000
set_option maxHeartbeats 4000000
namespace Dl
open PySem PySem.Spec L2 LamX NdefX PyProof.Rows
set_option autoImplicit false
def keyM (m : ME) (d : D) : Option Int := match m [.dat d] with
  | .ok (.val (.int k)) _ => some k
  | _ => none
def keysM (m : ME) : List D → Option (List Int)
  | [] => some []
  | d :: ds => match keyM m d, keysM m ds with
    | some k, some ks => some (k :: ks)
    | _, _ => none
def permL {α : Type} (ks : List Int) (xs : List α) : List α := ((ks.zip xs).mergeSort fun p q => decide (p.1 ≤ q.1)).map (·.2)
def fSortK (m : ME) (d : D) : Option Opd := match d with
  | .list ds => if ds.length ≤ sizeLine then (keysM m ds).map fun ks => .new (.list (permL ks ds)) else none
  | _ => none
def eSortK (mk m : ME) : ME := eOp1 (fSortK mk) m
end Dl
set_option maxRecDepth 100000
set_option maxHeartbeats 4000000
namespace Dl
open PySem PySem.Spec L2 LamX NdefX
set_option autoImplicit false
/-- what it captured stands as it was said -/
structure CapAt (z : CloV) (outer : List Env) (s : Shared) (H : Hp) : Prop where
  cells : CellsAt z.cl z.k.fr (z.ws.map some) s.heap H
  out : ∀ y c, z.cl.lookup y = some c → c ∉ frs outer
/-- the promise of the function that z is -/
structure NOkM (P : Program) (w : World) (K : PySem.W.Frag) (mg : Str → Option Value) (base : Heap) (CX : CXT) (k : Nat) (z : CloV) (ps : List Str) (sp : List (Option V) → Sp) : Prop where
  len : ∀ ws vs H Q E, sp ws vs H Q E → vs.length = ps.length
  run : ∀ (A : Around) (outer : List Env) (s : Shared) (H : Hp) (us : List Value) (vs : List V) (ws : List (Option V)) (Q : VK) (E : XK), Room k A → Env0 P w K mg base A outer s H → H z.f = some z.mark → H z.c = some (CodeO z.c z.k.qual) →
    CellsAt z.cl z.k.fr ws s.heap H → Vals vs us → sp ws vs H Q E → codeAny (model P w) A (.call (.ref z.f) ⟨us, []⟩) (CR CX outer P w H s Q E) s
theorem NOkM.mono {P : Program} {w : World} {K : PySem.W.Frag} {mg : Str → Option Value} {base : Heap} {CX : CXT} {j k : Nat} {z : CloV} {ps : List Str} {sp : List (Option V) → Sp} (o : NOkM P w K mg base CX j z ps sp) (h : j ≤ k) : NOkM P w K mg base CX k z ps sp :=
  ⟨o.len, fun A outer s H us vs ws Q E hr => o.run A outer s H us vs ws Q E (hr.mono h)⟩
def spN (K : PySem.W.Frag) (nc : Nat) (m : ME) (ws : List (Option V)) : Sp := fun vs H Q E => vs.length = 1 ∧ ∃ vws : List V, ws = vws.map some ∧ vws.length = nc ∧ spOf K (1 + nc) m (vs ++ vws) H Q E
structure FnOkZ (P : Program) (w : World) (K : PySem.W.Frag) (mg : Str → Option Value) (base : Heap) (CX : CXT) (k : Nat) (f : Addr) (fd : FuncData) (ps : List Str) (z : CloV) (sp : Sp) : Prop where
  len : ∀ vs H Q E, sp vs H Q E → vs.length = ps.length
  run : ∀ (A : Around) (outer : List Env) (s : Shared) (H : Hp) (args : Args) (us : List Value) (vs : List V) (Q : VK) (E : XK), Room k A → Env0 P w K mg base A outer s H → CapAt z outer s H → BindsTo s fd args (ps.zip us) → Vals vs us → sp vs H Q E →
    codeAny (model P w) A (.call (.ref f) args) (CR CX outer P w H s Q E) s
theorem FnOkZ.mono {P : Program} {w : World} {K : PySem.W.Frag} {mg : Str → Option Value} {base : Heap} {CX : CXT} {j k : Nat} {f : Addr} {fd : FuncData} {ps : List Str} {z : CloV} {sp : Sp} (F : FnOkZ P w K mg base CX j f fd ps z sp) (h : j ≤ k) :
    FnOkZ P w K mg base CX k f fd ps z sp := ⟨F.len, fun A outer s H args us vs Q E hr => F.run A outer s H args us vs Q E (hr.mono h)⟩
section
variable {K : PySem.W.Frag} {F H F' H' : Hp} {σ : Sg} {ρ : Rho}
def CloV.at (z : CloV) (ws : List V) : CloV := { z with ws := ws }
end
end Dl
set_option maxRecDepth 100000
set_option maxHeartbeats 4000000
namespace Dl
open PySem PySem.Spec L2
set_option autoImplicit false
end Dl
namespace Dl
open PySem PySem.Spec L2 LamX NdefX
set_option autoImplicit false
def OkW (P : Program) (w : World) (K : PySem.W.Frag) (mg : Str → Option Value) (base : Heap) (k : Nat) (k0 : Clo) (name : Str) (ps : List Str) (sem : CloV → ME) : Prop :=
  ∃ fd, Binds K fd ps [] ∧ (∀ z : CloV, z.k = k0 → FnOkZ P w K mg base (L2.CX P w) k (He.ga K name) fd ps z (spOf K ps.length (sem z))) ∧ PySem.W.keepIn K (.ref (He.ga K name)) = true ∧ mg name = some (.ref (He.ga K name))
theorem OkW.mono {P : Program} {w : World} {K : PySem.W.Frag} {mg : Str → Option Value} {base : Heap} {k j : Nat} {k0 : Clo} {name : Str} {ps : List Str} {sem : CloV → ME} (h : OkW P w K mg base k k0 name ps sem) (l : k ≤ j) : OkW P w K mg base j k0 name ps sem :=
  let ⟨fd, a, F, b, c⟩ := h; ⟨fd, a, fun z hz => (F z hz).mono l, b, c⟩
/-- the function made in the law, its promise -/
def NkO (P : Program) (w : World) (K : PySem.W.Frag) (mg : Str → Option Value) (base : Heap) (k : Nat) (k0 : Clo) (ps : List Str) (m : ME) : Prop := ∀ z : CloV, z.k = k0 → NOkM P w K mg base (L2.CX P w) k z ps (spN K k0.fr.length m)
theorem NkO.mono {P : Program} {w : World} {K : PySem.W.Frag} {mg : Str → Option Value} {base : Heap} {k j : Nat} {k0 : Clo} {ps : List Str} {m : ME} (h : NkO P w K mg base k k0 ps m) (l : k ≤ j) : NkO P w K mg base j k0 ps m := fun z hz => (h z hz).mono l
end Dl
set_option maxRecDepth 100000
set_option maxHeartbeats 400000
namespace Dl
open PySem PySem.Spec L2
set_option autoImplicit false
set_option maxHeartbeats 1000000
set_option maxHeartbeats 400000
def HitI (F : List Se) (t : Se) : Prop := ∀ s ∈ F, ∃ x ∈ t, x ∈ s
def MinI (F : List Se) (t : Se) : Prop := Asc t ∧ HitI F t ∧ ∀ u, Asc u → (∀ x ∈ u, x ∈ t) → HitI F u → u = t
theorem MinI.same {F G : List Se} (h : ∀ t, HitI F t ↔ HitI G t) (t : Se) : MinI F t ↔ MinI G t := by
  unfold MinI
  rw [h]
  exact ⟨fun z => ⟨z.1, z.2.1, fun u h1 h2 h3 => z.2.2 u h1 h2 ((h u).mpr h3)⟩, fun z => ⟨z.1, z.2.1, fun u h1 h2 h3 => z.2.2 u h1 h2 ((h u).mp h3)⟩⟩
/-- sets over so many members -/
structure Over (U : Se) (F : List Se) : Prop where
  asc : ∀ s ∈ F, Asc s
  sub : ∀ s ∈ F, ∀ x ∈ s, x ∈ U
theorem Over.len {U : Se} {F : List Se} (o : Over U F) : ∀ s ∈ F, s.length ≤ U.length := fun s hs => (o.asc s hs).nd.length_le_of_subset fun x hx => o.sub s hs x hx
set_option maxHeartbeats 4000000
def stepN (i j c : Int) : Nat := (Builtin.Range.rangeSize i j c).toNat
def stepOk (i j c : Int) : Bool := decide (c ≠ 0) && decide (c.natAbs < 1073741824) && Builtin.Range.small i j c && decide (0 ≤ Builtin.Range.rangeSize i j c)
def srcR3 (os : List Opd) (ρ : Rho) : Rs Src := match derefs ρ os with
  | some [.int i, .int j, .int c] => if stepOk i j c = true then .ok ⟨(List.range (stepN i j c)).map fun k : Nat => .int (i + (k : Int) * c), none⟩ ρ else .fail
  | _ => .fail
def iRng3M (a : MA) : MI := fun ρ => (a ρ).bind srcR3
structure Rlk (a : Addr) (kvs : List (Key × V)) (F F' : Hp) : Prop where
  h : Rd F a (.dK kvs)
  h' : Rd F' a (.dK kvs)
  ne : ∀ b, b ≠ a → F' b = F b
section
variable {K : PySem.W.Frag} {a : Addr} {kvs : List (Key × V)} {F F' : Hp}
theorem Rlk.nn (L : Rlk a kvs F F') {b : Addr} (e : F b = none) : F' b = none ∧ b ≠ a := by
  have hb : b ≠ a := fun z => by
    subst z
    rcases L.h with h | ⟨o, h⟩ <;> (rw [h] at e; cases e)
  exact ⟨by rw [L.ne b hb]; exact e, hb⟩
theorem Rlk.keep (L : Rlk a kvs F F') {b : Addr} {u : HO} (e : F b = some u) (n1 : ∀ xs, u ≠ .dK xs) (n2 : ∀ o xs, u ≠ .frz o (.dK xs)) : F' b = some u := by
  have hb : b ≠ a := fun z => by
    subst z
    rcases L.h with h | ⟨o, h⟩
    · rw [h] at e; exact n1 _ (Option.some.inj e).symm
    · rw [h] at e; exact n2 _ _ (Option.some.inj e).symm
  rw [L.ne b hb]; exact e
theorem Rlk.rd (L : Rlk a kvs F F') {b : Addr} {xs : List (Key × V)} (e : Rd F b (.dK xs)) : Rd F' b (.dK xs) := by
  by_cases hb : b = a
  · subst hb
    have : xs = kvs := by
      rcases L.h with h | ⟨o, h⟩ <;> rcases e with e | ⟨o', e⟩ <;> (rw [h] at e; cases e) <;> rfl
    rw [this]
    exact L.h'
  · rcases e with e | ⟨o, e⟩
    · exact .inl (by rw [L.ne b hb]; exact e)
    · exact .inr ⟨o, by rw [L.ne b hb]; exact e⟩
mutual
theorem Rp.rlk (L : Rlk a kvs F F') : ∀ {v : V} {d : D}, Rp K F v d → Rp K F' v d
  | _, _, .non => .non
  | _, _, .bl b => .bl b
  | _, _, .int i => .int i
  | _, _, .str x => .str x
  | _, _, .lst h r => .lst (L.keep h (fun _ z => by cases z) (fun _ _ z => by cases z)) (RpA.rlk L r)
  | _, _, .tup h r => .tup (L.keep h (fun _ z => by cases z) (fun _ _ z => by cases z)) (RpA.rlk L r)
  | _, _, .dct h r => .dct (L.rd h) (RpD.rlk L r)
theorem RpA.rlk (L : Rlk a kvs F F') : ∀ {vs : List V} {ds : List D}, RpA K F vs ds → RpA K F' vs ds
  | _, _, .nil => .nil
  | _, _, .cons h r => .cons (Rp.rlk L h) (RpA.rlk L r)
theorem RpD.rlk (L : Rlk a kvs F F') : ∀ {vs : List (Key × V)} {ds : List (D × D)}, RpD K F vs ds → RpD K F' vs ds
  | _, _, .nil => .nil
  | _, _, .cons c h r => .cons c (Rp.rlk L h) (RpD.rlk L r)
end
variable {H : Hp}
theorem OwnAt.rlk (L : Rlk a kvs F F') {b : Addr} : ∀ {d : D}, OwnAt K F H b d → OwnAt K F' H b d
  | .list _, ⟨vs, h, r⟩ => ⟨vs, h, r.rlk L⟩
  | .dict _, ⟨vs, h, r⟩ => ⟨vs, h, r.rlk L⟩
theorem DtxAt.rlk (L : Rlk a kvs F F') {b : Addr} {w : World} {ps : List (D × D)} : DtxAt K F H b w ps → DtxAt K F' H b w ps := fun ⟨xs, h, n⟩ => ⟨xs, h, Paired.mapP n fun _ _ ⟨h1, h2, v, h3, h4⟩ => ⟨h1, h2.rlk L, v, h3, h4.rlk L⟩⟩
theorem DblAt.rlk (L : Rlk a kvs F F') {b : Addr} {ps : List (Bool × D)} : DblAt K F H b ps → DblAt K F' H b ps := fun ⟨xs, h, n⟩ => ⟨xs, h, Paired.mapP n fun _ _ ⟨h1, v, h3, h4⟩ => ⟨h1, v, h3, h4.rlk L⟩⟩
mutual
theorem TAt.rlk (L : Rlk a kvs F F') : ∀ {t : T} {v : V}, TAt K F H v t → TAt K F' H v t
  | .fr d, v, h => by unfold TAt at h ⊢; exact h.rlk L
  | .gone, v, h => by unfold TAt; trivial
  | .own d, v, h => by
    unfold TAt at h ⊢
    obtain ⟨b, e, f, o⟩ := h
    exact ⟨b, e, (L.nn f).1, o.rlk L⟩
  | .dtx w ps, v, h => by
    unfold TAt at h ⊢
    obtain ⟨b, e, f, o⟩ := h
    exact ⟨b, e, (L.nn f).1, o.rlk L⟩
  | .dbl ps, v, h => by
    unfold TAt at h ⊢
    obtain ⟨b, e, f, o⟩ := h
    exact ⟨b, e, (L.nn f).1, o.rlk L⟩
  | .tup ts, v, h => by
    unfold TAt at h ⊢
    obtain ⟨b, e, f, o, r⟩ := h
    exact ⟨b, e, (L.nn f).1, o, TAtL.rlk L r⟩
  | .lst ts, v, h => by
    unfold TAt at h ⊢
    obtain ⟨b, e, f, o, r⟩ := h
    exact ⟨b, e, (L.nn f).1, o, TAtL.rlk L r⟩
  | .ins c ns ts, v, h => by
    unfold TAt at h ⊢
    obtain ⟨b, dx, e, f, o, l, f2, o2, r⟩ := h
    exact ⟨b, dx, e, (L.nn f).1, o, l, (L.nn f2).1, o2, TAtL.rlk L r⟩
  | .slf c ns n, v, h => by
    unfold TAt at h ⊢
    obtain ⟨b, dx, e, f, o, l, f2, o2⟩ := h
    exact ⟨b, dx, e, (L.nn f).1, o, l, (L.nn f2).1, o2⟩
  | .clo z ts, v, h => by
    unfold TAt at h ⊢
    obtain ⟨e, f1, f2, r⟩ := h
    have mm := mark_mark z
    exact ⟨e, L.keep f1 (fun _ q => by rw [q] at mm; exact mm) (fun _ _ q => by rw [q] at mm; exact mm), L.keep f2 (fun _ z => by cases z) (fun _ _ z => by cases z), TAtL.rlk L r⟩
  | .fzi c ns ds, v, h => by
    unfold TAt at h ⊢
    obtain ⟨b, dx, vs, e, f, l, r⟩ := h
    exact ⟨b, dx, vs, e, L.keep f (fun _ z => by cases z) (fun _ _ z => by cases z), l, r.rlk L⟩
theorem TAtL.rlk (L : Rlk a kvs F F') : ∀ {ts : List T} {vs : List V}, TAtL K F H vs ts → TAtL K F' H vs ts
  | [], [], h => by unfold TAtL; trivial
  | [], _ :: _, h => by unfold TAtL at h; exact h.elim
  | _ :: _, [], h => by unfold TAtL at h; exact h.elim
  | t :: ts, v :: vs, h => by
    unfold TAtL at h ⊢
    exact ⟨TAt.rlk L h.1, TAtL.rlk L h.2⟩
end
theorem XIn.rlk (L : Rlk a kvs F F') {q : XRef} (h : XIn K F q) : XIn K F' q := h.imp id fun ⟨dd, vs, h1, h2, h3⟩ => ⟨dd, vs, h1, L.keep h2 (fun _ z => by cases z) (fun _ _ z => by cases z), h3.rlk L⟩
variable {σ : Sg} {ρ : Rho}
end
/-- the dict at a, locked by o -/
structure LkS (F H : Hp) (a : Addr) (kvs : List (Key × V)) (x : HO) (o : Obj) : Prop where
  hx : H a = some x
  hy : F a = some x
  xx : x = .dK kvs ∨ x = .frz o (.dK kvs)
section
variable {K : PySem.W.Frag} {F H : Hp} {a : Addr} {kvs : List (Key × V)} {x : HO} {o : Obj} {σ : Sg} {ρ : Rho}
theorem Sub.at {F H : Hp} (s : Sub F H) {a : Addr} {u : HO} (h : F a = some u) : H a = some u := by
  obtain ⟨r, t⟩ := s a u h
  rcases r with r | ⟨_, _, p, n⟩
  · exact r
  · subst n; exact t.elim
theorem LkS.rlk (S : LkS F H a kvs x o) : Rlk a kvs F (upd F a (.frz o (.dK kvs))) where
  h := by
    rcases S.xx with rfl | rfl
    · exact .inl S.hy
    · exact .inr ⟨o, S.hy⟩
  h' := .inr ⟨o, upd_same⟩
  ne := fun b hb => upd_ne hb
theorem LkS.nte (S : LkS F H a kvs x o) : ¬ isTE x := by
  rcases S.xx with rfl | rfl <;> exact fun z => z
theorem LkS.ntb (S : LkS F H a kvs x o) : ntb x := by
  rcases S.xx with rfl | rfl <;> trivial
/-- both heaps change alike at a -/
theorem sub_upd (s : Sub F H) (a : Addr) {u : HO} (t : Dl.ntb u) : Sub (upd F a u) (upd H a u) := fun b w e => by
  by_cases hb : b = a
  · subst hb
    rw [upd_same] at e; cases e
    exact ⟨.inl upd_same, t⟩
  · rw [upd_ne hb] at e
    exact ⟨.inl (by rw [upd_ne hb]; exact s.at e), (s b w e).2⟩
theorem Rel.relFH (R : Rel K F σ H ρ) {x u : HO} (L : Rlk a kvs F (upd F a u)) (hx : F a = some x) (nx : ¬ isTE x) (t : Dl.ntb u) : Rel K (upd F a u) σ (upd H a u) ρ ∧ ∀ b, Own (upd H a u) σ ρ b ↔ Own H σ ρ b := by
  have hf : F a ≠ none := by rw [hx]; exact fun z => nomatch z
  have hH : H a = some x := R.sub.at hx
  have same : ∀ b, Own H σ ρ b → (upd H a u) b = H b := fun b h => upd_ne fun z => hf (by subst z; exact (R.has h).1)
  refine ⟨⟨sub_upd R.sub a t, R.len, fun i d e => let ⟨v, h1, h2⟩ := R.dat i d e; ⟨v, h1, h2.rlk L⟩, fun i s d e m q => ?_, fun i j b h1 h2 => R.sep i j b ((R.mine same i b).mp h1) ((R.mine same j b).mp h2), fun i s t e q => ?_, fun i q e => ⟨(R.exc i q e).1, (R.exc i q e).2.rlk L⟩, tabs_upd (fun v hv => by rw [hH] at hv; cases hv; exact nx) R.tab, fun i t v e h => ?_⟩, fun b => R.owns same b⟩
  · obtain ⟨b, h1, h2, h3⟩ := R.own i s d e m q
    have : b ≠ a := by rintro rfl; exact hf h2
    exact ⟨b, h1, (L.nn h2).1, (h3.mono (Ext.refl _) fun u hu => by rw [upd_ne this]; exact hu).rlk L⟩
  · obtain ⟨v, h1, h2, h3, _⟩ := R.trees (F' := F) (H' := upd H a u) (Ext.refl _) e q fun b h => ⟨same b ⟨i, h⟩, id⟩
    exact ⟨v, h1, h2.rlk L, h3⟩
  · have := R.tieS (F' := F) (Ext.refl _) same i t v e h
    cases t <;> exact this
theorem LkS.into (S : LkS F H a kvs x o) (R : Rel K F σ H ρ) : Rel K (upd F a (.frz o (.dK kvs))) σ (upd H a (.frz o (.dK kvs))) ρ ∧ ∀ b, Own (upd H a (.frz o (.dK kvs))) σ ρ b ↔ Own H σ ρ b := R.relFH S.rlk S.hy S.nte trivial
theorem LkS.out (S : LkS F H a kvs x o) {F2 H2 : Hp} {σ2 : Sg} {ρ2 : Rho} (ex : Ext (upd F a (.frz o (.dK kvs))) F2) (R2 : Rel K F2 σ2 H2 ρ2) :
    F2 a = some (.frz o (.dK kvs)) ∧ H2 a = some (.frz o (.dK kvs)) ∧ Rlk a kvs F2 (upd F2 a x) ∧ Rel K (upd F2 a x) σ2 (upd H2 a x) ρ2 ∧ (∀ b, Own (upd H2 a x) σ2 ρ2 b ↔ Own H2 σ2 ρ2 b) ∧ Ext F (upd F2 a x) := by
  have f2 : F2 a = some (.frz o (.dK kvs)) := ex a _ upd_same
  have h2 : H2 a = some (.frz o (.dK kvs)) := R2.sub.at f2
  have L : Rlk a kvs F2 (upd F2 a x) := ⟨.inr ⟨o, f2⟩, by
    rcases S.xx with rfl | rfl
    · exact .inl upd_same
    · exact .inr ⟨o, upd_same⟩, fun b hb => upd_ne hb⟩
  obtain ⟨R3, ow⟩ := R2.relFH L f2 (fun z => z) S.ntb
  refine ⟨f2, h2, L, R3, ow, fun b u e => ?_⟩
  by_cases hb : b = a
  · subst hb
    rw [S.hy] at e; cases e
    exact upd_same
  · rw [upd_ne hb]
    exact ex b u (by rw [upd_ne hb]; exact e)
theorem LkS.keep (S : LkS F H a kvs x o) (R : Rel K F σ H ρ) {F2 H2 : Hp} {σ2 : Sg} {ρ2 : Rho} (fr : Fr (upd F a (.frz o (.dK kvs))) (upd H a (.frz o (.dK kvs))) σ ρ F2 H2 σ2 ρ2) (R2 : Rel K F2 σ2 H2 ρ2) : Fr F H σ ρ (upd F2 a x) (upd H2 a x) σ2 ρ2 := by
  obtain ⟨_, ow1⟩ := S.into R
  obtain ⟨_, _, _, R3, ow, ex⟩ := S.out fr.ext R2
  refine ⟨ex, fun b u h t f n => ?_⟩
  have hb : b ≠ a := by rintro rfl; rw [S.hy] at f; cases f
  obtain ⟨x1, x2, x3⟩ := fr.keep b u (by rw [upd_ne hb]; exact h) t (by rw [upd_ne hb]; exact f) fun q => n ((ow1 b).mp q)
  exact ⟨by rw [upd_ne hb]; exact x1, by rw [upd_ne hb]; exact x2, fun q => x3 ((ow b).mp q)⟩
end
end Dl
set_option maxRecDepth 100000
set_option maxHeartbeats 4000000
namespace Dl
open PySem PySem.Spec L2
set_option autoImplicit false
section
variable {K : PySem.W.Frag} {F H : Hp} {a : Addr} {kvs : List (Key × V)} {x : HO} {o : Obj} {σ : Sg} {ρ : Rho}
theorem LkS.kid (S : LkS F H a kvs x o) (R : Rel K F σ H ρ) {F2 H2 : Hp} {ρ2 : Rho} (st : Step (upd F a (.frz o (.dK kvs))) (upd H a (.frz o (.dK kvs))) σ ρ F2 H2 ρ2) (R2 : Rel K F2 σ H2 ρ2) : Kid H σ ρ (upd H2 a x) := by
  have k1 : Kid H σ ρ (upd H a (.frz o (.dK kvs))) := R.kid fun i b _ m => upd_ne fun z => by
    subst z
    have := (R.has ⟨i, m⟩).1
    rw [S.hy] at this; cases this
  obtain ⟨f2, _⟩ := S.out st.fr.ext R2
  have k2 : Kid H2 σ ρ2 (upd H2 a x) := R2.kid fun i b _ m => upd_ne fun z => by
    subst z
    have := (R2.has ⟨i, m⟩).1
    rw [f2] at this; cases this
  exact (k1.trans st.kid (Kp.refl ρ)).trans k2 st.kp
end
section
variable {X : Cx} {W : WX} {pos : Pos}
theorem PE.or {e : Expr} {t1 t2 : TE} (p1 : PE X e t1) (p2 : PE X e t2) : PE X e (fun σ H Q => t1 σ H Q ∨ t2 σ H Q) := ⟨fun pins s σ H Q I h => h.elim (p1.run pins s σ H Q I) (p2.run pins s σ H Q I)⟩
theorem PS.or {e : Stmt} {t1 t2 : TS} (p1 : PS X e t1) (p2 : PS X e t2) : PS X e (fun D σ H => t1 D σ H ∨ t2 D σ H) := ⟨fun pins s σ H D I h => h.elim (p1.run pins s σ H D I) (p2.run pins s σ H D I)⟩
end
mutual
def noDct : D → Bool
  | .dict _ => false
  | .list ds => noDctL ds
  | .tuple ds => noDctL ds
  | _ => true
def noDctL : List D → Bool
  | [] => true
  | d :: ds => noDct d && noDctL ds
end
section
variable {K : PySem.W.Frag} {F F' : Hp} {a : Addr}
mutual
theorem Rp.drop (h1 : ∀ b u, F b = some u → (∃ kvs, u = .dK kvs) ∨ F' b = some u) : ∀ {v : V} {d : D}, Rp K F v d → noDct d = true → Rp K F' v d
  | _, _, .non, _ => .non
  | _, _, .bl b, _ => .bl b
  | _, _, .int i, _ => .int i
  | _, _, .str x, _ => .str x
  | _, _, .lst h r, n => .lst ((h1 _ _ h).resolve_left fun ⟨_, z⟩ => nomatch z) (RpA.drop' h1 r (by unfold noDct at n; exact n))
  | _, _, .tup h r, n => .tup ((h1 _ _ h).resolve_left fun ⟨_, z⟩ => nomatch z) (RpA.drop' h1 r (by unfold noDct at n; exact n))
  | _, _, .dct h r, n => by unfold noDct at n; cases n
theorem RpA.drop' (h1 : ∀ b u, F b = some u → (∃ kvs, u = .dK kvs) ∨ F' b = some u) : ∀ {vs : List V} {ds : List D}, RpA K F vs ds → noDctL ds = true → RpA K F' vs ds
  | _, _, .nil, _ => .nil
  | _, _, .cons h r, n => by
    unfold noDctL at n
    rw [Bool.and_eq_true] at n
    exact .cons (Rp.drop h1 h n.1) (RpA.drop' h1 r n.2)
end
end
def treesOf : List Opd → Option (List T)
  | [] => some []
  | .val d :: os => (treesOf os).map (.fr d :: ·)
  | .new d :: os => (treesOf os).map (.own d :: ·)
  | .nob t :: os => (treesOf os).map (t :: ·)
  | _ => none
def tupN (os : List Opd) (ρ : Rho) : Rs Opd := match treesOf os with
  | some ts => if ts.length ≤ sizeLine then .ok (.nob (.tup ts)) ρ else .fail
  | none => .fail
/-- (e, ..), new objects stay alone -/
def eTupN (ma : MA) : ME := fun ρ => (ma ρ).bind tupN
def lstT (os : List Opd) (ρ : Rho) : Rs Opd := match treesOf os with
  | some ts => if ts.length ≤ sizeLine then .ok (.nob (.lst ts)) ρ else .fail
  | none => .fail
/-- [e, ..], new objects stay alone -/
def eLstT (ma : MA) : ME := fun ρ => (ma ρ).bind lstT
def treeN : Opd → Option T
  | .val d => some (.fr d)
  | .new d => some (.own d)
  | .nob t => some t
  | _ => none
def kidPutP (i n : Nat) (o : Opd) (ρ1 : Rho) : Rs Flow := match treeN o with
  | some t => (match ρ1[i]? with
    | some (.obj (.lst ts)) => if n < ts.length then .ok .nx (ρ1.set i (.obj (.lst (ts.set n t)))) else .fail
    | _ => .fail)
  | none => .fail
def sKidPut (i n : Nat) (me : ME) : MS := fun ρ => (me ρ).bind fun o ρ1 => kidPutP i n o ρ1
def takeP (i j : Nat) (o : Opd) (ρ : Rho) : Rs Flow := match deref ρ o, ρ[j]? with
  | some (.int n), some (.obj (.lst ts)) => if 0 ≤ n ∧ i ≠ j ∧ free (ρ.set j .un) i = true then (match ts[n.toNat]? with
    | some (.own d) => .ok .nx ((ρ.set j .un).set i (.own d))
    | _ => .fail) else .fail
  | _, _ => .fail
def sTake (i j : Nat) (me : ME) : MS := fun ρ => match ρ[j]? with
  | some (.obj (.lst _)) => (me ρ).bind fun o ρ1 => takeP i j o ρ1
  | _ => .fail
end Dl
set_option maxRecDepth 100000
set_option maxHeartbeats 0
namespace G
open PySem PySem.Spec PyProof.Rows L2 Dl
set_option autoImplicit false
def top (i : Nat) : Stmt := PySem.Challenge.pw_truceroll_k13_holds.main.body.getD i (.Pass ⟨0, 0, 0, 0⟩)
abbrev s_all_names_in : Stmt := top 4
def d_all_names_in : He.DefD := ⟨("all_names_in", none), "all_names_in", "all_names_in", defArgs s_all_names_in, defBody s_all_names_in, defScope s_all_names_in, [], []⟩
abbrev s_names_of : Stmt := top 5
def d_names_of : He.DefD := ⟨("names_of", none), "names_of", "names_of", defArgs s_names_of, defBody s_names_of, defScope s_names_of, [], []⟩
abbrev s_holds_under : Stmt := top 7
def d_holds_under : He.DefD := ⟨("holds_under", none), "holds_under", "holds_under", defArgs s_holds_under, defBody s_holds_under, defScope s_holds_under, [], []⟩
abbrev s_holds : Stmt := top 8
def d_holds : He.DefD := ⟨("holds", none), "holds", "holds", defArgs s_holds, defBody s_holds, defScope s_holds, [], []⟩
abbrev s__law_hand : Stmt := top 10
def d__law_hand : He.DefD := ⟨("_law_hand", none), "_law_hand", "_law_hand", defArgs s__law_hand, defBody s__law_hand, defScope s__law_hand, [], []⟩
abbrev s__law_next : Stmt := top 11
def d__law_next : He.DefD := ⟨("_law_next", none), "_law_next", "_law_next", defArgs s__law_next, defBody s__law_next, defScope s__law_next, [], []⟩
abbrev s__law_take : Stmt := top 12
def d__law_take : He.DefD := ⟨("_law_take", none), "_law_take", "_law_take", defArgs s__law_take, defBody s__law_take, defScope s__law_take, [], []⟩
abbrev s__law_draw : Stmt := top 13
def d__law_draw : He.DefD := ⟨("_law_draw", none), "_law_draw", "_law_draw", defArgs s__law_draw, defBody s__law_draw, defScope s__law_draw, [], []⟩
abbrev s__law_names : Stmt := top 14
def d__law_names : He.DefD := ⟨("_law_names", none), "_law_names", "_law_names", defArgs s__law_names, defBody s__law_names, defScope s__law_names, [], []⟩
abbrev s__law_rule : Stmt := top 15
def d__law_rule : He.DefD := ⟨("_law_rule", none), "_law_rule", "_law_rule", defArgs s__law_rule, defBody s__law_rule, defScope s__law_rule, [], []⟩
abbrev s__law_holds : Stmt := top 16
def d__law_holds : He.DefD := ⟨("_law_holds", none), "_law_holds", "_law_holds", defArgs s__law_holds, defBody s__law_holds, defScope s__law_holds, [], []⟩
abbrev s__law_names_of : Stmt := top 17
def d__law_names_of : He.DefD := ⟨("_law_names_of", none), "_law_names_of", "_law_names_of", defArgs s__law_names_of, defBody s__law_names_of, defScope s__law_names_of, [], []⟩
abbrev s__law_all_facts : Stmt := top 18
def d__law_all_facts : He.DefD := ⟨("_law_all_facts", none), "_law_all_facts", "_law_all_facts", defArgs s__law_all_facts, defBody s__law_all_facts, defScope s__law_all_facts, [], []⟩
abbrev s__law_right : Stmt := top 19
def d__law_right : He.DefD := ⟨("_law_right", none), "_law_right", "_law_right", defArgs s__law_right, defBody s__law_right, defScope s__law_right, [], []⟩
abbrev s__law_behind : Stmt := top 20
def d__law_behind : He.DefD := ⟨("_law_behind", none), "_law_behind", "_law_behind", defArgs s__law_behind, defBody s__law_behind, defScope s__law_behind, [], []⟩
abbrev s_law : Stmt := top 21
def d_law : He.DefD := ⟨("law", none), "law", "law", defArgs s_law, defBody s_law, defScope s_law, [], []⟩
def fn : List He.DefD := [d_all_names_in, d_names_of, d_holds_under, d_holds, d__law_hand, d__law_next, d__law_take, d__law_draw, d__law_names, d__law_rule, d__law_holds, d__law_names_of, d__law_all_facts, d__law_right, d__law_behind, d_law]
def fx : List Fx := []
def fa : List He.Fa := [.glo "all_names_in", .glo "names_of", .glo "holds_under", .glo "holds", .glo "_law_hand", .glo "_law_next", .glo "_law_take", .glo "_law_draw", .glo "_law_names", .glo "_law_rule", .glo "_law_holds", .glo "_law_names_of", .glo "_law_all_facts", .glo "_law_right", .glo "_law_behind", .glo "law", .free "sorted", .free "abs", .free "len", .free "range", .free "dict", .free "bool", .free "isinstance", .free "min", .free "list"]
def lf : List Str := []
abbrev R : PySem.W.OpenRow := PySem.W.OpenLaw.row PySem.Challenge.rw_truceroll_k13_holds
abbrev hk : PySem.W.Hook := hookX 4 fa fn lf fx
def ob (s : PySem.W.SharedT) : He.AlD × Bool := obsX 4 fa fn lf fx (HandSHeadRun.getT s)
theorem ob_eq (s : PySem.W.SharedT) : ob s = hk.obs s.abs := obsX_eq (HandSHeadRun.getT_eq s)
abbrev loose : List Str := ["TruceError", "NoFact", "all_names_in", "names_of", "holds_under", "holds", "_law_hand", "_law_next", "_law_take", "_law_draw", "_law_names", "_law_rule", "_law_holds", "_law_names_of", "_law_all_facts", "_law_right", "_law_behind"]
theorem run (w : World) : HandSHeadRun.RunEq R (PySem.W.view R.prog [21]) hk ob 6000 loose w := by
  intro os
  kernel_rfl
end G
set_option maxRecDepth 100000
set_option maxHeartbeats 400000
namespace G
open PySem PySem.Spec L2 Dl
set_option autoImplicit false
/-- facts that hold all of a rule's names -/
structure Gf (r : Ru) (n : Nat) (f : Li) : Prop where
  has : ∀ s ∈ r.names, (look f s).isSome
  nd : (f.map (·.1)).Nodup
  len : f.length ≤ n
theorem Gf.mono {r : Ru} {n m : Nat} {f : Li} (h : Gf r n f) (hm : n ≤ m) : Gf r m f := ⟨h.has, h.nd, Nat.le_trans h.len hm⟩
end G
set_option Elab.async false
set_option linter.all false
set_option maxRecDepth 100000
set_option maxHeartbeats 4000000
namespace Dl
open PySem PySem.Spec L2
set_option autoImplicit false
theorem RpA.get {K : PySem.W.Frag} {F : Hp} : ∀ {vs : List V} {ds : List D} {i : Nat} {d : D}, RpA K F vs ds → ds[i]? = some d → ∃ v, vs[i]? = some v ∧ Rp K F v d
  | _, _, _, _, .nil, h => by simp at h
  | _, _, 0, _, .cons h _, e => by simp at e; subst e; exact ⟨_, rfl, h⟩
  | _, _, i + 1, _, .cons _ r, e => by
    obtain ⟨v, h1, h2⟩ := RpA.get (i := i) r (by simpa using e)
    exact ⟨v, by simpa using h1, h2⟩
theorem RpA.getv {K : PySem.W.Frag} {F : Hp} : ∀ {vs : List V} {ds : List D} {i : Nat} {v : V}, RpA K F vs ds → vs[i]? = some v → ∃ d, ds[i]? = some d ∧ Rp K F v d
  | _, _, _, _, .nil, h => by simp at h
  | _, _, 0, _, .cons h _, e => by simp at e; subst e; exact ⟨_, rfl, h⟩
  | _, _, i + 1, _, .cons _ r, e => by
    obtain ⟨v, h1, h2⟩ := RpA.getv (i := i) r (by simpa using e)
    exact ⟨v, by simpa using h1, h2⟩
theorem RpA.append {K : PySem.W.Frag} {F : Hp} : ∀ {vs ws : List V} {ds es : List D}, RpA K F vs ds → RpA K F ws es → RpA K F (vs ++ ws) (ds ++ es)
  | _, _, _, _, .nil, s => s
  | _, _, _, _, .cons h r, s => .cons h (RpA.append r s)
theorem RpA.reverse {K : PySem.W.Frag} {F : Hp} : ∀ {vs : List V} {ds : List D}, RpA K F vs ds → RpA K F vs.reverse ds.reverse
  | _, _, .nil => .nil
  | _, _, .cons h r => by rw [List.reverse_cons, List.reverse_cons]; exact RpA.append (RpA.reverse r) (.cons h .nil)
theorem tabs_ext {T : List (Addr × Str)} {H H' : Hp} (e : ∀ b o, H b = some o → H' b = some o) (t : LamX.Tabs T H) : LamX.Tabs T H' := tabs_keep (fun b o h _ => e b o h) t
theorem nt.tb {o : HO} (h : nt o) : ntb o := by cases o <;> first | trivial | exact h
theorem OwnAt.notTE {K : PySem.W.Frag} {F H : Hp} {a : Addr} : ∀ {d : D}, OwnAt K F H a d → ∀ u, H a = Option.some u → ¬ isTE u
  | .list _, ⟨_, h, _⟩, u, e => by rw [h] at e; cases e; exact fun z => z
  | .dict _, ⟨_, h, _⟩, u, e => by rw [h] at e; cases e; exact fun z => z
/-- a slot changes to one that does not keep its object -/
theorem Rel.tie_set {K : PySem.W.Frag} {F F' H H' : Hp} {σ : Sg} {ρ : Rho} (R : Rel K F σ H ρ) {i : Nat} {s : Slot} (hs : s.fixed = false) (ex : Ext F F') (k : ∀ j a, j ≠ i → Mine H σ ρ j a → H' a = H a) (σ' : Sg) (hσ : ∀ j, j ≠ i → σ'[j]? = σ[j]?) : Tie F' H' σ' (ρ.set i s) := by
  have at_ : ∀ (j : Nat) (u : Slot), (ρ.set i s)[j]? = some u → u.fixed = true → j ≠ i ∧ ρ[j]? = some u := fun j u e f => by
    by_cases hj : j = i
    · subst hj
      by_cases hl : j < ρ.length
      · rw [List.getElem?_set_self hl] at e; cases e; rw [hs] at f; cases f
      · rw [List.getElem?_eq_none (by simpa using hl)] at e; cases e
    · rw [List.getElem?_set_ne (Ne.symm hj)] at e; exact ⟨hj, e⟩
  refine Tie.keep R.tie ex (fun j t v e h q => ?_) fun j u x e f h => ?_
  · obtain ⟨hj, e'⟩ := at_ j _ e rfl
    rw [hσ j hj] at h
    exact ⟨e', h, fun ⟨c, ns, n, z⟩ => by subst z; exact R.kids e' h fun a m => k j a hj m⟩
  · obtain ⟨hj, e'⟩ := at_ j u e f
    rw [hσ j hj] at h
    exact ⟨u, e', f, h⟩
theorem KpS.fix {s s' : Slot} (k : KpS s s') (f : s'.fixed = true) : s.fixed = true := by
  cases s <;> cases s' <;> first | rfl | (cases f; done) | exact False.elim k
theorem Fr.refl {F H : Hp} {σ : Sg} {ρ : Rho} : Fr F H σ ρ F H σ ρ := ⟨Ext.refl _, fun _ _ h _ f n => ⟨h, f, n⟩⟩
theorem Kid.refl {H : Hp} {σ : Sg} {ρ : Rho} : Kid H σ ρ H := fun _ _ _ _ _ _ _ => rfl
theorem Step.refl {F H : Hp} {σ : Sg} {ρ : Rho} : Step F H σ ρ F H ρ := ⟨Fr.refl, Kp.refl _, Kid.refl⟩
section
variable (K : PySem.W.Frag) (W : WX)
end
section
variable {K : PySem.W.Frag} {W : WX} {F H F1 H1 : Hp} {σ : Sg} {ρ ρ1 : Rho}
end
def DT (X : Cx) (W : WX) (e : Expr) (m : MT) : Prop := ∃ t, PT X e t ∧ ∀ F σ H ρ Q, Rel X.K F σ H ρ → TPost X.K W F H σ ρ Q (m ρ) → t σ H Q
def DA (X : Cx) (W : WX) (es : List Expr) (m : MA) : Prop := ∃ t, PA X es t ∧ ∀ F σ H ρ Q, Rel X.K F σ H ρ → APost X.K W F H σ ρ Q (m ρ) → t σ H Q
section
variable {X : Cx} {W : WX}
theorem de_int {i j pos} : DE X W (.Constant (.int i) j pos) (eC (.int i)) := ⟨_, pe_int, fun F σ H ρ Q R h => h (.int i) F H Step.refl R (.int i) (fun z => nomatch z)⟩
theorem de_bl {b j pos} : DE X W (.Constant (.bool b) j pos) (eC (.bool b)) := ⟨_, pe_bl, fun F σ H ρ Q R h => h (.bl b) F H Step.refl R (.bl b) (fun z => nomatch z)⟩
theorem de_str {x j pos} : DE X W (.Constant (.str x) j pos) (eC (.str x)) := ⟨_, pe_str, fun F σ H ρ Q R h => h (.str x) F H Step.refl R (.str x) (fun z => nomatch z)⟩
theorem de_var {i : Nat} {x : Str} {pos : Pos} (hp : PE X (.Name x pos) (tVar i)) : DE X W (.Name x pos) (eVar i) := by
  refine ⟨_, hp, fun F σ H ρ Q R h => ?_⟩
  have mine : ∀ (s : Slot) (d : D), ρ[i]? = some s → s.mine = true → s.data? = some d → (∀ v F' H', Step F H σ ρ F' H' ρ → Rel X.K F' σ H' ρ → RO X.K F' H' σ ρ v (.loc i) → NewSep H' F H σ ρ v (.loc i) → Q v H') → tVar i σ H Q := fun s d e m q k => by
    obtain ⟨a, h1, h2, h3⟩ := R.own i s d e m q
    exact ⟨_, h1, k _ F H Step.refl R ⟨h1, s, d, e, q⟩ (fun z => nomatch z)⟩
  unfold eVar at h
  cases e : ρ[i]? with
  | none => rw [e] at h; exact False.elim h
  | some s =>
    rw [e] at h
    cases s with
    | un => exact False.elim h
    | dat d =>
      obtain ⟨v, h1, h2⟩ := R.dat i d e
      exact ⟨v, h1, h v F H Step.refl R h2 (fun z => nomatch z)⟩
    | own d => exact mine _ d e rfl rfl h
    | par d => exact mine _ d e rfl rfl h
    | lck d => exact mine _ d e rfl rfl h
    | obj t =>
      obtain ⟨w, h1, _⟩ := R.obj i _ t e rfl
      exact ⟨_, h1, h w F H Step.refl R ⟨h1, _, e, rfl⟩ (fun z => nomatch z)⟩
    | opa t =>
      obtain ⟨w, h1, ta, _⟩ := R.obj i _ t e rfl
      cases t with
      | fr d =>
        unfold TAt at ta
        exact ⟨_, h1, h w F H Step.refl R ta (fun z => nomatch z)⟩
      | _ => exact ⟨_, h1, h w F H Step.refl R ⟨h1, _, e, rfl⟩ (fun z => nomatch z)⟩
    | exc a => exact False.elim h
theorem Grow.rel {K : PySem.W.Frag} {F H F' H' : Hp} {σ : Sg} {ρ : Rho} (g : Grow F H F' H') (R : Rel K F σ H ρ) : Rel K F' σ H' ρ :=
  ⟨g.sub, R.len, fun i d e => let ⟨v, h, r⟩ := R.dat i d e; ⟨v, h, r.mono g.ext⟩, fun i s d e m q => by
    obtain ⟨a, h, f, o⟩ := R.own i s d e m q
    obtain ⟨u, hu, _⟩ := o.some
    exact ⟨a, h, g.fresh a u hu f, o.mono g.ext (g.keep a)⟩, fun i j a h1 h2 => R.sep i j a ((R.mine (g.same R) i a).mp h1) ((R.mine (g.same R) j a).mp h2), fun i s t e q => by
    obtain ⟨v, h1, h2, h3, _⟩ := R.trees (F' := F') (H' := H') g.ext e q fun a h => ⟨g.same R a ⟨i, h⟩, fun f => by
      obtain ⟨_, o, ho, _⟩ := R.has ⟨i, h⟩
      exact g.fresh a o ho f⟩
    exact ⟨v, h1, h2, h3⟩, fun i q e => ⟨(R.exc i q e).1, (R.exc i q e).2.mono g.ext⟩, tabs_ext g.keep R.tab, R.tieS g.ext (g.same R)⟩
theorem RN.ro {K : PySem.W.Frag} {F H F' H' : Hp} {σ : Sg} {ρ : Rho} {v : V} (R : Rel K F σ H ρ) (same : ∀ a, Own H σ ρ a → H' a = H a) : ∀ {o : Opd}, RN K H F' H' v o → RO K F' H' σ ρ v o ∧ NewSep H' F H σ ρ v o
  | .val d, h => ⟨h, fun z => nomatch z⟩
  | .new d, ⟨a, e, h0, f, h⟩ => ⟨⟨a, e, f, h, fun z => by
      obtain ⟨_, u, hu, _⟩ := R.has ((R.owns same a).mp z)
      rw [h0] at hu; cases hu⟩, fun _ b e1 u hb _ _ => by
      have e1 := mem_refs.mp e1
      rw [e] at e1; cases e1
      rw [h0] at hb; cases hb⟩
/-- the reading r does what f says -/
def Snd2 (K : PySem.W.Frag) (r : R2) (f : D → D → Option Opd) : Prop := ∀ F H v w d e o Q, Sub F H → Ct K F H v d → Ct K F H w e → f d e = some o → (∀ u F' H', Grow F H F' H' → RN K H F' H' u o → Q u H') → r v w H Q
theorem op2_ok {r : R2} {f : D → D → Option Opd} {a b : ME} {ta tb : TE} (hs : Snd2 X.K r f) (ha : ∀ F σ H ρ Q, Rel X.K F σ H ρ → EPost X.K W F H σ ρ Q (a ρ) → ta σ H Q) (hb : ∀ F σ H ρ Q, Rel X.K F σ H ρ → EPost X.K W F H σ ρ Q (b ρ) → tb σ H Q) :
    ∀ F σ H ρ Q, Rel X.K F σ H ρ → EPost X.K W F H σ ρ Q (eOp2 f a b ρ) → tOp r ta tb σ H Q := by
  intro F σ H ρ Q R h
  refine ha F σ H ρ _ R ?_
  unfold eOp2 at h
  cases ea : a ρ with
  | fail => rw [ea] at h; exact h
  | ex x ρ' => rw [ea] at h; exact h
  | ok x ρ1 =>
    rw [ea] at h
    intro v F1 H1 s1 R1 ro1 ns1
    refine hb F1 σ H1 ρ1 _ R1 ?_
    have h1 := EPost.step s1 h
    dsimp only [Rs.bind] at h1
    cases eb : b ρ1 with
    | fail => rw [eb] at h1; exact h1
    | ex x ρ' => rw [eb] at h1; exact h1
    | ok y ρ2 =>
      rw [eb] at h1
      intro w F2 H2 s2 R2' ro2 ns2
      have h2 := EPost.step s2 h1
      have ro1' := ro1.step s2
      unfold run2 at h2
      dsimp only at h2
      cases dx : deref ρ2 x with
      | none => rw [dx] at h2; exact False.elim h2
      | some d =>
        cases dy : deref ρ2 y with
        | none => rw [dx, dy] at h2; exact False.elim h2
        | some e =>
          rw [dx, dy] at h2
          dsimp only at h2
          cases ef : f d e with
          | none => rw [ef] at h2; exact False.elim h2
          | some o =>
            rw [ef] at h2
            refine hs F2 H2 v w d e o Q R2'.sub (ro1'.ct R2' dx) (ro2.ct R2' dy) ef fun u F' H' g rn => ?_
            obtain ⟨q1, q2⟩ := rn.ro R2' (g.same R2')
            exact h2 u F' H' (g.step R2') (g.rel R2') q1 q2
theorem de_op {e1 e2 : Expr} {op : Operator} {r : R2} {f : D → D → Option Opd} {a b : ME} {pos : Pos} (ho : OpR X (binaryOp op) r) (hs : Snd2 X.K r f) (ha : DE X W e1 a) (hb : DE X W e2 b) : DE X W (.BinOp e1 op e2 pos) (eOp2 f a b) := by
  obtain ⟨ta, pa, qa⟩ := ha
  obtain ⟨tb, pb, qb⟩ := hb
  exact ⟨_, pe_op ho pa pb, op2_ok hs qa qb⟩
theorem de_cmp {e1 e2 : Expr} {op : CmpOp} {r : R2} {f : D → D → Option Opd} {a b : ME} {pos : Pos} (ho : OpR X (compareOp op) r) (hs : Snd2 X.K r f) (ha : DE X W e1 a) (hb : DE X W e2 b) (hm : behindInMarks op e2 = false) : DE X W (.Compare e1 [op] [e2] pos) (eOp2 f a b) := by
  obtain ⟨ta, pa, qa⟩ := ha
  obtain ⟨tb, pb, qb⟩ := hb
  exact ⟨_, pe_cmpR ho pa pb hm, op2_ok hs qa qb⟩
end
theorem StepS.refl {F H : Hp} {σ : Sg} {ρ : Rho} : StepS F H σ ρ F H σ ρ := Step.refl.s
section
variable (K : PySem.W.Frag) (W : WX)
end
section
variable {K : PySem.W.Frag} {W : WX} {F H F1 H1 : Hp} {σ σ1 : Sg} {ρ ρ1 : Rho}
end
section
variable {K : PySem.W.Frag} {W : WX} {F H : Hp} {σ : Sg} {ρ : Rho}
theorem bindET {Q : Bool → Hp → Prop} {Q' : VK} {r : Rs (Opd)} {f : Opd → Rho → Rs (Bool)} (h : TPost K W F H σ ρ Q (r.bind f)) (k : ∀ o ρ1 v F1 H1, Step F H σ ρ F1 H1 ρ1 → Rel K F1 σ H1 ρ1 → RO K F1 H1 σ ρ1 v o → NewSep H1 F H σ ρ v o → TPost K W F1 H1 σ ρ1 Q (f o ρ1) → Q' v H1) : EPost K W F H σ ρ Q' r := by
  cases r with
  | fail => exact h
  | ex x ρ' => exact h
  | ok o ρ1 => exact fun v F1 H1 s1 R1 ro ns => k o ρ1 v F1 H1 s1 R1 ro ns (TPost.step s1 h)
theorem bindTT {Q : Bool → Hp → Prop} {Q' : Bool → Hp → Prop} {r : Rs (Bool)} {f : Bool → Rho → Rs (Bool)} (h : TPost K W F H σ ρ Q (r.bind f)) (k : ∀ o ρ1 F1 H1, Step F H σ ρ F1 H1 ρ1 → Rel K F1 σ H1 ρ1 → TPost K W F1 H1 σ ρ1 Q (f o ρ1) → Q' o H1) : TPost K W F H σ ρ Q' r := by
  cases r with
  | fail => exact h
  | ex x ρ' => exact h
  | ok o ρ1 => exact fun F1 H1 s1 R1 => k o ρ1 F1 H1 s1 R1 (TPost.step s1 h)
theorem bindTS {Q : Ends} {Q' : Bool → Hp → Prop} {r : Rs (Bool)} {f : Bool → Rho → Rs (Flow)} (h : SPost K W F H σ ρ Q (r.bind f)) (k : ∀ o ρ1 F1 H1, Step F H σ ρ F1 H1 ρ1 → Rel K F1 σ H1 ρ1 → SPost K W F1 H1 σ ρ1 Q (f o ρ1) → Q' o H1) : TPost K W F H σ ρ Q' r := by
  cases r with
  | fail => exact h
  | ex x ρ' => exact XPostS.x h
  | ok o ρ1 => exact fun F1 H1 s1 R1 => k o ρ1 F1 H1 s1 R1 (SPost.step s1.s h)
end
def DW (X : Cx) (W : WX) (e : Expr) (m : MT) : Prop := ∃ t, PW X e t ∧ ∀ F σ H ρ Q, Rel X.K F σ H ρ → TPost X.K W F H σ ρ Q (m ρ) → t σ H Q
section
variable {X : Cx} {W : WX} {a b : Expr} {rest : List Expr} {pos : Pos}
theorem DW.t {e : Expr} {m : MT} (h : DW X W e m) : DT X W e m := let ⟨t, p, q⟩ := h; ⟨t, p.pt, q⟩
theorem boolOf_ok {F H : Hp} {σ : Sg} {ρ : Rho} {v : V} {o : Opd} {Q : Bool → Hp → Prop} (R : Rel X.K F σ H ρ) (ro : RO X.K F H σ ρ v o) (h : TPost X.K W F H σ ρ Q (boolOf ρ o)) : ∃ b, v = .bl b ∧ Q b H := by
  unfold boolOf at h
  cases e : deref ρ o with
  | none => rw [e] at h; exact False.elim h
  | some d =>
    rw [e] at h
    cases d with
    | bool b => exact ⟨b, (ro.ct R e).bool, h F H Step.refl R⟩
    | none => exact False.elim h
    | int i => exact False.elim h
    | str i => exact False.elim h
    | list i => exact False.elim h
    | tuple i => exact False.elim h
    | dict i => exact False.elim h
theorem dt_val {e : Expr} {m : ME} (h : DE X W e m) (he : ∀ whole, isTrue e X.env whole = (do let v ← whole; standAt e.pos; holding [v] (truthy v)) := by intro _; rfl) : DT X W e (tVal m) := by
  obtain ⟨t, p, q⟩ := h
  refine ⟨_, pt_val p he, fun F σ H ρ Q R h => ?_⟩
  exact q F σ H ρ _ R (bindET h fun o ρ1 v F1 H1 s1 R1 ro ns hp => boolOf_ok R1 ro hp)
theorem dt_cmp {e1 e2 : Expr} {op : CmpOp} {r : R2} {f : D → D → Option Opd} {a b : ME} {pos : Pos} (ho : OpR X (compareOp op) r) (hs : Snd2 X.K r f) (ha : DE X W e1 a) (hb : DE X W e2 b) (hm : behindInMarks op e2 = false) : DT X W (.Compare e1 [op] [e2] pos) (tVal (eOp2 f a b)) := by
  obtain ⟨ta, pa, qa⟩ := ha
  obtain ⟨tb, pb, qb⟩ := hb
  refine ⟨_, pt_cmpR ho pa pb hm, fun F σ H ρ Q R h => ?_⟩
  refine op2_ok hs qa qb F σ H ρ _ R ?_
  exact bindET h fun o ρ1 v F1 H1 s1 R1 ro ns hp => boolOf_ok R1 ro hp
theorem dw_and1 {m : MT} (h : DT X W a m) : DW X W (.BoolOp .And [a] pos) m := let ⟨t, p, q⟩ := h; ⟨t, pw_and1 p, q⟩
theorem dw_or1 {m : MT} (h : DT X W a m) : DW X W (.BoolOp .Or [a] pos) m := let ⟨t, p, q⟩ := h; ⟨t, pw_or1 p, q⟩
theorem dw_and {m n : MT} (ha : DT X W a m) (hb : DW X W (.BoolOp .And (b :: rest) pos) n) : DW X W (.BoolOp .And (a :: b :: rest) pos) (tAndM m n) := by
  obtain ⟨t, p, q⟩ := ha
  obtain ⟨u, p2, q2⟩ := hb
  refine ⟨_, pw_and p p2, fun F σ H ρ Q R h => q F σ H ρ _ R (bindTT h fun x ρ1 F1 H1 s1 R1 hp => ?_)⟩
  cases x with
  | true => exact q2 F1 σ H1 ρ1 Q R1 hp
  | false => exact hp F1 H1 Step.refl R1
theorem dw_or {m n : MT} (ha : DT X W a m) (hb : DW X W (.BoolOp .Or (b :: rest) pos) n) : DW X W (.BoolOp .Or (a :: b :: rest) pos) (tOrM m n) := by
  obtain ⟨t, p, q⟩ := ha
  obtain ⟨u, p2, q2⟩ := hb
  refine ⟨_, pw_or p p2, fun F σ H ρ Q R h => q F σ H ρ _ R (bindTT h fun x ρ1 F1 H1 s1 R1 hp => ?_)⟩
  cases x with
  | true => exact hp F1 H1 Step.refl R1
  | false => exact q2 F1 σ H1 ρ1 Q R1 hp
theorem dt_not {m : MT} (ha : DT X W a m) : DT X W (.UnaryOp .Not a pos) (tNotM m) := by
  obtain ⟨t, p, q⟩ := ha
  exact ⟨_, pt_not p, fun F σ H ρ Q R h => q F σ H ρ _ R (bindTT h fun x ρ1 F1 H1 s1 R1 hp => hp F1 H1 Step.refl R1)⟩
theorem val_bind {F H : Hp} {σ : Sg} {ρ : Rho} {m : ME} {Q : VK} {f : Bool → Rho → Rs Opd} {Q' : VK} (h : EPost X.K W F H σ ρ Q ((tVal m ρ).bind f)) (k : ∀ b ρ1 F1 H1, Step F H σ ρ F1 H1 ρ1 → Rel X.K F1 σ H1 ρ1 → EPost X.K W F1 H1 σ ρ1 Q (f b ρ1) → Q' (.bl b) H1) : EPost X.K W F H σ ρ Q' (m ρ) := by
  unfold tVal at h
  cases e : m ρ with
  | fail => rw [e] at h; exact h
  | ex x ρ' => rw [e] at h; exact h
  | ok o ρ1 =>
    rw [e] at h
    intro v F1 H1 s1 R1 ro ns
    have h1 := EPost.step s1 h
    have h2 : EPost X.K W F1 H1 σ ρ1 Q ((boolOf ρ1 o).bind f) := h1
    unfold boolOf at h2
    cases e2 : deref ρ1 o with
    | none => rw [e2] at h2; exact False.elim h2
    | some d =>
      rw [e2] at h2
      cases d with
      | bool b =>
        have := (ro.ct R1 e2).bool
        subst this
        exact k b ρ1 F1 H1 s1 R1 h2
      | none => exact False.elim h2
      | int i => exact False.elim h2
      | str i => exact False.elim h2
      | list i => exact False.elim h2
      | tuple i => exact False.elim h2
      | dict i => exact False.elim h2
theorem de_one {op} {m : ME} (h : DE X W a m) : DE X W (.BoolOp op [a] pos) m := let ⟨t, p, q⟩ := h; ⟨t, pe_one p, q⟩
theorem de_and {m n : ME} (ha : DE X W a m) (hb : DE X W (.BoolOp .And (b :: rest) pos) n) : DE X W (.BoolOp .And (a :: b :: rest) pos) (eAnd m n) := by
  obtain ⟨t, p, q⟩ := ha
  obtain ⟨u, p2, q2⟩ := hb
  refine ⟨_, pe_and p p2, fun F σ H ρ Q R h => q F σ H ρ _ R (val_bind h fun x ρ1 F1 H1 s1 R1 hp => ⟨x, rfl, ?_⟩)⟩
  cases x with
  | true => exact q2 F1 σ H1 ρ1 Q R1 hp
  | false => exact hp (.bl false) F1 H1 Step.refl R1 (.bl false) (fun z => nomatch z)
theorem de_or {m n : ME} (ha : DE X W a m) (hb : DE X W (.BoolOp .Or (b :: rest) pos) n) : DE X W (.BoolOp .Or (a :: b :: rest) pos) (eOr m n) := by
  obtain ⟨t, p, q⟩ := ha
  obtain ⟨u, p2, q2⟩ := hb
  refine ⟨_, pe_or p p2, fun F σ H ρ Q R h => q F σ H ρ _ R (val_bind h fun x ρ1 F1 H1 s1 R1 hp => ⟨x, rfl, ?_⟩)⟩
  cases x with
  | true => exact hp (.bl true) F1 H1 Step.refl R1 (.bl true) (fun z => nomatch z)
  | false => exact q2 F1 σ H1 ρ1 Q R1 hp
theorem de_not {m : ME} (ha : DE X W a m) : DE X W (.UnaryOp .Not a pos) (eNot m) := by
  obtain ⟨t, p, q⟩ := ha
  exact ⟨_, pe_not p, fun F σ H ρ Q R h => q F σ H ρ _ R (val_bind h fun x ρ1 F1 H1 s1 R1 hp => ⟨x, rfl, hp (.bl !x) F1 H1 Step.refl R1 (.bl _) (fun z => nomatch z)⟩)⟩
theorem da_nil : DA X W [] aNil := ⟨_, pa_nil, fun F σ H ρ Q R h => h [] F H Step.refl R ⟨.nil, List.nodup_nil⟩ (fun a hm => by cases hm)⟩
theorem isNew_of {H : Hp} {v : V} {o : Opd} {a : Addr} (h : a ∈ newFp H v o) : o.isNew = true := by cases o <;> first | rfl | cases h
theorem da_cons {e : Expr} {es : List Expr} {m : ME} {r : MA} (ha : DE X W e m) (hr : DA X W es r) (hs : starEach (e :: es) X.env = (false, eval e X.env) :: starEach es X.env := by rfl) : DA X W (e :: es) (aCons m r) := by
  obtain ⟨t, p, q⟩ := ha
  obtain ⟨u, p2, q2⟩ := hr
  refine ⟨_, pa_cons p p2 hs, fun F σ H ρ Q R h => q F σ H ρ _ R ?_⟩
  unfold aCons at h
  cases em : m ρ with
  | fail => rw [em] at h; exact h
  | ex x ρ' => rw [em] at h; exact h
  | ok o ρ1 =>
    rw [em] at h
    intro v F1 H1 s1 R1 ro ns
    refine q2 F1 σ H1 ρ1 _ R1 ?_
    dsimp only [Rs.bind] at h
    cases er : r ρ1 with
    | fail => rw [er] at h; exact h
    | ex x ρ' => rw [er] at h; exact XPost.step s1 h
    | ok os ρ2 =>
      rw [er] at h
      intro vs F2 H2 s2 R2 ros nss
      refine h (v :: vs) F2 H2 (s1.trans s2) R2 (ROs.cons s2 ro ros nss) fun a hm u ha t f => ?_
      unfold news at hm
      rcases List.mem_append.mp hm with hm | hm
      · rw [ro.fps s2.fr] at hm
        exact ns (isNew_of hm) a hm u ha t f
      · exact NewSeps.back s1.fr nss a hm u ha t f
end
def frzS (F H : Hp) (S : List Addr) : Hp := fun b => if b ∈ S then H b else F b
theorem frz_in {F H : Hp} {S : List Addr} {b : Addr} (h : b ∈ S) : frzS F H S b = H b := if_pos h
theorem frz_out {F H : Hp} {S : List Addr} {b : Addr} (h : b ∉ S) : frzS F H S b = F b := if_neg h
theorem frz_ext {F H : Hp} {S : List Addr} (f : ∀ a ∈ S, F a = none) : Ext F (frzS F H S) := fun b o h => by
  rw [frz_out]
  · exact h
  · intro hb; rw [f b hb] at h; cases h
theorem frz_own {K : PySem.W.Frag} {F F' H : Hp} {a : Addr} (ex : Ext F F') (e : F' a = H a) : ∀ {d : D}, OwnAt K F H a d → Rp K F' (.ref a) d
  | .list _, ⟨vs, h, r⟩ => .lst (by rw [e]; exact h) (r.mono ex)
  | .dict _, ⟨vs, h, r⟩ => .dct (.inl (by rw [e]; exact h)) (r.mono ex)
mutual
theorem frz_tree {K : PySem.W.Frag} {F F' H : Hp} (ex : Ext F F') : ∀ {t : T} {v : V} {d : D}, TAt K F H v t → t.toD = some d → (∀ a ∈ fpT H v t, F' a = H a) → Rp K F' v d
  | .fr d', v, d, h, e, _ => by
    unfold T.toD at e; cases e
    unfold TAt at h
    exact h.mono ex
  | .own d', v, d, h, e, k => by
    unfold T.toD at e; cases e
    unfold TAt at h
    obtain ⟨a, rfl, f, o⟩ := h
    exact frz_own ex (k a (by unfold fpT; exact mem_refs.mpr rfl)) o
  | .dtx _ _, v, d, h, e, _ => by unfold T.toD at e; cases e
  | .dbl _, v, d, h, e, _ => by unfold T.toD at e; cases e
  | .gone, v, d, h, e, _ => by unfold T.toD at e; cases e
  | .fzi _ _ _, v, d, h, e, _ => by unfold T.toD at e; cases e
  | .slf _ _ _, v, d, h, e, _ => by unfold T.toD at e; cases e
  | .clo _ _, v, d, h, e, _ => by unfold T.toD at e; cases e
  | .ins _ _ _, v, d, h, e, _ => by unfold T.toD at e; cases e
  | .tup ts, v, d, h, e, k => by
    unfold T.toD at e
    obtain ⟨ds, e1, e2⟩ := Option.map_eq_some_iff.mp e
    cases e2
    unfold TAt at h
    obtain ⟨a, e0, f, o, r⟩ := h
    unfold fpT at k
    have ka := k a (List.mem_append_left _ (mem_refs.mpr e0))
    have := frz_trees ex r e1 fun b hb => k b (List.mem_append_right _ hb)
    subst e0
    exact .tup (by rw [ka]; exact o) this
  | .lst ts, v, d, h, e, k => by
    unfold T.toD at e
    obtain ⟨ds, e1, e2⟩ := Option.map_eq_some_iff.mp e
    cases e2
    unfold TAt at h
    obtain ⟨a, e0, f, o, r⟩ := h
    unfold fpT at k
    have ka := k a (List.mem_append_left _ (mem_refs.mpr e0))
    have := frz_trees ex r e1 fun b hb => k b (List.mem_append_right _ hb)
    subst e0
    exact .lst (by rw [ka]; exact o) this
theorem frz_trees {K : PySem.W.Frag} {F F' H : Hp} (ex : Ext F F') : ∀ {ts : List T} {vs : List V} {ds : List D}, TAtL K F H vs ts → toDs ts = some ds → (∀ a ∈ fpL H vs ts, F' a = H a) → RpA K F' vs ds
  | [], [], ds, h, e, _ => by unfold toDs at e; cases e; exact .nil
  | [], _ :: _, ds, h, e, _ => by unfold TAtL at h; exact h.elim
  | _ :: _, [], ds, h, e, _ => by unfold TAtL at h; exact h.elim
  | t :: ts, v :: vs, ds, h, e, k => by
    unfold TAtL at h
    unfold fpL at k
    unfold toDs at e
    cases e1 : t.toD with
    | none => rw [e1] at e; cases e
    | some d1 =>
      cases e2 : toDs ts with
      | none => rw [e1, e2] at e; cases e
      | some ds2 =>
        rw [e1, e2] at e
        cases e
        exact .cons (frz_tree ex h.1 e1 fun a ha => k a (List.mem_append_left _ ha)) (frz_trees ex h.2 e2 fun a ha => k a (List.mem_append_right _ ha))
end
/-- a slot that owns nothing -/
def Slot.idle : Slot → Bool
  | .un => true
  | .dat _ => true
  | .exc _ => true
  | _ => false
theorem fp_idle {H : Hp} {v : V} {s : Slot} (h : s.idle = true) : s.fp H v = [] := by cases s <;> first | rfl | cases h
theorem mine_set {H : Hp} {σ : Sg} {ρ : Rho} {i j : Nat} {a : Addr} {s : Slot} (hs : s.idle = true) (h : Mine H σ (ρ.set i s) j a) : j ≠ i ∧ Mine H σ ρ j a := by
  obtain ⟨t, v, e, e2, m⟩ := h
  have ne : j ≠ i := by
    rintro rfl
    by_cases hl : j < ρ.length
    · rw [List.getElem?_set_self hl] at e; cases e; rw [fp_idle hs] at m; cases m
    · rw [List.getElem?_eq_none (by simpa using hl)] at e; cases e
  refine ⟨ne, t, v, ?_, e2, m⟩
  rw [List.getElem?_set_ne (Ne.symm ne)] at e; exact e
/-- trees elsewhere stay where a slot is put to rest -/
theorem set_at {ρ : Rho} {i j : Nat} {s t : Slot} (h : (ρ.set i s)[j]? = some t) (n : t ≠ s) : j ≠ i ∧ ρ[j]? = some t := by
  by_cases hj : j = i
  · subst hj
    by_cases hl : j < ρ.length
    · rw [List.getElem?_set_self hl] at h; cases h; exact absurd rfl n
    · rw [List.getElem?_eq_none (by simpa using hl)] at h; cases h
  · rw [List.getElem?_set_ne (Ne.symm hj)] at h; exact ⟨hj, h⟩
section
variable {K : PySem.W.Frag} {F0 H0 F H : Hp} {σ : Sg} {ρ0 ρ : Rho}
theorem kp_set {i : Nat} {s t : Slot} (e : ρ[i]? = some s) (k : KpS s t) : Kp ρ (ρ.set i t) := ⟨by simp, fun j u h => by
  by_cases hj : j = i
  · subst hj
    rw [e] at h; cases h
    exact ⟨t, List.getElem?_set_self (List.getElem?_eq_some_iff.mp e).1, k⟩
  · exact ⟨u, by rw [List.getElem?_set_ne (Ne.symm hj)]; exact h, KpS.refl u⟩⟩
/-- a slot's claim is dropped -/
theorem rel_drop (R : Rel K F σ H ρ) (i : Nat) : Rel K F σ H (ρ.set i .un) :=
  ⟨R.sub, by rw [List.length_set]; exact R.len, fun j d e => R.dat j d (set_at e (by simp)).2, fun j s d e m q => R.own j s d (set_at e (by rintro rfl; cases m)).2 m q, fun j k a h1 h2 => R.sep j k a (mine_set rfl h1).2 (mine_set rfl h2).2,
    fun j s t e q => R.obj j s t (set_at e (by rintro rfl; cases q)).2 q, fun j b e => R.exc j b (set_at e (by simp)).2, R.tab, R.tie_set rfl (Ext.refl _) (fun _ _ _ _ => rfl) σ fun _ _ => rfl⟩
/-- a slot's value is frozen data -/
theorem rel_dat (R : Rel K F σ H ρ) {i : Nat} {v : V} {d : D} (h : σ[i]? = some (some v)) (rp : Rp K F v d) : Rel K F σ H (ρ.set i (.dat d)) :=
  ⟨R.sub, by rw [List.length_set]; exact R.len, fun j d' e => by
    by_cases hj : j = i
    · subst hj
      by_cases hl : j < ρ.length
      · rw [List.getElem?_set_self hl] at e; cases e; exact ⟨v, h, rp⟩
      · rw [List.getElem?_eq_none (by simpa using hl)] at e; cases e
    · rw [List.getElem?_set_ne (Ne.symm hj)] at e; exact R.dat j d' e, fun j s d e m q => R.own j s d (set_at e (by rintro rfl; cases m)).2 m q, fun j k a h1 h2 => R.sep j k a (mine_set rfl h1).2 (mine_set rfl h2).2,
    fun j s t e q => R.obj j s t (set_at e (by rintro rfl; cases q)).2 q, fun j b e => R.exc j b (set_at e (by simp)).2, R.tab, R.tie_set rfl (Ext.refl _) (fun _ _ _ _ => rfl) σ fun _ _ => rfl⟩
/-- what is not ours is frozen -/
theorem rel_frz (R : Rel K F σ H ρ) {S : List Addr} (hS : ∀ a ∈ S, F a = none ∧ (∃ o, H a = some o ∧ nt o) ∧ ¬ Own H σ ρ a) : Rel K (frzS F H S) σ H ρ := by
  have ex : Ext F (frzS F H S) := frz_ext fun a h => (hS a h).1
  have out : ∀ a, Own H σ ρ a → frzS F H S a = F a := fun a h => frz_out fun z => (hS a z).2.2 h
  refine ⟨fun b u h => ?_, R.len, fun i d e => ?_, fun i s d e m q => ?_, R.sep, fun i s t e q => ?_, fun i q e => ⟨(R.exc i q e).1, (R.exc i q e).2.mono ex⟩, R.tab, R.tieS ex fun _ _ => rfl⟩
  · by_cases hb : b ∈ S
    · rw [frz_in hb] at h
      obtain ⟨o, ho, t⟩ := (hS b hb).2.1
      rw [ho] at h; cases h
      exact ⟨.inl ho, t.tb⟩
    · rw [frz_out hb] at h; exact R.sub b u h
  · obtain ⟨v, h1, h2⟩ := R.dat i d e
    exact ⟨v, h1, h2.mono ex⟩
  · obtain ⟨a, h1, h2, h3⟩ := R.own i s d e m q
    exact ⟨a, h1, by rw [out a ⟨i, Mine.of e m h1⟩]; exact h2, h3.mono ex fun _ z => z⟩
  · obtain ⟨w, h1, h2, h3, _⟩ := R.trees (F' := frzS F H S) (H' := H) ex e q fun b h => ⟨rfl, fun fb => by rw [out b ⟨i, h⟩]; exact fb⟩
    exact ⟨w, h1, h2, h3⟩
/-- a slot's objects are frozen -/
theorem slot_frz (R : Rel K F σ H ρ) (st : Step F0 H0 σ ρ0 F H ρ) {i : Nat} {s : Slot} {v : V} {d : D} (e : ρ[i]? = some s) (hv : σ[i]? = some (some v)) (kp : KpS s (.dat d)) (rp : ∀ F', Ext F F' → (∀ a ∈ s.fp H v, F' a = H a) → Rp K F' v d) :
    ∃ F1, Step F0 H0 σ ρ0 F1 H (ρ.set i (.dat d)) ∧ Rel K F1 σ H (ρ.set i (.dat d)) ∧ Rp K F1 v d ∧ Ext F F1 ∧ (∀ b, F b = none → F1 b ≠ none → Own H σ ρ b) := by
  have mi : ∀ a ∈ s.fp H v, Mine H σ ρ i a := fun a ha => ⟨s, v, e, hv, ha⟩
  have R1 := rel_drop R i
  have hS : ∀ a ∈ s.fp H v, F a = none ∧ (∃ o, H a = some o ∧ nt o) ∧ ¬ Own H σ (ρ.set i .un) a := fun a ha => by
    obtain ⟨f, o⟩ := R.has ⟨i, mi a ha⟩
    refine ⟨f, o, fun ⟨j, m⟩ => ?_⟩
    obtain ⟨hj, m2⟩ := mine_set rfl m
    exact hj (R.sep j i a m2 (mi a ha))
  have R2 := rel_frz R1 hS
  have ex : Ext F (frzS F H (s.fp H v)) := frz_ext fun a h => (hS a h).1
  have hr := rp _ ex fun a ha => frz_in ha
  have R3 := rel_dat R2 (i := i) hv hr
  rw [List.set_set] at R3
  refine ⟨_, ⟨⟨st.fr.ext.trans ex, fun b o h1 t f1 n1 => ?_⟩, st.kp.trans (kp_set e kp), st.kid⟩, R3, hr, ex, fun b h1 h2 => ?_⟩
  · obtain ⟨x, y, z⟩ := st.fr.keep b o h1 t f1 n1
    exact ⟨x, by rw [frz_out fun hb => z ⟨i, mi b hb⟩]; exact y, fun ⟨j, m⟩ => z ⟨j, (mine_set rfl m).2⟩⟩
  · by_cases hb : b ∈ s.fp H v
    · exact ⟨i, mi b hb⟩
    · rw [frz_out hb] at h2; exact absurd h1 h2
/-- a new thing is frozen -/
theorem new_frz (R : Rel K F σ H ρ) (st : Step F0 H0 σ ρ0 F H ρ) {v : V} {o : Opd} {d : D} (r : RO K F H σ ρ v o) (ns : NewSep H F0 H0 σ ρ0 v o) (rp : ∀ F', Ext F F' → (∀ a ∈ newFp H v o, F' a = H a) → Rp K F' v d) :
    ∃ F1, Step F0 H0 σ ρ0 F1 H ρ ∧ Rel K F1 σ H ρ ∧ Rp K F1 v d ∧ Ext F F1 ∧ (∀ b, F b = none → F1 b ≠ none → b ∈ newFp H v o) := by
  have hS : ∀ a ∈ newFp H v o, F a = none ∧ (∃ o, H a = some o ∧ nt o) ∧ ¬ Own H σ ρ a := fun a ha => by
    obtain ⟨u, hu, t, f, n⟩ := r.prot ha
    exact ⟨f, ⟨u, hu, t⟩, n⟩
  have R2 := rel_frz R hS
  have ex : Ext F (frzS F H (newFp H v o)) := frz_ext fun a h => (hS a h).1
  refine ⟨_, ⟨⟨st.fr.ext.trans ex, fun b u h1 t f1 n1 => ?_⟩, st.kp, st.kid⟩, R2, rp _ ex fun a ha => frz_in ha, ex, fun b h1 h2 => ?_⟩
  · obtain ⟨x, y, z⟩ := st.fr.keep b u h1 t f1 n1
    exact ⟨x, by rw [frz_out fun hb => n1 (ns (isNew_of hb) b hb u h1 t f1)]; exact y, z⟩
  · by_cases hb : b ∈ newFp H v o
    · exact hb
    · rw [frz_out hb] at h2; exact absurd h1 h2
theorem own_set {i : Nat} {s : Slot} {b : Addr} (hs : s.idle = true) (h : Own H σ (ρ.set i s) b) : Own H σ ρ b := let ⟨j, m⟩ := h; ⟨j, (mine_set hs m).2⟩
theorem use_ok {v : V} {o : Opd} {d : D} {ρ1 : Rho} (R : Rel K F σ H ρ) (st : Step F0 H0 σ ρ0 F H ρ) (ro : RO K F H σ ρ v o) (ns : NewSep H F0 H0 σ ρ0 v o) (h : useO ρ o = some (d, ρ1)) :
    ∃ F1, Step F0 H0 σ ρ0 F1 H ρ1 ∧ Rel K F1 σ H ρ1 ∧ Rp K F1 v d ∧ Ext F F1 ∧ (∀ b, F b = none → F1 b ≠ none → b ∈ newFp H v o ∨ Own H σ ρ b) ∧ Kp ρ ρ1 ∧ ∀ b, Own H σ ρ1 b → Own H σ ρ b := by
  cases o with
  | val d' =>
    cases h
    exact ⟨F, st, R, ro, Ext.refl _, fun b h1 h2 => absurd h1 h2, Kp.refl _, fun b h => h⟩
  | new d' =>
    cases h
    obtain ⟨F1, s1, R1, rp, ex, on⟩ := new_frz (d := d) R st ro ns fun F' ex k => by
      obtain ⟨a, e, f, ow, n⟩ := ro
      subst e
      exact frz_own ex (k a (mem_refs.mpr rfl)) ow
    exact ⟨F1, s1, R1, rp, ex, fun b h1 h2 => .inl (on b h1 h2), Kp.refl _, fun b h => h⟩
  | nob t =>
    unfold useO at h
    obtain ⟨d', e1, e2⟩ := Option.map_eq_some_iff.mp h
    cases e2
    obtain ⟨F1, s1, R1, rp, ex, on⟩ := new_frz (d := d) R st ro ns fun F' ex k => frz_tree ex ro.1 e1 k
    exact ⟨F1, s1, R1, rp, ex, fun b h1 h2 => .inl (on b h1 h2), Kp.refl _, fun b h => h⟩
  | loc i =>
    obtain ⟨hv, s, d', e, q⟩ := ro
    unfold useO at h
    dsimp only at h
    rw [e] at h
    cases s <;> try (cases h; done)
    case dat d2 =>
      cases h
      obtain ⟨w, h1, h2⟩ := R.dat i _ e
      rw [hv] at h1; cases h1
      exact ⟨F, st, R, h2, Ext.refl _, fun b h1 h2 => absurd h1 h2, Kp.refl _, fun b h => h⟩
    case own d2 =>
      cases h
      obtain ⟨a, h1, f, ow⟩ := R.own i _ _ e rfl rfl
      rw [hv] at h1; cases h1
      obtain ⟨F1, s1, R1, rp, ex, on⟩ := slot_frz (d := d) R st e hv trivial fun F' ex k => frz_own ex (k a (mem_refs.mpr rfl)) ow
      exact ⟨F1, s1, R1, rp, ex, fun b h1 h2 => .inr (on b h1 h2), kp_set e trivial, fun b h => own_set rfl h⟩
  | lob i =>
    obtain ⟨hv, s, e, q⟩ := ro
    unfold useO at h
    dsimp only at h
    rw [e] at h
    cases s <;> try (cases h; done)
    case dat d2 =>
      cases h
      obtain ⟨w, h1, h2⟩ := R.dat i _ e
      rw [hv] at h1; cases h1
      exact ⟨F, st, R, h2, Ext.refl _, fun b h1 h2 => absurd h1 h2, Kp.refl _, fun b h => h⟩
    case obj t =>
      obtain ⟨d', e1, e2⟩ := Option.map_eq_some_iff.mp h
      cases e2
      obtain ⟨w, h1, ta, nd⟩ := R.obj i _ t e rfl
      rw [hv] at h1; cases h1
      obtain ⟨F1, s1, R1, rp, ex, on⟩ := slot_frz (d := d) R st e hv trivial fun F' ex k => frz_tree ex ta e1 k
      exact ⟨F1, s1, R1, rp, ex, fun b h1 h2 => .inr (on b h1 h2), kp_set e trivial, fun b h => own_set rfl h⟩
/-- the others, when one is frozen -/
theorem froz_all {F1 : Hp} {ρ1 : Rho} {v : V} {o : Opd} (ex : Ext F F1) (kp : Kp ρ ρ1) (sb : ∀ b, Own H σ ρ1 b → Own H σ ρ b) (on : ∀ b, F b = none → F1 b ≠ none → b ∈ newFp H v o ∨ Own H σ ρ b) {w : V} {q : Opd} (r : RO K F H σ ρ w q) (dj : ∀ a ∈ newFp H w q, a ∉ newFp H v o) : RO K F1 H σ ρ1 w q := by
  have fn : ∀ a ∈ newFp H w q, F1 a = none := fun a ha => by
    obtain ⟨u, hu, t, f, n⟩ := r.prot ha
    cases z : F1 a with
    | none => rfl
    | some x => exact ((on a f (by rw [z]; intro y; cases y)).elim (fun y => absurd y (dj a ha)) fun y => absurd y n)
  cases q with
  | val d => exact Rp.mono ex r
  | loc i =>
    obtain ⟨x, s, d, y, z⟩ := r
    exact ⟨x, kp.data y z⟩
  | lob i =>
    obtain ⟨x, s, y, z⟩ := r
    exact ⟨x, kp.live y z⟩
  | new d =>
    obtain ⟨a, x, f, ow, n⟩ := r
    exact ⟨a, x, fn a (mem_refs.mpr x), ow.mono ex fun _ z => z, fun z => n (sb a z)⟩
  | nob t =>
    obtain ⟨h1, h2, h3⟩ := r
    exact ⟨(TAt.stay ex h1 fun a ha => ⟨rfl, fun _ => fn a ha⟩).2, h2, fun a ha z => h3 a ha (sb a z)⟩
theorem useAll_ok : ∀ {os : List Opd} {F : Hp} {ρ : Rho} {vs : List V} {ds : List D} {ρ1 : Rho}, Rel K F σ H ρ → Step F0 H0 σ ρ0 F H ρ → ROs K F H σ ρ vs os → NewSeps H F0 H0 σ ρ0 vs os → useAll ρ os = some (ds, ρ1) →
    ∃ F1, Step F0 H0 σ ρ0 F1 H ρ1 ∧ Rel K F1 σ H ρ1 ∧ RpA K F1 vs ds ∧ Ext F F1
  | [], F, ρ, vs, ds, ρ1, R, st, ro, ns, h => by
    cases h
    cases ro.all
    exact ⟨F, st, R, .nil, Ext.refl _⟩
  | o :: os, F, ρ, vs, ds, ρ1, R, st, ro, ns, h => by
    obtain ⟨all, nd⟩ := ro
    cases all with
    | @cons v _ vs _ r rs =>
    unfold news at nd
    obtain ⟨nd1, nd2, nd3⟩ := List.nodup_append.mp nd
    unfold useAll at h
    cases e1 : useO ρ o with
    | none => rw [e1] at h; cases h
    | some p =>
      obtain ⟨d, ρ2⟩ := p
      rw [e1] at h
      dsimp only at h
      cases e2 : useAll ρ2 os with
      | none => rw [e2] at h; cases h
      | some p2 =>
        obtain ⟨ds', ρ3⟩ := p2
        rw [e2] at h
        cases h
        have ns1 : NewSep H F0 H0 σ ρ0 v o := fun hn a ha => ns a (by unfold news; exact List.mem_append_left _ ha)
        obtain ⟨F2, st2, R2, rp, ex2, only, kp2, sb⟩ := use_ok R st r ns1 e1
        have ros : ROs K F2 H σ ρ2 vs os := by
          refine ⟨?_, nd2⟩
          have pr : ∀ {ws : List V} {ps : List Opd}, (∀ a ∈ news H ws ps, a ∈ news H vs os) → Paired (RO K F H σ ρ) ws ps → Paired (RO K F2 H σ ρ2) ws ps := by
            intro ws ps sub p
            induction p with
            | nil => exact .nil
            | @cons w p' ws ps' r' _ ih =>
              exact .cons (froz_all ex2 kp2 sb only r' fun a ha z => nd3 a z a (sub a (by unfold news; exact List.mem_append_left _ ha)) rfl) (ih fun a h => sub a (by unfold news; exact List.mem_append_right _ h))
          exact pr (fun a h => h) rs
        obtain ⟨F3, st3, R3, rp3, ex3⟩ := useAll_ok (os := os) R2 st2 ros (fun a hm => ns a (by unfold news; exact List.mem_append_right _ hm)) e2
        exact ⟨F3, st3, R3, .cons (rp.mono ex3) rp3, ex2.trans ex3⟩
end
section
variable {X : Cx} {W : WX} {pos : Pos}
theorem use_bind {F H : Hp} {σ : Sg} {ρ : Rho} {Q : VK} {a : MA} {f : List D → Option Opd} {Q' : List V → Hp → Prop} (h : EPost X.K W F H σ ρ Q (eUse f a ρ))
    (k : ∀ vs ds o F1 H1 ρ1, Step F H σ ρ F1 H1 ρ1 → Rel X.K F1 σ H1 ρ1 → RpA X.K F1 vs ds → f ds = some o → EPost X.K W F H σ ρ Q (.ok o ρ1) → Q' vs H1) : APost X.K W F H σ ρ Q' (a ρ) := by
  unfold eUse at h
  cases e : a ρ with
  | fail => rw [e] at h; exact h
  | ex x ρ' => rw [e] at h; exact h
  | ok os ρ1 =>
    rw [e] at h
    intro vs F1 H1 s1 R1 ro ns
    dsimp only [Rs.bind] at h
    unfold withAll at h
    cases e1 : useAll ρ1 os with
    | none => rw [e1] at h; exact False.elim h
    | some p =>
      obtain ⟨ds, ρ2⟩ := p
      rw [e1] at h
      dsimp only at h
      cases e2 : f ds with
      | none => rw [e2] at h; exact False.elim h
      | some o =>
        rw [e2] at h
        obtain ⟨F2, s2, R2, rp, ex⟩ := useAll_ok R1 s1 ro ns e1
        exact k vs ds o F2 H1 ρ2 s2 R2 rp e2 h
def mkTup (ds : List D) : Option Opd := if ds.length ≤ sizeLine then some (.val (.tuple ds)) else none
def mkLst (ds : List D) : Option Opd := if ds.length ≤ sizeLine then some (.new (.list ds)) else none
theorem upd_fresh {K : PySem.W.Frag} {F H : Hp} {p : Addr} {o : HO} (s : Sub F H) (hp : H p = none) (t : nt o) : F p = none ∧ Grow F H F (upd H p o) ∧ Grow F H (upd F p o) (upd H p o) := by
  have fp : F p = none := by
    cases q : F p with
    | none => rfl
    | some u =>
      obtain ⟨r, _⟩ := s p u q
      rcases r with r | ⟨x, r, _⟩ <;> (rw [hp] at r; cases r)
  have up : ∀ b u, H b = some u → upd H p o b = some u := fun b u h => by rw [upd_ne (ne_of_none h hp)]; exact h
  have rd : ∀ b u, Rdn H b u → Rdn (upd H p o) b u := fun b u r => r.elim (fun z => .inl (up _ _ z)) fun ⟨x, z, n⟩ => .inr ⟨x, up _ _ z, n⟩
  refine ⟨fp, ⟨Ext.refl _, fun b u h => ⟨rd _ _ (s b u h).1, (s b u h).2⟩, up, fun _ _ _ h => h⟩, ⟨fun b u h => by rw [upd_ne (ne_of_none h fp)]; exact h, fun b u h => ?_, up, fun b u h f => by rw [upd_ne (ne_of_none h hp)]; exact f⟩⟩
  by_cases e : b = p
  · subst e; rw [upd_same] at h; cases h; exact ⟨.inl upd_same, t.tb⟩
  · rw [upd_ne e] at h; exact ⟨rd _ _ (s b u h).1, (s b u h).2⟩
theorem new_sep {H' F0 H0 H : Hp} {σ : Sg} {ρ0 ρ F} {p : Addr} {d : D} (st : Step F0 H0 σ ρ0 F H ρ) (hp : H p = none) : NewSep H' F0 H0 σ ρ0 (.ref p) (.new d) := fun _ a e u ha t f => Classical.byContradiction fun n => by
  cases mem_refs.mp (show a ∈ refsV (.ref p) from e)
  obtain ⟨h1, _⟩ := st.fr.keep _ u ha t f n
  rw [hp] at h1; cases h1
theorem not_own {K : PySem.W.Frag} {F H : Hp} {σ : Sg} {ρ : Rho} {p : Addr} (R : Rel K F σ H ρ) (hp : H p = none) : ¬ Own H σ ρ p := fun h => by
  obtain ⟨_, u, hu, _⟩ := R.has h
  rw [hp] at hu; cases hu
theorem not_ownG {K : PySem.W.Frag} {F H F' H' : Hp} {σ : Sg} {ρ : Rho} {p : Addr} (R : Rel K F σ H ρ) (g : Grow F H F' H') (hp : H p = none) : ¬ Own H' σ ρ p := fun z => not_own R hp ((R.owns (g.same R) p).mp z)
theorem de_tup {es : List Expr} {m : MA} {x1} (h : DA X W es m) : DE X W (.Tuple es x1 pos) (eUse mkTup m) := by
  obtain ⟨t, p, q⟩ := h
  refine ⟨_, pe_tup p, fun F σ H ρ Q R h => q F σ H ρ _ R (use_bind h fun vs ds o F1 H1 ρ1 s1 R1 rp e hp => ?_)⟩
  unfold mkTup at e
  split at e
  · rename_i hz
    cases e
    refine ⟨by rw [rp.length]; exact hz, fun p np => ?_⟩
    obtain ⟨fp, _, g⟩ := upd_fresh (K := X.K) (o := .tup vs) R1.sub np trivial
    exact hp (.ref p) _ _ (s1.trans (g.step R1)) (g.rel R1) (.tup upd_same (rp.mono g.ext)) (fun z => nomatch z)
  · cases e
theorem de_lst {es : List Expr} {m : MA} (h : DA X W es m) : DE X W (.List es pos) (eUse mkLst m) := by
  obtain ⟨t, p, q⟩ := h
  refine ⟨_, pe_lst p, fun F σ H ρ Q R h => q F σ H ρ _ R (use_bind h fun vs ds o F1 H1 ρ1 s1 R1 rp e hp => ?_)⟩
  unfold mkLst at e
  split at e
  · rename_i hz
    cases e
    refine ⟨by rw [rp.length]; exact hz, fun p np => ?_⟩
    obtain ⟨fp, g, _⟩ := upd_fresh (K := X.K) (o := .lst vs) R1.sub np trivial
    exact hp (.ref p) _ _ (s1.trans (g.step R1)) (g.rel R1) ⟨p, rfl, fp, ⟨vs, upd_same, rp⟩, not_ownG R1 g np⟩ (new_sep s1 np)
  · cases e
end
def DS (X : Cx) (W : WX) (s : Stmt) (m : MS) : Prop := ∃ t, PS X s t ∧ ∀ F σ H ρ Z, Rel X.K F σ H ρ → SPost X.K W F H σ ρ Z (m ρ) → t Z σ H
section
variable {K : PySem.W.Frag} {W : WX} {F H F0 H0 : Hp} {σ σ0 : Sg} {ρ ρ0 : Rho}
theorem mine_put {i j : Nat} {a : Addr} {w : Option V} {s : Slot} (hs : s.idle = true) (h : Mine H (σ.set i w) (ρ.set i s) j a) : j ≠ i ∧ Mine H σ ρ j a := by
  obtain ⟨ne, t, v, h1, h2, h3⟩ := mine_set hs h
  refine ⟨ne, t, v, h1, ?_, h3⟩
  rw [List.getElem?_set_ne (Ne.symm ne)] at h2; exact h2
theorem par_put {i : Nat} {w : Option V} {s : Slot} (hf : free ρ i = true) : Par σ ρ (σ.set i w) (ρ.set i s) := by
  have h : ∀ j t, ρ[j]? = some t → (t = .par (t.data?.getD .none) ∨ t = .lck (t.data?.getD .none) ∨ ∃ u, t = .opa u) → j ≠ i := fun j t e q z => by
    subst z
    unfold free at hf
    rw [e] at hf
    rcases q with q | q | ⟨u, q⟩ <;> (rw [q] at hf; cases hf)
  exact ⟨fun j d e => by
    have ne := h j _ e (.inl rfl)
    rw [List.getElem?_set_ne (Ne.symm ne), List.getElem?_set_ne (Ne.symm ne)]
    exact ⟨⟨d, e⟩, rfl⟩, fun j d e => by
    have ne := h j _ e (.inr (.inl rfl))
    rw [List.getElem?_set_ne (Ne.symm ne), List.getElem?_set_ne (Ne.symm ne)]
    exact ⟨e, rfl⟩, fun j d e => by
    have ne := h j _ e (.inr (.inr ⟨_, rfl⟩))
    rw [List.getElem?_set_ne (Ne.symm ne), List.getElem?_set_ne (Ne.symm ne)]
    exact ⟨⟨d, e, KpT.refl d⟩, rfl⟩⟩
theorem set_dat {i : Nat} {v : V} {d : D} (R : Rel K F σ H ρ) (rp : Rp K F v d) (hf : free ρ i = true) : Rel K F (σ.set i (some v)) H (ρ.set i (.dat d)) ∧ StepS F H σ ρ F H (σ.set i (some v)) (ρ.set i (.dat d)) := by
  refine ⟨⟨R.sub, by rw [List.length_set, List.length_set]; exact R.len, fun j d' e => ?_, fun j s d' e m q => ?_, fun j k a h1 h2 => ?_, fun j s t e q => ?_, fun j b e => ?_, R.tab, R.tie_set rfl (Ext.refl _) (fun _ _ _ _ => rfl) _ fun j hj => List.getElem?_set_ne (Ne.symm hj)⟩, ⟨Ext.refl _, fun a o h t f n => ⟨h, f, fun ⟨j, m⟩ => n ⟨j, (mine_put rfl m).2⟩⟩⟩, par_put hf⟩
  · by_cases hj : j = i
    · subst hj
      by_cases hl : j < ρ.length
      · rw [List.getElem?_set_self hl] at e; cases e
        exact ⟨v, List.getElem?_set_self (by rw [R.len]; exact hl), rp⟩
      · rw [List.getElem?_eq_none (by simpa using hl)] at e; cases e
    · rw [List.getElem?_set_ne (Ne.symm hj)] at e ⊢
      exact R.dat j d' e
  · have hj : j ≠ i := by
      rintro rfl
      by_cases hl : j < ρ.length
      · rw [List.getElem?_set_self hl] at e; cases e; cases m
      · rw [List.getElem?_eq_none (by simpa using hl)] at e; cases e
    rw [List.getElem?_set_ne (Ne.symm hj)] at e ⊢
    exact R.own j s d' e m q
  · exact R.sep j k a (mine_put rfl h1).2 (mine_put rfl h2).2
  · obtain ⟨hj, e2⟩ := set_at e (by rintro rfl; cases q)
    rw [List.getElem?_set_ne (Ne.symm hj)]
    exact R.obj j s t e2 q
  · obtain ⟨hj, e2⟩ := set_at e (by simp)
    rw [List.getElem?_set_ne (Ne.symm hj)]
    exact R.exc j b e2
/-- something new is stored -/
theorem set_new {i : Nat} {v : V} {o : Opd} {s0 : Slot} (R : Rel K F σ H ρ) (ro : RO K F H σ ρ v o) (hs : (∃ d, o = .new d ∧ s0 = .own d) ∨ ∃ t, o = .nob t ∧ s0 = .obj t) (hf : free ρ i = true) (st : StepS F0 H0 σ0 ρ0 F H σ ρ) (ns : NewSep H F0 H0 σ0 ρ0 v o) :
    Rel K F (σ.set i (some v)) H (ρ.set i s0) ∧ StepS F0 H0 σ0 ρ0 F H (σ.set i (some v)) (ρ.set i s0) := by
  have hfp : s0.fp H v = newFp H v o := by rcases hs with ⟨d, z1, z⟩ | ⟨t, z1, z⟩ <;> (subst z z1; rfl)
  have no : ∀ b ∈ newFp H v o, ¬ Own H σ ρ b := fun b hb => (let ⟨_, _, _, _, n⟩ := ro.prot hb; n)
  have mine : ∀ {j b}, Mine H (σ.set i (some v)) (ρ.set i s0) j b → (j = i ∧ b ∈ newFp H v o) ∨ (j ≠ i ∧ Mine H σ ρ j b) := fun {j b} ⟨s, w, e, e2, m⟩ => by
    by_cases hj : j = i
    · subst hj
      by_cases hl : j < σ.length
      · rw [List.getElem?_set_self hl] at e2; cases e2
        rw [List.getElem?_set_self (by rw [← R.len]; exact hl)] at e; cases e
        rw [hfp] at m
        exact .inl ⟨rfl, m⟩
      · rw [List.getElem?_eq_none (by simpa using hl)] at e2; cases e2
    · rw [List.getElem?_set_ne (Ne.symm hj)] at e e2
      exact .inr ⟨hj, s, w, e, e2, m⟩
  refine ⟨⟨R.sub, by rw [List.length_set, List.length_set]; exact R.len, fun j d' e => ?_, fun j s d' e m q => ?_, fun j k b h1 h2 => ?_, fun j s t e q => ?_, fun j b e => ?_, R.tab, R.tie_set (by rcases hs with ⟨d, _, z⟩ | ⟨t, _, z⟩ <;> (rw [z]; rfl)) (Ext.refl _) (fun _ _ _ _ => rfl) _ fun j hj => List.getElem?_set_ne (Ne.symm hj)⟩, ⟨⟨st.fr.ext, fun b u h t f1 n1 => ?_⟩, ?_⟩⟩
  · have hj : j ≠ i := by
      rintro rfl
      by_cases hl : j < ρ.length
      · rw [List.getElem?_set_self hl] at e
        rcases hs with ⟨d, _, z⟩ | ⟨t, _, z⟩ <;> (rw [z] at e; cases e)
      · rw [List.getElem?_eq_none (by simpa using hl)] at e; cases e
    rw [List.getElem?_set_ne (Ne.symm hj)] at e ⊢
    exact R.dat j d' e
  · by_cases hj : j = i
    · subst hj
      by_cases hl : j < ρ.length
      · rw [List.getElem?_set_self hl] at e; cases e
        rcases hs with ⟨d, z1, z⟩ | ⟨t, z1, z⟩
        · subst z z1; cases q
          obtain ⟨a, e, f, ow, n⟩ := ro
          subst e
          exact ⟨a, List.getElem?_set_self (by rw [R.len]; exact hl), f, ow⟩
        · subst z; cases m
      · rw [List.getElem?_eq_none (by simpa using hl)] at e; cases e
    · rw [List.getElem?_set_ne (Ne.symm hj)] at e ⊢
      exact R.own j s d' e m q
  · rcases mine h1 with ⟨e1, e2⟩ | ⟨n1, m1⟩ <;> rcases mine h2 with ⟨e3, e4⟩ | ⟨n2, m2⟩
    · rw [e1, e3]
    · exact absurd ⟨k, m2⟩ (no b e2)
    · exact absurd ⟨j, m1⟩ (no b e4)
    · exact R.sep j k b m1 m2
  · by_cases hj : j = i
    · subst hj
      by_cases hl : j < ρ.length
      · rw [List.getElem?_set_self hl] at e; cases e
        rcases hs with ⟨d, z1, z⟩ | ⟨t', z1, z⟩
        · subst z; cases q
        · subst z z1; cases q
          exact ⟨v, List.getElem?_set_self (by rw [R.len]; exact hl), ro.1, ro.2.1⟩
      · rw [List.getElem?_eq_none (by simpa using hl)] at e; cases e
    · rw [List.getElem?_set_ne (Ne.symm hj)] at e ⊢
      exact R.obj j s t e q
  · obtain ⟨hj, e2⟩ := set_at e (by rcases hs with ⟨d, z1, z⟩ | ⟨t', z1, z⟩ <;> (rw [z]; simp))
    rw [List.getElem?_set_ne (Ne.symm hj)]
    exact R.exc j b e2
  · obtain ⟨x, y, z⟩ := st.fr.keep b u h t f1 n1
    refine ⟨x, y, fun ⟨j, m⟩ => ?_⟩
    rcases mine m with ⟨_, e2⟩ | ⟨_, m2⟩
    · exact n1 (ns (isNew_of e2) b e2 u h t f1)
    · exact z ⟨j, m2⟩
  · have p := par_put (σ := σ) (w := some v) (s := s0) hf
    exact ⟨fun j d' e => by
      obtain ⟨⟨d1, e1⟩, q1⟩ := st.par.1 j d' e
      obtain ⟨x, q2⟩ := p.1 j d1 e1
      exact ⟨x, q2.trans q1⟩, fun j d' e => by
      obtain ⟨e1, q1⟩ := st.par.2.1 j d' e
      obtain ⟨x, q2⟩ := p.2.1 j d' e1
      exact ⟨x, q2.trans q1⟩, fun j d' e => by
      obtain ⟨⟨d1, e1, k1⟩, q1⟩ := st.par.2.2 j d' e
      obtain ⟨⟨d2, e2, k2⟩, q2⟩ := p.2.2 j d1 e1
      exact ⟨⟨d2, e2, k1.trans k2⟩, q2.trans q1⟩⟩
theorem putO_ok {i : Nat} {v : V} {o : Opd} {Z : Ends} (R : Rel K F σ H ρ) (st : Step F0 H0 σ ρ0 F H ρ) (ro : RO K F H σ ρ v o) (ns : NewSep H F0 H0 σ ρ0 v o) (h : SPost K W F0 H0 σ ρ0 Z (putO i o ρ)) : Z.nx (σ.set i (some v)) H := by
  unfold putO at h
  cases hf : free ρ i with
  | false => rw [hf] at h; exact False.elim h
  | true =>
    rw [hf] at h
    cases o with
    | new d =>
      obtain ⟨R', s'⟩ := set_new R ro (.inl ⟨d, rfl, rfl⟩) hf st.s ns
      exact h _ F H s' R'
    | nob t =>
      obtain ⟨R', s'⟩ := set_new R ro (.inr ⟨t, rfl, rfl⟩) hf st.s ns
      exact h _ F H s' R'
    | val d =>
      obtain ⟨R', s'⟩ := set_dat R ro hf
      exact h _ F H (st.s.trans s') R'
    | loc j =>
      dsimp only at h
      cases e : useO ρ (.loc j) with
      | none => rw [e] at h; exact False.elim h
      | some p =>
        obtain ⟨d, ρ1⟩ := p
        rw [e] at h
        obtain ⟨F1, s1, R1, rp, _⟩ := use_ok R st ro ns e
        cases hf1 : free ρ1 i with
        | false => dsimp only at h; rw [hf1] at h; exact False.elim h
        | true =>
          dsimp only at h
          rw [hf1] at h
          obtain ⟨R', s'⟩ := set_dat R1 rp hf1
          exact h _ F1 H (s1.s.trans s') R'
    | lob j =>
      dsimp only at h
      cases e : useO ρ (.lob j) with
      | none => rw [e] at h; exact False.elim h
      | some p =>
        obtain ⟨d, ρ1⟩ := p
        rw [e] at h
        obtain ⟨F1, s1, R1, rp, _⟩ := use_ok R st ro ns e
        cases hf1 : free ρ1 i with
        | false => dsimp only at h; rw [hf1] at h; exact False.elim h
        | true =>
          dsimp only at h
          rw [hf1] at h
          obtain ⟨R', s'⟩ := set_dat R1 rp hf1
          exact h _ F1 H (s1.s.trans s') R'
end
section
variable {X : Cx} {W : WX} {pos : Pos}
theorem ES {F H : Hp} {σ : Sg} {ρ : Rho} {Z : Ends} {r : Rs Opd} {f : Opd → Rho → Rs Flow} {Q' : VK} (h : SPost X.K W F H σ ρ Z (r.bind f)) (k : ∀ o ρ1 v F1 H1, Step F H σ ρ F1 H1 ρ1 → Rel X.K F1 σ H1 ρ1 → RO X.K F1 H1 σ ρ1 v o → NewSep H1 F H σ ρ v o → SPost X.K W F H σ ρ Z (f o ρ1) → Q' v H1) : EPost X.K W F H σ ρ Q' r := by
  cases r with
  | fail => exact h
  | ex x ρ' => exact XPostS.x h
  | ok o ρ1 => exact fun v F1 H1 s1 R1 ro ns => k o ρ1 v F1 H1 s1 R1 ro ns h
theorem ds_set {i : Nat} {e : Expr} {m : ME} {x : Str} {pos' : Pos} (hN : X.N.Nodup) (hi : X.N[i]? = some x) (hx : Loc X.env.scope x) (he : DE X W e m) (hs : swapsWith e (some (.Name x pos')) pos.line X.env = pure false := by rfl)
    (hf : X.fn x = true ∨ X.env.scope.names.lookup x = some .local := by first | exact .inl rfl | exact .inr rfl | assumption) : DS X W (.Assign [.Name x pos'] e pos) (sSet i m) := by
  obtain ⟨t, p, q⟩ := he
  exact ⟨_, ps_set hN hi hx p hs hf, fun F σ H ρ Z R h => q F σ H ρ _ R (ES h fun o ρ1 v F1 H1 s1 R1 ro ns hp => putO_ok R1 s1 ro ns hp)⟩
theorem dss_nil : DSs X W [] sNil := ⟨_, pss_nil, fun F σ H ρ Z R h => h σ F H StepS.refl R⟩
theorem seq_post {F H : Hp} {σ : Sg} {ρ : Rho} {Z : Ends} {r : Rs Flow} {b : MS} {N : St → Hp → Prop} (h : SPost X.K W F H σ ρ Z (match r with
  | .ok .nx ρ1 => b ρ1
  | r => r)) (k : ∀ ρ1 σ1 F1 H1, StepS F H σ ρ F1 H1 σ1 ρ1 → Rel X.K F1 σ1 H1 ρ1 → SPost X.K W F1 H1 σ1 ρ1 Z (b ρ1) → N σ1 H1) : SPost X.K W F H σ ρ { Z with nx := N } r := by
  cases r with
  | fail => exact h
  | ex x ρ' => exact h
  | ok f ρ1 =>
    cases f with
    | nx => exact fun σ1 F1 H1 s1 R1 => k ρ1 σ1 F1 H1 s1 R1 (SPost.step s1 h)
    | rt o => exact h
    | bk => exact h
    | ct => exact h
theorem dss_cons {s : Stmt} {r : List Stmt} {a b : MS} (h1 : DS X W s a) (h2 : DSs X W r b) : DSs X W (s :: r) (sSeq a b) := by
  obtain ⟨t, p, q⟩ := h1
  obtain ⟨u, p2, q2⟩ := h2
  exact ⟨_, pss_cons p p2, fun F σ H ρ Z R h => q F σ H ρ _ R (seq_post h fun ρ1 σ1 F1 H1 s1 R1 hp => q2 F1 σ1 H1 ρ1 Z R1 hp)⟩
theorem dss_one {s : Stmt} {a : MS} (h1 : DS X W s a) : DSs X W [s] a := by
  obtain ⟨t, p, q⟩ := h1
  exact ⟨_, pss_one p, q⟩
theorem ds_expr {e : Expr} {m : ME} (he : DE X W e m) (hs : swapsWith e none pos.line X.env = pure false := by rfl) : DS X W (.Expr e pos) (sExp m) := by
  obtain ⟨t, p, q⟩ := he
  exact ⟨_, ps_expr p hs, fun F σ H ρ Z R h => q F σ H ρ _ R (ES h fun o ρ1 v F1 H1 s1 R1 ro ns hp => hp σ F1 H1 s1.s R1)⟩
theorem set_un {K : PySem.W.Frag} {F H : Hp} {σ : Sg} {ρ : Rho} {i : Nat} (R : Rel K F σ H ρ) (hf : free ρ i = true) : Rel K F σ H (ρ.set i .un) ∧ StepS F H σ ρ F H σ (ρ.set i .un) := by
  have nu : ∀ {j t}, (ρ.set i .un)[j]? = some t → t ≠ .un → j ≠ i ∧ ρ[j]? = some t := fun {j t} e n => by
    by_cases hj : j = i
    · subst hj
      by_cases hl : j < ρ.length
      · rw [List.getElem?_set_self hl] at e; cases e; exact absurd rfl n
      · rw [List.getElem?_eq_none (by simpa using hl)] at e; cases e
    · rw [List.getElem?_set_ne (Ne.symm hj)] at e; exact ⟨hj, e⟩
  refine ⟨⟨R.sub, by rw [List.length_set]; exact R.len, fun j d e => R.dat j d (nu e (by simp)).2, fun j s d e m q => R.own j s d (nu e (by rintro rfl; cases m)).2 m q, fun j k a h1 h2 => R.sep j k a (mine_set rfl h1).2 (mine_set rfl h2).2, fun j s t e q => R.obj j s t (nu e (by rintro rfl; cases q)).2 q, fun j b e => R.exc j b (nu e (by simp)).2, R.tab, R.tie_set rfl (Ext.refl _) (fun _ _ _ _ => rfl) σ fun _ _ => rfl⟩,
    ⟨⟨Ext.refl _, fun a o h t f n => ⟨h, f, fun ⟨j, m⟩ => n ⟨j, (mine_set rfl m).2⟩⟩⟩, ?_⟩⟩
  have p := par_put (σ := σ) (w := none) (s := .un) hf
  exact ⟨fun j d e => ⟨(p.1 j d e).1, rfl⟩, fun j d e => ⟨(p.2.1 j d e).1, rfl⟩, fun j d e => ⟨(p.2.2 j d e).1, rfl⟩⟩
theorem ds_ret {e : Expr} {m : ME} (he : DE X W e m) (p : ∀ {t}, PE X e t → PS X (.Return (some e) pos) (tRet t) := by intro t h; exact ps_ret h) : DS X W (.Return (some e) pos) (sRet m) := by
  obtain ⟨t, pe, q⟩ := he
  refine ⟨_, p pe, fun F σ H ρ Z R h => q F σ H ρ _ R (ES h fun o ρ1 v F1 H1 s1 R1 ro ns hp => ?_)⟩
  unfold outO at hp
  cases o with
  | val d => exact hp v σ F1 H1 s1.s R1 ro ns
  | new d => exact hp v σ F1 H1 s1.s R1 ro ns
  | nob t => exact hp v σ F1 H1 s1.s R1 ro ns
  | lob i =>
    obtain ⟨hv, _⟩ := ro
    dsimp only at hp
    cases e : ρ1[i]? with
    | none => rw [e] at hp; exact False.elim hp
    | some s =>
      rw [e] at hp
      cases s <;> try (exact False.elim hp)
      rename_i t
      obtain ⟨w, h1, ta, nd⟩ := R1.obj i _ t e rfl
      rw [hv] at h1; cases h1
      have hf : free ρ1 i = true := by unfold free; rw [e]
      obtain ⟨R2, s2⟩ := set_un R1 hf
      have mi : ∀ a ∈ fpT H1 v t, Mine H1 σ ρ1 i a := fun a ha => ⟨_, v, e, hv, ha⟩
      refine hp v σ F1 H1 (s1.s.trans s2) R2 ⟨ta, nd, fun a ha ⟨j, m⟩ => ?_⟩ fun _ b e1 u hb t f0 => Classical.byContradiction fun n => ?_
      · obtain ⟨ne, m'⟩ := mine_set rfl m
        exact ne (R1.sep j i a m' (mi a ha))
      · obtain ⟨_, _, z⟩ := s1.fr.keep _ u hb t f0 n
        exact z ⟨i, mi b e1⟩
  | loc i =>
    obtain ⟨hv, _⟩ := ro
    dsimp only at hp
    cases e : ρ1[i]? with
    | none => rw [e] at hp; exact False.elim hp
    | some s =>
      rw [e] at hp
      cases s with
      | un => exact False.elim hp
      | par d => exact False.elim hp
      | lck d => exact False.elim hp
      | obj t => exact False.elim hp
      | opa t => exact False.elim hp
      | exc a => exact False.elim hp
      | dat d =>
        obtain ⟨w, h1, h2⟩ := R1.dat i d e
        rw [hv] at h1; cases h1
        exact hp v σ F1 H1 s1.s R1 h2 (fun z => nomatch z)
      | own d =>
        obtain ⟨a, h1, f, ow⟩ := R1.own i _ d e rfl rfl
        rw [hv] at h1; cases h1
        have hf : free ρ1 i = true := by unfold free; rw [e]
        obtain ⟨R2, s2⟩ := set_un R1 hf
        have mi : Mine H1 σ ρ1 i a := Mine.of e rfl hv
        refine hp (.ref a) σ F1 H1 (s1.s.trans s2) R2 ⟨a, rfl, f, ow, fun ⟨j, m⟩ => ?_⟩ fun _ b e1 u hb t f0 => Classical.byContradiction fun n => ?_
        · obtain ⟨ne, m'⟩ := mine_set rfl m
          exact ne (R1.sep j i a m' mi)
        · cases mem_refs.mp (show b ∈ refsV (.ref a) from e1)
          obtain ⟨_, _, z⟩ := s1.fr.keep _ u hb t f0 n
          exact z ⟨i, mi⟩
theorem ds_if {c : Expr} {a b : List Stmt} {mc : MT} {ma mb : MS} (hc : DT X W c mc) (ha : DSs X W a ma) (hb : DSs X W b mb) : DS X W (.If c a b pos) (sIf mc ma mb) := by
  obtain ⟨t, p, q⟩ := hc
  obtain ⟨t1, p1, q1⟩ := ha
  obtain ⟨t2, p2, q2⟩ := hb
  refine ⟨_, ps_if p p1 p2, fun F σ H ρ Z R h => q F σ H ρ _ R (bindTS h fun x ρ1 F1 H1 s1 R1 hp => ?_)⟩
  cases x with
  | true => exact q1 F1 σ H1 ρ1 Z R1 hp
  | false => exact q2 F1 σ H1 ρ1 Z R1 hp
def sWhile (c : MT) (b : MS) : Nat → MS
  | 0 => fun _ => .fail
  | n + 1 => fun ρ => (c ρ).bind fun x ρ1 => if x = true then (match b ρ1 with
    | .ok .nx ρ2 => sWhile c b n ρ2
    | .ok .ct ρ2 => sWhile c b n ρ2
    | .ok .bk ρ2 => .ok .nx ρ2
    | r => r) else .ok .nx ρ1
theorem ds_while {c : Expr} {body : List Stmt} {mc : MT} {mb : MS} (n : Nat) (hp : PassesOwn (model X.prog X.w) X.A X.env X.xe) (hc : DT X W c mc) (hb : DSs X W body mb) : DS X W (.While c body [] pos) (sWhile mc mb n) := by
  obtain ⟨t, p, q⟩ := hc
  obtain ⟨t1, p1, q1⟩ := hb
  refine ⟨_, ps_while hp p p1, fun F σ H ρ Z R h => ?_⟩
  refine ⟨fun m σ H => ∃ F ρ, Rel X.K F σ H ρ ∧ SPost X.K W F H σ ρ Z (sWhile mc mb m ρ), ⟨n, F, ρ, R, h⟩, ?_⟩
  rintro m σ H ⟨F, ρ, R, h⟩
  cases m with
  | zero => exact False.elim h
  | succ m =>
    refine q F σ H ρ _ R (bindTS (f := fun x ρ1 => if x = true then (match mb ρ1 with
    | .ok .nx ρ2 => sWhile mc mb m ρ2
    | .ok .ct ρ2 => sWhile mc mb m ρ2
    | .ok .bk ρ2 => .ok .nx ρ2
    | r => r) else .ok .nx ρ1) h fun x ρ1 F1 H1 s1 R1 hp => ?_)
    cases x with
    | false => exact hp σ F1 H1 StepS.refl R1
    | true =>
      refine ⟨fun σ' H' => ∃ F' ρ', Rel X.K F' σ' H' ρ' ∧ SPost X.K W F' H' σ' ρ' Z (sWhile mc mb m ρ'), fun σ' H' ⟨F', ρ', R', h'⟩ => ⟨m, Nat.lt_succ_self m, F', ρ', R', h'⟩, q1 F1 σ H1 ρ1 _ R1 ?_⟩
      have hp : SPost X.K W F1 H1 σ ρ1 Z (match mb ρ1 with
        | .ok .nx ρ2 => sWhile mc mb m ρ2
        | .ok .ct ρ2 => sWhile mc mb m ρ2
        | .ok .bk ρ2 => .ok .nx ρ2
        | r => r) := hp
      cases e : mb ρ1 with
      | fail => rw [e] at hp; exact hp
      | ex x ρ' => rw [e] at hp; exact hp
      | ok f ρ2 =>
        rw [e] at hp
        cases f with
        | nx => exact fun σ2 F2 H2 s2 R2 => ⟨F2, ρ2, R2, SPost.step s2 hp⟩
        | ct => exact fun σ2 F2 H2 s2 R2 => ⟨F2, ρ2, R2, SPost.step s2 hp⟩
        | bk => exact hp
        | rt o => exact hp
end
abbrev MGs := List D → Rho → Option Rho
section
variable {X : Cx} {W : WX} {pos : Pos}
def gN (i : Nat) : MG := fun d ρ => if free ρ i = true then some (ρ.set i (.dat d)) else none
theorem gN_only (i : Nat) : OnlyG [i] (gN i) := fun d ρ ρ' e => by
  unfold gN at e
  split at e
  · cases e
    exact ⟨by simp, fun j hj => List.getElem?_set_ne (by intro z; exact hj (by simp [z]))⟩
  · cases e
theorem gN_ok {i : Nat} : ∀ (F : Hp) (σ : Sg) (H : Hp) (ρ : Rho) (v : V) (d : D) (ρ' : Rho) (Q : Sg → Hp → Prop), Rel X.K F σ H ρ → Rp X.K F v d → gN i d ρ = some ρ' → (∀ σ', Agree [i] σ σ' → StepS F H σ ρ F H σ' ρ' → Rel X.K F σ' H ρ' → Q σ' H) → gName i v σ H Q := fun F σ H ρ v d ρ' Q R rp e k => by
  unfold gN at e
  cases hf : free ρ i with
  | false => rw [hf] at e; cases e
  | true =>
    rw [hf] at e
    cases e
    obtain ⟨R', s'⟩ := set_dat R rp hf
    exact k _ ⟨by simp, fun j hj => List.getElem?_set_ne (by intro z; exact hj (by simp [z]))⟩ s' R'
theorem dg_name {i : Nat} {x : Str} (h : PG X (.Name x pos) (gName i)) : DG X (.Name x pos) [i] (gN i) := ⟨gN_only i, _, h, gN_ok⟩
def gsNil : MGs := fun ds ρ => match ds with
  | [] => some ρ
  | _ => none
def gsCons (a : MG) (b : MGs) : MGs := fun ds ρ => match ds with
  | d :: ds => (match a d ρ with
    | some ρ1 => b ds ρ1
    | none => none)
  | _ => none
def gT (n : Nat) (b : MGs) : MG := fun d ρ => match d with
  | .tuple ds => if ds.length = n then b ds ρ else none
  | _ => none
structure Good (K : PySem.W.Frag) (J : It) (F1 : Hp) (C : Hp → Hp → Prop) (ds : List D) : Prop where
  go : ∀ (i : Nat) (F H : Hp), Ext F1 F → Sub F H → C F H → i < ds.length → J.go i H ∧ ∀ x H', J.yld i H x H' → ∃ F' d, ds[i]? = some d ∧ Grow F H F' H' ∧ Rp K F' x d
  stop : ∀ (i : Nat) (F H : Hp), Ext F1 F → Sub F H → C F H → ds.length ≤ i → J.stop i H
def lockC (K : PySem.W.Frag) (σ : Sg) : Option (Nat × D) → Hp → Hp → Prop
  | none => fun _ _ => True
  | some (j, d) => fun F H => ∃ a, σ[j]? = some (some (.ref a)) ∧ OwnAt K F H a d
def Locked (ρ : Rho) (lk : Option (Nat × D)) : Prop := ∀ j d, lk = some (j, d) → ρ[j]? = some (.lck d)
def IPost (K : PySem.W.Frag) (W : WX) (F H : Hp) (σ : Sg) (ρ : Rho) (R : It → Hp → Prop) : Rs Src → Prop
  | .ok s ρ' => ∀ J F' H', Step F H σ ρ F' H' ρ' → Rel K F' σ H' ρ' → Good K J F' (lockC K σ s.lk) s.ds → Locked ρ' s.lk → R J H'
  | .ex x ρ' => XPost K W F H σ ρ x ρ'
  | .fail => False
def DI (X : Cx) (W : WX) (tg e : Expr) (mi : MI) : Prop := ∃ wi, PI X tg e wi ∧ ∀ F σ H ρ R, Rel X.K F σ H ρ → IPost X.K W F H σ ρ R (mi ρ) → wi σ H R
theorem EI {K : PySem.W.Frag} {F H : Hp} {σ : Sg} {ρ : Rho} {Z : It → Hp → Prop} {r : Rs Opd} {f : Opd → Rho → Rs Src} {Q' : VK} (h : IPost K W F H σ ρ Z (r.bind f)) (k : ∀ o ρ1 v F1 H1, Step F H σ ρ F1 H1 ρ1 → Rel K F1 σ H1 ρ1 → RO K F1 H1 σ ρ1 v o → NewSep H1 F H σ ρ v o → IPost K W F H σ ρ Z (f o ρ1) → Q' v H1) : EPost K W F H σ ρ Q' r := by
  cases r with
  | fail => exact h
  | ex x ρ' => exact h
  | ok o ρ1 => exact fun v F1 H1 s1 R1 ro ns => k o ρ1 v F1 H1 s1 R1 ro ns h
theorem AI {K : PySem.W.Frag} {F H : Hp} {σ : Sg} {ρ : Rho} {Z : It → Hp → Prop} {r : Rs (List Opd)} {f : List Opd → Rho → Rs Src} {Q' : List V → Hp → Prop} (h : IPost K W F H σ ρ Z (r.bind f)) (k : ∀ o ρ1 v F1 H1, Step F H σ ρ F1 H1 ρ1 → Rel K F1 σ H1 ρ1 → ROs K F1 H1 σ ρ1 v o → NewSeps H1 F H σ ρ v o → IPost K W F H σ ρ Z (f o ρ1) → Q' v H1) : APost K W F H σ ρ Q' r := by
  cases r with
  | fail => exact h
  | ex x ρ' => exact h
  | ok o ρ1 => exact fun v F1 H1 s1 R1 ro ns => k o ρ1 v F1 H1 s1 R1 ro ns h
theorem good_list {K : PySem.W.Frag} {F1 : Hp} {a : Addr} {vs : List V} {ds : List D} (h : F1 a = some (.lst vs)) (r : RpA K F1 vs ds) : Good K (Itl K a) F1 (fun _ _ => True) ds where
  go := fun i F H e s _ hi => by
    have hl : i < vs.length := by rw [r.length]; exact hi
    have q : SqL K H a vs := SqL.of (s.lst (e _ _ h))
    refine ⟨⟨vs, vs[i], q, List.getElem?_eq_getElem hl⟩, fun x H' y => ?_⟩
    obtain ⟨e1, y⟩ := y
    subst e1
    have hx := y vs q
    obtain ⟨d, h1, h2⟩ := (r.mono e).getv hx
    exact ⟨F, d, h1, Grow.refl s, h2⟩
  stop := fun i F H e s _ hi => ⟨vs, SqL.of (s.lst (e _ _ h)), by rw [r.length]; exact hi⟩
theorem good_tup {K : PySem.W.Frag} {F1 : Hp} {a : Addr} {vs : List V} {ds : List D} (h : F1 a = some (.tup vs)) (r : RpA K F1 vs ds) : Good K (Itt K a) F1 (fun _ _ => True) ds where
  go := fun i F H e s _ hi => by
    have hl : i < vs.length := by rw [r.length]; exact hi
    have q : SqT K H a vs := SqT.of (s.tup (e _ _ h))
    refine ⟨⟨vs, vs[i], q, List.getElem?_eq_getElem hl⟩, fun x H' y => ?_⟩
    obtain ⟨e1, y⟩ := y
    subst e1
    have hx := y vs q
    obtain ⟨d, h1, h2⟩ := (r.mono e).getv hx
    exact ⟨F, d, h1, Grow.refl s, h2⟩
  stop := fun i F H e s _ hi => ⟨vs, SqT.of (s.tup (e _ _ h)), by rw [r.length]; exact hi⟩
theorem good_lock {K : PySem.W.Frag} {F1 : Hp} {σ : Sg} {j : Nat} {a : Addr} {ds : List D} (h : σ[j]? = some (some (.ref a))) : Good K (Itl K a) F1 (lockC K σ (some (j, .list ds))) ds where
  go := fun i F H e s ⟨b, hb, vs, hv, r⟩ hi => by
    rw [h] at hb; cases hb
    have hl : i < vs.length := by rw [r.length]; exact hi
    refine ⟨⟨vs, vs[i], SqL.of hv, List.getElem?_eq_getElem hl⟩, fun x H' y => ?_⟩
    obtain ⟨e1, y⟩ := y
    subst e1
    have hx := y vs (SqL.of hv)
    obtain ⟨d, h1, h2⟩ := r.getv hx
    exact ⟨F, d, h1, Grow.refl s, h2⟩
  stop := fun i F H e s ⟨b, hb, vs, hv, r⟩ hi => by
    rw [h] at hb; cases hb
    exact ⟨vs, SqL.of hv, by rw [r.length]; exact hi⟩
theorem good_range {K : PySem.W.Frag} {F1 : Hp} {lo : Int} {n : Nat} : Good K (Itr lo n) F1 (fun _ _ => True) ((List.range n).map fun k : Nat => .int (lo + (k : Int))) where
  go := fun i F H e s _ hi => by
    have hi : i < n := by simpa using hi
    refine ⟨hi, fun x H' y => ?_⟩
    obtain ⟨e1, e2⟩ := y
    subst e1 e2
    exact ⟨F, .int (lo + i), by simp [hi], Grow.refl s, .int _⟩
  stop := fun i F H e s _ hi => by
    have hi : n ≤ i := by simpa using hi
    exact hi
theorem di_list {tg e : Expr} {m : ME} (h : DE X W e m) : DI X W tg e (iLst m) := by
  obtain ⟨t, p, q⟩ := h
  refine ⟨_, pi_list p, fun F σ H ρ Z R h => q F σ H ρ _ R (EI h fun o ρ1 v F1 H1 s1 R1 ro ns hp => ?_)⟩
  have frozen : ∀ ds F2 {ρ2 : Rho}, Rp X.K F2 v (.list ds) → Step F H σ ρ F2 H1 ρ2 → Rel X.K F2 σ H1 ρ2 → IPost X.K W F H σ ρ Z (.ok ⟨ds, none⟩ ρ2) → ∃ a, v = .ref a ∧ (∃ xs, SqL X.K H1 a xs) ∧ Z (Itl X.K a) H1 := fun ds F2 {ρ2} rp s2 R2 hq => by
    obtain ⟨a, vs, e1, h1, r⟩ := rp.list
    exact ⟨a, e1, ⟨vs, SqL.of (R2.sub.lst h1)⟩, hq _ F2 H1 s2 R2 (good_list h1 r) (fun j d z => nomatch z)⟩
  cases o with
  | nob t => exact False.elim hp
  | lob t => exact False.elim hp
  | val d =>
    cases d with
    | list ds => exact frozen ds F1 ro s1 R1 hp
    | none => exact False.elim hp
    | bool b => exact False.elim hp
    | int b => exact False.elim hp
    | str b => exact False.elim hp
    | tuple b => exact False.elim hp
    | dict b => exact False.elim hp
  | new d =>
    cases d with
    | list ds =>
      obtain ⟨F2, s2, R2, rp, _⟩ := use_ok (d := .list ds) (ρ1 := ρ1) R1 s1 ro ns rfl
      exact frozen ds F2 rp s2 R2 hp
    | none => exact False.elim hp
    | bool b => exact False.elim hp
    | int b => exact False.elim hp
    | str b => exact False.elim hp
    | tuple b => exact False.elim hp
    | dict b => exact False.elim hp
  | loc j =>
    obtain ⟨hv, _⟩ := ro
    unfold srcL at hp
    dsimp only at hp
    cases e : ρ1[j]? with
    | none => rw [e] at hp; exact False.elim hp
    | some s =>
      rw [e] at hp
      cases s with
      | un => exact False.elim hp
      | own d =>
        cases d with
        | list ds =>
          obtain ⟨F2, s2, R2, rp, _⟩ := use_ok (o := .loc j) (d := .list ds) (ρ1 := ρ1.set j (.dat (.list ds))) R1 s1 ⟨hv, _, _, e, rfl⟩ (fun z => nomatch z) (by simp [useO, e])
          exact frozen ds F2 rp s2 R2 hp
        | none => exact False.elim hp
        | bool b => exact False.elim hp
        | int b => exact False.elim hp
        | str b => exact False.elim hp
        | tuple b => exact False.elim hp
        | dict b => exact False.elim hp
      | par d => exact False.elim hp
      | obj d => exact False.elim hp
      | opa d => exact False.elim hp
      | exc d => exact False.elim hp
      | dat d =>
        obtain ⟨w, h1, h2⟩ := R1.dat j d e
        rw [hv] at h1; cases h1
        cases d with
        | list ds => exact frozen ds F1 h2 s1 R1 hp
        | none => exact False.elim hp
        | bool b => exact False.elim hp
        | int b => exact False.elim hp
        | str b => exact False.elim hp
        | tuple b => exact False.elim hp
        | dict b => exact False.elim hp
      | lck d =>
        obtain ⟨a, h1, f, ow⟩ := R1.own j _ d e rfl rfl
        rw [hv] at h1; cases h1
        cases d with
        | list ds =>
          obtain ⟨vs, hh, r⟩ := id ow
          exact ⟨a, rfl, ⟨vs, SqL.of hh⟩, hp _ F1 H1 s1 R1 (good_lock hv) (fun j' d' z => by cases z; exact e)⟩
        | none => exact False.elim hp
        | bool b => exact False.elim hp
        | int b => exact False.elim hp
        | str b => exact False.elim hp
        | tuple b => exact False.elim hp
        | dict b => exact False.elim hp
theorem di_tup {tg e : Expr} {m : ME} (h : DE X W e m) : DI X W tg e (iTpl m) := by
  obtain ⟨t, p, q⟩ := h
  refine ⟨_, pi_tup p, fun F σ H ρ Z R h => q F σ H ρ _ R (EI h fun o ρ1 v F1 H1 s1 R1 ro ns hp => ?_)⟩
  unfold srcT at hp
  cases e : deref ρ1 o with
  | none => rw [e] at hp; exact False.elim hp
  | some d =>
    rw [e] at hp
    cases d with
    | tuple ds =>
      obtain ⟨a, vs, e1, h1, r⟩ := (ro.ct R1 e).tuple.tuple
      exact ⟨a, e1, ⟨vs, SqT.of (R1.sub.tup h1)⟩, hp _ F1 H1 s1 R1 (good_tup h1 r) (fun j d z => nomatch z)⟩
    | none => exact False.elim hp
    | bool b => exact False.elim hp
    | int b => exact False.elim hp
    | str b => exact False.elim hp
    | list b => exact False.elim hp
    | dict b => exact False.elim hp
theorem di_range {tg a : Expr} {m : MA} {p : Pos} (hg : Gl X "range") (hm : X.mg "range" = none) (ha : DA X W [a] m) (hs : starEach [a] X.env = [(false, eval a X.env)] := by rfl) : DI X W tg (.Call (.Name "range" p) [a] [] pos) (iRng m) := by
  obtain ⟨t, pa, q⟩ := ha
  refine ⟨_, pi_range1 hg hm pa hs, fun F σ H ρ Z R h => q F σ H ρ _ R (AI h fun os ρ1 vs F1 H1 s1 R1 ro ns hp => ?_)⟩
  obtain ⟨all, _⟩ := ro
  unfold srcR1 at hp
  cases all with
  | nil => exact False.elim hp
  | @cons v o vs os r rs =>
    cases rs with
    | cons r2 rs => exact False.elim hp
    | nil =>
      dsimp only at hp
      cases e : deref ρ1 o with
      | none => rw [e] at hp; exact False.elim hp
      | some d =>
        rw [e] at hp
        cases d with
        | int j =>
          dsimp only at hp
          split at hp
          · rename_i hz
            have := (r.ct R1 e).int
            subst this
            exact ⟨j, rfl, hz.1, hz.2, hp _ F1 H1 s1 R1 good_range (fun j d z => nomatch z)⟩
          · exact False.elim hp
        | none => exact False.elim hp
        | bool b => exact False.elim hp
        | str b => exact False.elim hp
        | list b => exact False.elim hp
        | tuple b => exact False.elim hp
        | dict b => exact False.elim hp
theorem IS {F H : Hp} {σ : Sg} {ρ : Rho} {Z : Ends} {r : Rs Src} {f : Src → Rho → Rs Flow} {R' : It → Hp → Prop} (h : SPost X.K W F H σ ρ Z (r.bind f)) (k : ∀ s ρ1 J F1 H1, Step F H σ ρ F1 H1 ρ1 → Rel X.K F1 σ H1 ρ1 → Good X.K J F1 (lockC X.K σ s.lk) s.ds → Locked ρ1 s.lk → SPost X.K W F1 H1 σ ρ1 Z (f s ρ1) → R' J H1) : IPost X.K W F H σ ρ R' r := by
  cases r with
  | fail => exact h
  | ex x ρ' => exact XPostS.x h
  | ok s ρ1 => exact fun J F1 H1 s1 R1 g l => k s ρ1 J F1 H1 s1 R1 g l (SPost.step s1.s h)
theorem ds_for {tg iter : Expr} {body : List Stmt} {mi : MI} {mg : MG} {mb : MS} {ts : List Nat} (hp : PassesOwn (model X.prog X.w) X.A X.env X.xe) (hc : X.calm = true) (hi : DI X W tg iter mi) (hg : DG X tg ts mg) (hb : DSs X W body mb)
    (hs : ∀ x, foldedSetIterable iter X.env x = pure x := by intro _; rfl) : DS X W (.For tg iter body [] pos) (sFor mi mg mb) := by
  obtain ⟨wi, p, q⟩ := hi
  obtain ⟨_, g, pg, qg⟩ := hg
  obtain ⟨t, pb, qb⟩ := hb
  refine ⟨_, ps_for hp hc p pg pb hs, fun F σ H ρ Z R h => q F σ H ρ _ R (IS h fun s ρ1 J F1 H1 s1 R1 G L hq => ?_)⟩
  have lk : ∀ {F' H' : Hp} {σ' : Sg} {ρ' : Rho}, Rel X.K F' σ' H' ρ' → Locked ρ' s.lk → (∀ j d, s.lk = some (j, d) → σ'[j]? = σ[j]?) → lockC X.K σ s.lk F' H' := fun {F' H' σ' ρ'} R' L' e' => by
    cases e : s.lk with
    | none => exact True.intro
    | some z =>
      obtain ⟨j, d⟩ := z
      obtain ⟨a, h1, f, ow⟩ := R'.own j _ d (L' j d e) rfl rfl
      exact ⟨a, (e' j d e).symm.trans h1, ow⟩
  refine ⟨fun i m σ' H' => m = s.ds.length - i ∧ i ≤ s.ds.length ∧ ∃ F' ρ', Rel X.K F' σ' H' ρ' ∧ Ext F1 F' ∧ Locked ρ' s.lk ∧ (∀ j d, s.lk = some (j, d) → σ'[j]? = σ[j]?) ∧ SPost X.K W F' H' σ' ρ' Z (sLoop mg mb (s.ds.drop i) ρ'), ⟨s.ds.length, by simp, Nat.zero_le _, F1, ρ1, R1, Ext.refl _, L, fun _ _ _ => rfl, hq⟩, ?_⟩
  rintro i m σ' H' ⟨rfl, hi, F', ρ', R', ex, L', e', hq'⟩
  have C := lk R' L' e'
  by_cases hlt : i < s.ds.length
  · obtain ⟨go, yl⟩ := G.go i F' H' ex R'.sub C hlt
    refine .inr ⟨go, fun σ2 H2 => i + 1 ≤ s.ds.length ∧ ∃ F' ρ', Rel X.K F' σ2 H2 ρ' ∧ Ext F1 F' ∧ Locked ρ' s.lk ∧ (∀ j d, s.lk = some (j, d) → σ2[j]? = σ[j]?) ∧ SPost X.K W F' H2 σ2 ρ' Z (sLoop mg mb (s.ds.drop (i + 1)) ρ'), fun σ2 H2 ⟨h1, h2⟩ => ⟨s.ds.length - (i + 1), by omega, rfl, h1, h2⟩, fun x H2 y => ?_⟩
    obtain ⟨F2, d, hd, gr, rp⟩ := yl x H2 y
    have ed : s.ds.drop i = d :: s.ds.drop (i + 1) := by
      rw [List.drop_eq_getElem_cons hlt]
      congr 1
      rw [List.getElem?_eq_getElem hlt] at hd
      exact Option.some.inj hd
    rw [ed] at hq'
    have hq2 := SPost.step (gr.step R').s hq'
    have R2 := gr.rel R'
    unfold sLoop at hq2
    cases em : mg d ρ' with
    | none => rw [em] at hq2; exact False.elim hq2
    | some ρ2 =>
      rw [em] at hq2
      refine qg F2 σ' H2 ρ' x d ρ2 _ R2 rp em fun σ3 ag s3 R3 => ?_
      have hq3 := SPost.step s3 hq2
      refine qb F2 σ3 H2 ρ2 _ R3 ?_
      dsimp only at hq3
      have stay : ∀ {F4 H4 : Hp} {σ4 : Sg} {ρ4 : Rho}, StepS F2 H2 σ3 ρ2 F4 H4 σ4 ρ4 → Ext F1 F4 ∧ Locked ρ4 s.lk ∧ ∀ j d, s.lk = some (j, d) → σ4[j]? = σ[j]? := fun {F4 H4 σ4 ρ4} s4 => by
        have st := s3.trans s4
        refine ⟨ex.trans (gr.ext.trans st.fr.ext), fun j d z => (st.par.2.1 j d (L' j d z)).1, fun j d z => ((st.par.2.1 j d (L' j d z)).2).trans (e' j d z)⟩
      cases er : mb ρ2 with
      | fail => rw [er] at hq3; exact hq3
      | ex x ρ' => rw [er] at hq3; exact hq3
      | ok f ρ4 =>
        rw [er] at hq3
        cases f with
        | nx => exact fun σ4 F4 H4 s4 R4 => ⟨hlt, F4, ρ4, R4, (stay s4).1, (stay s4).2.1, (stay s4).2.2, SPost.step s4 hq3⟩
        | ct => exact fun σ4 F4 H4 s4 R4 => ⟨hlt, F4, ρ4, R4, (stay s4).1, (stay s4).2.1, (stay s4).2.2, SPost.step s4 hq3⟩
        | bk => exact hq3
        | rt o => exact hq3
  · have e : i = s.ds.length := by omega
    subst e
    rw [List.drop_length] at hq'
    exact .inl ⟨G.stop _ F' H' ex R'.sub C (Nat.le_refl _), hq' σ' F' H' StepS.refl R'⟩
end
theorem hide_len (vs : List Nat) (ρ : Rho) : (hide vs ρ).length = ρ.length := by
  induction vs with
  | nil => rfl
  | cons v vs ih => unfold hide; rw [List.length_set, ih]
theorem restore_len (vs : List Nat) (ρ ρ' : Rho) : (restore vs ρ ρ').length = ρ'.length := by
  induction vs with
  | nil => rfl
  | cons v vs ih => unfold restore; rw [List.length_set, ih]
theorem hide_out {vs : List Nat} {ρ : Rho} {j : Nat} (h : j ∉ vs) : (hide vs ρ)[j]? = ρ[j]? := by
  induction vs with
  | nil => rfl
  | cons v vs ih =>
    rw [List.mem_cons, not_or] at h
    unfold hide
    rw [List.getElem?_set_ne (Ne.symm h.1), ih h.2]
theorem hide_in {vs : List Nat} {ρ : Rho} {j : Nat} {s : Slot} (h : j ∈ vs) (e : (hide vs ρ)[j]? = some s) : s = .un := by
  induction vs with
  | nil => cases h
  | cons v vs ih =>
    unfold hide at e
    by_cases hj : v = j
    · subst hj
      by_cases hl : v < (hide vs ρ).length
      · rw [List.getElem?_set_self hl] at e; cases e; rfl
      · rw [List.getElem?_eq_none (by simpa using hl)] at e; cases e
    · rw [List.getElem?_set_ne hj] at e
      exact ih ((List.mem_cons.mp h).resolve_left (Ne.symm hj)) e
theorem restore_out {vs : List Nat} {ρ ρ' : Rho} {j : Nat} (h : j ∉ vs) : (restore vs ρ ρ')[j]? = ρ'[j]? := by
  induction vs with
  | nil => rfl
  | cons v vs ih =>
    rw [List.mem_cons, not_or] at h
    unfold restore
    rw [List.getElem?_set_ne (Ne.symm h.1), ih h.2]
theorem restore_in {vs : List Nat} {ρ ρ' : Rho} {j : Nat} (hl : ρ.length = ρ'.length) (h : j ∈ vs) : (restore vs ρ ρ')[j]? = ρ[j]? := by
  induction vs with
  | nil => cases h
  | cons v vs ih =>
    unfold restore
    by_cases hj : v = j
    · subst hj
      by_cases hv : v < ρ.length
      · rw [List.getElem?_set_self (by rw [restore_len, ← hl]; exact hv), List.getElem?_eq_getElem hv, List.getD_eq_getElem?_getD, List.getElem?_eq_getElem hv]; rfl
      · rw [List.getElem?_eq_none (by rw [List.length_set, restore_len, ← hl]; omega), List.getElem?_eq_none (by omega)]
    · rw [List.getElem?_set_ne hj]
      exact ih ((List.mem_cons.mp h).resolve_left (Ne.symm hj))
theorem wipe_eq {σ σ' : Sg} : ∀ {vs : List Nat}, Agree vs σ σ' → wipe σ' vs = wipe σ vs := fun {vs} h => by
  refine List.ext_getElem? fun j => ?_
  by_cases hj : j ∈ vs
  · have gen : ∀ (τ : Sg) (vs : List Nat), j ∈ vs → (wipe τ vs)[j]? = if j < τ.length then some none else none := by
      intro τ vs
      induction vs with
      | nil => intro h; cases h
      | cons v vs ih =>
        intro h
        unfold wipe
        by_cases hv : v = j
        · subst hv
          by_cases hl : v < τ.length
          · rw [List.getElem?_set_self (by rw [wipe_length]; exact hl), if_pos hl]
          · rw [List.getElem?_eq_none (by rw [List.length_set, wipe_length]; omega), if_neg hl]
        · rw [List.getElem?_set_ne hv]
          exact ih ((List.mem_cons.mp h).resolve_left (Ne.symm hv))
    rw [gen _ _ hj, gen _ _ hj, h.1]
  · rw [wipe_out hj, wipe_out hj]; exact h.2 j hj
section
variable {K : PySem.W.Frag} {W : WX} {F H F' H' : Hp} {σ σ' : Sg} {ρ ρ' : Rho} {vs : List Nat}
theorem hide_mine {j : Nat} {a : Addr} (h : Mine H (wipe σ vs) (hide vs ρ) j a) : j ∉ vs ∧ Mine H σ ρ j a := by
  obtain ⟨s, v, e, e2, m⟩ := h
  have hj : j ∉ vs := fun hj => by
    have := hide_in hj e
    subst this; cases m
  rw [hide_out hj] at e
  rw [wipe_out hj] at e2
  exact ⟨hj, s, v, e, e2, m⟩
theorem hide_rel (R : Rel K F σ H ρ) : Rel K F (wipe σ vs) H (hide vs ρ) := by
  have out : ∀ {j : Nat} {s : Slot}, (hide vs ρ)[j]? = some s → s ≠ .un → j ∉ vs ∧ ρ[j]? = some s := fun {j s} e n => by
    have hj : j ∉ vs := fun hj => n (hide_in hj e)
    rw [hide_out hj] at e
    exact ⟨hj, e⟩
  refine ⟨R.sub, by rw [wipe_length, hide_len]; exact R.len, fun j d e => ?_, fun j s d e m q => ?_, fun j k a h1 h2 => R.sep j k a (hide_mine h1).2 (hide_mine h2).2, fun j s t e q => ?_, fun j b e => ?_, R.tab, ?_⟩
  · obtain ⟨hj, e'⟩ := out e (by simp)
    rw [wipe_out hj]
    exact R.dat j d e'
  · obtain ⟨hj, e'⟩ := out e (by rintro rfl; cases m)
    rw [wipe_out hj]
    exact R.own j s d e' m q
  · obtain ⟨hj, e'⟩ := out e (by rintro rfl; cases q)
    rw [wipe_out hj]
    exact R.obj j s t e' q
  · obtain ⟨hj, e'⟩ := out e (by simp)
    rw [wipe_out hj]
    exact R.exc j b e'
  · refine Tie.keep R.tie (Ext.refl _) (fun j t v e h q => ?_) fun j s x e f h => ?_
    · obtain ⟨hj, e'⟩ := out e (by simp)
      rw [wipe_out hj] at h
      exact ⟨e', h, fun _ => rfl⟩
    · obtain ⟨hj, e'⟩ := out e (by rintro rfl; cases f)
      rw [wipe_out hj] at h
      exact ⟨s, e', f, h⟩
/-- back from a turn -/
theorem restore_rel (R : Rel K F σ H ρ) (kid0 : ∀ (i : Nat) (c : Str) (ns : List Str) (n : Nat) (v : V), i ∉ vs → ρ[i]? = some (.opa (.slf c ns n)) → σ[i]? = some (some v) → kidsV H' v = kidsV H v) (ag : Agree vs (wipe σ vs) σ') (fr : Fr F H (wipe σ vs) (hide vs ρ) F' H' σ' ρ') (hl : ρ.length = ρ'.length) (R' : Rel K F' σ' H' ρ')
    (keep : ∀ j, j ∉ vs → ∀ s, ρ[j]? = some s → ∃ s', ρ'[j]? = some s' ∧ KpS s s') : Rel K F' σ H' (restore vs ρ ρ') ∧ Step F H σ ρ F' H' (restore vs ρ ρ') := by
  have sg : ∀ {j}, j ∉ vs → σ'[j]? = σ[j]? := fun {j} hj => by rw [ag.2 j hj, wipe_out hj]
  have prot : ∀ {j : Nat} {a : Addr}, j ∈ vs → Mine H σ ρ j a → H' a = H a ∧ F' a = none ∧ ¬ Own H' σ' ρ' a := fun {j a} hj m => by
    obtain ⟨f, o, ho, t⟩ := R.has ⟨j, m⟩
    obtain ⟨x, y, z⟩ := fr.keep a o ho t f fun ⟨k, mk⟩ => by
      obtain ⟨hk, mk'⟩ := hide_mine mk
      have := R.sep j k a m mk'
      subst this; exact hk hj
    exact ⟨by rw [x, ho], y, z⟩
  have back1 : ∀ {j : Nat} {a : Addr}, j ∈ vs → (Mine H' σ ρ j a ↔ Mine H σ ρ j a) := fun {j a} hj => R.mine1 j (fun b h => (prot hj h).1) a
  have mine : ∀ {j : Nat} {a : Addr}, Mine H' σ (restore vs ρ ρ') j a → (j ∈ vs ∧ Mine H σ ρ j a) ∨ (j ∉ vs ∧ Mine H' σ' ρ' j a) := fun {j a} ⟨s, v, e, e2, m⟩ => by
    by_cases hj : j ∈ vs
    · rw [restore_in hl hj] at e; exact .inl ⟨hj, (back1 hj).mp ⟨s, v, e, e2, m⟩⟩
    · rw [restore_out hj] at e; exact .inr ⟨hj, s, v, e, by rw [sg hj]; exact e2, m⟩
  have data : ∀ {s : Slot}, s.mine = true → ∃ d, s.data? = some d := fun {s} m => by cases s <;> first | (cases m; done) | exact ⟨_, rfl⟩
  have kid : Kid H σ ρ H' := fun i c ns n v e h => by
    by_cases hi : i ∈ vs
    · exact R.kids e h fun a m => (prot hi m).1
    · exact kid0 i c ns n v hi e h
  refine ⟨⟨R'.sub, by rw [restore_len, ← hl]; exact R.len, fun j d e => ?_, fun j s d e m q => ?_, fun j k a h1 h2 => ?_, fun j s t e q => ?_, fun j b e => ?_, R'.tab, ?_⟩, ⟨⟨fr.ext, fun a o h t f n => ?_⟩, ?_, kid⟩⟩
  · by_cases hj : j ∈ vs
    · rw [restore_in hl hj] at e
      obtain ⟨v, h1, h2⟩ := R.dat j d e
      exact ⟨v, h1, h2.mono fr.ext⟩
    · rw [restore_out hj] at e
      rw [← sg hj]
      exact R'.dat j d e
  · by_cases hj : j ∈ vs
    · rw [restore_in hl hj] at e
      obtain ⟨a, h1, f, ow⟩ := R.own j s d e m q
      obtain ⟨x, y, _⟩ := prot hj (Mine.of e m h1)
      exact ⟨a, h1, y, ow.mono fr.ext fun u hu => by rw [x]; exact hu⟩
    · rw [restore_out hj] at e
      rw [← sg hj]
      exact R'.own j s d e m q
  · have cross : ∀ {j k a}, j ∈ vs → Mine H σ ρ j a → Mine H' σ' ρ' k a → False := fun {j k a} hj m mk => (prot hj m).2.2 ⟨k, mk⟩
    rcases mine h1 with ⟨a1, m1⟩ | ⟨a1, m1⟩ <;> rcases mine h2 with ⟨a2, m2⟩ | ⟨a2, m2⟩
    · exact R.sep j k a m1 m2
    · exact False.elim (cross a1 m1 m2)
    · exact False.elim (cross a2 m2 m1)
    · exact R'.sep j k a m1 m2
  · by_cases hj : j ∈ vs
    · rw [restore_in hl hj] at e
      obtain ⟨v, h1, h2, h3, _⟩ := R.trees (F' := F') (H' := H') fr.ext e q fun a h => ⟨(prot hj h).1, fun _ => (prot hj h).2.1⟩
      exact ⟨v, h1, h2, h3⟩
    · rw [restore_out hj] at e
      rw [← sg hj]
      exact R'.obj j s t e q
  · by_cases hj : j ∈ vs
    · rw [restore_in hl hj] at e
      exact ⟨(R.exc j b e).1, (R.exc j b e).2.mono fr.ext⟩
    · rw [restore_out hj] at e
      rw [← sg hj]
      exact R'.exc j b e
  · refine Tie.keep R.tie fr.ext (fun j t v e h q => ?_) fun j s x e f h => ?_
    · have e3 : ρ[j]? = some (.opa t) := by
        by_cases hj : j ∈ vs
        · rw [restore_in hl hj] at e; exact e
        · rw [restore_out hj] at e
          have hjl : j < ρ.length := by rw [hl]; exact (List.getElem?_eq_some_iff.mp e).1
          obtain ⟨s', e2, k⟩ := keep j hj _ (List.getElem?_eq_getElem hjl)
          rw [e] at e2
          cases e2
          rw [List.getElem?_eq_getElem hjl, k.odd q]
      exact ⟨e3, h, fun ⟨c, ns, n, z⟩ => by subst z; exact kid j c ns n v e3 h⟩
    · by_cases hj : j ∈ vs
      · rw [restore_in hl hj] at e
        exact ⟨s, e, f, h⟩
      · rw [restore_out hj] at e
        have hjl : j < ρ.length := by rw [hl]; exact (List.getElem?_eq_some_iff.mp e).1
        obtain ⟨s', e2, k⟩ := keep j hj _ (List.getElem?_eq_getElem hjl)
        rw [e] at e2
        cases e2
        exact ⟨_, List.getElem?_eq_getElem hjl, k.fix f, h⟩
  · obtain ⟨x, y, z⟩ := fr.keep a o h t f fun ⟨k, mk⟩ => n ⟨k, (hide_mine mk).2⟩
    refine ⟨x, y, fun ⟨k, mk⟩ => ?_⟩
    rcases mine mk with ⟨_, m1⟩ | ⟨_, m1⟩
    · exact n ⟨k, m1⟩
    · exact z ⟨k, m1⟩
  · refine ⟨by rw [restore_len]; exact hl, fun j s e => ?_⟩
    by_cases hj : j ∈ vs
    · exact ⟨s, by rw [restore_in hl hj]; exact e, KpS.refl s⟩
    · rw [restore_out hj]; exact keep j hj s e
end
abbrev W0 : WX := fun _ _ _ _ => False
section
variable {X : Cx} {W : WX} {pos : Pos}
theorem dts_nil : DTs X W [] tTrue := ⟨_, pts_nil, fun F σ H ρ Q R h => h F H Step.refl R⟩
theorem dts_one {c : Expr} {m : MT} (h : DT X W c m) : DTs X W [c] m := let ⟨t, p, q⟩ := h; ⟨_, pts_one p, q⟩
theorem IE {F H : Hp} {σ : Sg} {ρ : Rho} {Q : VK} {r : Rs Src} {f : Src → Rho → Rs Opd} {R' : It → Hp → Prop} (h : EPost X.K W F H σ ρ Q (r.bind f)) (k : ∀ s ρ1 J F1 H1, Step F H σ ρ F1 H1 ρ1 → Rel X.K F1 σ H1 ρ1 → Good X.K J F1 (lockC X.K σ s.lk) s.ds → Locked ρ1 s.lk → EPost X.K W F1 H1 σ ρ1 Q (f s ρ1) → R' J H1) : IPost X.K W F H σ ρ R' r := by
  cases r with
  | fail => exact h
  | ex x ρ' => exact h
  | ok s ρ1 => exact fun J F1 H1 s1 R1 g l => k s ρ1 J F1 H1 s1 R1 g l (EPost.step s1 h)
theorem rel_upd {K : PySem.W.Frag} {F H : Hp} {σ : Sg} {ρ : Rho} {D : Addr} {o : HO} (R : Rel K F σ H ρ) (f : F D = none) (n : ¬ Own H σ ρ D) (ht : ∀ u, H D = some u → ¬ isTE u) : Rel K F σ (upd H D o) ρ := by
  have ne : ∀ b u, F b = some u → b ≠ D := fun b u h z => by subst z; rw [f] at h; cases h
  have same : ∀ b, Own H σ ρ b → (upd H D o) b = H b := fun b h => upd_ne fun z => n (z ▸ h)
  refine ⟨fun b u h => ?_, R.len, R.dat, fun i s d e m q => ?_, fun i j a h1 h2 => R.sep i j a ((R.mine same i a).mp h1) ((R.mine same j a).mp h2), fun i s t e q => ?_, R.exc, tabs_upd ht R.tab, R.tieS (Ext.refl _) same⟩
  · obtain ⟨r, t⟩ := R.sub b u h
    refine ⟨?_, t⟩
    rcases r with r | ⟨x, r, y⟩
    · exact .inl (by rw [upd_ne (ne b u h)]; exact r)
    · exact .inr ⟨x, by rw [upd_ne (ne b u h)]; exact r, y⟩
  · obtain ⟨a, h1, h2, h3⟩ := R.own i s d e m q
    have : a ≠ D := by rintro rfl; exact n ⟨i, Mine.of e m h1⟩
    exact ⟨a, h1, h2, h3.mono (Ext.refl _) fun u hu => by rw [upd_ne this]; exact hu⟩
  · obtain ⟨v, h1, h2, h3, _⟩ := R.trees (F' := F) (H' := upd H D o) (Ext.refl _) e q fun a h => ⟨same a ⟨i, h⟩, id⟩
    exact ⟨v, h1, h2, h3⟩
theorem Step.upd {K : PySem.W.Frag} {F H F' H' : Hp} {σ : Sg} {ρ ρ' : Rho} {D : Addr} {o : HO} (s : Step F H σ ρ F' H' ρ') (hD : H D = none) (R : Rel K F' σ H' ρ') (nD : ¬ Own H' σ ρ' D) : Step F H σ ρ F' (upd H' D o) ρ' := ⟨⟨s.fr.ext, fun a u h t f n => by
  obtain ⟨x, y, z⟩ := s.fr.keep a u h t f n
  exact ⟨by rw [upd_ne (ne_of_none h hD)]; exact x, y, fun q => z ((R.owns (fun b hb => upd_ne (by rintro rfl; exact nD hb)) a).mp q)⟩⟩, s.kp, s.kid.trans (R.kid fun b c _ m => upd_ne (by rintro rfl; exact nD ⟨b, m⟩)) s.kp⟩
theorem lc_sem1 {wi : TI} {g : TG} {tt : TT} {te : TE} {vs ts : List Nat} {mi : MI} {mg : MG} {mt : MT} {me : ME} {F H : Hp} {σ : Sg} {ρ : Rho} (q : ∀ R, IPost X.K W F H σ ρ R (mi ρ) → wi σ H R)
    (pgn : ∀ j ∈ ts, j ∈ vs) (om : OnlyG ts mg)
    (qg : ∀ F σ H ρ v d ρ' Q, Rel X.K F σ H ρ → Rp X.K F v d → mg d ρ = some ρ' → (∀ σ', Agree ts σ σ' → StepS F H σ ρ F H σ' ρ' → Rel X.K F σ' H ρ' → Q σ' H) → g v σ H Q)
    (qt : ∀ F σ H ρ Q, Rel X.K F σ H ρ → TPost X.K W0 F H σ ρ Q (mt ρ) → tt σ H Q)
    (qe : ∀ F σ H ρ Q, Rel X.K F σ H ρ → EPost X.K W0 F H σ ρ Q (me ρ) → te σ H Q) :
    ∀ Q, Rel X.K F σ H ρ → EPost X.K W F H σ ρ Q (eComp vs mi mg mt me ρ) → tLc wi g tt te vs σ H Q := by
  intro Q R h
  refine q _ (IE h fun s ρ1 J F1 H1 s1 R1 G L hq L0 hL0 => ?_)
  have lk : ∀ {F' H' : Hp} {ρ' : Rho}, Rel X.K F' σ H' ρ' → Locked ρ' s.lk → lockC X.K σ s.lk F' H' := fun {F' H' ρ'} R' L' => by
    cases e : s.lk with
    | none => exact True.intro
    | some z =>
      obtain ⟨j, d⟩ := z
      obtain ⟨a, h1, f, ow⟩ := R'.own j _ d (L' j d e) rfl rfl
      exact ⟨a, h1, ow⟩
  obtain ⟨fD, gr0, _⟩ := upd_fresh (K := X.K) (o := .lst []) R1.sub hL0 trivial
  have st0 : Step F1 H1 σ ρ1 F1 (upd H1 L0 (.lst [])) ρ1 := gr0.step R1
  let Inv' : Nat → Hp → Prop := fun i H' => i ≤ s.ds.length ∧ ∃ F' ρ' acc accv, Rel X.K F' σ H' ρ' ∧ Step F1 H1 σ ρ1 F' H' ρ' ∧ Locked ρ' s.lk ∧ H' L0 = some (.lst accv) ∧ F' L0 = none ∧ ¬ Own H' σ ρ' L0 ∧ RpA X.K F' accv acc ∧ EPost X.K W F1 H1 σ ρ1 Q (compL vs mg mt me (s.ds.drop i) acc ρ')
  refine ⟨fun i m H' => m = s.ds.length - i ∧ Inv' i H', ⟨s.ds.length, by simp, Nat.zero_le _, F1, ρ1, [], [], gr0.rel R1, st0, L, upd_same, fD, not_ownG R1 gr0 hL0, .nil, hq⟩, ?_⟩
  rintro i m H' ⟨rfl, hi, F', ρ', acc, accv, R', st, L', hD, fD', nD, racc, hq'⟩
  have C := lk R' L'
  by_cases hlt : i < s.ds.length
  · obtain ⟨go, yl⟩ := G.go i F' H' st.fr.ext R'.sub C hlt
    refine .inr ⟨go, Inv' (i + 1), fun H2 h => ⟨s.ds.length - (i + 1), by omega, rfl, h⟩, fun x H2 y => ?_⟩
    obtain ⟨F2, d, hd, gr, rp⟩ := yl x H2 y
    have ed : s.ds.drop i = d :: s.ds.drop (i + 1) := by
      rw [List.drop_eq_getElem_cons hlt]
      congr 1
      rw [List.getElem?_eq_getElem hlt] at hd
      exact Option.some.inj hd
    rw [ed] at hq'
    unfold compL at hq'
    have R2 := gr.rel R'
    have hD2 := gr.keep _ _ hD
    have fD2 := gr.fresh _ _ hD fD'
    have st2 : Step F1 H1 σ ρ1 F2 H2 ρ' := st.trans (gr.step R')
    have racc2 := racc.mono gr.ext
    have Rw : Rel X.K F2 (wipe σ vs) H2 (hide vs ρ') := hide_rel R2
    have nD := fun z => nD ((R'.owns (gr.same R') L0).mp z)
    have nDw : ¬ Own H2 (wipe σ vs) (hide vs ρ') L0 := fun ⟨k, mk⟩ => nD ⟨k, (hide_mine mk).2⟩
    cases em : mg d (hide vs ρ') with
    | none => rw [em] at hq'; exact False.elim hq'
    | some ρ2 =>
      rw [em] at hq'
      dsimp only at hq'
      refine qg F2 (wipe σ vs) H2 (hide vs ρ') x d ρ2 _ Rw rp em fun σ3 ag s3 R3 => ?_
      have ag' : Agree vs (wipe σ vs) σ3 := ⟨ag.1, fun j hj => ag.2 j fun hm => hj (pgn j hm)⟩
      have eqw : wipe σ3 vs = wipe σ vs := by
        rw [wipe_eq ag']
        exact wipe_eq (σ := σ) (σ' := wipe σ vs) ⟨wipe_length σ vs, fun j hj => wipe_out hj⟩
      obtain ⟨om1, om2⟩ := om _ _ _ em
      have back : ∀ {F4 H4 : Hp} {ρ4 : Rho}, Step F2 H2 σ3 ρ2 F4 H4 ρ4 → Rel X.K F4 σ3 H4 ρ4 → Rel X.K F4 σ H4 (restore vs ρ' ρ4) ∧ Step F2 H2 σ ρ' F4 H4 (restore vs ρ' ρ4) ∧ H4 L0 = some (.lst accv) ∧ F4 L0 = none ∧ ¬ Own H4 σ3 ρ4 L0 := fun {F4 H4 ρ4} s4 R4 => by
        have fr := s3.fr.trans s4.fr
        obtain ⟨x1, x2, x3⟩ := fr.keep L0 _ hD2 trivial fD2 nDw
        have hl : ρ'.length = ρ4.length := by rw [← s4.kp.1, om1, hide_len]
        obtain ⟨y1, y2⟩ := restore_rel R2 (fun i c ns n v hi e h => s4.kid i c ns n v (by rw [om2 i fun hm => hi (pgn i hm), hide_out hi]; exact e) (by rw [ag'.2 i hi, wipe_out hi]; exact h)) ag' fr hl R4 fun j hj t e => by
          have e1 : ρ2[j]? = some t := by rw [om2 j fun hm => hj (pgn j hm), hide_out hj]; exact e
          exact s4.kp.2 j t e1
        exact ⟨y1, y2, x1, x2, x3⟩
      have lock' : ∀ {F4 H4 : Hp} {ρ4 : Rho}, Step F2 H2 σ ρ' F4 H4 ρ4 → Locked ρ4 s.lk := fun {F4 H4 ρ4} s4 j d z => by
        obtain ⟨s', e', k⟩ := s4.kp.2 j _ (L' j d z)
        cases s' <;> first | (cases (show _ = _ from k); exact e') | exact False.elim k
      have nown : ∀ {F4 H4 : Hp} {ρ4 : Rho}, Step F2 H2 σ ρ' F4 H4 ρ4 → ¬ Own H4 σ ρ4 L0 := fun {F4 H4 ρ4} s4 => (s4.fr.keep L0 _ hD2 trivial fD2 nD).2.2
      refine ⟨eqw, qt F2 σ3 H2 ρ2 _ R3 ?_⟩
      cases et : mt ρ2 with
      | fail => rw [et] at hq'; exact False.elim hq'
      | ex x ρ' => rw [et] at hq'; exact False.elim hq'
      | ok b ρ3 =>
        rw [et] at hq'
        intro F3 H3 s4 R4
        cases b with
        | false =>
          obtain ⟨y1, y2, x1, x2, x3⟩ := back s4 R4
          exact ⟨hlt, F3, _, acc, accv, y1, st2.trans y2, lock' y2, x1, x2, nown y2, racc2.mono s4.fr.ext, hq'⟩
        | true =>
          refine qe F3 σ3 H3 ρ3 _ R4 ?_
          have hq' : EPost X.K W F1 H1 σ ρ1 Q ((noEx (me ρ3)).bind fun o ρ4 => (match useO ρ4 o with
            | some (x, ρ5) => if acc.length < sizeLine then compL vs mg mt me (s.ds.drop (i + 1)) (acc ++ [x]) (restore vs ρ' ρ5) else .fail
            | none => .fail)) := hq'
          cases ee : me ρ3 with
          | fail => rw [ee] at hq'; exact False.elim hq'
          | ex x ρ' => rw [ee] at hq'; exact False.elim hq'
          | ok o ρ4 =>
            rw [ee] at hq'
            intro v F4 H4 s5 R5 ro ns
            dsimp only [noEx, Rs.bind] at hq'
            cases eu : useO ρ4 o with
            | none => rw [eu] at hq'; exact False.elim hq'
            | some z =>
              obtain ⟨d5, ρ5⟩ := z
              rw [eu] at hq'
              dsimp only at hq'
              split at hq'
              · rename_i hz
                obtain ⟨F5, s6, R6, rp5, ex5, _⟩ := use_ok R5 s5 ro ns eu
                obtain ⟨y1, y2, x1, x2, x3⟩ := back (s4.trans s6) R6
                have st6 := st2.trans y2
                have racc6 : RpA X.K F5 accv acc := racc2.mono (s4.trans s6).fr.ext
                refine ⟨accv, x1, by rw [racc.length]; exact hz, hlt, F5, _, acc ++ [d5], accv ++ [v], rel_upd y1 x2 (nown y2) (fun u hu => by rw [x1] at hu; cases hu; exact fun z => z), Step.upd st6 hL0 y1 (nown y2), lock' y2, upd_same, x2, fun z => nown y2 ((y1.owns (fun b hb => upd_ne (by rintro rfl; exact nown y2 hb)) L0).mp z), racc6.append (.cons rp5 .nil), hq'⟩
              · exact False.elim hq'
  · have e : i = s.ds.length := by omega
    subst e
    rw [List.drop_length] at hq'
    refine .inl ⟨G.stop _ F' H' st.fr.ext R'.sub C (Nat.le_refl _), ?_⟩
    exact hq' (.ref L0) F' H' st R' ⟨L0, rfl, fD', ⟨accv, hD, racc⟩, nD⟩ fun _ a e u ha t f => by
      cases mem_refs.mp (show a ∈ refsV (.ref L0) from e)
      rw [hL0] at ha; cases ha
theorem lc_sem {wi : TI} {g : TG} {tt : TT} {te : TE} {vs ts : List Nat} {mi : MI} {mg : MG} {mt : MT} {me : ME} (q : ∀ F σ H ρ R, Rel X.K F σ H ρ → IPost X.K W F H σ ρ R (mi ρ) → wi σ H R)
    (pgn : ∀ j ∈ ts, j ∈ vs) (om : OnlyG ts mg)
    (qg : ∀ F σ H ρ v d ρ' Q, Rel X.K F σ H ρ → Rp X.K F v d → mg d ρ = some ρ' → (∀ σ', Agree ts σ σ' → StepS F H σ ρ F H σ' ρ' → Rel X.K F σ' H ρ' → Q σ' H) → g v σ H Q)
    (qt : ∀ F σ H ρ Q, Rel X.K F σ H ρ → TPost X.K W0 F H σ ρ Q (mt ρ) → tt σ H Q)
    (qe : ∀ F σ H ρ Q, Rel X.K F σ H ρ → EPost X.K W0 F H σ ρ Q (me ρ) → te σ H Q) :
    ∀ F σ H ρ Q, Rel X.K F σ H ρ → EPost X.K W F H σ ρ Q (eComp vs mi mg mt me ρ) → tLc wi g tt te vs σ H Q :=
  fun F σ H ρ Q R => lc_sem1 (fun R' => q F σ H ρ R' R) pgn om qg qt qe Q R
theorem de_comp {elt tg iter : Expr} {ifs : List Expr} {scope : Scope} {own : List (Str × Nat)} {mi : MI} {mg : MG} {mt : MT} {me : ME} (hc : X.calm = true) (hN : X.N.Nodup) (hi : DI X W tg iter mi) (ok : BlkOk X.N X.env.scope scope own) {ts : List Nat}
    (pgn : ∀ j ∈ ts, j ∈ own.map (·.2)) (om : OnlyG ts mg) {g : TG} {tt : TT} {te : TE}
    (hg : ∀ (s : Shared) (H : Hp) (C : Addr) (cl : List (Str × Addr)) (fp : List Addr), PG (X.blk s H scope (compEnvC scope cl C X.env) fp) tg g)
    (qg : ∀ F σ H ρ v d ρ' Q, Rel X.K F σ H ρ → Rp X.K F v d → mg d ρ = some ρ' → (∀ σ', Agree ts σ σ' → StepS F H σ ρ F H σ' ρ' → Rel X.K F σ' H ρ' → Q σ' H) → g v σ H Q)
    (ht : ∀ (s : Shared) (H : Hp) (C : Addr) (cl : List (Str × Addr)) (fp : List Addr), PTs (X.blk s H scope (compEnvC scope cl C X.env) fp) ifs tt)
    (qt : ∀ F σ H ρ Q, Rel X.K F σ H ρ → TPost X.K W0 F H σ ρ Q (mt ρ) → tt σ H Q)
    (he : ∀ (s : Shared) (H : Hp) (C : Addr) (cl : List (Str × Addr)) (fp : List Addr), PE (X.blk s H scope (compEnvC scope cl C X.env) fp) elt te)
    (qe : ∀ F σ H ρ Q, Rel X.K F σ H ρ → EPost X.K W0 F H σ ρ Q (me ρ) → te σ H Q)
    (hs : ∀ x, foldedSetIterable iter X.env x = pure x := by intro _; rfl) : DE X W (.ListComp elt [⟨tg, iter, ifs, 0⟩] scope pos) (eComp (own.map (·.2)) mi mg mt me) := by
  obtain ⟨wi, p, q⟩ := hi
  exact ⟨_, pe_lc hc hN p ok hg ht he hs, lc_sem q pgn om qg qt qe⟩
end
theorem de_lc {X : Cx} {W : WX} {pos : Pos} {elt tg iter : Expr} {ifs : List Expr} {scope : Scope} (own : List (Str × Nat)) {mi : MI} {mg : MG} {mt : MT} {me : ME} (hc : X.calm = true) (hN : X.N.Nodup) (hi : DI X W tg iter mi) (ok : BlkOk X.N X.env.scope scope own) {ts : List Nat}
    (pgn : ∀ j ∈ ts, j ∈ own.map (·.2)) (om : OnlyG ts mg)
    (hg : ∀ (s : Shared) (H : Hp) (C : Addr) (cl : List (Str × Addr)) (fp : List Addr), DG (X.blk s H scope (compEnvC scope cl C X.env) fp) tg ts mg)
    (ht : ∀ (s : Shared) (H : Hp) (C : Addr) (cl : List (Str × Addr)) (fp : List Addr), DTs (X.blk s H scope (compEnvC scope cl C X.env) fp) W0 ifs mt)
    (he : ∀ (s : Shared) (H : Hp) (C : Addr) (cl : List (Str × Addr)) (fp : List Addr), DE (X.blk s H scope (compEnvC scope cl C X.env) fp) W0 elt me)
    (hs : ∀ x, foldedSetIterable iter X.env x = pure x := by intro _; rfl) : DE X W (.ListComp elt [⟨tg, iter, ifs, 0⟩] scope pos) (eComp (own.map (·.2)) mi mg mt me) :=
  de_comp (g := canG X.K ts mg) (tt := canT X.K W0 mt) (te := canE X.K W0 me) hc hN hi ok pgn om (fun s H C cl fp => (hg s H C cl fp).can) (fun F σ H ρ v d ρ' Q R rp e k => ⟨F, ρ, d, ρ', R, rp, e, k⟩) (fun s H C cl fp => (ht s H C cl fp).can) (fun F σ H ρ Q R h => ⟨F, ρ, R, h⟩) (fun s H C cl fp => (he s H C cl fp).can) (fun F σ H ρ Q R h => ⟨F, ρ, R, h⟩) hs
section
variable {K : PySem.W.Frag} {F0 H0 F H : Hp} {σ : Sg} {ρ0 ρ : Rho}
theorem news_mem {v : V} {o : Opd} {vs : List V} {os : List Opd} {a : Addr} (h : a ∈ news H vs os) : a ∈ news H (v :: vs) (o :: os) := by unfold news; exact List.mem_append_right _ h
theorem news_head {v : V} {o : Opd} {vs : List V} {os : List Opd} {a : Addr} (h : a ∈ newFp H v o) : a ∈ news H (v :: vs) (o :: os) := by unfold news; exact List.mem_append_left _ h
theorem news_cons {v : V} {o : Opd} {vs : List V} {os : List Opd} {a : Addr} (h : a ∈ news H (v :: vs) (o :: os)) : a ∈ newFp H v o ∨ a ∈ news H vs os := by unfold news at h; exact List.mem_append.mp h
theorem news_nd {v : V} {o : Opd} {vs : List V} {os : List Opd} (h : (news H (v :: vs) (o :: os)).Nodup) : (news H vs os).Nodup ∧ ∀ a ∈ newFp H v o, a ∉ news H vs os := by
  unfold news at h
  obtain ⟨_, h2, h3⟩ := List.nodup_append.mp h
  exact ⟨h2, fun a ha hb => h3 a ha a hb rfl⟩
theorem useSel_ok : ∀ {bs : List Bool} {os : List Opd} {F : Hp} {ρ : Rho} {vs : List V} {ps : List Opd} {ρ1 : Rho}, Rel K F σ H ρ → Step F0 H0 σ ρ0 F H ρ → ROs K F H σ ρ vs os → NewSeps H F0 H0 σ ρ0 vs os → useSel ρ bs os = some (ps, ρ1) →
    ∃ F1, Step F0 H0 σ ρ0 F1 H ρ1 ∧ Rel K F1 σ H ρ1 ∧ ROs K F1 H σ ρ1 vs ps ∧ Ext F F1 ∧ Kp ρ ρ1 ∧ (∀ b, Own H σ ρ1 b → Own H σ ρ b) ∧ (∀ b, F b = none → F1 b ≠ none → b ∈ news H vs os ∨ Own H σ ρ b) ∧ (∀ a ∈ news H vs ps, a ∈ news H vs os)
  | bs, [], F, ρ, vs, ps, ρ1, R, st, ro, ns, h => by
    have hh : some (([] : List Opd), ρ) = some (ps, ρ1) := by cases bs <;> exact h
    cases hh
    cases ro.all
    exact ⟨F, st, R, ⟨.nil, List.nodup_nil⟩, Ext.refl _, Kp.refl _, fun _ h => h, fun _ h1 h2 => absurd h1 h2, fun _ h => h⟩
  | [], o :: os, F, ρ, vs, ps, ρ1, R, st, ro, ns, h => by cases h
  | b :: bs, o :: os, F, ρ, vs, ps, ρ1, R, st, ro, ns, h => by
    obtain ⟨all, nd⟩ := ro
    cases all with
    | @cons v _ vs _ r rs =>
    obtain ⟨nd2, nd1⟩ := news_nd nd
    have nst : NewSeps H F0 H0 σ ρ0 vs os := fun a hm => ns a (news_mem hm)
    unfold useSel at h
    cases b with
    | true =>
      rw [if_pos rfl] at h
      cases e2 : useSel ρ bs os with
      | none => rw [e2] at h; cases h
      | some p2 =>
        obtain ⟨ps', ρ3⟩ := p2
        rw [e2] at h
        cases h
        obtain ⟨F3, st3, R3, ro3, ex3, kp3, sb3, on3, sub3⟩ := useSel_ok (os := os) R st ⟨rs, nd2⟩ nst e2
        have fn : ∀ a ∈ newFp H v o, F3 a = none := fun a ha => by
          obtain ⟨u, hu, t, f, n⟩ := r.prot ha
          cases z : F3 a with
          | none => rfl
          | some x => exact ((on3 a f (by rw [z]; intro y; cases y)).elim (fun y => absurd y (nd1 a ha)) fun y => absurd y n)
        have r3 : RO K F3 H σ ρ1 v o := by
          cases o with
          | val d => exact Rp.mono ex3 r
          | loc i => obtain ⟨x, s, d, y, z⟩ := r; exact ⟨x, kp3.data y z⟩
          | lob i => obtain ⟨x, s, y, z⟩ := r; exact ⟨x, kp3.live y z⟩
          | new d => obtain ⟨a, x, f, ow, n⟩ := r; exact ⟨a, x, fn a (mem_refs.mpr x), ow.mono ex3 fun _ z => z, fun z => n (sb3 a z)⟩
          | nob t => obtain ⟨h1, h2, h3⟩ := r; exact ⟨(TAt.stay ex3 h1 fun a ha => ⟨rfl, fun _ => fn a ha⟩).2, h2, fun a ha z => h3 a ha (sb3 a z)⟩
        refine ⟨F3, st3, R3, ⟨.cons r3 ro3.all, ?_⟩, ex3, kp3, sb3, fun b h1 h2 => (on3 b h1 h2).imp news_mem id, fun a hm => ?_⟩
        · unfold news
          exact List.nodup_append.mpr ⟨newFp_nd r3, ro3.nd, fun a ha b hb e => by subst e; exact nd1 a ha (sub3 a hb)⟩
        · rcases news_cons hm with q | hm
          · exact news_head q
          · exact news_mem (sub3 a hm)
    | false =>
      rw [if_neg Bool.false_ne_true] at h
      cases e1 : useO ρ o with
      | none => rw [e1] at h; cases h
      | some p =>
        obtain ⟨d, ρ2⟩ := p
        rw [e1] at h
        dsimp only at h
        cases e2 : useSel ρ2 bs os with
        | none => rw [e2] at h; cases h
        | some p2 =>
          obtain ⟨ps', ρ3⟩ := p2
          rw [e2] at h
          cases h
          have ns1 : NewSep H F0 H0 σ ρ0 v o := fun hn a ha => ns a (news_head ha)
          obtain ⟨F2, st2, R2, rp, ex2, only, kp2, sb⟩ := use_ok R st r ns1 e1
          have ros : ROs K F2 H σ ρ2 vs os := by
            refine ⟨?_, nd2⟩
            have pr : ∀ {ws : List V} {qs : List Opd}, (∀ a ∈ news H ws qs, a ∈ news H vs os) → Paired (RO K F H σ ρ) ws qs → Paired (RO K F2 H σ ρ2) ws qs := by
              intro ws qs sub p
              induction p with
              | nil => exact .nil
              | @cons w p' ws qs' r' _ ih => exact .cons (froz_all ex2 kp2 sb only r' fun a ha z => nd1 a z (sub a (news_head ha))) (ih fun a h => sub a (news_mem h))
            exact pr (fun a h => h) rs
          obtain ⟨F3, st3, R3, ro3, ex3, kp3, sb3, on3, sub3⟩ := useSel_ok (os := os) R2 st2 ros nst e2
          refine ⟨F3, st3, R3, ⟨.cons (rp.mono ex3) ro3.all, ?_⟩, ex2.trans ex3, kp2.trans kp3, fun b h => sb b (sb3 b h), fun b h1 h2 => ?_, fun a hm => ?_⟩
          · unfold news
            exact ro3.nd
          · cases z : F2 b with
            | none => exact (on3 b z h2).imp news_mem (sb b)
            | some u => exact (only b h1 (by rw [z]; intro y; cases y)).imp news_head id
          · rcases news_cons hm with q | hm
            · cases q
            · exact news_mem (sub3 a hm)
theorem tie_args {F H : Hp} {σ : Sg} {cs : Rho} (a : ArgOk cs) : Tie F H σ cs := fun i t v e _ => by
  have := a _ (List.mem_of_getElem? e)
  cases t <;> first | trivial | cases this
theorem data_of {s : Slot} (m : s.mine = true) : ∃ d, s.data? = some d := by cases s <;> first | (cases m; done) | exact ⟨_, rfl⟩
theorem news_free {vs : List V} {os : List Opd} {a : Addr} (h : Paired (RO K F H σ ρ) vs os) (hm : a ∈ news H vs os) : ∃ u, H a = some u ∧ nt u ∧ F a = none ∧ ¬ Own H σ ρ a := by
  induction h with
  | nil => cases hm
  | @cons v o vs os r _ ih =>
    rcases news_cons hm with q | hm
    · exact r.prot q
    · exact ih hm
theorem LendS.tree {t s : Slot} (h : LendS t s) : s.tree? = t.tree? := by
  rcases h with ⟨d, h1, h2⟩ | ⟨d, h1, h2 | h2⟩ | ⟨d, h1, ho, h2 | h2⟩ <;> (subst h1 h2; rfl)
theorem LendS.arg {t s : Slot} (h : LendS t s) : argB s = true := by
  rcases h with ⟨d, h1, h2⟩ | ⟨d, h1, h2 | h2⟩ | ⟨d, h1, ho, h2 | h2⟩ <;> (subst h1 h2; first | rfl | (show (!_) = true; rw [ho]; rfl))
theorem LendS.idle {t s : Slot} (h : LendS t s) : t.idle = false := by
  rcases h with ⟨d, h1, h2⟩ | ⟨d, h1, h2 | h2⟩ | ⟨d, h1, ho, h2 | h2⟩ <;> (subst h1 h2; rfl)
/-- a name as an operand -/
theorem slotOf_name {o : Opd} {i : Nat} {s : Slot} (ho : nameOf o = some i) (h : slotOf ρ o = some s) : ∃ t, ρ[i]? = some t ∧ ((∃ d, t = .dat d ∧ s = .dat d) ∨ LendS t s) := by
  cases o with
  | val d => cases ho
  | new d => cases ho
  | nob d => cases ho
  | loc j =>
    cases ho
    unfold slotOf at h
    dsimp only at h
    cases e : ρ[i]? with
    | none => rw [e] at h; cases h
    | some t =>
      rw [e] at h
      refine ⟨t, rfl, ?_⟩
      cases t <;> first | (cases h; done) | (cases h; first | exact .inl ⟨_, rfl, rfl⟩ | exact .inr (.inl ⟨_, rfl, rfl⟩) | exact .inr (.inr (.inl ⟨_, rfl, .inl rfl⟩)) | exact .inr (.inr (.inl ⟨_, rfl, .inr rfl⟩)))
  | lob j =>
    cases ho
    unfold slotOf at h
    dsimp only at h
    cases e : ρ[i]? with
    | none => rw [e] at h; cases h
    | some t =>
      rw [e] at h
      refine ⟨t, rfl, ?_⟩
      cases t with
      | dat d => cases h; exact .inl ⟨_, rfl, rfl⟩
      | obj u =>
        cases ou : u.odd with
        | true => simp [ou] at h
        | false => simp [ou] at h; subst h; exact .inr (.inr (.inr ⟨_, rfl, ou, .inl rfl⟩))
      | opa u =>
        cases ou : u.odd with
        | true => simp [ou] at h
        | false => simp [ou] at h; subst h; exact .inr (.inr (.inr ⟨_, rfl, ou, .inr rfl⟩))
      | _ => cases h
theorem lents_name {o : Opd} {i : Nat} {t : Slot} {os : List Opd} (ho : nameOf o = some i) (e : ρ[i]? = some t) (n : ∀ d, t ≠ .dat d) : lents ρ (o :: os) = i :: lents ρ os := by
  cases o <;> cases ho <;> (rw [lents, e]; cases t <;> first | rfl | exact absurd rfl (n _))
theorem lents_dat {o : Opd} {i : Nat} {d : D} {os : List Opd} (ho : nameOf o = some i) (e : ρ[i]? = some (.dat d)) : lents ρ (o :: os) = lents ρ os := by
  cases o <;> cases ho <;> rw [lents, e]
theorem lents_other {o : Opd} {os : List Opd} (ho : nameOf o = none) : lents ρ (o :: os) = lents ρ os := by cases o <;> first | rfl | cases ho
theorem lents_odd : ∀ {os : List Opd} {cs : List Slot} {i : Nat} {u : T}, slotsOf ρ os = some cs → i ∈ lents ρ os → ρ[i]? = some (.opa u) → u.odd = false
  | [], _, _, _, _, h, _ => by simp [lents] at h
  | o :: os, cs, i, u, h, hi, e => by
    unfold slotsOf at h
    cases e1 : slotOf ρ o with
    | none => rw [e1] at h; cases h
    | some s =>
      cases e2 : slotsOf ρ os with
      | none => rw [e1, e2] at h; cases h
      | some ss =>
        cases ho : nameOf o with
        | none => rw [lents_other ho] at hi; exact lents_odd e2 hi e
        | some j =>
          obtain ⟨t, et, q⟩ := slotOf_name ho e1
          rcases q with ⟨d, et2, es⟩ | l
          · subst et2
            rw [lents_dat ho et] at hi
            exact lents_odd e2 hi e
          · rw [lents_name ho et l.nd] at hi
            rcases List.mem_cons.mp hi with z | z
            · subst z
              rw [e] at et
              cases et
              rcases l with ⟨d, z1, _⟩ | ⟨d, _, z1 | z1⟩ | ⟨d, _, ho, z1 | z1⟩ <;> cases z1
              exact ho
            · exact lents_odd e2 z e
theorem lents_tail {o : Opd} {os : List Opd} {i : Nat} (h : i ∈ lents ρ os) : i ∈ lents ρ (o :: os) := by
  cases o with
  | val d => exact h
  | new d => exact h
  | nob d => exact h
  | loc j =>
    unfold lents
    split
    · exact h
    · exact List.mem_cons_of_mem _ h
  | lob j =>
    unfold lents
    split
    · exact h
    · exact List.mem_cons_of_mem _ h
theorem lents_nd {o : Opd} {os : List Opd} (h : (lents ρ (o :: os)).Nodup) : (lents ρ os).Nodup := by
  cases o with
  | val d => exact h
  | new d => exact h
  | nob d => exact h
  | loc j =>
    unfold lents at h
    split at h
    · exact h
    · exact (List.nodup_cons.mp h).2
  | lob j =>
    unfold lents at h
    split at h
    · exact h
    · exact (List.nodup_cons.mp h).2
/-- what a slot says of its value -/
def SlotSays (K : PySem.W.Frag) (F H : Hp) (v : V) (s : Slot) : Prop :=
  (∀ d, s = .dat d → Rp K F v d) ∧ (∀ d, s.mine = true → s.data? = some d → ∃ a, v = .ref a ∧ F a = none ∧ OwnAt K F H a d) ∧ (∀ t, s.tree? = some t → TAt K F H v t ∧ (fpT H v t).Nodup)
theorem says_of (R : Rel K F σ H ρ) {i : Nat} {s : Slot} {v : V} (e : ρ[i]? = some s) (h : σ[i]? = some (some v)) : SlotSays K F H v s := by
  refine ⟨fun d z => ?_, fun d m q => ?_, fun t q => ?_⟩
  · subst z
    obtain ⟨w, h1, h2⟩ := R.dat i d e
    rw [h] at h1; cases h1; exact h2
  · obtain ⟨a, h1, h2, h3⟩ := R.own i s d e m q
    rw [h] at h1; cases h1; exact ⟨a, rfl, h2, h3⟩
  · obtain ⟨w, h1, h2, h3⟩ := R.obj i s t e q
    rw [h] at h1; cases h1; exact ⟨h2, h3⟩
theorem LendS.says {v : V} {t s : Slot} (l : LendS t s) (h : SlotSays K F H v t) : SlotSays K F H v s := by
  refine ⟨fun d z => ?_, fun d m q => h.2.1 d (by rw [← l.mine]; exact m) (by rw [← l.data]; exact q), fun u q => h.2.2 u (by rw [← l.tree]; exact q)⟩
  subst z
  rcases l with ⟨_, _, z⟩ | ⟨_, z, _⟩ | ⟨_, z, _⟩ <;> cases z
theorem slots_rel (R : Rel K F σ H ρ) : ∀ {os : List Opd} {vs : List V} {cs : List Slot}, ROs K F H σ ρ vs os → slotsOf ρ os = some cs → (lents ρ os).Nodup →
    Rel K F (vs.map some) H cs ∧ ArgOk cs ∧ ∀ a, Own H (vs.map some) cs a → a ∈ news H vs os ∨ ∃ i ∈ lents ρ os, Mine H σ ρ i a
  | [], vs, cs, ro, h, nd => by
    cases h
    cases ro.all
    exact ⟨⟨R.sub, rfl, fun i d e => by simp at e, fun i s d e => by simp at e, fun i j a h => by obtain ⟨s, v, e, _⟩ := h; simp at e, fun i s t e => by simp at e, fun i a e => by simp at e, R.tab, fun i t v e => by simp at e⟩, (fun s h => by cases h), fun a ⟨i, s, v, e, _⟩ => by simp at e⟩
  | o :: os, vs, cs, ro, h, nd => by
    obtain ⟨all, ndn⟩ := ro
    cases all with
    | @cons v _ vs _ r rs =>
    obtain ⟨nd2, nd1⟩ := news_nd ndn
    unfold slotsOf at h
    cases e1 : slotOf ρ o with
    | none => rw [e1] at h; cases h
    | some s =>
      cases e2 : slotsOf ρ os with
      | none => rw [e1, e2] at h; cases h
      | some ss =>
        rw [e1, e2] at h
        cases h
        obtain ⟨Rt, At, Ot⟩ := slots_rel R (os := os) ⟨rs, nd2⟩ e2 (lents_nd nd)
        -- the head
        have head : argB s = true ∧ SlotSays K F H v s ∧ ∀ a ∈ s.fp H v, a ∈ newFp H v o ∨ ∃ i, Mine H σ ρ i a ∧ lents ρ (o :: os) = i :: lents ρ os := by
          cases ho : nameOf o with
          | some i =>
            obtain ⟨t, et, q⟩ := slotOf_name ho e1
            have hv := r.name ho
            have sy := says_of R et hv
            rcases q with ⟨d, z1, z2⟩ | l
            · subst z1 z2
              exact ⟨rfl, sy, fun a ha => by cases ha⟩
            · exact ⟨l.arg, l.says sy, fun a ha => .inr ⟨i, ⟨t, v, et, hv, by rw [← l.fp]; exact ha⟩, lents_name ho et l.nd⟩⟩
          | none =>
            cases o with
            | loc j => cases ho
            | lob j => cases ho
            | val d => cases e1; exact ⟨rfl, ⟨fun d' e => (by cases e; exact r), fun d' m => (by cases m), fun t q => (by cases q)⟩, fun a ha => (by cases ha)⟩
            | new d =>
              cases e1
              obtain ⟨a, x, f, ow, n⟩ := r
              exact ⟨rfl, ⟨fun d' e => (by cases e), fun d' _ q => (by cases q; exact ⟨a, x, f, ow⟩), fun t q => (by cases q)⟩, fun b hb => .inl hb⟩
            | nob t =>
              unfold slotOf at e1
              cases ou : t.odd with
              | true => simp [ou] at e1
              | false =>
                simp [ou] at e1
                subst e1
                exact ⟨(by show (!_) = true; rw [ou]; rfl), ⟨fun d' e => (by cases e), fun d' m => (by cases m), fun t q => (by cases q; exact ⟨r.1, r.2.1⟩)⟩, fun b hb => .inl hb⟩
        obtain ⟨ab, sy, hm⟩ := head
        have apart : ∀ a, a ∈ s.fp H v → Own H (vs.map some) ss a → False := fun a ha hown => by
          rcases Ot a hown with y | ⟨i', hi', mi'⟩
          · rcases hm a ha with q | ⟨i, mi, _⟩
            · exact nd1 a q y
            · obtain ⟨_, _, _, _, n⟩ := news_free rs y
              exact n ⟨i, mi⟩
          · rcases hm a ha with q | ⟨i, mi, hl⟩
            · obtain ⟨_, _, _, _, n⟩ := r.prot q
              exact n ⟨i', mi'⟩
            · have := R.sep i i' a mi mi'
              subst this
              rw [hl] at nd
              exact (List.nodup_cons.mp nd).1 hi'
        have mineC : ∀ {j : Nat} {a : Addr}, Mine H ((v :: vs).map some) (s :: ss) j a → (j = 0 ∧ a ∈ s.fp H v) ∨ ∃ j', j = j' + 1 ∧ Mine H (vs.map some) ss j' a := fun {j a} ⟨t, w, e, e2, m⟩ => by
          cases j with
          | zero =>
            cases e
            have : v = w := by simpa using e2
            subst this
            exact .inl ⟨rfl, m⟩
          | succ j => exact .inr ⟨j, rfl, t, w, by simpa using e, by simpa using e2, m⟩
        refine ⟨⟨R.sub, by simpa using Rt.len, fun j d e => ?_, fun j t d e m q => ?_, fun j k a h1 h2 => ?_, fun j t u e q => ?_, fun j a e => ?_, R.tab, tie_args (fun t ht => (List.mem_cons.mp ht).elim (fun e => e ▸ ab) (At t))⟩, fun t ht => ?_, fun a ⟨j, mj⟩ => ?_⟩
        · cases j with
          | zero => exact ⟨v, rfl, sy.1 d (by simpa using e)⟩
          | succ j =>
            obtain ⟨w, h1, h2⟩ := Rt.dat j d (by simpa using e)
            exact ⟨w, by simpa using h1, h2⟩
        · cases j with
          | zero =>
            have e : s = t := by simpa using e
            subst e
            obtain ⟨a, x, f, ow⟩ := sy.2.1 d m q
            exact ⟨a, by rw [x]; rfl, f, ow⟩
          | succ j =>
            obtain ⟨a, h1, h2⟩ := Rt.own j t d (by simpa using e) m q
            exact ⟨a, by simpa using h1, h2⟩
        · rcases mineC h1 with ⟨rfl, m1⟩ | ⟨j', rfl, m1⟩ <;> rcases mineC h2 with ⟨rfl, m2⟩ | ⟨k', rfl, m2⟩
          · rfl
          · exact False.elim (apart a m1 ⟨k', m2⟩)
          · exact False.elim (apart a m2 ⟨j', m1⟩)
          · rw [Rt.sep j' k' a m1 m2]
        · cases j with
          | zero =>
            have e : s = t := by simpa using e
            subst e
            obtain ⟨h1, h2⟩ := sy.2.2 u q
            exact ⟨v, rfl, h1, h2⟩
          | succ j =>
            obtain ⟨w, h1, h2⟩ := Rt.obj j t u (by simpa using e) q
            exact ⟨w, by simpa using h1, h2⟩
        · cases j with
          | zero =>
            have e : s = .exc a := by simpa using e
            subst e
            cases ab
          | succ j =>
            have := Rt.exc j a (by simpa using e)
            simpa using this
        · rcases List.mem_cons.mp ht with e | ht
          · subst e; exact ab
          · exact At t ht
        · rcases mineC mj with ⟨rfl, m1⟩ | ⟨j', rfl, m1⟩
          · rcases hm a m1 with q | ⟨i, mi, hl⟩
            · exact .inl (news_head q)
            · exact .inr ⟨i, by rw [hl]; exact List.mem_cons_self, mi⟩
          · rcases Ot a ⟨j', m1⟩ with y | ⟨i, hi, mi⟩
            · exact .inl (news_mem y)
            · exact .inr ⟨i, lents_tail hi, mi⟩
theorem takeB_len (ρ : Rho) : ∀ (os : List Opd) (cs : List Slot), (takeB ρ os cs).length = ρ.length
  | [], _ => by unfold takeB; rfl
  | .val _ :: os, [] => rfl
  | .new _ :: os, [] => rfl
  | .nob _ :: os, [] => rfl
  | .loc _ :: os, [] => rfl
  | .lob _ :: os, [] => rfl
  | .val _ :: os, c :: cs => takeB_len ρ os cs
  | .new _ :: os, c :: cs => takeB_len ρ os cs
  | .nob _ :: os, c :: cs => takeB_len ρ os cs
  | .loc i :: os, c :: cs => by
    unfold takeB
    split
    · exact takeB_len ρ os cs
    · rw [List.length_set]; exact takeB_len ρ os cs
    · exact takeB_len ρ os cs
  | .lob i :: os, c :: cs => by
    unfold takeB
    split
    · exact takeB_len ρ os cs
    · rw [List.length_set]; exact takeB_len ρ os cs
    · exact takeB_len ρ os cs
theorem takeB_name {o : Opd} {i : Nat} {t c : Slot} {os : List Opd} {cs : List Slot} (ho : nameOf o = some i) (e : ρ[i]? = some t) (n : ∀ d, t ≠ .dat d) : takeB ρ (o :: os) (c :: cs) = (takeB ρ os cs).set i (backS t c) := by
  cases o <;> cases ho <;> (rw [takeB, e]; cases t <;> first | rfl | exact absurd rfl (n _))
theorem takeB_dat {o : Opd} {i : Nat} {d : D} {c : Slot} {os : List Opd} {cs : List Slot} (ho : nameOf o = some i) (e : ρ[i]? = some (.dat d)) : takeB ρ (o :: os) (c :: cs) = takeB ρ os cs := by
  cases o <;> cases ho <;> rw [takeB, e]
theorem takeB_other {o : Opd} {c : Slot} {os : List Opd} {cs : List Slot} (ho : nameOf o = none) : takeB ρ (o :: os) (c :: cs) = takeB ρ os cs := by cases o <;> first | rfl | cases ho
/-- a slot behind a call: it was not lent, or it comes back -/
theorem takeB_at : ∀ {os : List Opd} {vs : List V} {cs cs' : List Slot} {j : Nat} {s' : Slot}, Paired (RO K F H σ ρ) vs os → slotsOf ρ os = some cs → cs.length = cs'.length → (takeB ρ os cs')[j]? = some s' →
    (ρ[j]? = some s' ∧ (j ∉ lents ρ os ∨ ∃ d, s' = .dat d)) ∨ ∃ (k : Nat) (t c c' : Slot) (v : V) (o : Opd), os[k]? = some o ∧ nameOf o = some j ∧ ρ[j]? = some t ∧ cs[k]? = some c ∧ cs'[k]? = some c' ∧ s' = backS t c' ∧ LendS t c ∧ vs[k]? = some v ∧ σ[j]? = some (some v)
  | [], vs, cs, cs', j, s', _, h, hl, e => .inl ⟨by unfold takeB at e; exact e, .inl (by simp [lents])⟩
  | o :: os, vs, cs, cs', j, s', p, h, hl, e => by
    cases p with
    | @cons v _ vs _ r rs =>
    unfold slotsOf at h
    cases e1 : slotOf ρ o with
    | none => rw [e1] at h; cases h
    | some s =>
      cases e2 : slotsOf ρ os with
      | none => rw [e1, e2] at h; cases h
      | some ss =>
        rw [e1, e2] at h
        cases h
        cases cs' with
        | nil => cases hl
        | cons c' cs' =>
          have hl' : ss.length = cs'.length := by simpa using hl
          have up : ∀ {s' : Slot}, (takeB ρ os cs')[j]? = some s' → (j ∉ lents ρ os → j ∉ lents ρ (o :: os)) →
              ((ρ[j]? = some s' ∧ (j ∉ lents ρ (o :: os) ∨ ∃ d, s' = .dat d)) ∨ ∃ (k : Nat) (t c d : Slot) (v' : V) (o' : Opd), (o :: os)[k]? = some o' ∧ nameOf o' = some j ∧ ρ[j]? = some t ∧ (s :: ss)[k]? = some c ∧ (c' :: cs')[k]? = some d ∧ s' = backS t d ∧ LendS t c ∧ (v :: vs)[k]? = some v' ∧ σ[j]? = some (some v')) := fun {s'} h0 hn => by
            rcases takeB_at rs e2 hl' h0 with ⟨x, y⟩ | ⟨k, t, c, d, v', o', h1, h2, h3, h4, h5, h6⟩
            · exact .inl ⟨x, y.imp hn id⟩
            · exact .inr ⟨k + 1, t, c, d, v', o', by simpa using h1, h2, h3, by simpa using h4, by simpa using h5, by simpa using h6⟩
          cases ho : nameOf o with
          | none =>
            rw [takeB_other ho] at e
            exact up e fun hn => by rw [lents_other ho]; exact hn
          | some i =>
            obtain ⟨t, et, q⟩ := slotOf_name ho e1
            rcases q with ⟨d, et2, es⟩ | l
            · subst et2
              rw [takeB_dat ho et] at e
              exact up e fun hn => by rw [lents_dat ho et]; exact hn
            · rw [takeB_name ho et l.nd] at e
              by_cases hj : i = j
              · subst hj
                have hi : i < (takeB ρ os cs').length := by rw [takeB_len]; exact (List.getElem?_eq_some_iff.mp et).1
                rw [List.getElem?_set_self hi] at e
                cases e
                exact .inr ⟨0, t, s, c', v, o, rfl, ho, et, rfl, rfl, rfl, l, rfl, r.name ho⟩
              · rw [List.getElem?_set_ne hj] at e
                refine up e fun hn => ?_
                rw [lents_name ho et l.nd, List.mem_cons, not_or]
                exact ⟨Ne.symm hj, hn⟩
theorem take_ok {F' H' : Hp} {vs : List V} {os : List Opd} {cs cs' : List Slot} (R : Rel K F σ H ρ) (st : Step F0 H0 σ ρ0 F H ρ) (ro : ROs K F H σ ρ vs os) (ns : NewSeps H F0 H0 σ ρ0 vs os) (hs : slotsOf ρ os = some cs) (nd : (lents ρ os).Nodup)
    (s : Step F H (vs.map some) cs F' H' cs') (R' : Rel K F' (vs.map some) H' cs') : Rel K F' σ H' (takeB ρ os cs') ∧ Step F0 H0 σ ρ0 F' H' (takeB ρ os cs') ∧
      (∀ v o, o.isNew = true → RO K F' H' (vs.map some) cs' v o → NewSep H' F H (vs.map some) cs v o → RO K F' H' σ (takeB ρ os cs') v o ∧ NewSep H' F0 H0 σ ρ0 v o) := by
  obtain ⟨Rc, ac, oc⟩ := slots_rel R ro hs nd
  have len : cs.length = cs'.length := s.kp.1
  have foreign : ∀ {j : Nat} {a : Addr}, Mine H σ ρ j a → j ∉ lents ρ os → ¬ Own H (vs.map some) cs a := fun {j a} m n ho => by
    rcases oc a ho with y | ⟨i, hi, mi⟩
    · obtain ⟨_, _, _, _, z⟩ := news_free ro.all y
      exact z ⟨j, m⟩
    · have := R.sep j i a m mi
      subst this; exact n hi
  have prot : ∀ {a : Addr}, ¬ Own H σ ρ a → a ∉ news H vs os → ¬ Own H (vs.map some) cs a := fun {a} n nn ho => by
    rcases oc a ho with y | ⟨i, hi, mi⟩
    · exact nn y
    · exact n ⟨i, mi⟩
  have kept : ∀ {j : Nat} {a : Addr}, Mine H σ ρ j a → j ∉ lents ρ os → H' a = H a ∧ F' a = none ∧ ¬ Own H' (vs.map some) cs' a := fun {j a} m n => by
    obtain ⟨f, u, hu, t⟩ := R.has ⟨j, m⟩
    obtain ⟨x, y, z⟩ := s.fr.keep a u hu t f (foreign m n)
    exact ⟨by rw [x, hu], y, z⟩
  have mine : ∀ {j : Nat} {a : Addr}, Mine H' σ (takeB ρ os cs') j a → (j ∉ lents ρ os ∧ Mine H σ ρ j a) ∨ ∃ k o, os[k]? = some o ∧ nameOf o = some j ∧ Mine H' (vs.map some) cs' k a := fun {j a} ⟨t, w, e, h, m⟩ => by
    rcases takeB_at ro.all hs len e with ⟨x, y⟩ | ⟨k, t0, c, c', v, o, ok, on, h1, h2, h3, h4, l, h6, h7⟩
    · rcases y with y | ⟨d, y⟩
      · exact .inl ⟨y, (R.mine1 j (fun b hb => (kept hb y).1) a).mp ⟨t, w, x, h, m⟩⟩
      · subst y; cases m
    · obtain ⟨c2, hc2, kk⟩ := s.kp.2 k c h2
      rw [h3] at hc2; cases hc2
      rw [h] at h7; cases h7
      refine .inr ⟨k, o, ok, on, c', w, h3, by rw [List.getElem?_map, h6]; rfl, ?_⟩
      rw [(l.back kk).2.fp, ← h4]; exact m
  have fresh : ∀ {a : Addr} {u : HO}, H0 a = some u → nt u → F0 a = none → ¬ Own H0 σ ρ0 a → H' a = some u ∧ F' a = none ∧ ¬ Own H' σ (takeB ρ os cs') a := fun {a u} h t f n => by
    obtain ⟨x, y, z⟩ := st.fr.keep a u h t f n
    have nn : a ∉ news H vs os := fun hm => n (ns a hm u h t f)
    obtain ⟨x', y', z'⟩ := s.fr.keep a u x t y (prot z nn)
    refine ⟨x', y', fun ⟨j, mj⟩ => ?_⟩
    rcases mine mj with ⟨_, m⟩ | ⟨k, _, _, _, m⟩
    · exact z ⟨j, m⟩
    · exact z' ⟨k, m⟩
  refine ⟨⟨R'.sub, by rw [takeB_len]; exact R.len, fun j d e => ?_, fun j t d e m q => ?_, fun j k a h1 h2 => ?_, fun j t u e q => ?_, fun j a e => ?_, R'.tab, ?_⟩, ⟨⟨st.fr.ext.trans s.fr.ext, fun a u h t f n => fresh h t f n⟩, st.kp.trans ⟨(takeB_len _ _ _).symm, fun j t e => ?_⟩, st.kid.trans (R.kid fun i a ⟨c, ns, n, e⟩ m => (kept m fun hi => by have := lents_odd hs hi e; cases this).1) st.kp⟩, fun v o hn hr hsep => ?_⟩
  · rcases takeB_at ro.all hs len e with ⟨x, _⟩ | ⟨k, t0, c, c', v, o, ok, on, h1, h2, h3, h4, l, h6, h7⟩
    · obtain ⟨v, h1, h2⟩ := R.dat j d x
      exact ⟨v, h1, h2.mono s.fr.ext⟩
    · obtain ⟨c2, hc2, kk⟩ := s.kp.2 k c h2
      rw [h3] at hc2; cases hc2
      have := (l.back kk).2.nd d
      exact absurd h4.symm this
  · rcases takeB_at ro.all hs len e with ⟨x, y⟩ | ⟨k, t0, c, c', v, o, ok, on, h1, h2, h3, h4, l, h6, h7⟩
    · have y : j ∉ lents ρ os := y.resolve_right (by rintro ⟨d, z⟩; subst z; cases m)
      obtain ⟨a, g1, g2, g3⟩ := R.own j t d x m q
      obtain ⟨x1, x2, _⟩ := kept (Mine.of x m g1) y
      exact ⟨a, g1, x2, g3.mono s.fr.ext fun w hw => by rw [x1]; exact hw⟩
    · obtain ⟨c2, hc2, kk⟩ := s.kp.2 k c h2
      rw [h3] at hc2; cases hc2
      obtain ⟨_, l2⟩ := l.back kk
      rw [← h4] at l2
      obtain ⟨a, g1, g2, g3⟩ := R'.own k c' d h3 (by rw [l2.mine]; exact m) (by rw [l2.data]; exact q)
      rw [List.getElem?_map, h6] at g1
      cases g1
      exact ⟨a, h7, g2, g3⟩
  · rcases mine h1 with ⟨n1, m1⟩ | ⟨k1, o1, ok1, on1, m1⟩ <;> rcases mine h2 with ⟨n2, m2⟩ | ⟨k2, o2, ok2, on2, m2⟩
    · exact R.sep j k a m1 m2
    · exact absurd ⟨k2, m2⟩ (kept m1 n1).2.2
    · exact absurd ⟨k1, m1⟩ (kept m2 n2).2.2
    · have := R'.sep k1 k2 a m1 m2
      subst this
      rw [ok1] at ok2; cases ok2
      rw [on1] at on2; cases on2; rfl
  · rcases takeB_at ro.all hs len e with ⟨x, y⟩ | ⟨k, t0, c, c', v, o, ok, on, h1, h2, h3, h4, l, h6, h7⟩
    · have y : j ∉ lents ρ os := y.resolve_right (by rintro ⟨d, z⟩; subst z; cases q)
      obtain ⟨w, g1, g2, g3, _⟩ := R.trees (F' := F') (H' := H') s.fr.ext x q fun a h => ⟨(kept h y).1, fun _ => (kept h y).2.1⟩
      exact ⟨w, g1, g2, g3⟩
    · obtain ⟨c2, hc2, kk⟩ := s.kp.2 k c h2
      rw [h3] at hc2; cases hc2
      obtain ⟨_, l2⟩ := l.back kk
      rw [← h4] at l2
      obtain ⟨w, g1, g2, g3⟩ := R'.obj k c' u h3 (by rw [l2.tree]; exact q)
      rw [List.getElem?_map, h6] at g1
      cases g1
      exact ⟨v, h7, g2, g3⟩
  · rcases takeB_at ro.all hs len e with ⟨x, y⟩ | ⟨k, t0, c, c', v, o, ok, on, h1, h2, h3, h4, l, h6, h7⟩
    · exact ⟨(R.exc j a x).1, (R.exc j a x).2.mono s.fr.ext⟩
    · obtain ⟨c2, hc2, kk⟩ := s.kp.2 k c h2
      rw [h3] at hc2; cases hc2
      have := (l.back kk).2.idle
      rw [← h4] at this; cases this
  · refine Tie.keep R.tie s.fr.ext (fun j t v e h q => ?_) fun j u x e f h => ?_
    · rcases takeB_at ro.all hs len e with ⟨x, y⟩ | ⟨k, t0, c, c', v, o, ok, on, h1, h2, h3, h4, l, h6, h7⟩
      · have y' : j ∉ lents ρ os := y.resolve_right (by rintro ⟨d, z⟩; cases z)
        exact ⟨x, h, fun ⟨c, ns, n, z⟩ => by subst z; exact R.kids x h fun a m => (kept m y').1⟩
      · obtain ⟨c2, hc2, kk⟩ := s.kp.2 k c h2
        rw [h3] at hc2; cases hc2
        have := (l.back kk).2.arg
        rcases (l.back kk).2 with ⟨d, z1, _⟩ | ⟨d, _, z1 | z1⟩ | ⟨d, _, ho, z1 | z1⟩ <;> (rw [← h4] at z1; cases z1)
        rw [q] at ho; cases ho
    · rcases takeB_at ro.all hs len e with ⟨x, y⟩ | ⟨k, t0, c, c', v, o, ok, on, h1, h2, h3, h4, l, h6, h7⟩
      · exact ⟨u, x, f, h⟩
      · obtain ⟨c2, hc2, kk⟩ := s.kp.2 k c h2
        rw [h3] at hc2; cases hc2
        have kk := (l.back kk).1
        rw [← h4] at kk
        exact ⟨t0, h1, kk.fix f, h⟩
  · cases e2 : (takeB ρ os cs')[j]? with
    | none =>
      have := (List.getElem?_eq_some_iff.mp e).1
      rw [List.getElem?_eq_none_iff, takeB_len] at e2
      omega
    | some t' =>
      refine ⟨t', rfl, ?_⟩
      rcases takeB_at ro.all hs len e2 with ⟨x, _⟩ | ⟨k, t0, c, c', v, o, ok, on, h1, h2, h3, h4, l, h6, h7⟩
      · rw [e] at x; cases x; exact KpS.refl t
      · rw [e] at h1; cases h1
        obtain ⟨c2, hc2, kk⟩ := s.kp.2 k c h2
        rw [h3] at hc2; cases hc2
        rw [h4]; exact (l.back kk).1
  · have nw : ∀ a ∈ newFp H' v o, ¬ Own H' σ (takeB ρ os cs') a := fun a ha ⟨j, mj⟩ => by
      obtain ⟨_, _, _, _, nc⟩ := hr.prot ha
      rcases mine mj with ⟨n, m⟩ | ⟨k, _, _, _, m⟩
      · obtain ⟨f, u, hu, t⟩ := R.has ⟨j, m⟩
        exact foreign m n (hsep hn a ha u hu t f)
      · exact nc ⟨k, m⟩
    refine ⟨?_, fun _ a ha u h t f0 => Classical.byContradiction fun nn => ?_⟩
    · cases o with
      | val d => cases hn
      | loc i => cases hn
      | lob i => cases hn
      | new d =>
        obtain ⟨b, x, f, ow, n⟩ := hr
        exact ⟨b, x, f, ow, nw b (mem_refs.mpr x)⟩
      | nob t => exact ⟨hr.1, hr.2.1, nw⟩
    · obtain ⟨x, y, z⟩ := st.fr.keep a u h t f0 nn
      have nw' : a ∉ news H vs os := fun hm => nn (ns a hm u h t f0)
      exact prot z nw' (hsep hn a ha u x t y)
end
section
variable {X : Cx} {W : WX} {pos : Pos}
theorem call_post {F H : Hp} {σ : Sg} {ρ : Rho} {Q : VK} {n : Nat} {fl : List Bool} {sem : ME} {ma : MA} (h : EPost X.K W F H σ ρ Q (eCall n fl sem ma ρ)) : APost X.K W F H σ ρ (fun vs H1 => spOf X.K n sem vs H1 Q (fun cls dx H' => W cls dx σ H')) (ma ρ) := by
  unfold eCall at h
  cases e : ma ρ with
  | fail => rw [e] at h; exact h
  | ex x ρ' => rw [e] at h; exact h
  | ok os ρ1 =>
    rw [e] at h
    intro vs F1 H1 s1 R1 ro ns
    dsimp only [Rs.bind] at h
    unfold callO at h
    cases e1 : useSel ρ1 fl os with
    | none => rw [e1] at h; exact False.elim h
    | some p =>
      obtain ⟨ps, ρ2⟩ := p
      rw [e1] at h
      dsimp only at h
      obtain ⟨F2, s2, R2, ro2, _, _, _, _, sub⟩ := useSel_ok R1 s1 ro ns e1
      have ns2 : NewSeps H1 F H σ ρ vs ps := fun a hm => ns a (sub a hm)
      cases e2 : slotsOf ρ2 ps with
      | none => rw [e2] at h; exact False.elim h
      | some cs =>
        rw [e2] at h
        dsimp only at h
        split at h
        · rename_i hc
          obtain ⟨Rc, ac, _⟩ := slots_rel R2 ro2 e2 hc.1
          have tk := fun {F' H' cs'} => take_ok (F' := F') (H' := H') (cs' := cs') R2 s2 ro2 ns2 e2 hc.1
          refine ⟨by have := Rc.len; simp at this; omega, F2, cs, Rc, ac, ?_⟩
          cases es : sem cs with
          | fail => rw [es] at h; exact False.elim h
          | ex x cs' =>
            rw [es] at h
            exact fun cls dx F' H' s R xa => let ⟨y1, y2, _⟩ := tk s R; h cls dx F' H' y2 y1 xa
          | ok o cs' =>
            rw [es] at h
            cases o with
            | loc i => exact False.elim h
            | lob i => exact False.elim h
            | nob d => exact fun v F' H' s R ro nw => let ⟨y1, y2, y3⟩ := tk s R; let ⟨z1, z2⟩ := y3 v (.nob d) rfl ro nw; h v F' H' y2 y1 z1 z2
            | val d => exact fun v F' H' s R ro _ => let ⟨y1, y2, _⟩ := tk s R; h v F' H' y2 y1 ro (fun z => nomatch z)
            | new d => exact fun v F' H' s R ro nw => let ⟨y1, y2, y3⟩ := tk s R; let ⟨z1, z2⟩ := y3 v (.new d) rfl ro nw; h v F' H' y2 y1 z1 z2
        · exact False.elim h
variable {k : Nat} {f : Addr} {fd : FuncData} {ps : List Str} {x : Str} {p : Pos} {e : Expr} {es : List Expr} {n : Nat} {sem : ME} {ma : MA}
theorem de_call (fl : List Bool) (F : FnOk X.prog X.w X.K X.mg X.base (L2.CX X.prog X.w) k f fd ps (spOf X.K n sem)) (hr : Room k X.A) (hg : Gl X x) (hm : X.mg x = some (.ref f)) (hk : PySem.W.keepIn X.K (.ref f) = true) (hb : Binds X.K fd ps []) (tk : Takes X W)
    (ha : DA X W (e :: es) ma) (hdb : (x == ("__debug__" : Str)) = false := by decide) (he : starEach (e :: es) X.env = (false, eval e X.env) :: starEach es X.env := by rfl) (hpl : (backTo pos (starEach es X.env)).any (·.1) = false := by rfl) :
    DE X W (.Call (.Name x p) (e :: es) [] pos) (eCall n fl sem ma) := by
  obtain ⟨t, pa, q⟩ := ha
  exact ⟨_, pe_callS F hr hg hm hk hb (fun σ => passAt tk σ) pa hdb he hpl, fun F σ H ρ Q R h => q F σ H ρ _ R (call_post h)⟩
end
theorem back_at : ∀ {cs rs : Rho} {j : Nat} {s : Slot}, (back cs rs)[j]? = some s → ∃ c, cs[j]? = some c ∧ ((s = c) ∨ (((∃ d, c = .par d) ∨ ∃ t, c = .opa t) ∧ rs[j]? = some s))
  | [], rs, j, s, h => by cases rs <;> simp [back] at h
  | c :: cs, [], j, s, h => ⟨s, h, .inl rfl⟩
  | c :: cs, r :: rs, 0, s, h => by
    unfold back at h
    refine ⟨c, rfl, ?_⟩
    cases c <;> first | exact .inl (Option.some.inj h).symm | exact .inr ⟨.inl ⟨_, rfl⟩, h⟩ | exact .inr ⟨.inr ⟨_, rfl⟩, h⟩
  | c :: cs, r :: rs, j + 1, s, h => by
    unfold back at h
    exact back_at (cs := cs) (rs := rs) (j := j) (by simpa using h)
theorem back_len : ∀ (cs rs : Rho), (back cs rs).length = cs.length
  | [], rs => by cases rs <;> rfl
  | c :: cs, [] => rfl
  | c :: cs, r :: rs => congrArg Nat.succ (back_len cs rs)
theorem back_par : ∀ {cs rs : Rho} {j : Nat} {d : D}, cs[j]? = some (.par d) → j < rs.length → (back cs rs)[j]? = rs[j]?
  | [], rs, j, d, h, _ => by simp at h
  | c :: cs, [], j, d, h, hl => by simp at hl
  | c :: cs, r :: rs, 0, d, h, _ => by cases h; rfl
  | c :: cs, r :: rs, j + 1, d, h, hl => by
    have := back_par (cs := cs) (rs := rs) (j := j) (d := d) (by simpa using h) (by simpa using hl)
    simpa [back] using this
theorem back_opa : ∀ {cs rs : Rho} {j : Nat} {d : T}, cs[j]? = some (.opa d) → j < rs.length → (back cs rs)[j]? = rs[j]?
  | [], rs, j, d, h, _ => by simp at h
  | c :: cs, [], j, d, h, hl => by simp at hl
  | c :: cs, r :: rs, 0, d, h, _ => by cases h; rfl
  | c :: cs, r :: rs, j + 1, d, h, hl => by
    have := back_opa (cs := cs) (rs := rs) (j := j) (d := d) (by simpa using h) (by simpa using hl)
    simpa [back] using this
section
variable {K : PySem.W.Frag} {F H : Hp}
theorem start_at {N : List Str} {vs : List V} {j : Nat} (h : j < vs.length) : (start N vs)[j]? = (vs.map some)[j]? := by
  unfold L2.start
  rw [List.getElem?_append_left (by simpa using h)]
theorem app_at {cs : Rho} {m j : Nat} {s : Slot} (h : (cs ++ List.replicate m .un)[j]? = some s) (n : s ≠ .un) : cs[j]? = some s := by
  by_cases hj : j < cs.length
  · rw [List.getElem?_append_left hj] at h; exact h
  · rw [List.getElem?_append_right (by omega), List.getElem?_replicate] at h
    split at h
    · cases h; exact absurd rfl n
    · cases h
theorem start_rel {N : List Str} {vs : List V} {cs : Rho} (R : Rel K F (vs.map some) H cs) (hl : vs.length ≤ N.length) : Rel K F (start N vs) H (cs ++ List.replicate (N.length - vs.length) .un) ∧ ∀ H a, Own H (start N vs) (cs ++ List.replicate (N.length - vs.length) .un) a → Own H (vs.map some) cs a := by
  have len : vs.length = cs.length := by have := R.len; simpa using this
  have lt : ∀ {j : Nat} {s : Slot}, cs[j]? = some s → j < vs.length := fun {j s} h => by rw [len]; exact (List.getElem?_eq_some_iff.mp h).1
  have mine : ∀ {H j a}, Mine H (start N vs) (cs ++ List.replicate (N.length - vs.length) .un) j a → Mine H (vs.map some) cs j a := fun {H j a} ⟨s, v, e, h, m⟩ => by
    have e' := app_at e (by rintro rfl; cases m)
    exact ⟨s, v, e', by rw [← start_at (N := N) (lt e')]; exact h, m⟩
  refine ⟨⟨R.sub, by unfold L2.start; simp [len], fun j d e => ?_, fun j s d e m q => ?_, fun j k a h1 h2 => R.sep j k a (mine h1) (mine h2), fun j s t e q => ?_, fun j a e => ?_, R.tab, ?_⟩, fun H a ⟨j, h⟩ => ⟨j, mine h⟩⟩
  rotate_left 4
  · refine Tie.keep R.tie (Ext.refl _) (fun j t v e h q => ?_) fun j u x e f h => ?_
    · have e' := app_at e (by simp)
      rw [start_at (lt e')] at h
      exact ⟨e', h, fun _ => rfl⟩
    · have e' := app_at e (by rintro rfl; cases f)
      rw [start_at (lt e')] at h
      exact ⟨u, e', f, h⟩
  rotate_left 2
  · have e' := app_at e (by rintro rfl; cases q)
    rw [start_at (lt e')]
    exact R.obj j s t e' q
  · have e' := app_at e (by simp)
    rw [start_at (lt e')]
    exact R.exc j a e'
  · have e' := app_at e (by simp)
    rw [start_at (lt e')]
    exact R.dat j d e'
  · have e' := app_at e (by rintro rfl; cases m)
    rw [start_at (lt e')]
    exact R.own j s d e' m q
theorem back_ok {N : List Str} {vs : List V} {cs ρ' : Rho} {σ' : Sg} {F' H' : Hp} (R : Rel K F (vs.map some) H cs) (hl : vs.length ≤ N.length) (s : StepS F H (start N vs) (cs ++ List.replicate (N.length - vs.length) .un) F' H' σ' ρ') (R' : Rel K F' σ' H' ρ') (ac : ArgOk cs) :
    Rel K F' (vs.map some) H' (back cs ρ') ∧ Step F H (vs.map some) cs F' H' (back cs ρ') ∧ ∀ H a, Own H (vs.map some) (back cs ρ') a → Own H σ' ρ' a := by
  obtain ⟨Rs0, ow0⟩ := start_rel (N := N) R hl
  have len : vs.length = cs.length := by have := R.len; simpa using this
  have lt : ∀ {j : Nat} {s : Slot}, cs[j]? = some s → j < vs.length := fun {j s} h => by rw [len]; exact (List.getElem?_eq_some_iff.mp h).1
  have app : ∀ {j : Nat} {s : Slot}, cs[j]? = some s → (cs ++ List.replicate (N.length - vs.length) Slot.un)[j]? = some s := fun {j s} h => by
    rw [List.getElem?_append_left (List.getElem?_eq_some_iff.mp h).1]; exact h
  have at_ : ∀ {j : Nat} {t : Slot}, (back cs ρ')[j]? = some t → (∃ d, cs[j]? = some (.dat d) ∧ t = .dat d) ∨ (∃ d, cs[j]? = some (.lck d) ∧ t = .lck d ∧ ρ'[j]? = some (.lck d) ∧ σ'[j]? = (vs.map some)[j]?) ∨ (∃ d d', cs[j]? = some (.par d) ∧ t = .par d' ∧ ρ'[j]? = some (.par d') ∧ σ'[j]? = (vs.map some)[j]?) ∨ (∃ d d', cs[j]? = some (.opa d) ∧ t = .opa d' ∧ ρ'[j]? = some (.opa d') ∧ σ'[j]? = (vs.map some)[j]? ∧ KpT d d' ∧ d'.odd = false) := fun {j t} h => by
    obtain ⟨c, hc, q⟩ := back_at h
    have ab := ac c (List.mem_of_getElem? hc)
    cases c with
    | un => cases ab
    | own d => cases ab
    | obj d => cases ab
    | exc d => cases ab
    | dat d =>
      rcases q with q | ⟨⟨d', q⟩ | ⟨d', q⟩, _⟩
      · exact .inl ⟨d, hc, q⟩
      · cases q
      · cases q
    | lck d =>
      rcases q with q | ⟨⟨d', q⟩ | ⟨d', q⟩, _⟩
      · obtain ⟨y1, y2⟩ := s.par.2.1 j d (app hc)
        exact .inr (.inl ⟨d, hc, q, y1, by rw [y2, start_at (lt hc)]⟩)
      · cases q
      · cases q
    | opa d =>
      obtain ⟨⟨d', y1, kk⟩, y2⟩ := s.par.2.2 j d (app hc)
      have ev : d.odd = false := by cases z : d.odd with
        | false => rfl
        | true => rw [show argB (.opa d) = !d.odd from rfl, z] at ab; cases ab
      have := back_opa (rs := ρ') hc (List.getElem?_eq_some_iff.mp y1).1
      rw [h, y1] at this
      cases this
      exact .inr (.inr (.inr ⟨d, d', hc, rfl, y1, by rw [y2, start_at (lt hc)], kk, kk.even ev⟩))
    | par d =>
      obtain ⟨⟨d', y1⟩, y2⟩ := s.par.1 j d (app hc)
      have := back_par (rs := ρ') hc (List.getElem?_eq_some_iff.mp y1).1
      rw [h, y1] at this
      cases this
      exact .inr (.inr (.inl ⟨d, d', hc, rfl, y1, by rw [y2, start_at (lt hc)]⟩))
  have mine : ∀ {H j a}, Mine H (vs.map some) (back cs ρ') j a → Mine H σ' ρ' j a := fun {H j a} ⟨t, v, e, h, m⟩ => by
    rcases at_ e with ⟨d, _, q⟩ | ⟨d, _, q, y1, y2⟩ | ⟨d, d', _, q, y1, y2⟩ | ⟨d, d', _, q, y1, y2⟩
    · subst q; cases m
    · subst q; exact ⟨_, v, y1, by rw [y2]; exact h, m⟩
    · subst q; exact ⟨_, v, y1, by rw [y2]; exact h, m⟩
    · subst q; exact ⟨_, v, y1, by rw [y2.1]; exact h, m⟩
  refine ⟨⟨R'.sub, by rw [back_len]; exact R.len, fun j d e => ?_, fun j t d e m q => ?_, fun j k a h1 h2 => R'.sep j k a (mine h1) (mine h2), fun j t u e q => ?_, fun j a e => ?_, R'.tab, fun j t v e h => ?_⟩, ⟨⟨s.fr.ext, fun a o h t f n => ?_⟩, ?_, fun i c ns n v e _ => by have := ac _ (List.mem_of_getElem? e); cases this⟩, fun H a ⟨j, h⟩ => ⟨j, mine h⟩⟩
  · rcases at_ e with ⟨d', hc, q⟩ | ⟨d, _, q, y1, y2⟩ | ⟨d, d', _, q, y1, y2⟩ | ⟨d, d', _, q, y1, y2⟩
    · cases q
      obtain ⟨v, h1, h2⟩ := R.dat j d hc
      exact ⟨v, h1, h2.mono s.fr.ext⟩
    · cases q
    · cases q
    · cases q
  · rcases at_ e with ⟨d', _, z⟩ | ⟨d', _, z, y1, y2⟩ | ⟨d0, d', _, z, y1, y2⟩ | ⟨d0, d', _, z, y1, y2⟩
    · subst z; cases m
    · subst z
      rw [← y2]
      exact R'.own j _ d y1 rfl q
    · subst z
      rw [← y2]
      exact R'.own j _ d y1 rfl q
    · subst z; cases m
  · rcases at_ e with ⟨d', _, z⟩ | ⟨d', _, z, y1, y2⟩ | ⟨d0, d', _, z, y1, y2⟩ | ⟨d0, d', _, z, y1, y2⟩
    · subst z; cases q
    · subst z; cases q
    · subst z; cases q
    · subst z
      rw [← y2.1]
      exact R'.obj j _ u y1 q
  · rcases at_ e with ⟨d', _, z⟩ | ⟨d', _, z, y1, y2⟩ | ⟨d0, d', _, z, y1, y2⟩ | ⟨d0, d', _, z, y1, y2⟩ <;> cases z
  · rcases at_ e with ⟨d', _, z⟩ | ⟨d', _, z, y1, y2⟩ | ⟨d0, d', _, z, y1, y2⟩ | ⟨d0, d', _, z, y1, y2, _, ev⟩
    · cases z
    · cases z
    · cases z
    · cases z
      cases t <;> first | trivial | cases ev
  · obtain ⟨x, y, z⟩ := s.fr.keep a o h t f fun ho => n (ow0 _ a ho)
    exact ⟨x, y, fun ⟨j, mj⟩ => z ⟨j, mine mj⟩⟩
  · refine ⟨(back_len _ _).symm, fun j c hc => ?_⟩
    have hj : j < (back cs ρ').length := by rw [back_len]; exact (List.getElem?_eq_some_iff.mp hc).1
    refine ⟨_, List.getElem?_eq_getElem hj, ?_⟩
    rcases at_ (List.getElem?_eq_getElem hj) with ⟨d', h1, q⟩ | ⟨d, h1, q, y1, y2⟩ | ⟨d, d', h1, q, y1, y2⟩ | ⟨d, d', h1, q, y1, y2⟩
    · rw [hc] at h1; cases h1; rw [q]; exact rfl
    · rw [hc] at h1; cases h1; rw [q]; exact rfl
    · rw [hc] at h1; cases h1; rw [q]; exact trivial
    · rw [hc] at h1; cases h1; rw [q]; exact y2.2.1
end
section
variable {P : Program} {w : World} {K : PySem.W.Frag} {mg : Str → Option Value} {base : Heap} {x qual : Str} {params : Arguments} {body : List Stmt} {scope : Scope} {kws : List (Str × V)} {f : Addr} {fd : FuncData} {N ps : List Str} {k : Nat} {mb : MS}
theorem funD_okC {P : Program} {w : World} {K : PySem.W.Frag} {mg : Str → Option Value} {base : Heap} {x qual : Str} {params : Arguments} {body : List Stmt} {scope : Scope} {dvs : List V} {kws : List (Str × V)} {f : Addr} {fd : FuncData} {CX : CXT} {N ps : List Str} {k : Nat} {sp : Sp} (F : FunD K x qual params body scope dvs kws f fd) (S : FnScope N ps scope) (len : ∀ vs H Q E, sp vs H Q E → vs.length = ps.length)
    (hbody : ∀ (cdv : Value) (A : Around) (outer : List Env) (s : Shared) (H : Hp) (vs : List V) (Q : VK) (E : XK), fd.code = cdv → Room k (A.deeper (PyProof.Rows.envOfC qual scope s.heap.objs.size f cdv)) → sp vs H Q E →
      ∃ t, PSs (cxOf CX P w K mg base N qual scope f cdv A outer s H E) body t ∧ t { nx := fun _ H' => Q .non H', rt := Q } (start N vs) H) : FnOk P w K mg base CX (k + 1) f fd ps sp := by
  obtain ⟨oc, od, dV, kV, doc, pm, an, cdv, ct, osl, rfl, lk, hcd, _, _⟩ := F.ex
  exact fn_of lk hcd S len fun A outer s H vs Q E hr hsp => hbody cdv A outer s H vs Q E rfl hr hsp
theorem fn_ok (F : FunD K x qual params body scope [] kws f fd) (S : FnScope N ps scope)
    (hb : ∀ (cdv : Value) (A : Around) (outer : List Env) (s : Shared) (H : Hp) (E : XK), fd.code = cdv → Room k (A.deeper (PyProof.Rows.envOfC qual scope s.heap.objs.size f cdv)) → DSs (cxOf (L2.CX P w) P w K mg base N qual scope f cdv A outer s H E) (fun cls d _ H => E cls d H) body mb) :
    FnOk P w K mg base (L2.CX P w) (k + 1) f fd ps (spOf K ps.length (fnSem ps.length N.length mb)) := by
  have hN : ps.length ≤ N.length := by have := congrArg List.length S.pre; rw [List.length_take] at this; omega
  refine funD_okC F S (fun vs H Q E h => h.1) fun cdv A outer s H vs Q E hcv hr h => ?_
  obtain ⟨t, p, q⟩ := hb cdv A outer s H E hcv hr
  obtain ⟨hl, F0, cs, R, ac, h⟩ := h
  obtain ⟨R0, ow0⟩ := start_rel (N := N) R (by rw [hl]; exact hN)
  refine ⟨t, p, q F0 _ H _ _ R0 ?_⟩
  unfold fnSem at h
  rw [← hl] at h
  generalize hr : mb (cs ++ List.replicate (N.length - vs.length) Slot.un) = r at *
  have bk := fun {σ' ρ' F' H'} => back_ok (N := N) (σ' := σ') (ρ' := ρ') (F' := F') (H' := H') R (by rw [hl]; exact hN)
  cases r with
  | fail => exact False.elim h
  | ex x ρ' =>
    have h : XPost K (fun cls dx _ H => E cls dx H) F0 H (vs.map some) cs x (back cs ρ') := h
    exact fun cls dx σ' F' H' s' R' xa => let ⟨y1, y2, _⟩ := bk s' R' ac; h cls dx F' H' y2 y1 xa
  | ok fl ρ' =>
    cases fl with
    | bk => exact False.elim h
    | ct => exact False.elim h
    | nx => exact fun σ' F' H' s' R' => let ⟨y1, y2, _⟩ := bk s' R' ac; h .non F' H' y2 y1 .non (fun z => nomatch z)
    | rt o =>
      cases o with
      | loc i => exact False.elim h
      | val d => exact fun v σ' F' H' s' R' ro _ => let ⟨y1, y2, _⟩ := bk s' R' ac; h v F' H' y2 y1 ro (fun z => nomatch z)
      | lob i => exact False.elim h
      | nob d =>
        intro v σ' F' H' s' R' ro nw
        obtain ⟨y1, y2, y3⟩ := bk s' R' ac
        exact h v F' H' y2 y1 ⟨ro.1, ro.2.1, fun a ha z => ro.2.2 a ha (y3 _ a z)⟩ fun hn b e1 u hb t f0 => ow0 _ b (nw hn b e1 u hb t f0)
      | new d =>
        intro v σ' F' H' s' R' ro nw
        obtain ⟨y1, y2, y3⟩ := bk s' R' ac
        obtain ⟨a, e, f, ow, n⟩ := ro
        exact h v F' H' y2 y1 ⟨a, e, f, ow, fun z => n (y3 _ a z)⟩ fun hn b e1 u hb t f0 => ow0 _ b (nw hn b e1 u hb t f0)
end
section
variable {K : PySem.W.Frag} {F H : Hp} {v : V}
mutual
theorem Rp.dp (s : Sub F H) : ∀ {v : V} {d : D}, Rp K F v d → d.canLay0 = true → Dp K H v d
  | _, _, .non, _ => .non
  | _, _, .bl b, _ => .bl b
  | _, _, .int i, _ => .int i
  | _, _, .str x, _ => .str x
  | _, _, .lst h r, c => .lst (SqL.of (s.lst h)) (RpA.dp s r (by simpa [PyData.canLay0] using c))
  | _, _, .tup h r, c => .tup (SqT.of (s.tup h)) (RpA.dp s r (by simpa [PyData.canLay0] using c))
  | _, _, .dct h r, c => by simp [PyData.canLay0] at c
theorem RpA.dp (s : Sub F H) : ∀ {vs : List V} {ds : List D}, RpA K F vs ds → PyData.canLayAll0 ds = true → DpAll K H vs ds
  | _, _, .nil, _ => .nil
  | _, _, .cons h r, c => by
    rw [PyData.canLayAll0, Bool.and_eq_true] at c
    exact .cons (Rp.dp s h c.1) (RpA.dp s r c.2)
end
theorem Ct.dp {d : D} (s : Sub F H) (h : Ct K F H v d) (c : d.canLay0 = true) : Dp K H v d := by
  rcases h with h | ⟨a, e, f, o⟩
  · exact h.dp s c
  · subst e
    cases d with
    | list ds =>
      obtain ⟨vs, hh, r⟩ := o
      exact .lst (SqL.of hh) (r.dp s (by simpa [PyData.canLay0] using c))
    | dict ps => simp [PyData.canLay0] at c
    | none => exact False.elim o
    | bool b => exact False.elim o
    | int b => exact False.elim o
    | str b => exact False.elim o
    | tuple b => exact False.elim o
end
section
variable {K : PySem.W.Frag} {F H : Hp} {Q : VK}
theorem newT {vs : List V} {ds : List D} (s : Sub F H) (r : RpA K F vs ds) (k : ∀ u F' H', Grow F H F' H' → RN K H F' H' u (.val (.tuple ds)) → Q u H') : ∀ p, H p = none → Q (.ref p) (upd H p (.tup vs)) := fun p np => by
  obtain ⟨_, _, g⟩ := upd_fresh (K := K) (o := .tup vs) s np trivial
  exact k _ _ _ g (.tup upd_same (r.mono g.ext))
theorem newL {vs : List V} {ds : List D} (s : Sub F H) (r : RpA K F vs ds) (k : ∀ u F' H', Grow F H F' H' → RN K H F' H' u (.new (.list ds)) → Q u H') : ∀ p, H p = none → Q (.ref p) (upd H p (.lst vs)) := fun p np => by
  obtain ⟨f, g, _⟩ := upd_fresh (K := K) (o := .lst vs) s np trivial
  exact k _ _ _ g ⟨p, rfl, np, f, vs, upd_same, r⟩
end
theorem gd_some {b : Bool} {o o' : Opd} (h : gd b o = some o') : b = true ∧ o' = o := by
  unfold gd at h
  split at h
  · rename_i hb; exact ⟨hb, (Option.some.inj h).symm⟩
  · cases h
section
variable {X : Cx}
theorem snd_iop {K : PySem.W.Frag} {f : Int → Int → Int} {c : Int → Int → Bool} {r : R2} (h : ∀ i j H Q, c i j = true → Q (.int (f i j)) H → r (.int i) (.int j) H Q) : Snd2 K r (iop f c) := by
  intro F H v w d e o Q s cv cw hf k
  cases d <;> cases e <;> try (cases hf; done)
  rename_i i j
  obtain ⟨hc, rfl⟩ := gd_some hf
  cases cv.int
  cases cw.int
  exact h i j H Q hc (same s (.int _) k)
theorem snd_sub {K} : Snd2 K (rI0 fun i j => .int (i - j)) pySub := snd_iop fun i j H Q _ q => ⟨i, j, rfl, rfl, q⟩
/-- a product: one factor is small -/
def mulOk (i j : Int) : Bool := (decide (-(2 ^ 64) < i) && decide (i < 2 ^ 64)) || (decide (-(2 ^ 64) < j) && decide (j < 2 ^ 64)) || decide (i.natAbs.log2 + j.natAbs.log2 < 1000000)
def rMulU : R2 := fun x y H Q => rI CMul (fun i j => .int (i * j)) x y H Q ∨ rI CMulW (fun i j => .int (i * j)) x y H Q
theorem op_mulU : OpR X (binaryOp .Mult) rMulU := OpR.or op_mul op_mulW
/-- list * n -/
def pyMul : D → D → Option Opd
  | .int i, .int j => gd (mulOk i j) (vI (i * j))
  | _, _ => none
theorem snd_mul {K} : Snd2 K rMulU pyMul := by
  intro F H v w d e o Q s cv cw hf k
  cases d <;> cases e <;> try (cases hf; done)
  rename_i i j
  obtain ⟨hc, rfl⟩ := gd_some hf
  cases cv.int
  cases cw.int
  have q := same s (.int (i * j)) k
  unfold mulOk at hc
  simp only [Bool.or_eq_true, Bool.and_eq_true, decide_eq_true_eq] at hc
  rcases hc with (hc | hc) | hc
  · exact .inl ⟨i, j, rfl, rfl, .inl hc, q⟩
  · exact .inl ⟨i, j, rfl, rfl, .inr hc, q⟩
  · exact .inr ⟨i, j, rfl, rfl, hc, q⟩
theorem snd_div {K} : Snd2 K (rI CDivW fun i j => .int (i / j)) pyDiv := snd_iop fun i j H Q c q => ⟨i, j, rfl, rfl, by simpa [CDivW] using c, q⟩
theorem snd_mod {K} : Snd2 K (rI (fun _ j => 0 < j) fun i j => .int (i % j)) pyMod := snd_iop fun i j H Q c q => ⟨i, j, rfl, rfl, by simpa using c, q⟩
theorem powOk_c {i j : Int} (h : powOk i j = true) : CPow i j := by
  unfold powOk at h
  simp only [Bool.and_eq_true, decide_eq_true_eq] at h
  exact ⟨h.1.1, h.1.2, h.2⟩
theorem snd_pow {K} : Snd2 K (rI CPow fun i j => .int (i ^ j.toNat)) pyPow := snd_iop fun i j H Q c q => ⟨i, j, rfl, rfl, powOk_c c, q⟩
def rAddU (K : PySem.W.Frag) : R2 := fun x y H Q => (rI0 (fun i j => .int (i + j)) x y H Q ∨ (∃ i j, x = .str i ∧ y = .str j ∧ i.length + j.length ≤ sizeLine ∧ Q (.str (i ++ j)) H)) ∨ rCatA K x y H Q ∨
  ∃ l b xs zs, x = .ref l ∧ y = .ref b ∧ SqL K H l xs ∧ SqL K H b zs ∧ xs.length + zs.length ≤ sizeLine ∧ ∀ p, H p = none → Q (.ref p) (upd H p (.lst (xs ++ zs)))
theorem op_catL : OpR X (binaryOp .Add) (fun x y H Q => ∃ l b xs zs, x = .ref l ∧ y = .ref b ∧ SqL X.K H l xs ∧ SqL X.K H b zs ∧ xs.length + zs.length ≤ sizeLine ∧ ∀ p, H p = none → Q (.ref p) (upd H p (.lst (xs ++ zs)))) := by
  intro pins s σ H x y v u Q I rx ry h
  obtain ⟨l, b, xs, zs, rfl, rfl, hH, hB, hz, q⟩ := h
  cases rx
  cases ry
  obtain ⟨its, r, pl, _⟩ := I.list hH
  obtain ⟨its2, r2, pl2, _⟩ := I.list hB
  obtain ⟨⟨cls, dd, data, sl⟩, ho, hc, n, hd⟩ := pl.isList
  obtain ⟨⟨cls2, dd2, data2, sl2⟩, ho2, hc2, n2, hd2⟩ := pl2.isList
  simp only at hc hd hc2 hd2
  subst hc hd hc2 hd2
  have l1 := r.length
  have l2 := r2.length
  refine PySem.concat_meets ⟨_, ho, rfl⟩ ⟨_, ho2, rfl⟩ noFill_list_add seq_list_add PySem.F.slot_list_add PySem.F.entry_list_add (PySem.F.args_list_add_2 _ _) (PyProof.Rows.list_addW l b its.toArray its2.toArray n n2 dd dd2 sl sl2 (by simp; omega)) ⟨ho, ho2, ?_⟩
  have e : its.toArray ++ its2.toArray = (its ++ its2).toArray := by simp
  rw [e]
  exact ⟨.ref _, _, I.lnew (t' := s.toks) (r.append r2) (by rw [List.length_append]; omega), rfl, q _ I.fresh⟩
theorem op_addU : OpR X (binaryOp .Add) (rAddU X.K) := OpR.or (OpR.or op_add op_add_str) (OpR.or op_catA op_catL)
def pyAdd : D → D → Option Opd
  | .int i, .int j => some (vI (i + j))
  | .str i, .str j => gd (decide (i.length + j.length ≤ sizeLine)) (vS (i ++ j))
  | .tuple i, .tuple j => gd (decide (i.length + j.length ≤ sizeLine)) (.val (.tuple (i ++ j)))
  | .list i, .list j => gd (decide (i.length + j.length ≤ sizeLine)) (.new (.list (i ++ j)))
  | _, _ => none
theorem snd_add {K} : Snd2 K (rAddU K) pyAdd := by
  intro F H v w d e o Q s cv cw hf k
  cases d <;> cases e <;> try (cases hf; done)
  · cases hf
    cases cv.int
    cases cw.int
    exact .inl (.inl ⟨_, _, rfl, rfl, same s (.int _) k⟩)
  · obtain ⟨hc, rfl⟩ := gd_some hf
    cases cv.str
    cases cw.str
    exact .inl (.inr ⟨_, _, rfl, rfl, by simpa using hc, same s (.str _) k⟩)
  · obtain ⟨hc, rfl⟩ := gd_some hf
    obtain ⟨a, vs, rfl, h1, r1⟩ := cv.list s
    obtain ⟨b, ws, rfl, h2, r2⟩ := cw.list s
    exact .inr (.inr ⟨a, b, vs, ws, rfl, rfl, SqL.of h1, SqL.of h2, by rw [r1.length, r2.length]; simpa using hc, newL s (r1.append r2) k⟩)
  · obtain ⟨hc, rfl⟩ := gd_some hf
    obtain ⟨a, vs, rfl, h1, r1, f1⟩ := cv.tup s
    obtain ⟨b, ws, rfl, h2, r2, f2⟩ := cw.tup s
    refine .inr (.inl ⟨a, b, vs, ws, rfl, rfl, SqT.of h1, SqT.of h2, by rw [r1.length, r2.length]; simpa using hc, fun e => ?_, fun _ e => ?_, fun _ _ => newT s (r1.append r2) k⟩)
    · subst e
      cases r1
      exact same s (.tup f2 r2) k
    · subst e
      cases r2
      rw [List.append_nil] at k
      exact same s (.tup f1 r1) k
def pyEq (d e : D) : Option Opd := gd (SeqAt.shaped d && SeqAt.shaped e) (vB (PyData.eqv d e))
theorem snd_eq {K} : Snd2 K (rEqD K) pyEq := by
  intro F H v w d e o Q s cv cw hf k
  obtain ⟨hc, rfl⟩ := gd_some hf
  rw [Bool.and_eq_true] at hc
  exact ⟨d, e, cv.dp s (SeqAt.canLay_of_shaped hc.1), cw.dp s (SeqAt.canLay_of_shaped hc.2), hc.1, hc.2, same s (.bl _) k⟩
def pyNe (d e : D) : Option Opd := gd (SeqAt.shaped d && SeqAt.shaped e) (vB (!PyData.eqv d e))
def rCop (f : Int → Int → Bool) (g : List Nat → List Nat → Bool) : R2 := fun x y H Q => (rI0 (fun i j => .bl (f i j)) x y H Q) ∨ ∃ i j, x = .str i ∧ y = .str j ∧ Q (.bl (g i.cps.toList j.cps.toList)) H
theorem snd_cop {K} {f : Int → Int → Bool} {g : List Nat → List Nat → Bool} : Snd2 K (rCop f g) (cop f g) := by
  intro F H v w d e o Q s cv cw hf k
  cases d <;> cases e <;> try (cases hf; done)
  · cases hf
    cases cv.int
    cases cw.int
    exact .inl ⟨_, _, rfl, rfl, same s (.bl _) k⟩
  · cases hf
    cases cv.str
    cases cw.str
    exact .inr ⟨_, _, rfl, rfl, same s (.bl _) k⟩
theorem op_ltU : OpR X (compareOp .Lt) (rCop (fun i j => decide (i < j)) (fun a b => decide (a < b))) := OpR.or op_lt op_lt_str
theorem op_gtU : OpR X (compareOp .Gt) (rCop (fun i j => decide (j < i)) (fun a b => decide (b < a))) := OpR.or op_gt op_gt_str
theorem op_geU : OpR X (compareOp .GtE) (rCop (fun i j => decide (j ≤ i)) (fun a b => !decide (a < b))) := OpR.or op_ge op_ge_str
/-- in, not in: lists, tuples, one sign in a text -/
def rInU (K : PySem.W.Frag) (neg : Bool) : R2 := fun x y H Q => (∃ d ds, Dp K H x d ∧ (Dp K H y (.list ds) ∨ Dp K H y (.tuple ds)) ∧ SeqAt.shaped d = true ∧ SeqAt.shaped (.list ds) = true ∧ Q (.bl (if neg then !ds.any fun z => PyData.eqv z d else ds.any fun z => PyData.eqv z d)) H) ∨
  ∃ (c : Nat) (z : Str), x = .str ⟨#[c]⟩ ∧ y = .str z ∧ Q (.bl (if neg then !decide (c ∈ z.cps.toList) else decide (c ∈ z.cps.toList))) H
theorem op_inU (hu : X.A.units + 65 < cLine) : OpR X (compareOp .In) (rInU X.K false) := by
  refine OpR.or ?_ op_in_sign
  intro pins s σ H x y v u Q I rx ry h
  obtain ⟨d, ds, hd, he, sd, se, q⟩ := h
  obtain ⟨as, r1⟩ := Dp.reads I d x v hd rx
  have ce : PyData.canLayAll0 ds = true := by simpa [PyData.canLay0] using SeqAt.canLay_of_shaped se
  rcases he with he | he
  · obtain ⟨bs, r2⟩ := Dp.reads I (.list ds) y u he ry
    exact SeqAt.in_list_reads r2 r1 ce (SeqAt.canLay_of_shaped sd) (PyProof.Rows.room_in_shaped sd hu) ⟨.bl _, H, I, rfl, q⟩
  · obtain ⟨bs, r2⟩ := Dp.reads I (.tuple ds) y u he ry
    exact SeqAt.in_tuple_reads r2 r1 ce (SeqAt.canLay_of_shaped sd) (PyProof.Rows.room_in_shaped sd hu) ⟨.bl _, H, I, rfl, q⟩
theorem op_notInU (hu : X.A.units + 65 < cLine) : OpR X (compareOp .NotIn) (rInU X.K true) := by
  refine OpR.or ?_ op_notIn_sign
  intro pins s σ H x y v u Q I rx ry h
  obtain ⟨d, ds, hd, he, sd, se, q⟩ := h
  obtain ⟨as, r1⟩ := Dp.reads I d x v hd rx
  have ce : PyData.canLayAll0 ds = true := by simpa [PyData.canLay0] using SeqAt.canLay_of_shaped se
  rcases he with he | he
  · obtain ⟨bs, r2⟩ := Dp.reads I (.list ds) y u he ry
    exact SeqAt.notIn_list_reads r2 r1 ce (SeqAt.canLay_of_shaped sd) (PyProof.Rows.room_in_shaped sd hu) ⟨.bl _, H, I, rfl, q⟩
  · obtain ⟨bs, r2⟩ := Dp.reads I (.tuple ds) y u he ry
    exact SeqAt.notIn_tuple_reads r2 r1 ce (SeqAt.canLay_of_shaped sd) (PyProof.Rows.room_in_shaped sd hu) ⟨.bl _, H, I, rfl, q⟩
theorem has_ok {K : PySem.W.Frag} {F H : Hp} {v w : V} {d e : D} {b : Bool} (neg : Bool) {Q : VK} (s : Sub F H) (cv : Ct K F H v d) (cw : Ct K F H w e) (h : hasD d e = some b) (q : Q (.bl (if neg then !b else b)) H) : rInU K neg v w H Q := by
  cases e with
  | list ds =>
    unfold hasD at h
    dsimp only at h
    split at h
    · rename_i hc
      rw [Bool.and_eq_true] at hc
      cases h
      exact .inl ⟨d, ds, cv.dp s (SeqAt.canLay_of_shaped hc.1), .inl (cw.dp s (SeqAt.canLay_of_shaped hc.2)), hc.1, hc.2, q⟩
    · cases h
  | tuple ds =>
    unfold hasD at h
    dsimp only at h
    split at h
    · rename_i hc
      rw [Bool.and_eq_true] at hc
      cases h
      exact .inl ⟨d, ds, cv.dp s (SeqAt.canLay_of_shaped hc.1), .inr (cw.dp s (by have := SeqAt.canLay_of_shaped hc.2; simpa [PyData.canLay0] using this)), hc.1, hc.2, q⟩
    · cases h
  | str z =>
    cases d with
    | str x =>
      unfold hasD at h
      dsimp only at h
      cases e1 : sgn? x with
      | none => rw [e1] at h; cases h
      | some c =>
        rw [e1] at h
        cases h
        have hx : x = ⟨#[c]⟩ := by
          unfold sgn? at e1
          obtain ⟨⟨l⟩⟩ := x
          cases l with
          | nil => cases e1
          | cons a r => cases r with
            | nil => cases e1; rfl
            | cons b r => cases e1
        cases cv.str
        cases cw.str
        exact .inr ⟨c, z, by rw [hx], rfl, q⟩
    | none => cases h
    | bool b => cases h
    | int b => cases h
    | list b => cases h
    | tuple b => cases h
    | dict b => cases h
  | none => cases h
  | bool b => cases h
  | int b => cases h
  | dict b => cases h
theorem snd_in {K} : Snd2 K (rInU K false) pyIn := by
  intro F H v w d e o Q s cv cw hf k
  unfold pyIn at hf
  cases h : hasD d e with
  | none => rw [h] at hf; cases hf
  | some b =>
    rw [h] at hf
    cases hf
    exact has_ok false s cv cw h (same s (.bl _) k)
theorem snd_notIn {K} : Snd2 K (rInU K true) pyNotIn := by
  intro F H v w d e o Q s cv cw hf k
  unfold pyNotIn at hf
  cases h : hasD d e with
  | none => rw [h] at hf; cases hf
  | some b =>
    rw [h] at hf
    cases hf
    exact has_ok true s cv cw h (same s (.bl _) k)
end
theorem peor {X : Cx} {e : Expr} {t u : TE} (h : PE X e t) (g : PE X e u) : PE X e (fun σ H Q => t σ H Q ∨ u σ H Q) := ⟨fun pins s σ H Q I q => q.elim (h.run pins s σ H Q I) (g.run pins s σ H Q I)⟩
theorem op2_or (f g : D → D → Option Opd) (a b : ME) (ρ : Rho) : eOp2 (orf f g) a b ρ = eOp2 f a b ρ ∨ eOp2 (orf f g) a b ρ = eOp2 g a b ρ := by
  unfold eOp2
  cases ea : a ρ with
  | fail => exact .inl rfl
  | ex x ρ' => exact .inl rfl
  | ok x ρ1 =>
    dsimp only [Rs.bind]
    cases eb : b ρ1 with
    | fail => exact .inl rfl
    | ex x ρ' => exact .inl rfl
    | ok y ρ2 =>
      dsimp only
      unfold run2 orf
      cases deref ρ2 x with
      | none => exact .inl rfl
      | some d =>
        cases deref ρ2 y with
        | none => exact .inl rfl
        | some e =>
          dsimp only
          cases f d e with
          | none => exact .inr rfl
          | some o => exact .inl rfl
section
variable {X : Cx} {W : WX} {pos : Pos}
theorem de_orf {e : Expr} {f g : D → D → Option Opd} {a b : ME} (h1 : DE X W e (eOp2 f a b)) (h2 : DE X W e (eOp2 g a b)) : DE X W e (eOp2 (orf f g) a b) := by
  obtain ⟨t, p, q⟩ := h1
  obtain ⟨u, p2, q2⟩ := h2
  refine ⟨_, peor p p2, fun F σ H ρ Q R h => ?_⟩
  rcases op2_or f g a b ρ with e | e
  · rw [e] at h; exact .inl (q F σ H ρ Q R h)
  · rw [e] at h; exact .inr (q2 F σ H ρ Q R h)
theorem atI_rel {K : PySem.W.Frag} {F : Hp} {vs : List V} {ds : List D} {i : Int} {d : D} (r : RpA K F vs ds) (h : atI ds i = some d) : ∃ v, atI vs i = some v ∧ Rp K F v d := by
  unfold atI at h ⊢
  rw [r.length]
  cases e : ixN ds.length i with
  | none => rw [e] at h; cases h
  | some j =>
    rw [e] at h
    exact r.get h
theorem snd_ix {K} : Snd2 K (rIx K) pyIx := by
  intro F H v w d e o Q s cv cw hf k
  cases d <;> cases e <;> try (cases hf; done)
  · rename_i z i
    unfold pyIx at hf
    dsimp only at hf
    split at hf
    · rename_i hz
      cases h : atI z.cps.toList i with
      | none => rw [h] at hf; cases hf
      | some c =>
        rw [h] at hf
        cases hf
        cases cv.str
        cases cw.int
        exact .inr (.inr ⟨z, i, c, rfl, rfl, hz, h, same s (.str _) k⟩)
    · cases hf
  · rename_i ds i
    have hf : (atI ds i).map Opd.val = some o := hf
    cases h : atI ds i with
    | none => rw [h] at hf; cases hf
    | some d =>
      rw [h] at hf
      cases hf
      obtain ⟨a, vs, rfl, h1, r1⟩ := cv.list s
      cases cw.int
      obtain ⟨v, hv, rv⟩ := atI_rel r1 h
      exact .inl ⟨a, vs, i, v, rfl, rfl, SqL.of h1, hv, same s rv k⟩
  · rename_i ds i
    have hf : (atI ds i).map Opd.val = some o := hf
    cases h : atI ds i with
    | none => rw [h] at hf; cases hf
    | some d =>
      rw [h] at hf
      cases hf
      obtain ⟨a, vs, rfl, h1, r1, _⟩ := cv.tup s
      cases cw.int
      obtain ⟨v, hv, rv⟩ := atI_rel r1 h
      exact .inr (.inl ⟨a, vs, i, v, rfl, rfl, SqT.of h1, hv, same s rv k⟩)
theorem de_ix {a b : Expr} {ma mb : ME} (ha : DE X W a ma) (hb : DE X W b mb) (hs : PlainIx b := by intro _ _; rfl) : DE X W (.Subscript a b pos) (eOp2 pyIx ma mb) := by
  obtain ⟨ta, pa, qa⟩ := ha
  obtain ⟨tb, pb, qb⟩ := hb
  exact ⟨_, pe_ix ix_seq pa pb hs, op2_ok snd_ix qa qb⟩
theorem keyOf_of {k : Key} {c : D} (h : c = (match k with | .inl i => .int i | .inr x => .str x)) : keyOf c = some k := by
  subst h
  cases k <;> rfl
theorem look_rel {K : PySem.W.Frag} {F : Hp} {k : Key} : ∀ {kvs : List (Key × V)} {ps : List (D × D)}, RpD K F kvs ps → (∀ d, dlook ps k = some d → ∃ v, valV kvs k = some v ∧ Rp K F v d) ∧ (dlook ps k = none → valV kvs k = none)
  | _, _, .nil => ⟨(fun d h => by cases h), fun _ => rfl⟩
  | (k', v) :: kvs, (c, d) :: ps, .cons e r rs => by
    obtain ⟨h1, h2⟩ := look_rel (k := k) rs
    have ek := keyOf_of e
    unfold dlook
    rw [ek]
    have hv : valV ((k', v) :: kvs) k = if k' = k then some v else valV kvs k := by
      unfold valV
      rw [List.find?_cons]
      by_cases e : k' = k
      · rw [if_pos e]; simp [e]
      · rw [if_neg e]; simp [e]
    rw [hv]
    by_cases e : k' = k
    · subst e
      simp only [if_true]
      exact ⟨fun d h => by cases h; exact ⟨v, rfl, r⟩, fun h => by cases h⟩
    · have e' : ¬ (some k' = some k) := fun z => e (Option.some.inj z)
      simp only [if_neg e, if_neg e']
      exact ⟨h1, h2⟩
theorem keyOf_v {K : PySem.W.Frag} {F H : Hp} {w : V} {e : D} {κ : Key} (cw : Ct K F H w e) (h : keyOf e = some κ) : w = kV κ := by
  cases e <;> try (cases h; done)
  · cases h; exact cw.int
  · cases h; exact cw.str
theorem de_get {o i : Expr} {ma mb : ME} (hu : X.A.units + 1 < cLine) (ho : DE X W o ma) (hi : DE X W i mb) (hs : NoSl i := by intro _ _; rfl) : DE X W (.Subscript o i pos) (eOp2 pyGet ma mb) := by
  obtain ⟨ta, pa, qa⟩ := ho
  obtain ⟨tb, pb, qb⟩ := hi
  refine ⟨_, pe_dget hu pa pb hs, fun F σ H ρ Q R h => ?_⟩
  refine op2_ok (r := fun x y H Q => ∃ a v, x = .ref a ∧ DGet H a y (some v) ∧ Q v H) ?_ qa qb F σ H ρ Q R h
  intro F H v w d e o Q s cv cw hf k
  cases d <;> try (cases hf; done)
  rename_i ps
  unfold pyGet at hf
  dsimp only at hf
  cases hk : keyOf e with
  | none => rw [hk] at hf; cases hf
  | some κ =>
    rw [hk] at hf
    cases hl : dlook ps κ with
    | none => simp [hl] at hf
    | some d =>
      simp [hl] at hf
      subst hf
      obtain ⟨a, kvs, rfl, h1, r1⟩ := cv.dict s
      cases keyOf_v cw hk
      obtain ⟨v, hv, rv⟩ := (look_rel r1).1 d hl
      exact ⟨a, v, rfl, by rw [← hv]; exact DGet.rd h1, same s rv k⟩
theorem de_sub {o i : Expr} {ma mb : ME} (hu : X.A.units + 1 < cLine) (ho : DE X W o ma) (hi : DE X W i mb) (hs : PlainIx i := by intro _ _; rfl) (hs2 : NoSl i := by intro _ _; rfl) : DE X W (.Subscript o i pos) (eOp2 pyAt ma mb) :=
  de_orf (de_ix ho hi hs) (de_get hu ho hi hs2)
def OPost (K : PySem.W.Frag) (W : WX) (F H : Hp) (σ : Sg) (ρ : Rho) (Q : Option Int → Hp → Prop) : Rs (Option Int) → Prop
  | .ok b ρ' => ∀ F' H', Step F H σ ρ F' H' ρ' → Rel K F' σ H' ρ' → Q b H'
  | .ex x ρ' => XPost K W F H σ ρ x ρ'
  | .fail => False
def DO (X : Cx) (W : WX) (e : Option Expr) (m : Rho → Rs (Option Int)) : Prop := ∃ t, PO X e t ∧ ∀ F σ H ρ Q, Rel X.K F σ H ρ → OPost X.K W F H σ ρ Q (m ρ) → t σ H Q
theorem do_none : DO X W none oNone := ⟨_, po_none, fun F σ H ρ Q R h => h F H Step.refl R⟩
theorem do_some {e : Expr} {m : ME} (h : DE X W e m) : DO X W (some e) (oSome m) := by
  obtain ⟨t, p, q⟩ := h
  refine ⟨_, po_some p, fun F σ H ρ Q R h => q F σ H ρ _ R ?_⟩
  unfold oSome at h
  cases e : m ρ with
  | fail => rw [e] at h; exact h
  | ex x ρ' => rw [e] at h; exact h
  | ok o ρ1 =>
    rw [e] at h
    intro v F1 H1 s1 R1 ro ns
    dsimp only [Rs.bind] at h
    cases e2 : deref ρ1 o with
    | none => rw [e2] at h; exact False.elim h
    | some d =>
      rw [e2] at h
      cases d with
      | int i => exact ⟨i, (ro.ct R1 e2).int, h F1 H1 s1 R1⟩
      | none => exact False.elim h
      | bool b => exact False.elim h
      | str b => exact False.elim h
      | list b => exact False.elim h
      | tuple b => exact False.elim h
      | dict b => exact False.elim h
theorem cut_rel {K : PySem.W.Frag} {F : Hp} {vs : List V} {ds : List D} (lo hi : Option Int) (r : RpA K F vs ds) : RpA K F (cutV vs lo hi) (cutD ds lo hi) := by
  unfold cutV cutD
  rw [r.length]
  exact (r.drop _).take _
theorem de_slice {a : Expr} {lo hi : Option Expr} {p2 : Pos} {ma : ME} {ml mh : Rho → Rs (Option Int)} (ha : DE X W a ma) (hl : DO X W lo ml) (hh : DO X W hi mh) : DE X W (.Subscript a (.Slice lo hi none p2) pos) (eSlice ma ml mh) := by
  obtain ⟨t, p, q⟩ := ha
  obtain ⟨t1, p1, q1⟩ := hl
  obtain ⟨t2, p3, q3⟩ := hh
  refine ⟨_, pe_slice (SlR.or sl_list (SlR.or sl_tupA sl_str)) p p1 p3, fun F σ H ρ Q R h => q F σ H ρ _ R ?_⟩
  unfold eSlice at h
  cases ea : ma ρ with
  | fail => rw [ea] at h; exact h
  | ex x ρ' => rw [ea] at h; exact h
  | ok x ρ1 =>
    rw [ea] at h
    intro v F1 H1 s1 R1 ro1 ns1
    refine q1 F1 σ H1 ρ1 _ R1 ?_
    have h1 := EPost.step s1 h
    dsimp only [Rs.bind] at h1
    cases el : ml ρ1 with
    | fail => rw [el] at h1; exact h1
    | ex x ρ' => rw [el] at h1; exact h1
    | ok l ρ2 =>
      rw [el] at h1
      intro F2 H2 s2 R2
      refine q3 F2 σ H2 ρ2 _ R2 ?_
      have h2 := EPost.step s2 h1
      dsimp only at h2
      cases eh : mh ρ2 with
      | fail => rw [eh] at h2; exact h2
      | ex x ρ' => rw [eh] at h2; exact h2
      | ok hh ρ3 =>
        rw [eh] at h2
        intro F3 H3 s3 R3
        have h3 := EPost.step s3 h2
        have ro := (ro1.step s2).step s3
        unfold run1 at h3
        dsimp only at h3
        cases ed : deref ρ3 x with
        | none => rw [ed] at h3; exact False.elim h3
        | some d =>
          rw [ed] at h3
          dsimp only at h3
          have ct := ro.ct R3 ed
          have fin : ∀ o, pySlice l hh d = some o → ∀ u F' H', Grow F3 H3 F' H' → RN X.K H3 F' H' u o → Q u H' := fun o e u F' H' g rn => by
            rw [e] at h3
            obtain ⟨z1, z2⟩ := rn.ro R3 (g.same R3)
            exact h3 u F' H' (g.step R3) (g.rel R3) z1 z2
          cases d with
          | list ds =>
            obtain ⟨a, vs, rfl, g1, r1⟩ := ct.list R3.sub
            exact .inl ⟨a, vs, rfl, SqL.of g1, newL R3.sub (cut_rel l hh r1) (fin _ rfl)⟩
          | tuple ds =>
            obtain ⟨a, vs, rfl, g1, r1, f1⟩ := ct.tup R3.sub
            refine .inr (.inl ⟨a, vs, rfl, SqT.of g1, fun ⟨e1, e2⟩ => ?_, fun _ => newT R3.sub (cut_rel l hh r1) (fin _ rfl)⟩)
            have ew : cutD ds l hh = ds := by
              unfold cutD
              rw [r1.length] at e1 e2
              rw [e1, e2]
              simp
            exact same R3.sub (.tup f1 r1) (fin _ (by show some (Opd.val (PyData.tuple (cutD ds l hh))) = _; rw [ew]))
          | str z =>
            unfold pySlice gd at h3
            dsimp only at h3
            by_cases hz : z.length ≤ sizeLine
            · cases ct.str
              exact .inr (.inr ⟨z, rfl, hz, same R3.sub (.str _) (fin _ (by show gd _ _ = _; unfold gd; rw [if_pos (decide_eq_true hz)]))⟩)
            · rw [if_neg (by simpa using hz)] at h3
              exact False.elim h3
          | none => exact False.elim h3
          | bool b => exact False.elim h3
          | int b => exact False.elim h3
          | dict b => exact False.elim h3
def SndC (K : PySem.W.Frag) (r : List V → Hp → VK → Prop) (f : List D → Option Opd) : Prop := ∀ F H vs ds o Q, Sub F H → Paired (Ct K F H) vs ds → f ds = some o → (∀ u F' H', Grow F H F' H' → RN K H F' H' u o → Q u H') → r vs H Q
theorem derefs_ct {K : PySem.W.Frag} {F H : Hp} {σ : Sg} {ρ : Rho} (R : Rel K F σ H ρ) : ∀ {os : List Opd} {vs : List V} {ds : List D}, Paired (RO K F H σ ρ) vs os → derefs ρ os = some ds → Paired (Ct K F H) vs ds
  | _, _, ds, .nil, h => by cases h; exact .nil
  | o :: os, v :: vs, ds, .cons r rs, h => by
    unfold derefs at h
    cases e1 : deref ρ o with
    | none => rw [e1] at h; cases h
    | some d =>
      cases e2 : derefs ρ os with
      | none => rw [e1, e2] at h; cases h
      | some ds' =>
        rw [e1, e2] at h
        cases h
        exact .cons (r.ct R e1) (derefs_ct R rs e2)
theorem blt_ok {r : List V → Hp → VK → Prop} {f : List D → Option Opd} {a : MA} {ta : TA} (hs : SndC X.K r f) (ha : ∀ F σ H ρ Q, Rel X.K F σ H ρ → APost X.K W F H σ ρ Q (a ρ) → ta σ H Q) :
    ∀ F σ H ρ Q, Rel X.K F σ H ρ → EPost X.K W F H σ ρ Q (eBlt f a ρ) → tCB r ta σ H Q := by
  intro F σ H ρ Q R h
  refine ha F σ H ρ _ R ?_
  unfold eBlt at h
  cases ea : a ρ with
  | fail => rw [ea] at h; exact h
  | ex x ρ' => rw [ea] at h; exact h
  | ok os ρ1 =>
    rw [ea] at h
    intro vs F1 H1 s1 R1 ro ns
    have h1 := EPost.step s1 h
    dsimp only [Rs.bind] at h1
    unfold runN at h1
    cases dx : derefs ρ1 os with
    | none => rw [dx] at h1; exact False.elim h1
    | some ds =>
      rw [dx] at h1
      dsimp only at h1
      cases ef : f ds with
      | none => rw [ef] at h1; exact False.elim h1
      | some o =>
        rw [ef] at h1
        refine hs F1 H1 vs ds o Q R1.sub (derefs_ct R1 ro.all dx) ef fun u F' H' g rn => ?_
        obtain ⟨q1, q2⟩ := rn.ro R1 (g.same R1)
        exact h1 u F' H' (g.step R1) (g.rel R1) q1 q2
variable {x : Str} {p : Pos} {e : Expr} {es : List Expr} {ma : MA} {id T : String} {r : List V → Hp → VK → Prop} {f : List D → Option Opd}
theorem de_blt (hc : CallR X (.builtin id) r) (hs : SndC X.K r f) (hg : Gl X x) (hm : X.mg x = none) (hv : bootBuiltins x = some (.builtin id)) (ha : DA X W (e :: es) ma) (hn : x ≠ "__name__" := by decide) (hdb : (x == ("__debug__" : Str)) = false := by decide)
    (he : starEach (e :: es) X.env = (false, eval e X.env) :: starEach es X.env := by rfl) (hpl : (backTo pos (starEach es X.env)).any (·.1) = false := by rfl) : DE X W (.Call (.Name x p) (e :: es) [] pos) (eBlt f ma) := by
  obtain ⟨t, pa, q⟩ := ha
  exact ⟨_, pe_callB hc hg hm hv pa hn hdb he hpl, blt_ok hs q⟩
theorem de_blty (hc : CallR X (.type T) r) (hs : SndC X.K r f) (hg : Gl X x) (hm : X.mg x = none) (hv : bootBuiltins x = some (.type T)) (ha : DA X W (e :: es) ma) (hn : x ≠ "__name__" := by decide) (hdb : (x == ("__debug__" : Str)) = false := by decide)
    (he : starEach (e :: es) X.env = (false, eval e X.env) :: starEach es X.env := by rfl) (hpl : (backTo pos (starEach es X.env)).any (·.1) = false := by rfl) : DE X W (.Call (.Name x p) (e :: es) [] pos) (eBlt f ma) := by
  obtain ⟨t, pa, q⟩ := ha
  exact ⟨_, pe_callTy hc hg hm hv pa hn hdb he hpl, blt_ok hs q⟩
end
section
variable {X : Cx} {W : WX} {pos : Pos}
def fLen : List D → Option Opd
  | [.list ds] => some (vI ds.length)
  | [.tuple ds] => some (vI ds.length)
  | [.dict ps] => some (vI ps.length)
  | [.str z] => gd (decide (z.length ≤ sizeLine)) (vI z.length)
  | _ => none
def rLenU (K : PySem.W.Frag) : List V → Hp → VK → Prop := fun xs H Q => (∃ p ys, xs = [.ref p] ∧ (SqL K H p ys ∨ SqT K H p ys) ∧ Q (.int ys.length) H) ∨ (∃ z, xs = [.str z] ∧ z.length ≤ sizeLine ∧ Q (.int z.length) H) ∨ ∃ a kvs, xs = [.ref a] ∧ Rd H a (.dK kvs) ∧ Q (.int kvs.length) H
theorem one_ct {K : PySem.W.Frag} {F H : Hp} {vs : List V} {d : D} (h : Paired (Ct K F H) vs [d]) : ∃ v, vs = [v] ∧ Ct K F H v d := by
  cases h with
  | cons a r => cases r; exact ⟨_, rfl, a⟩
theorem snd_abs {K} : SndC K (fun xs H Q => ∃ i, xs = [.int i] ∧ Q (.int (if i < 0 then -i else i)) H) fAbs := by
  intro F H vs ds o Q s cs hf k
  unfold fAbs at hf
  split at hf
  · cases hf
    obtain ⟨v, rfl, c⟩ := one_ct cs
    cases c.int
    exact ⟨_, rfl, same s (.int _) k⟩
  · cases hf
/-- list(x), tuple(x) -/
def fList : List D → Option Opd
  | [.list ds] => some (.new (.list ds))
  | [.tuple ds] => some (.new (.list ds))
  | _ => none
def fTuple : List D → Option Opd
  | [.list ds] => some (.val (.tuple ds))
  | [.tuple ds] => some (.val (.tuple ds))
  | _ => none
def boolsOf : List D → Option (List Bool)
  | [] => some []
  | .bool b :: ds => (boolsOf ds).map (b :: ·)
  | _ => none
def fAny : List D → Option Opd
  | [.list ds] => (boolsOf ds).map fun bs => vB (bs.any id)
  | _ => none
def tyN : D → String
  | .none => "NoneType"
  | .bool _ => "bool"
  | .int _ => "int"
  | .str _ => "str"
  | .list _ => "list"
  | .tuple _ => "tuple"
  | .dict _ => "dict"
def isD (T : String) (d : D) : Option Opd := (kitB (tyN d) T).map fun b => vB b
theorem tyx_frz {H : Hp} {pins : List (Addr × Obj)} {σ : St} {s : Shared} {a : Addr} {o : Obj} {kvs : List (Key × V)} (I : Inv X pins σ H s) (h : H a = some (.frz o (.dK kvs))) {us : List Value} {T : String} {b : Bool} {Q : VK} (e : kitB "dict" T = some b) (q : Q (.bl b) H) :
    wpAny (model X.prog X.w) X.A (call (.builtin "isinstance") [.ref a, .type T]) (EP X pins σ Q) X.xe s := by
  obtain ⟨h1, _, _, vs, _, o', es, ep, h2, h3, _⟩ := (show ObjOk X.prog X.w H s.heap a (.frz o (.dK kvs)) from I.hok a _ h)
  exact PySem.W.kia_one PySem.W.kitx_dict I.kIn ⟨_, h2, h3.1⟩ (kit_ty e) (fun z => nomatch z) fun tk => ⟨.bl b, H, I.tok _, rfl, q⟩
def rIsiU (K : PySem.W.Frag) : List V → Hp → VK → Prop := fun xs H Q => rIsi K xs H Q ∨ ∃ a o kvs T b, xs = [.ref a, .ty T] ∧ H a = some (.frz o (.dK kvs)) ∧ kitB "dict" T = some b ∧ Q (.bl b) H
theorem call_isiU : CallR X (.builtin "isinstance") (rIsiU X.K) := by
  refine call_isi.or ?_
  intro pins s σ H xs us Q I r h
  obtain ⟨a, o, kvs, T, b, rfl, ha, e, q⟩ := h
  cases r with
  | cons r1 r =>
    cases r with
    | cons r2 r =>
      cases r
      cases r1
      cases r2
      exact tyx_frz (us := []) I ha e q
theorem ty_ct {K : PySem.W.Frag} {F H : Hp} {v : V} {d : D} {T : String} {b : Bool} {Q : VK} (s : Sub F H) (c : Ct K F H v d) (e : kitB (tyN d) T = some b) (q : Q (.bl b) H) : rIsiU K [v, .ty T] H Q := by
  have go : ∀ {t}, TyOf K H v (.type t) → kitB t T = some b → rIsiU K [v, .ty T] H Q := fun {t} h e => .inl ⟨v, .ty T, .type t, .type T, b, rfl, .ty T, .base h, kit_ty e, q⟩
  cases d with
  | none => cases c.none; exact go .non e
  | bool x => cases c.bool; exact go (.bl _) e
  | int x => cases c.int; exact go (.int _) e
  | str x => cases c.str; exact go (.str _) e
  | list ds => obtain ⟨a, vs, rfl, h, _⟩ := c.list s; exact go (.lst h) e
  | tuple ds => obtain ⟨a, vs, rfl, h, _⟩ := c.tup s; exact go (.tup h) e
  | dict ps =>
    obtain ⟨a, vs, rfl, h, _⟩ := c.dict s
    rcases h with h | ⟨o, h⟩
    · exact go (.dK h) e
    · exact .inr ⟨a, o, vs, T, b, rfl, h, e, q⟩
theorem de_isi {e : Expr} {m : ME} {p pt : Pos} {T : String} {tn : Str} (he : DE X W e m) (hg : Gl X "isinstance") (hm : X.mg "isinstance" = none) (hgt : Gl X tn) (hmt : X.mg tn = none) (hvt : bootBuiltins tn = some (.type T)) (hn : tn ≠ "__name__" := by decide) (hd : (tn == ("__debug__" : Str)) = false := by decide)
    (hv : bootBuiltins "isinstance" = some (.builtin "isinstance") := by decide +kernel)
    (hs : starEach [e, .Name tn pt] X.env = (false, eval e X.env) :: starEach [.Name tn pt] X.env := by rfl) (hs2 : starEach [.Name tn pt] X.env = (false, eval (.Name tn pt) X.env) :: starEach [] X.env := by rfl) (hpl : (backTo pos (starEach [.Name tn pt] X.env)).any (·.1) = false := by rfl) :
    DE X W (.Call (.Name "isinstance" p) [e, .Name tn pt] [] pos) (eOp1 (isD T) m) := by
  obtain ⟨t, pe, q⟩ := he
  refine ⟨_, pe_callB call_isiU hg hm hv (pa_cons pe (pa_cons (pe_bltn (v := .ty T) hgt hmt hvt rfl hn hd) pa_nil hs2) hs) (by decide) (by decide) hs hpl, fun F σ H ρ Q R h => ?_⟩
  refine q F σ H ρ _ R ?_
  unfold eOp1 at h
  cases em : m ρ with
  | fail => rw [em] at h; exact h
  | ex x ρ' => rw [em] at h; exact h
  | ok o ρ1 =>
    rw [em] at h
    intro v F1 H1 s1 R1 ro ns
    have h1 := EPost.step s1 h
    dsimp only [Rs.bind] at h1
    unfold run1 at h1
    cases ed : deref ρ1 o with
    | none => rw [ed] at h1; exact False.elim h1
    | some d =>
      rw [ed] at h1
      dsimp only at h1
      unfold isD at h1
      cases ek : kitB (tyN d) T with
      | none => rw [ek] at h1; exact False.elim h1
      | some b =>
        rw [ek] at h1
        exact ty_ct R1.sub (ro.ct R1 ed) ek (h1 (.bl b) F1 H1 Step.refl R1 (.bl b) (fun z => nomatch z))
theorem call_lenDR : CallR X (.builtin "len") (fun xs H Q => ∃ a kvs, xs = [V.ref a] ∧ Rd H a (.dK kvs) ∧ Q (.int kvs.length) H) := by
  intro pins s σ H xs us Q I r h
  obtain ⟨a, kvs, rfl, ha, q⟩ := h
  cases r with
  | cons r1 r =>
    cases r
    cases r1
    exact d_len I ha fun t s' I' => ⟨.int kvs.length, H, I', ⟨t, rfl⟩, q⟩
theorem call_lenU : CallR X (.builtin "len") (rLenU X.K) := call_len_seq.or (call_len_str.or call_lenDR)
theorem snd_len {K} : SndC K (rLenU K) fLen := by
  intro F H vs ds o Q s cs hf k
  unfold fLen at hf
  split at hf
  · cases hf
    obtain ⟨v, rfl, c⟩ := one_ct cs
    obtain ⟨a, ws, rfl, h, r⟩ := c.list s
    exact .inl ⟨a, ws, rfl, .inl (SqL.of h), by rw [r.length]; exact same s (.int _) k⟩
  · cases hf
    obtain ⟨v, rfl, c⟩ := one_ct cs
    obtain ⟨a, ws, rfl, h, r, _⟩ := c.tup s
    exact .inl ⟨a, ws, rfl, .inr (SqT.of h), by rw [r.length]; exact same s (.int _) k⟩
  · cases hf
    obtain ⟨v, rfl, c⟩ := one_ct cs
    obtain ⟨a, kvs, rfl, h, r⟩ := c.dict s
    exact .inr (.inr ⟨a, kvs, rfl, h, by rw [r.length]; exact same s (.int _) k⟩)
  · obtain ⟨hc, rfl⟩ := gd_some hf
    obtain ⟨v, rfl, c⟩ := one_ct cs
    cases c.str
    exact .inr (.inl ⟨_, rfl, by simpa using hc, same s (.int _) k⟩)
  · cases hf
def MutS (K : PySem.W.Frag) (r : V → List V → Hp → VK → Prop) (f : D → List D → Option (D × D)) : Prop :=
  ∀ F H a vs d ds d' x Q, Sub F H → F a = none → OwnAt K F H a d → RpA K F vs ds → f d ds = some (d', x) → (∀ u o', OwnAt K F (upd H a o') a d' → Rp K F u x → Q u (upd H a o')) → r (.ref a) vs H Q
theorem mut_rel {K : PySem.W.Frag} {F H : Hp} {σ : Sg} {ρ : Rho} {i : Nat} {s s' : Slot} {a : Addr} {d' : D} {o' : HO} (R : Rel K F σ H ρ) (e : ρ[i]? = some s) (m : s.mine = true) (m' : s'.mine = true) (k : KpS s s') (h : σ[i]? = some (some (.ref a))) (f : F a = none)
    (ow : OwnAt K F (upd H a o') a d') (q' : s'.data? = some d') : Rel K F σ (upd H a o') (ρ.set i s') ∧ Step F H σ ρ F (upd H a o') (ρ.set i s') := by
  have il : i < ρ.length := (List.getElem?_eq_some_iff.mp e).1
  have mi : Mine H σ ρ i a := Mine.of e m h
  have else_ : ∀ {j b}, j ≠ i → Mine H σ ρ j b → (upd H a o') b = H b := fun {j b} hj hb => upd_ne (by rintro rfl; exact hj (R.sep j i b hb mi))
  have mine : ∀ {j b}, Mine (upd H a o') σ (ρ.set i s') j b → Mine H σ ρ j b := fun {j b} ⟨t, w, et, ht, mt⟩ => by
    by_cases hj : j = i
    · subst hj
      rw [List.getElem?_set_self il] at et; cases et
      rw [h] at ht; cases ht
      rw [fp_mine m'] at mt
      cases mt; exact mi
    · rw [List.getElem?_set_ne (Ne.symm hj)] at et
      exact (R.mine1 j (fun c hc => else_ hj hc) b).mp ⟨t, w, et, ht, mt⟩
  have ne : ∀ b u, F b = some u → b ≠ a := fun b u hb z => by subst z; rw [f] at hb; cases hb
  refine ⟨⟨fun b u hb => ?_, by rw [List.length_set]; exact R.len, fun j d et => ?_, fun j t d et mt q => ?_, fun j l b h1 h2 => R.sep j l b (mine h1) (mine h2), fun j t u et q => ?_, fun j b et => R.exc j b (set_at et (by rintro rfl; cases m')).2, tabs_upd (by
    obtain ⟨d0, hd0⟩ := data_of m
    obtain ⟨b, g1, _, g3⟩ := R.own i s d0 e m hd0
    rw [h] at g1; cases g1
    exact g3.notTE) R.tab, R.tie_set (by cases s' <;> first | rfl | cases m') (Ext.refl _) (fun j b hj hb => else_ hj hb) σ fun _ _ => rfl⟩, ⟨⟨Ext.refl _, fun b u hb tb fb nb => ?_⟩, kp_set e k, R.kid fun j b ⟨c, ns, n, e2⟩ m2 => else_ (by rintro rfl; rw [e] at e2; cases e2; cases m) m2⟩⟩
  · obtain ⟨r, tt⟩ := R.sub b u hb
    refine ⟨?_, tt⟩
    rcases r with r | ⟨x, r, y⟩
    · exact .inl (by rw [upd_ne (ne b u hb)]; exact r)
    · exact .inr ⟨x, by rw [upd_ne (ne b u hb)]; exact r, y⟩
  · have hj : j ≠ i := by
      rintro rfl
      rw [List.getElem?_set_self il] at et; cases et; cases m'
    rw [List.getElem?_set_ne (Ne.symm hj)] at et
    exact R.dat j d et
  · by_cases hj : j = i
    · subst hj
      rw [List.getElem?_set_self il] at et; cases et
      rw [q'] at q; cases q
      exact ⟨a, h, f, ow⟩
    · rw [List.getElem?_set_ne (Ne.symm hj)] at et
      obtain ⟨b, g1, g2, g3⟩ := R.own j t d et mt q
      have : b ≠ a := by rintro rfl; exact hj (R.sep j i b (Mine.of et mt g1) mi)
      exact ⟨b, g1, g2, g3.mono (Ext.refl _) fun u hu => by rw [upd_ne this]; exact hu⟩
  · obtain ⟨hj, et2⟩ := set_at et (by rintro rfl; cases t <;> first | (cases m'; done) | cases q)
    obtain ⟨w, g1, g2, g3, _⟩ := R.trees (F' := F) (H' := upd H a o') (Ext.refl _) et2 q fun b hb => ⟨else_ hj hb, id⟩
    exact ⟨w, g1, g2, g3⟩
  · have : b ≠ a := by rintro rfl; exact nb ⟨i, mi⟩
    exact ⟨by rw [upd_ne this]; exact hb, fb, fun ⟨j, mj⟩ => nb ⟨j, mine mj⟩⟩
theorem mut_post {r : V → List V → Hp → VK → Prop} {f : D → List D → Option (D × D)} {i : Nat} (hs : MutS X.K r f) {F H : Hp} {σ : Sg} {ρ : Rho} {Q : VK} {ma : MA} {v : V} (hv : σ[i]? = some (some v)) (h : EPost X.K W F H σ ρ Q ((ma ρ).bind fun os ρ1 => mutO i f os ρ1)) : APost X.K W F H σ ρ (fun vs H1 => r v vs H1 Q) (ma ρ) := by
  cases ea : ma ρ with
  | fail => rw [ea] at h; exact h
  | ex x ρ' => rw [ea] at h; exact h
  | ok os ρ1 =>
    rw [ea] at h
    intro vs F1 H1 s1 R1 ro ns
    dsimp only [Rs.bind] at h
    unfold mutO at h
    cases eu : useAll ρ1 os with
    | none => rw [eu] at h; exact False.elim h
    | some p =>
      obtain ⟨ds, ρ2⟩ := p
      rw [eu] at h
      dsimp only at h
      obtain ⟨F2, s2, R2, rp, _⟩ := useAll_ok R1 s1 ro ns eu
      have go : ∀ (s : Slot) (d : D) (mk : D → Slot), ρ2[i]? = some s → s.mine = true → s.data? = some d → (∀ d', (mk d').mine = true ∧ (mk d').data? = some d' ∧ KpS s (mk d')) → EPost X.K W F H σ ρ Q (match f d ds with
          | some (d', x) => .ok (.val x) (ρ2.set i (mk d'))
          | none => .fail) → r v vs H1 Q := fun s d mk e m q hm h => by
        obtain ⟨a, g1, g2, g3⟩ := R2.own i s d e m q
        rw [hv] at g1; cases g1
        cases ef : f d ds with
        | none => rw [ef] at h; exact False.elim h
        | some p =>
          obtain ⟨d', x⟩ := p
          rw [ef] at h
          refine hs F2 H1 a vs d ds d' x Q R2.sub g2 g3 rp ef fun u o' ow rx => ?_
          obtain ⟨m1, m2, m3⟩ := hm d'
          obtain ⟨R3, s3⟩ := mut_rel R2 e m m1 m3 hv g2 ow m2
          exact h u F2 (upd H1 a o') (s2.trans s3) R3 rx (fun z => nomatch z)
      cases es : ρ2[i]? with
      | none => rw [es] at h; exact False.elim h
      | some s =>
        rw [es] at h
        cases s with
        | un => exact False.elim h
        | dat d => exact False.elim h
        | lck d => exact False.elim h
        | obj d => exact False.elim h
        | opa d => exact False.elim h
        | exc d => exact False.elim h
        | own d => exact go _ d .own es rfl rfl (fun d' => ⟨rfl, rfl, trivial⟩) h
        | par d => exact go _ d .par es rfl rfl (fun d' => ⟨rfl, rfl, trivial⟩) h
theorem isLst_ty {K : PySem.W.Frag} {F H : Hp} {σ : Sg} {ρ : Rho} {i : Nat} (R : Rel K F σ H ρ) (h : isLst ρ i = true) : ∃ v, σ[i]? = some (some v) ∧ tyV K "list" v H := by
  unfold isLst at h
  cases e : ρ[i]? with
  | none => rw [e] at h; cases h
  | some s =>
    rw [e] at h
    have go : ∀ ds, s.mine = true → s.data? = some (.list ds) → ∃ v, σ[i]? = some (some v) ∧ tyV K "list" v H := fun ds m q => by
      obtain ⟨a, g1, _, vs, g3, _⟩ := R.own i s _ e m q
      exact ⟨.ref a, g1, .inl ⟨rfl, vs, SqL.of g3⟩⟩
    cases s with
    | own d => cases d <;> first | (cases h; done) | exact go _ rfl rfl
    | par d => cases d <;> first | (cases h; done) | exact go _ rfl rfl
    | un => cases h
    | dat d => cases h
    | lck d => cases h
    | obj d => cases h
    | opa d => cases h
    | exc d => cases h
section
variable {name x : Str} {apos cpos xp : Pos} {id : String} {e : Expr} {es : List Expr} {ma : MA} {r : V → List V → Hp → VK → Prop} {f : D → List D → Option (D × D)} {i : Nat}
theorem de_mut (slot : PySem.Slot "list" name id) (hty : typeOf (.builtin id) = pure (.type "method_descriptor")) (hm : MtR X id r) (hs : MutS X.K r f) (hp : PE X (.Name x xp) (tVar i)) (ha : DA X W (e :: es) ma)
    (hbase : attributeBase (.Name x xp) name X.env (eval (.Name x xp) X.env) = eval (.Name x xp) X.env := by rfl)
    (hfew : ((backTo cpos (starEach (e :: es) X.env)).all (fun x => !x.1) && (backToKw cpos (keywordEach [] X.env)).all (fun x => x.1.isSome)
      && decide ((e :: es).length + ([] : List Keyword).length + (if ([] : List Keyword).isEmpty then 0 else 1) < 30)) = true := by rfl)
    (hline : (apos.endLine == cpos.line) = true := by rfl) (hst : starEach (e :: es) X.env = (false, eval e X.env) :: starEach es X.env := by rfl) (hplain : (backTo cpos (starEach es X.env)).any (·.1) = false := by rfl) :
    DE X W (.Call (.Attribute (.Name x xp) name apos) (e :: es) [] cpos) (eMut i f ma) := by
  obtain ⟨t, pa, q⟩ := ha
  refine ⟨_, pe_bm PySem.F.plainAttrs_list slot hty hm hp pa hbase hfew hline hst hplain, fun F σ H ρ Q R h => ?_⟩
  unfold eMut at h
  split at h
  · rename_i hl
    obtain ⟨v, hv, ty⟩ := isLst_ty R hl
    exact ⟨v, hv, ty, q F σ H ρ _ R (mut_post hs hv h)⟩
  · exact False.elim h
end
def mAppend : D → List D → Option (D × D)
  | .list ds, [d] => if ds.length < sizeLine then some (.list (ds ++ [d]), .none) else none
  | _, _ => none
theorem own_lst {K : PySem.W.Frag} {F H : Hp} {a : Addr} {vs : List V} {ds : List D} (r : RpA K F vs ds) : OwnAt K F (upd H a (.lst vs)) a (.list ds) := ⟨vs, upd_same, r⟩
theorem mut_append {K} : MutS K rAppend mAppend := by
  intro F H a vs d ds d' x Q s f ow rp hf k
  unfold mAppend at hf
  split at hf
  · split at hf
    · rename_i hz
      cases hf
      obtain ⟨ws, hh, r⟩ := ow
      cases rp with
      | cons r1 rn =>
        cases rn
        exact ⟨a, ws, _, rfl, rfl, hh, by rw [r.length]; exact hz, k _ _ (own_lst (r.append (.cons r1 .nil))) .non⟩
    · cases hf
  · cases hf
def mReverse : D → List D → Option (D × D)
  | .list ds, [] => some (.list ds.reverse, .none)
  | _, _ => none
def mClear : D → List D → Option (D × D)
  | .list ds, [] => some (.list [], .none)
  | _, _ => none
def mExtend : D → List D → Option (D × D)
  | .list ds, [.list es] => if ds.length + es.length ≤ sizeLine then some (.list (ds ++ es), .none) else none
  | _, _ => none
def mInsert : D → List D → Option (D × D)
  | .list ds, [.int i, y] => if 0 ≤ i ∧ i < 2 ^ 63 ∧ ds.length < sizeLine then some (.list (ds.take i.toNat ++ [y] ++ ds.drop i.toNat), .none) else none
  | _, _ => none
theorem put_ok {F0 H0 F H : Hp} {σ : Sg} {ρ0 ρ : Rho} {i : Nat} {k : Opd} {v : D} {x y w : V} {Z : Ends} (R : Rel X.K F σ H ρ) (st : Step F0 H0 σ ρ0 F H ρ) (rk : RO X.K F H σ ρ y k) (rv : Rp X.K F w v) (hv : σ[i]? = some (some x)) (h : SPost X.K W F0 H0 σ ρ0 Z (putI i .none k v ρ)) :
    rSetL x y w H fun H' => Z.nx σ H' := by
  unfold putI at h
  cases ek : deref ρ k with
  | none => rw [ek] at h; exact False.elim h
  | some κ =>
    rw [ek] at h
    dsimp only at h
    have ck := rk.ct R ek
    have go : ∀ (s : Slot) (d : D) (mk : D → Slot), ρ[i]? = some s → s.mine = true → s.data? = some d → (∀ d', (mk d').mine = true ∧ (mk d').data? = some d' ∧ KpS s (mk d')) → SPost X.K W F0 H0 σ ρ0 Z (match setI d κ v with
        | some d' => .ok .nx (ρ.set i (mk d'))
        | none => .fail) → rSetL x y w H fun H' => Z.nx σ H' := fun s d mk e m q hm h => by
      obtain ⟨a, g1, g2, g3⟩ := R.own i s d e m q
      rw [hv] at g1; cases g1
      have hset : ∃ ds j n, d = .list ds ∧ κ = .int j ∧ ixN ds.length j = some n := by
        cases d with
        | list ds =>
          cases κ with
          | int j =>
            cases ei : ixN ds.length j with
            | none => simp [setI, ei] at h; exact False.elim h
            | some n => exact ⟨ds, j, n, rfl, rfl, ei⟩
          | none => exact False.elim h
          | bool b => exact False.elim h
          | str b => exact False.elim h
          | list b => exact False.elim h
          | tuple b => exact False.elim h
          | dict b => exact False.elim h
        | none => exact False.elim h
        | bool b => exact False.elim h
        | int b => exact False.elim h
        | str b => exact False.elim h
        | tuple b => exact False.elim h
        | dict b => exact False.elim h
      obtain ⟨ds, j, n, rfl, rfl, ei⟩ := hset
      have es : setI (.list ds) (.int j) v = some (.list (ds.set n v)) := by simp [setI, ei]
      rw [es] at h
      obtain ⟨ws, hh, r⟩ := g3
      cases ck.int
      obtain ⟨m1, m2, m3⟩ := hm (.list (ds.set n v))
      obtain ⟨R3, s3⟩ := mut_rel R e m m1 m3 hv g2 (own_lst (r.set rv n)) m2
      exact ⟨a, ws, j, n, rfl, rfl, hh, by rw [r.length]; exact ei, h σ F _ (st.trans s3).s R3⟩
    cases es : ρ[i]? with
    | none => rw [es] at h; exact False.elim h
    | some s =>
      rw [es] at h
      cases s with
      | un => exact False.elim h
      | dat d => exact False.elim h
      | lck d => exact False.elim h
      | obj d => exact False.elim h
      | opa d => exact False.elim h
      | exc d => exact False.elim h
      | own d => exact go _ d .own es rfl rfl (fun d' => ⟨rfl, rfl, trivial⟩) h
      | par d => exact go _ d .par es rfl rfl (fun d' => ⟨rfl, rfl, trivial⟩) h
theorem ds_put {i : Nat} {x : Str} {xp sp : Pos} {ix e : Expr} {mk me : ME} (hp : PE X (.Name x xp) (tVar i)) (hk : DE X W ix mk) (he : DE X W e me)
    (hs : swapsWithSole [.Subscript (.Name x xp) ix sp] e pos.line X.env = pure false := by rfl) (hw : swappedStores [.Subscript (.Name x xp) ix sp] e X.env = pure none := by rfl)
    (h1 : (assignEach [.Subscript (.Name x xp) ix sp] X.env).map (·.2) = [assign (.Subscript (.Name x xp) ix sp) X.env] := by rfl) (hsub : ∀ {to ti : TE} {t : TSet}, PE X (.Name x xp) to → PE X ix ti → PSet X t → PG X (.Subscript (.Name x xp) ix sp) (gSub to ti t) := by intro to ti t a b c; exact pg_sub a b c) :
    DS X W (.Assign [.Subscript (.Name x xp) ix sp] e pos) (sPut i mk me) := by
  obtain ⟨t, pe, q⟩ := he
  obtain ⟨u, pk, qk⟩ := hk
  refine ⟨_, ps_asg pe (hsub hp pk set_list) hs hw h1, fun F σ H ρ Z R h => q F σ H ρ _ R (ES h fun o ρ1 v F1 H1 s1 R1 ro ns hq => ?_)⟩
  cases eu : useO ρ1 o with
  | none => rw [eu] at hq; exact False.elim hq
  | some p =>
    obtain ⟨d, ρ2⟩ := p
    rw [eu] at hq
    dsimp only at hq
    obtain ⟨F2, s2, R2, rp, _⟩ := use_ok R1 s1 ro ns eu
    split at hq
    · rename_i hl
      obtain ⟨x, hx, _⟩ := isLst_ty R2 hl
      refine ⟨x, hx, ?_⟩
      refine qk F2 σ H1 ρ2 _ R2 ?_
      cases em : mk ρ2 with
      | fail => rw [em] at hq; exact False.elim hq
      | ex x ρ' =>
        rw [em] at hq
        exact XPost.step s2 (XPostS.x hq)
      | ok k ρ3 =>
        rw [em] at hq
        intro y F3 H3 s3 R3 rk nk
        exact put_ok R3 (s2.trans s3) rk (rp.mono s3.fr.ext) hx hq
    · exact False.elim hq
def rGetN (K : PySem.W.Frag) : V → V → Hp → VK → Prop := fun o i H Q => ∃ (p : Addr) (xs : List V) (j : Int) (v : V), o = .ref p ∧ i = .int j ∧ H p = some (.lst xs) ∧ 0 ≤ j ∧ xs[j.toNat]? = some v ∧ Q v H
theorem pget_list : PGet X (rGetN X.K) := by
  intro pins s σ H o i ov iv Q I ro ri h
  obtain ⟨p, xs, j, v, rfl, rfl, hp, h0, hv, q⟩ := h
  cases ro
  obtain ⟨t, rfl⟩ := ri
  obtain ⟨its, r, pl, hz⟩ := I.list (SqL.of (K := X.K) hp)
  obtain ⟨w, ew, rw'⟩ := r.get hv
  have hl := r.length
  have hn := line63
  have hj : j.toNat < xs.length := (List.getElem?_eq_some_iff.mp hv).1
  exact wpAny_getItem_list pl.isList h0 (by omega) (by simpa using ew) ⟨v, H, I, rw', q⟩
theorem ds_aug {i : Nat} {x : Str} {xp sp : Pos} {ix e : Expr} {mk me : ME} {op : Operator} {f : Int → Int → Int} (hip : PIp X op (ipI f)) (hp : PE X (.Name x xp) (tVar i)) (hk : DE X W ix mk) (he : DE X W e me)
    (ha : ∀ ov iv new, augStore ix ov iv new = (do holding [new, ov, iv] (setItem ov iv new); release [new, ov, iv] []; pure .next) := by intros; rfl) :
    DS X W (.AugAssign (.Subscript (.Name x xp) ix sp) op e pos) (sAug i f mk me) := by
  obtain ⟨t, pe, q⟩ := he
  obtain ⟨u, pk, qk⟩ := hk
  refine ⟨_, ps_augS hp pk pget_list pe hip set_list ha, fun F σ H ρ Z R h => ?_⟩
  unfold sAug at h
  split at h
  · rename_i hl
    obtain ⟨v, hv, _⟩ := isLst_ty R hl
    refine ⟨v, hv, qk F σ H ρ _ R ?_⟩
    cases em : mk ρ with
    | fail => rw [em] at h; exact False.elim h
    | ex x ρ' => rw [em] at h; exact XPostS.x h
    | ok k ρ1 =>
      rw [em] at h
      intro y F1 H1 s1 R1 rk nk
      dsimp only [Rs.bind] at h
      cases eg : getI i k ρ1 with
      | none => rw [eg] at h; exact False.elim h
      | some xd =>
        rw [eg] at h
        dsimp only at h
        unfold getI at eg
        cases ek : deref ρ1 k with
        | none => rw [ek] at eg; cases eg
        | some kd =>
          rw [ek] at eg
          cases kd <;> try (cases eg; done)
          rename_i j
          cases es : ρ1[i]? with
          | none => rw [es] at eg; cases eg
          | some sl =>
            rw [es] at eg
            have hget : ∃ ds, sl.data? = some (.list ds) ∧ 0 ≤ j ∧ ds[j.toNat]? = some xd := by
              cases e : sl.data? with
              | none => simp [Option.bind, e] at eg
              | some d =>
                cases d <;> simp [Option.bind, e] at eg
                rename_i ds
                exact ⟨ds, rfl, eg.1, eg.2⟩
            obtain ⟨ds, hd, h0, hx⟩ := hget
            have kj := (rk.ct R1 ek).int
            subst kj
            have loc : ∃ a vs, v = .ref a ∧ H1 a = some (.lst vs) ∧ RpA X.K F1 vs ds := by
              have r : RO X.K F1 H1 σ ρ1 v (.loc i) := ⟨hv, sl, _, es, hd⟩
              exact (r.ct R1 (by show (ρ1[i]?).bind Slot.data? = _; rw [es]; exact hd)).list R1.sub
            obtain ⟨a, vs, rfl, hh, r⟩ := loc
            obtain ⟨xv, hxv, rx⟩ := r.get hx
            refine ⟨a, vs, j, xv, rfl, rfl, hh, h0, hxv, ?_⟩
            refine q F1 σ H1 ρ1 _ R1 ?_
            cases ee : me ρ1 with
            | fail => rw [ee] at h; exact False.elim h
            | ex x ρ' => rw [ee] at h; exact XPost.step s1 (XPostS.x h)
            | ok o ρ2 =>
              rw [ee] at h
              intro w F2 H2 s2 R2 ro no
              dsimp only [Rs.bind] at h
              unfold augO at h
              cases eo : deref ρ2 o with
              | none => rw [eo] at h; exact False.elim h
              | some od =>
                rw [eo] at h
                cases od <;> try exact False.elim h
                rename_i b
                cases xd <;> try exact False.elim h
                rename_i a'
                cases rx
                have := (ro.ct R2 eo).int
                subst this
                exact ⟨a', b, rfl, rfl, put_ok R2 (s1.trans s2) (rk.step s2) (.int _) hv h⟩
  · exact False.elim h
end
section
variable {K : PySem.W.Frag} {F H F' H' : Hp} {σ σ' : Sg} {ρ ρ' : Rho} {j : Nat} {s : Slot} {d : D}
theorem lock_in (R : Rel K F σ H ρ) (h : lockS ρ j = some (s, d)) : ρ[j]? = some s ∧ s.mine = true ∧ s.data? = some d ∧ Rel K F σ H (ρ.set j (.lck d)) ∧ (∀ H i a, Mine H σ (ρ.set j (.lck d)) i a ↔ Mine H σ ρ i a) ∧ (ρ.set j (.lck d))[j]? = some (.lck d) := by
  have h1 : ρ[j]? = some s ∧ s.mine = true ∧ s.data? = some d := by
    unfold lockS at h
    cases e : ρ[j]? with
    | none => rw [e] at h; cases h
    | some t =>
      rw [e] at h
      cases t <;> first | (cases h; done) | (cases h; exact ⟨rfl, rfl, rfl⟩)
  obtain ⟨e, m, q⟩ := h1
  have il := (List.getElem?_eq_some_iff.mp e).1
  have mine : ∀ H i a, Mine H σ (ρ.set j (.lck d)) i a ↔ Mine H σ ρ i a := fun H i a => by
    by_cases hi : i = j
    · subst hi
      exact ⟨fun h => Mine.of e m (h.ref (List.getElem?_set_self il) rfl), fun h => Mine.of (List.getElem?_set_self il) rfl (h.ref e m)⟩
    · unfold Mine
      rw [List.getElem?_set_ne (Ne.symm hi)]
  refine ⟨e, m, q, ⟨R.sub, by rw [List.length_set]; exact R.len, fun i d' e' => ?_, fun i t d' e' m' q' => ?_, fun i k a h1 h2 => R.sep i k a ((mine H i a).mp h1) ((mine H k a).mp h2), fun i t u e' q' => R.obj i t u (set_at e' (by rintro rfl; cases q')).2 q', fun i a e' => R.exc i a (set_at e' (by simp)).2, R.tab, R.tie_set rfl (Ext.refl _) (fun _ _ _ _ => rfl) σ fun _ _ => rfl⟩, mine, List.getElem?_set_self il⟩
  · by_cases hi : i = j
    · subst hi; rw [List.getElem?_set_self il] at e'; cases e'
    · rw [List.getElem?_set_ne (Ne.symm hi)] at e'; exact R.dat i d' e'
  · by_cases hi : i = j
    · subst hi; rw [List.getElem?_set_self il] at e'; cases e'; cases q'
      exact R.own i s d e m q
    · rw [List.getElem?_set_ne (Ne.symm hi)] at e'; exact R.own i t d' e' m' q'
theorem lock_out (R : Rel K F σ H ρ) (h : lockS ρ j = some (s, d)) (st : StepS F H σ (ρ.set j (.lck d)) F' H' σ' ρ') (R' : Rel K F' σ' H' ρ') :
    Rel K F' σ' H' (ρ'.set j s) ∧ StepS F H σ ρ F' H' σ' (ρ'.set j s) ∧ (∀ H i a, Mine H σ' (ρ'.set j s) i a ↔ Mine H σ' ρ' i a) := by
  obtain ⟨e, m, q, _, mi, el⟩ := lock_in R h
  obtain ⟨e', hσ⟩ := st.par.2.1 j d el
  have il := (List.getElem?_eq_some_iff.mp e').1
  have mine : ∀ H i a, Mine H σ' (ρ'.set j s) i a ↔ Mine H σ' ρ' i a := fun H i a => by
    by_cases hi : i = j
    · subst hi
      exact ⟨fun h => Mine.of e' rfl (h.ref (List.getElem?_set_self il) m), fun h => Mine.of (List.getElem?_set_self il) m (h.ref e' rfl)⟩
    · unfold Mine
      rw [List.getElem?_set_ne (Ne.symm hi)]
  have ow0 : ∀ a, Own H σ (ρ.set j (.lck d)) a ↔ Own H σ ρ a := fun a => ⟨fun ⟨i, h⟩ => ⟨i, (mi H i a).mp h⟩, fun ⟨i, h⟩ => ⟨i, (mi H i a).mpr h⟩⟩
  refine ⟨⟨R'.sub, by rw [List.length_set]; exact R'.len, fun i d' h' => ?_, fun i t d' h' m' q' => ?_, fun i k a h1 h2 => R'.sep i k a ((mine H' i a).mp h1) ((mine H' k a).mp h2), fun i t u h' q' => R'.obj i t u (set_at h' (by rintro rfl; cases t <;> first | (cases m; done) | cases q')).2 q', fun i a h' => R'.exc i a (set_at h' (by rintro rfl; cases m)).2, R'.tab, R'.tie_set (by cases s <;> first | rfl | cases m) (Ext.refl _) (fun _ _ _ _ => rfl) σ' fun _ _ => rfl⟩, ⟨⟨st.fr.ext, fun a o h t f n => ?_⟩, ?_⟩, mine⟩
  · by_cases hi : i = j
    · subst hi; rw [List.getElem?_set_self il] at h'; cases h'; cases m
    · rw [List.getElem?_set_ne (Ne.symm hi)] at h'; exact R'.dat i d' h'
  · by_cases hi : i = j
    · subst hi; rw [List.getElem?_set_self il] at h'; cases h'
      rw [q] at q'; cases q'
      exact R'.own i _ d e' rfl rfl
    · rw [List.getElem?_set_ne (Ne.symm hi)] at h'; exact R'.own i t d' h' m' q'
  · obtain ⟨x, y, z⟩ := st.fr.keep a o h t f fun ho => n ((ow0 a).mp ho)
    exact ⟨x, y, fun ⟨i, h⟩ => z ⟨i, (mine H' i a).mp h⟩⟩
  · refine ⟨fun i d' h' => ?_, fun i d' h' => ?_, fun i d' h' => ?_⟩
    · by_cases hi : i = j
      · subst hi
        rw [e] at h'; cases h'
        exact ⟨⟨d', List.getElem?_set_self il⟩, hσ⟩
      · rw [List.getElem?_set_ne (Ne.symm hi)]
        exact st.par.1 i d' (by rw [List.getElem?_set_ne (Ne.symm hi)]; exact h')
    · by_cases hi : i = j
      · subst hi
        rw [e] at h'; cases h'
        exact ⟨List.getElem?_set_self il, hσ⟩
      · rw [List.getElem?_set_ne (Ne.symm hi)]
        exact st.par.2.1 i d' (by rw [List.getElem?_set_ne (Ne.symm hi)]; exact h')
    · by_cases hi : i = j
      · subst hi
        rw [e] at h'; cases h'; cases m
      · rw [List.getElem?_set_ne (Ne.symm hi)]
        exact st.par.2.2 i d' (by rw [List.getElem?_set_ne (Ne.symm hi)]; exact h')
end
section
variable {X : Cx} {W : WX} {pos : Pos}
theorem ro_set {K : PySem.W.Frag} {F' H' : Hp} {σ' : Sg} {ρ' : Rho} {j : Nat} {s : Slot} {d : D} {v : V} {o : Opd} (hj : ρ'[j]? = some (.lck d)) (q : s.data? = some d) (mine : ∀ H i a, Mine H σ' (ρ'.set j s) i a ↔ Mine H σ' ρ' i a) (h : RO K F' H' σ' ρ' v o) : RO K F' H' σ' (ρ'.set j s) v o := by
  cases o with
  | val d => exact h
  | loc i =>
    obtain ⟨x, t, d', y, z⟩ := h
    refine ⟨x, ?_⟩
    by_cases hi : i = j
    · subst hi
      exact ⟨s, d, List.getElem?_set_self (List.getElem?_eq_some_iff.mp hj).1, q⟩
    · exact ⟨t, d', by rw [List.getElem?_set_ne (Ne.symm hi)]; exact y, z⟩
  | new d' =>
    obtain ⟨a, x, f, ow, n⟩ := h
    exact ⟨a, x, f, ow, fun ⟨i, m⟩ => n ⟨i, (mine _ i a).mp m⟩⟩
  | nob t =>
    obtain ⟨h1, h2, h3⟩ := h
    exact ⟨h1, h2, fun a ha ⟨i, m⟩ => h3 a ha ⟨i, (mine _ i a).mp m⟩⟩
  | lob i =>
    obtain ⟨x, t, y, z⟩ := h
    refine ⟨x, ?_⟩
    by_cases hi : i = j
    · subst hi
      exact ⟨s, List.getElem?_set_self (List.getElem?_eq_some_iff.mp hj).1, by cases s <;> first | rfl | cases q⟩
    · exact ⟨t, by rw [List.getElem?_set_ne (Ne.symm hi)]; exact y, z⟩
theorem ds_lock {st : Stmt} {m : MS} (j : Nat) (h : DS X W st m) : DS X W st (lkd j m) := by
  obtain ⟨t, p, q⟩ := h
  refine ⟨t, p, fun F σ H ρ Z R h => ?_⟩
  unfold lkd at h
  cases e : lockS ρ j with
  | none => rw [e] at h; exact q F σ H ρ Z R h
  | some z =>
    obtain ⟨s, d⟩ := z
    rw [e] at h
    obtain ⟨e0, m0, q0, R1, mi, el⟩ := lock_in R e
    have ow : ∀ a, Own H σ ρ a → Own H σ (ρ.set j (.lck d)) a := fun a ⟨i, hh⟩ => ⟨i, (mi H i a).mpr hh⟩
    have ow' : ∀ a, Own H σ (ρ.set j (.lck d)) a → Own H σ ρ a := fun a ⟨i, hh⟩ => ⟨i, (mi H i a).mp hh⟩
    refine q F σ H _ Z R1 ?_
    dsimp only at h
    have lo := fun {F' H' σ' ρ'} => lock_out (F' := F') (H' := H') (σ' := σ') (ρ' := ρ') R e
    cases er : m (ρ.set j (.lck d)) with
    | fail => rw [er] at h; exact h
    | ex x ρ' =>
      rw [er] at h
      exact fun cls dx σ' F' H' s' R' xa => let ⟨y1, y2, _⟩ := lo s' R'; h cls dx σ' F' H' y2 y1 xa
    | ok f ρ' =>
      rw [er] at h
      cases f with
      | nx => exact fun σ' F' H' s' R' => let ⟨y1, y2, _⟩ := lo s' R'; h σ' F' H' y2 y1
      | bk => exact fun σ' F' H' s' R' => let ⟨y1, y2, _⟩ := lo s' R'; h σ' F' H' y2 y1
      | ct => exact fun σ' F' H' s' R' => let ⟨y1, y2, _⟩ := lo s' R'; h σ' F' H' y2 y1
      | rt o => exact fun v σ' F' H' s' R' ro nw => let ⟨y1, y2, y3⟩ := lo s' R'; h v σ' F' H' y2 y1 (ro_set (s'.par.2.1 j d el).1 q0 y3 ro) fun hn a u e1 hb t f => ow' a (nw hn a u e1 hb t f)
theorem de_lock {e : Expr} {m : ME} (j : Nat) (h : DE X W e m) : DE X W e (lkd j m) := by
  obtain ⟨t, p, q⟩ := h
  refine ⟨t, p, fun F σ H ρ Q R h => ?_⟩
  unfold lkd at h
  cases el : lockS ρ j with
  | none => rw [el] at h; exact q F σ H ρ Q R h
  | some z =>
    obtain ⟨s, d⟩ := z
    rw [el] at h
    obtain ⟨e0, m0, q0, R1, mi, eL⟩ := lock_in R el
    have ow' : ∀ a, Own H σ (ρ.set j (.lck d)) a → Own H σ ρ a := fun a ⟨i, hh⟩ => ⟨i, (mi H i a).mp hh⟩
    refine q F σ H _ Q R1 ?_
    dsimp only at h
    have lo : ∀ {F' H' ρ'}, Step F H σ (ρ.set j (.lck d)) F' H' ρ' → Rel X.K F' σ H' ρ' → Rel X.K F' σ H' (ρ'.set j s) ∧ Step F H σ ρ F' H' (ρ'.set j s) ∧ (∀ H i a, Mine H σ (ρ'.set j s) i a ↔ Mine H σ ρ' i a) ∧ ρ'[j]? = some (.lck d) := fun {F' H' ρ'} s' R' => by
      obtain ⟨y1, y2, y3⟩ := lock_out R el s'.s R'
      refine ⟨y1, ⟨y2.fr, ?_, fun i c ns n v e2 h2 => s'.kid i c ns n v (by
        rw [List.getElem?_set_ne (by rintro rfl; rw [e0] at e2; cases e2; cases m0)]; exact e2) h2⟩, y3, (s'.s.par.2.1 j d eL).1⟩
      refine ⟨by have := s'.kp.1; simp at this ⊢; exact this, fun i t et => ?_⟩
      by_cases hi : i = j
      · subst hi
        rw [e0] at et; cases et
        exact ⟨s, List.getElem?_set_self (List.getElem?_eq_some_iff.mp (s'.s.par.2.1 i d eL).1).1, KpS.refl s⟩
      · rw [List.getElem?_set_ne (Ne.symm hi)]
        exact s'.kp.2 i t (by rw [List.getElem?_set_ne (Ne.symm hi)]; exact et)
    cases er : m (ρ.set j (.lck d)) with
    | fail => rw [er] at h; exact h
    | ex x ρ' =>
      rw [er] at h
      exact fun cls dx F' H' s' R' xa => let ⟨y1, y2, _⟩ := lo s' R'; h cls dx F' H' y2 y1 xa
    | ok o ρ' =>
      rw [er] at h
      exact fun v F' H' s' R' ro nw => let ⟨y1, y2, y3, y4⟩ := lo s' R'; h v F' H' y2 y1 (ro_set y4 q0 y3 ro) fun hn a u e1 hb t f => ow' a (nw hn a u e1 hb t f)
def pyIsN (d : D) : Option Opd := match d with
  | .none => some (vB true)
  | _ => some (vB false)
def pyNotN (d : D) : Option Opd := match d with
  | .none => some (vB false)
  | _ => some (vB true)
def fNeg (d : D) : Option Opd := match d with
  | .int i => some (vI (-i))
  | _ => none
theorem de_callO {k : Nat} {ps : List Str} {x : Str} {p : Pos} {e : Expr} {es : List Expr} {sem : ME} {ma : MA} (fl : List Bool) (G : Ok X.prog X.w X.K X.mg X.base k x ps sem) (hr : Room k X.A) (hg : Gl X x) (tk : Takes X W)
    (ha : DA X W (e :: es) ma) (hdb : (x == ("__debug__" : Str)) = false := by decide) (he : starEach (e :: es) X.env = (false, eval e X.env) :: starEach es X.env := by rfl) (hpl : (backTo pos (starEach es X.env)).any (·.1) = false := by rfl) :
    DE X W (.Call (.Name x p) (e :: es) [] pos) (eCall ps.length fl sem ma) := by
  obtain ⟨fd, hb, F, hk, hm⟩ := G
  exact de_call fl F hr hg hm hk hb tk ha hdb he hpl
theorem ok_of {P : Program} {w : World} {K : PySem.W.Frag} {mg : Str → Option Value} {base : Heap} {x qual : Str} {params : Arguments} {body : List Stmt} {scope : Scope} {fd : FuncData} {N ps : List Str} {k : Nat} {mb : MS}
    (F : FunD K x qual params body scope [] [] (He.ga K x) fd) (hm : mg x = some (.ref (He.ga K x))) (S : FnScope N ps scope) (hbi : Binds K fd ps [])
    (hb : ∀ (cdv : Value) (A : Around) (outer : List Env) (s : Shared) (H : Hp) (E : XK), Room k (A.deeper (PyProof.Rows.envOfC qual scope s.heap.objs.size (He.ga K x) cdv)) → DSs (cxOf (L2.CX P w) P w K mg base N qual scope (He.ga K x) cdv A outer s H E) (fun cls d _ H => E cls d H) body mb) :
    Ok P w K mg base (k + 1) x ps (fnSem ps.length N.length mb) := ⟨fd, hbi, fn_ok F S fun cdv A outer s H E _ hr => hb cdv A outer s H E hr, F.kp, hm⟩
theorem ok_zero {P : Program} {w : World} {K : PySem.W.Frag} {mg : Str → Option Value} {base : Heap} {x qual : Str} {params : Arguments} {body : List Stmt} {scope : Scope} {fd : FuncData} {ps : List Str} {k : Nat}
    (F : FunD K x qual params body scope [] [] (He.ga K x) fd) (hm : mg x = some (.ref (He.ga K x))) (hbi : Binds K fd ps []) : Ok P w K mg base k x ps (fun _ => .fail) :=
  ⟨fd, hbi, ⟨fun vs H Q E h => h.1, fun A outer s H args us vs Q E _ _ _ _ h => False.elim (by obtain ⟨_, F, cs, _, _, z⟩ := h; exact z)⟩, F.kp, hm⟩
end
def handD (ns : List Int) : D := .list [.list (ns.map .int), .int 0, .int 0, .int 0, .int 20011, .int 40009]
def spHand (K : PySem.W.Frag) : Sp := fun vs H Q _ => ∃ (a : Addr) (ns : List Int), vs = [.ref a] ∧ SqL K H a (ns.map V.int) ∧ ns.length ≤ 63 ∧
  ∀ l p H', (∀ b o, H b = some o → H' b = some o) → H l = none → H p = none → l ≠ p → H' l = some (.lst (ns.map V.int)) → H' p = some (.lst [.ref l, .int 0, .int 0, .int 0, .int 20011, .int 40009]) → Q (.ref p) H'
theorem cut63 {vs : List V} (h : vs.length ≤ 63) : cutV vs none (some 63) = vs := by
  unfold cutV HT.sIx
  simp
  rw [Nat.min_eq_right h, List.take_length]
def spLaw (K : PySem.W.Frag) : Sp := fun vs H Q _ => LamX.Tabs (tabsOf K) H ∧ ∃ (a : Addr) (ns : List Int), vs = [.ref a] ∧ SqL K H a (ns.map V.int) ∧ ns.length ≤ 63 ∧ ∀ H', Q (.bl true) H'
theorem ints_rp {K : PySem.W.Frag} {F : Hp} : ∀ ns : List Int, RpA K F (ns.map V.int) (ns.map PyData.int)
  | [] => .nil
  | n :: ns => .cons (.int n) (ints_rp ns)
/-- the law: its first statement makes the hand, the rest runs on it -/
theorem law_okC {P : Program} {w : World} {K : PySem.W.Frag} {mg : Str → Option Value} {base : Heap} {x qual : Str} {params : Arguments} {rest : List Stmt} {scope : Scope} {kws : List (Str × V)} {f : Addr} {fd : FuncData} {N : List Str} {k : Nat} {mb : MS} {first : Stmt} {ps : List Str}
    (F : FunD K x qual params (first :: rest) scope [] kws f fd) (S : FnScope N ps scope) (hps : ps.length = 1) (hN : 2 ≤ N.length)
    (h1 : ∀ (cdv : Value) (A : Around) (outer : List Env) (s : Shared) (H : Hp) (E : XK), Room k (A.deeper (PyProof.Rows.envOfC qual scope s.heap.objs.size f cdv)) → PS (cxOf L2.CX0 P w K mg base N qual scope f cdv A outer s H E) first (tAsg (tCall (spHand K) [] L2.E0 (tCons (tVar 0) tNil)) (gName 1)))
    (hb : ∀ (cdv : Value) (A : Around) (outer : List Env) (s : Shared) (H : Hp) (E : XK), fd.code = cdv → Room k (A.deeper (PyProof.Rows.envOfC qual scope s.heap.objs.size f cdv)) → DSs (cxOf L2.CX0 P w K mg base N qual scope f cdv A outer s H E) W0 rest mb)
    (ht : ∀ ns : List Int, ns.length ≤ 63 → ∃ ρ, mb (.un :: .own (handD ns) :: List.replicate (N.length - 2) .un) = .ok (.rt (.val (.bool true))) ρ) :
    FnOk P w K mg base L2.CX0 (k + 1) f fd ps (spLaw K) := by
  refine funD_okC F S (fun vs H Q E h => by obtain ⟨_, a, ns, rfl, _⟩ := h; exact hps.symm) fun cdv A outer s H vs Q E hcv hr h => ?_
  obtain ⟨hTab, a, ns, rfl, hS, hl, hQ⟩ := h
  obtain ⟨t, p, q⟩ := hb cdv A outer s H E hcv hr
  refine ⟨_, pss_cons (h1 cdv A outer s H E hr) p, ?_⟩
  obtain ⟨n, en⟩ : ∃ n, N.length = n + 2 := ⟨N.length - 2, by omega⟩
  have est : L2.start N [V.ref a] = some (.ref a) :: none :: List.replicate n none := by
    unfold L2.start
    rw [en]
    rfl
  rw [est]
  refine ⟨.ref a, rfl, a, ns, rfl, hS, hl, fun l pp H' kp nl np ne hl' hp' => ?_⟩
  -- the hand is there
  let F0 : Hp := fun b => if b = l then H' l else none
  have f0 : F0 l = H' l := if_pos rfl
  have f1 : ∀ b, b ≠ l → F0 b = none := fun b h => if_neg h
  have R : Rel K F0 (some (.ref a) :: some (.ref pp) :: List.replicate n none) H' (.un :: .own (handD ns) :: List.replicate (N.length - 2) .un) := by
    refine ⟨fun b o e => ?_, by simp [en], fun i d e => ?_, fun i s d e m q => ?_, fun i j b m1 m2 => ?_, fun i s u e q => ?_, fun i b e => ?_, tabs_ext kp hTab, fun i u v e => (by
      match i with
      | 0 => cases e
      | 1 => cases e
      | i + 2 =>
        have e : (List.replicate (N.length - 2) Slot.un)[i]? = some (.opa u) := e
        rw [List.getElem?_replicate] at e
        split at e <;> cases e)⟩
    · by_cases hb : b = l
      · subst hb; rw [f0, hl'] at e; cases e; exact ⟨.inl hl', trivial⟩
      · rw [f1 b hb] at e; cases e
    · match i with
      | 0 => cases e
      | 1 => cases e
      | i + 2 =>
        have e : (List.replicate (N.length - 2) Slot.un)[i]? = some (.dat d) := e
        rw [List.getElem?_replicate] at e
        split at e <;> cases e
    · match i with
      | 0 => cases e; cases m
      | 1 =>
        cases e; cases q
        exact ⟨pp, rfl, f1 pp (Ne.symm ne), [.ref l, .int 0, .int 0, .int 0, .int 20011, .int 40009], hp', .cons (.lst (by rw [f0]; exact hl') (ints_rp ns)) (.cons (.int 0) (.cons (.int 0) (.cons (.int 0) (.cons (.int 20011) (.cons (.int 40009) .nil)))))⟩
      | i + 2 =>
        have e : (List.replicate (N.length - 2) Slot.un)[i]? = some s := e
        rw [List.getElem?_replicate] at e
        split at e
        · cases e; cases m
        · cases e
    · have one : ∀ {i b}, Mine H' (some (.ref a) :: some (.ref pp) :: List.replicate n none) (.un :: .own (handD ns) :: List.replicate (N.length - 2) .un) i b → i = 1 := fun {i b} ⟨s, _, e, _, m⟩ => by
        match i with
        | 0 => cases e; cases m
        | 1 => rfl
        | i + 2 =>
          have e : (List.replicate (N.length - 2) Slot.un)[i]? = some s := e
          rw [List.getElem?_replicate] at e
          split at e
          · cases e; cases m
          · cases e
      rw [one m1, one m2]
    · match i with
      | 0 => cases e; cases q
      | 1 => cases e; cases q
      | i + 2 =>
        have e : (List.replicate (N.length - 2) Slot.un)[i]? = some s := e
        rw [List.getElem?_replicate] at e
        split at e
        · cases e; cases q
        · cases e
    · match i with
      | 0 => cases e
      | 1 => cases e
      | i + 2 =>
        have e : (List.replicate (N.length - 2) Slot.un)[i]? = some (.exc b) := e
        rw [List.getElem?_replicate] at e
        split at e <;> cases e
  refine q F0 _ H' _ _ R ?_
  obtain ⟨ρ, e⟩ := ht ns hl
  rw [e]
  exact fun v σ' F' H'' s' R' ro _ => by
    have ro : Rp K F' v (.bool true) := ro
    cases ro
    exact hQ H''
theorem law_ok {P : Program} {w : World} {K : PySem.W.Frag} {mg : Str → Option Value} {base : Heap} {x qual : Str} {params : Arguments} {rest : List Stmt} {scope : Scope} {kws : List (Str × V)} {f : Addr} {fd : FuncData} {N : List Str} {k : Nat} {mb : MS} {first : Stmt} {ps : List Str}
    (F : FunD K x qual params (first :: rest) scope [] kws f fd) (S : FnScope N ps scope) (hps : ps.length = 1) (hN : 2 ≤ N.length)
    (h1 : ∀ (cdv : Value) (A : Around) (outer : List Env) (s : Shared) (H : Hp) (E : XK), Room k (A.deeper (PyProof.Rows.envOfC qual scope s.heap.objs.size f cdv)) → PS (cxOf L2.CX0 P w K mg base N qual scope f cdv A outer s H E) first (tAsg (tCall (spHand K) [] L2.E0 (tCons (tVar 0) tNil)) (gName 1)))
    (hb : ∀ (cdv : Value) (A : Around) (outer : List Env) (s : Shared) (H : Hp) (E : XK), Room k (A.deeper (PyProof.Rows.envOfC qual scope s.heap.objs.size f cdv)) → DSs (cxOf L2.CX0 P w K mg base N qual scope f cdv A outer s H E) W0 rest mb)
    (ht : ∀ ns : List Int, ns.length ≤ 63 → ∃ ρ, mb (.un :: .own (handD ns) :: List.replicate (N.length - 2) .un) = .ok (.rt (.val (.bool true))) ρ) :
    FnOk P w K mg base L2.CX0 (k + 1) f fd ps (spLaw K) :=
  law_okC F S hps hN h1 (fun cdv A outer s H E _ hr => hb cdv A outer s H E hr) ht
/-- _law_hand -/
theorem hand_ok {P : Program} {w : World} {K : PySem.W.Frag} {mg : Str → Option Value} {base : Heap} {qual : Str} {params : Arguments} {scope : Scope} {kws : List (Str × V)} {f : Addr} {fd : FuncData} {p1 p2 p3 p4 p5 p6 p7 p8 p9 p10 p11 p12 p13 : Pos} {k1 k2 k3 k4 k5 k6 : Nat}
    (F : FunD K "_law_hand" qual params [.Return (some (.List [.Call (.Name "list" p1) [.Subscript (.Name "_law_script" p2) (.Slice none (some (.Constant (.int 63) k1 p3)) none p4) p5] [] p6, .Constant (.int 0) k2 p7, .Constant (.int 0) k3 p8, .Constant (.int 0) k4 p9, .Constant (.int 20011) k5 p10, .Constant (.int 40009) k6 p11] p12)) p13] scope [] kws f fd)
    (S : FnScope ["_law_script"] ["_law_script"] scope) (hl : scope.names.lookup ("list" : Str) = some .globalImplicit) (hv : scope.names.lookup ("_law_script" : Str) = some .local) (nl : mg "list" = none) : FnOk P w K mg base L2.CX0 1 f fd ["_law_script"] (spHand K) := by
  refine F.ok S (fun vs H Q E h => by obtain ⟨a, ns, rfl, _⟩ := h; rfl) fun cdv A outer s H vs Q E hr h => ?_
  obtain ⟨a, ns, rfl, hS, hn, q⟩ := h
  refine ⟨_, pss_one (ps_ret (pe_lst (pa_cons (pe_callTy call_list_of hl nl (by decide +kernel) (pa_cons (pe_slice sl_list (pe_var (i := 0) rfl (.inl hv)) po_none (po_some pe_int)) pa_nil)) (pa_cons pe_int (pa_cons pe_int (pa_cons pe_int (pa_cons pe_int (pa_cons pe_int pa_nil)))))))), ?_⟩
  refine ⟨.ref a, rfl, 63, rfl, a, ns.map V.int, rfl, hS, fun p0 n0 => ⟨p0, _, rfl, .inl (SqL.of upd_same), fun l nl => ⟨by show 6 ≤ sizeLine; rw [sizeLine_eq]; omega, fun p np => ?_⟩⟩⟩
  rw [cut63 (by simpa using hn)] at *
  have h1 : ∀ b o, H b = some o → b ≠ p0 := fun b o h => ne_of_none h n0
  have n1 : l ≠ p0 := by rintro rfl; rw [upd_same] at nl; cases nl
  have nl' : H l = none := by rw [upd_ne n1] at nl; exact nl
  have n2 : p ≠ l := by rintro rfl; rw [upd_same] at np; cases np
  have np1 : upd H p0 (.lst (ns.map V.int)) p = none := by rw [upd_ne n2] at np; exact np
  have n3 : p ≠ p0 := by rintro rfl; rw [upd_same] at np1; cases np1
  have np' : H p = none := by rw [upd_ne n3] at np1; exact np1
  refine q l p _ (fun b o h => ?_) nl' np' (Ne.symm n2) ?_ ?_
  · rw [upd_ne (ne_of_none h np'), upd_ne (ne_of_none h nl'), upd_ne (ne_of_none h n0)]; exact h
  · rw [upd_ne (Ne.symm n2), upd_same]
  · exact upd_same
def sortStr (xs : List Str) : List Str := xs.mergeSort strLe
theorem strLe_trans (a b c : Str) (h1 : strLe a b = true) (h2 : strLe b c = true) : strLe a c = true := by
  unfold strLe at *
  simp only [Bool.not_eq_true', decide_eq_false_iff_not] at *
  exact List.le_trans h1 h2
theorem strLe_total (a b : Str) : (strLe a b || strLe b a) = true := by
  unfold strLe
  simp only [Bool.or_eq_true, Bool.not_eq_true', decide_eq_false_iff_not]
  exact List.le_total a.cps.toList b.cps.toList
theorem rising_le {p x : Str} {r : List Str} (h : PyProof.Rows.risingS p (x :: r) = true) : strLe p x = true ∧ PyProof.Rows.risingS x r = true := by
  unfold PyProof.Rows.risingS at h
  rw [Bool.and_eq_true] at h
  refine ⟨?_, h.2⟩
  unfold strLe
  rw [← PyProof.Rows.ltCps_eq]
  exact h.1
theorem risingS_pw : ∀ (r : List Str) (x : Str), PyProof.Rows.risingS x r = true → (x :: r).Pairwise fun a b => strLe a b = true
  | [], x, _ => by simp
  | y :: r, x, h => by
    obtain ⟨h1, h2⟩ := rising_le h
    have ih := risingS_pw r y h2
    refine List.pairwise_cons.mpr ⟨fun z hz => ?_, ih⟩
    rcases List.mem_cons.mp hz with e | hz
    · rw [e]; exact h1
    · exact strLe_trans _ _ _ h1 ((List.pairwise_cons.mp ih).1 z hz)
theorem sortStr_eq {xs ys : List Str} (h : ys.Perm xs) (s : PyProof.Rows.sortedS ys = true) : ys = sortStr xs := by
  refine List.Perm.eq_of_pairwise (le := fun a b => strLe a b = true) (fun a b _ _ h1 h2 => strLe_anti h1 h2) ?_ (List.pairwise_mergeSort (le := strLe) strLe_trans strLe_total xs) (h.trans (List.mergeSort_perm xs strLe).symm)
  cases ys with
  | nil => exact .nil
  | cons x r => exact risingS_pw r x s
def intLe (a b : Int) : Bool := decide (a ≤ b)
def sortInt (xs : List Int) : List Int := xs.mergeSort intLe
theorem sortInt_eq {xs ys : List Int} (h : ys.Perm xs) (s : ys.Pairwise (· ≤ ·)) : ys = sortInt xs := by
  refine List.Perm.eq_of_pairwise (le := (· ≤ ·)) (fun a b _ _ h1 h2 => Int.le_antisymm h1 h2) s ?_ (h.trans (List.mergeSort_perm xs intLe).symm)
  have := List.pairwise_mergeSort (le := intLe) (fun a b c h1 h2 => by unfold intLe at *; simp at *; omega) (fun a b => by unfold intLe; simp; omega) xs
  exact this.imp fun h => by simpa [intLe] using h
def strsOf : List D → Option (List Str)
  | [] => some []
  | .str x :: ds => (strsOf ds).map (x :: ·)
  | _ => none
def intsOf : List D → Option (List Int)
  | [] => some []
  | .int x :: ds => (intsOf ds).map (x :: ·)
  | _ => none
theorem strs_rel {K : PySem.W.Frag} {F : Hp} : ∀ {ds : List D} {vs : List V} {bs : List Str}, RpA K F vs ds → strsOf ds = some bs → vs = bs.map V.str
  | _, _, bs, .nil, h => by cases h; rfl
  | d :: ds, v :: vs, bs, .cons r rs, h => by
    cases d <;> try (cases h; done)
    rename_i b
    unfold strsOf at h
    cases e : strsOf ds with
    | none => rw [e] at h; cases h
    | some bs' =>
      rw [e] at h
      cases h
      cases r
      rw [List.map_cons, strs_rel rs e]
theorem ints_rel {K : PySem.W.Frag} {F : Hp} : ∀ {ds : List D} {vs : List V} {bs : List Int}, RpA K F vs ds → intsOf ds = some bs → vs = bs.map V.int
  | _, _, bs, .nil, h => by cases h; rfl
  | d :: ds, v :: vs, bs, .cons r rs, h => by
    cases d <;> try (cases h; done)
    rename_i b
    unfold intsOf at h
    cases e : intsOf ds with
    | none => rw [e] at h; cases h
    | some bs' =>
      rw [e] at h
      cases h
      cases r
      rw [List.map_cons, ints_rel rs e]
theorem strs_rp {K : PySem.W.Frag} {F : Hp} : ∀ ns : List Str, RpA K F (ns.map V.str) (ns.map PyData.str)
  | [] => .nil
  | n :: ns => .cons (.str n) (strs_rp ns)
def sortDs (ds : List D) : Option (List D) := match intsOf ds with
  | some is => some ((sortInt is).map .int)
  | none => (match strsOf ds with
    | some ss => if ss.length < 64 then some ((sortStr ss).map .str) else none
    | none => none)
def fSorted : List D → Option Opd
  | [.list ds] => (sortDs ds).map fun es => .new (.list es)
  | [.dict ps] => if ps.length < 64 then (sortDs (ps.map (·.1))).map fun es => .new (.list es) else none
  | _ => none
def rSortU (K : PySem.W.Frag) : List V → Hp → VK → Prop := fun vs H Q => rSortedI K vs H Q ∨ rSortedS K vs H Q ∨
  (∃ (a : Addr) (kvs : List (Key × V)) (ks : List Str), vs = [.ref a] ∧ Rd H a (.dK kvs) ∧ kvs.map (·.1) = ks.map Sum.inr ∧ ks.length < 64 ∧ ∀ ys p, ys.Perm ks → PyProof.Rows.sortedS ys = true → H p = none → Q (.ref p) (upd H p (.lst (ys.map V.str)))) ∨
  (∃ (a : Addr) (kvs : List (Key × V)) (ks : List Int), vs = [.ref a] ∧ Rd H a (.dK kvs) ∧ kvs.map (·.1) = ks.map Sum.inl ∧ ks.length < 64 ∧ ∀ (ys : List Int) (p : Addr), ys.Perm ks → ys.Pairwise (· ≤ ·) → H p = none → Q (.ref p) (upd H p (.lst (ys.map V.int))))
theorem call_sortU {X : Cx} (hc : X.calm = true) : CallR X (.builtin "sorted") (rSortU X.K) := cr_sortedI.or (cr_sortedS.or ((call_sortedD hc).or (call_sortedDI hc)))
theorem keys_int : ∀ {K : PySem.W.Frag} {F : Hp} {kvs : List (Key × V)} {ps : List (D × D)} {is : List Int}, RpD K F kvs ps → intsOf (ps.map (·.1)) = some is → kvs.map (·.1) = is.map Sum.inl
  | _, _, _, _, is, .nil, h => by cases h; rfl
  | _, _, (k, v) :: kvs, (c, d) :: ps, is, .cons e r rs, h => by
    cases k with
    | inr x => subst e; cases h
    | inl i =>
      subst e
      simp only [List.map_cons, intsOf] at h
      cases e2 : intsOf (ps.map (·.1)) with
      | none => rw [e2] at h; cases h
      | some js =>
        rw [e2] at h
        cases h
        rw [List.map_cons, List.map_cons, keys_int rs e2]
theorem keys_str : ∀ {K : PySem.W.Frag} {F : Hp} {kvs : List (Key × V)} {ps : List (D × D)} {is : List Str}, RpD K F kvs ps → strsOf (ps.map (·.1)) = some is → kvs.map (·.1) = is.map Sum.inr
  | _, _, _, _, is, .nil, h => by cases h; rfl
  | _, _, (k, v) :: kvs, (c, d) :: ps, is, .cons e r rs, h => by
    cases k with
    | inl x => subst e; cases h
    | inr i =>
      subst e
      simp only [List.map_cons, strsOf] at h
      cases e2 : strsOf (ps.map (·.1)) with
      | none => rw [e2] at h; cases h
      | some js =>
        rw [e2] at h
        cases h
        rw [List.map_cons, List.map_cons, keys_str rs e2]
theorem snd_sorted {K} : SndC K (rSortU K) fSorted := by
  intro F H vs ds o Q s cs hf k
  unfold fSorted at hf
  split at hf
  · rename_i es
    obtain ⟨v, rfl, c⟩ := one_ct cs
    obtain ⟨a, ws, rfl, h, r⟩ := c.list s
    unfold sortDs at hf
    cases ei : intsOf es with
    | some is =>
      rw [ei] at hf
      cases hf
      have := ints_rel r ei
      subst this
      exact .inl ⟨a, is, rfl, SqL.of h, fun ns' p hp hs np => by rw [sortInt_eq hp hs]; exact newL s (ints_rp _) k p np⟩
    | none =>
      rw [ei] at hf
      dsimp only at hf
      cases es2 : strsOf es with
      | none => rw [es2] at hf; cases hf
      | some ss =>
        rw [es2] at hf
        dsimp only at hf
        split at hf
        · rename_i hz
          cases hf
          have := strs_rel r es2
          subst this
          exact .inr (.inl ⟨a, ss, rfl, SqL.of h, hz, fun ns' p hp hs np => by rw [sortStr_eq hp hs]; exact newL s (strs_rp _) k p np⟩)
        · cases hf
  · rename_i ps
    split at hf
    · rename_i hz
      obtain ⟨v, rfl, c⟩ := one_ct cs
      obtain ⟨a, kvs, rfl, h, r⟩ := c.dict s
      unfold sortDs at hf
      cases ei : intsOf (ps.map (·.1)) with
      | some is =>
        rw [ei] at hf
        cases hf
        have e := keys_int r ei
        have hl : is.length < 64 := by
          have := congrArg List.length e
          simp at this
          rw [← this, r.length]; exact hz
        exact .inr (.inr (.inr ⟨a, kvs, is, rfl, h, e, hl, fun ns' p hp hs np => by rw [sortInt_eq hp hs]; exact newL s (ints_rp _) k p np⟩))
      | none =>
        rw [ei] at hf
        dsimp only at hf
        cases es2 : strsOf (ps.map (·.1)) with
        | none => rw [es2] at hf; cases hf
        | some ss =>
          rw [es2] at hf
          dsimp only at hf
          split at hf
          · rename_i hz2
            cases hf
            exact .inr (.inr (.inl ⟨a, kvs, ss, rfl, h, keys_str r es2, hz2, fun ns' p hp hs np => by rw [sortStr_eq hp hs]; exact newL s (strs_rp _) k p np⟩))
          · cases hf
    · cases hf
  · cases hf
def pyJoin (d e : D) : Option Opd := match d, e with
  | .str a, .list ds => (match strsOf ds with
    | some ys => if (ys.map (·.length)).sum + ys.length * a.length ≤ 16777216 then some (vS (Txt.join a ys)) else none
    | none => none)
  | _, _ => none
section
variable {X : Cx} {W : WX} {pos : Pos}
theorem de_join {o e : Expr} {mo me : ME} {apos pos : Pos} (ho : DE X W o mo) (he : DE X W e me) (hs : starEach [e] X.env = [(false, eval e X.env)] := by rfl) (hbase : attributeBase o "join" X.env (eval o X.env) = eval o X.env := by rfl) (hline : (apos.endLine == pos.line) = true := by rfl)
    (hstr : ∀ ρ o ρ1, mo ρ = .ok o ρ1 → ∃ a, o = .val (.str a)) : DE X W (.Call (.Attribute o "join" apos) [e] [] pos) (eOp2 pyJoin mo me) := by
  obtain ⟨t, p, q⟩ := ho
  obtain ⟨u, p2, q2⟩ := he
  refine ⟨_, pe_join p p2 hs hbase hline, fun F σ H ρ Q R h => ?_⟩
  refine q F σ H ρ _ R ?_
  unfold eOp2 at h
  cases eo : mo ρ with
  | fail => rw [eo] at h; exact h
  | ex x ρ' => rw [eo] at h; exact h
  | ok oo ρ1 =>
    obtain ⟨a, rfl⟩ := hstr ρ oo ρ1 eo
    rw [eo] at h
    intro v F1 H1 s1 R1 ro ns
    have ro : Rp X.K F1 v (.str a) := ro
    cases ro
    refine ⟨⟨_, rfl⟩, q2 F1 σ H1 ρ1 _ R1 ?_⟩
    have h1 := EPost.step s1 h
    dsimp only [Rs.bind] at h1
    cases ee : me ρ1 with
    | fail => rw [ee] at h1; exact h1
    | ex x ρ' => rw [ee] at h1; exact h1
    | ok o2 ρ2 =>
      rw [ee] at h1
      intro w F2 H2 s2 R2 ro2 ns2
      have h2 := EPost.step s2 h1
      unfold run2 at h2
      have e0 : deref ρ2 (.val (.str a)) = some (.str a) := rfl
      dsimp only at h2
      rw [e0] at h2
      cases ed : deref ρ2 o2 with
      | none => rw [ed] at h2; exact False.elim h2
      | some d =>
        rw [ed] at h2
        dsimp only at h2
        unfold pyJoin at h2
        cases d <;> try exact False.elim h2
        rename_i ds
        dsimp only at h2
        cases es : strsOf ds with
        | none => rw [es] at h2; exact False.elim h2
        | some ys =>
          rw [es] at h2
          dsimp only at h2
          split at h2
          · rename_i o' eo'
            split at eo'
            · rename_i hz
              cases eo'
              obtain ⟨b, vs, rfl, hh, r⟩ := (ro2.ct R2 ed).list R2.sub
              have := strs_rel r es
              subst this
              exact ⟨a, b, ys, rfl, rfl, .inl (SqL.of hh), hz, same R2.sub (.str _) fun u F' H' g rn => by
                obtain ⟨z1, z2⟩ := rn.ro R2 (g.same R2)
                exact h2 u F' H' (g.step R2) (g.rel R2) z1 z2⟩
            · cases eo'
          · exact False.elim h2
theorem de_dict0 : DE X W (.Dict [] [] pos) (fun ρ => .ok (.new (.dict [])) ρ) := ⟨_, pe_dnewK, fun F σ H ρ Q R h p np => by
  obtain ⟨f, g, _⟩ := upd_fresh (K := X.K) (o := .dK []) R.sub np trivial
  exact h (.ref p) F _ (g.step R) (g.rel R) ⟨p, rfl, f, ⟨[], upd_same, .nil⟩, not_ownG R g np⟩ (new_sep Step.refl np)⟩
theorem hasK_ok {K : PySem.W.Frag} {F H : Hp} {v w : V} {e d : D} {b : Bool} (s : Sub F H) (cv : Ct K F H v e) (cw : Ct K F H w d) (h : hasK e d = some b) : ∃ a o, w = .ref a ∧ DGet H a v o ∧ o.isSome = b := by
  cases d <;> try (cases h; done)
  rename_i ps
  unfold hasK at h
  dsimp only at h
  cases ek : keyOf e with
  | none => rw [ek] at h; cases h
  | some κ =>
    rw [ek] at h
    cases h
    obtain ⟨a, kvs, rfl, hh, r⟩ := cw.dict s
    cases keyOf_v cv ek
    refine ⟨a, _, rfl, DGet.rd hh, ?_⟩
    obtain ⟨l1, l2⟩ := look_rel (k := κ) r
    cases e : dlook ps κ with
    | none => rw [l2 e]; rfl
    | some d => obtain ⟨v, hv, _⟩ := l1 d e; rw [hv]; rfl
theorem RpD.snoc {K : PySem.W.Frag} {F : Hp} {k : Key} {w : V} {x : D} (hw : Rp K F w x) : ∀ {kvs : List (Key × V)} {ps : List (D × D)}, RpD K F kvs ps → RpD K F (kvs ++ [(k, w)]) (ps ++ [(keyD k, x)])
  | [], [], _ => .mk hw .nil
  | [], _ :: _, r => by cases r
  | _ :: _, [], r => by cases r
  | (k', v) :: kvs, (c, d) :: ps, r => by
    obtain ⟨e, h, r'⟩ := r.key
    subst e
    exact .mk h (RpD.snoc hw r')
theorem RpD.put {K : PySem.W.Frag} {F : Hp} {k : Key} {w : V} {x : D} (hw : Rp K F w x) {kvs : List (Key × V)} {ps : List (D × D)} (r : RpD K F kvs ps) : RpD K F (putK kvs k w) (dput ps k x) := by
  unfold putK dput
  rw [r.any]
  split
  · exact r.map hw
  · exact r.snoc hw
theorem isDct_ty {K : PySem.W.Frag} {F H : Hp} {σ : Sg} {ρ : Rho} {i : Nat} (R : Rel K F σ H ρ) (h : isDct ρ i = true) : ∃ a, σ[i]? = some (some (.ref a)) ∧ ∃ kvs, H a = some (.dK kvs) := by
  unfold isDct at h
  cases e : ρ[i]? with
  | none => rw [e] at h; cases h
  | some s =>
    rw [e] at h
    have go : ∀ ds, s.mine = true → s.data? = some (.dict ds) → ∃ a, σ[i]? = some (some (.ref a)) ∧ ∃ kvs, H a = some (.dK kvs) := fun ds m q => by
      obtain ⟨a, g1, _, vs, g3, _⟩ := R.own i s _ e m q
      exact ⟨a, g1, vs, g3⟩
    cases s with
    | own d => cases d <;> first | (cases h; done) | exact go _ rfl rfl
    | par d => cases d <;> first | (cases h; done) | exact go _ rfl rfl
    | un => cases h
    | dat d => cases h
    | lck d => cases h
    | obj d => cases h
    | opa d => cases h
    | exc d => cases h
theorem putD_ok {F0 H0 F H : Hp} {σ : Sg} {ρ0 ρ : Rho} {i : Nat} {k : Opd} {v : D} {a : Addr} {y w : V} {Z : Ends} (R : Rel X.K F σ H ρ) (st : Step F0 H0 σ ρ0 F H ρ) (rk : RO X.K F H σ ρ y k) (rv : Rp X.K F w v) (hv : σ[i]? = some (some (.ref a))) (h : SPost X.K W F0 H0 σ ρ0 Z (putD i k v ρ)) :
    ∃ H', DPut H a y w H' ∧ Z.nx σ H' := by
  unfold putD at h
  cases ek : deref ρ k with
  | none => rw [ek] at h; exact False.elim h
  | some κ =>
    rw [ek] at h
    dsimp only at h
    have ck := rk.ct R ek
    have go : ∀ (s : Slot) (d : D) (mk : D → Slot), ρ[i]? = some s → s.mine = true → s.data? = some d → (∀ d', (mk d').mine = true ∧ (mk d').data? = some d' ∧ KpS s (mk d')) → SPost X.K W F0 H0 σ ρ0 Z (match setK d κ v with
        | some d' => .ok .nx (ρ.set i (mk d'))
        | none => .fail) → ∃ H', DPut H a y w H' ∧ Z.nx σ H' := fun s d mk e m q hm h => by
      obtain ⟨a', g1, g2, g3⟩ := R.own i s d e m q
      rw [hv] at g1; cases g1
      cases es : setK d κ v with
      | none => rw [es] at h; exact False.elim h
      | some d' =>
        rw [es] at h
        cases d <;> try (cases es; done)
        rename_i ps
        unfold setK at es
        dsimp only at es
        cases eκ : keyOf κ with
        | none => rw [eκ] at es; cases es
        | some j =>
          rw [eκ] at es
          dsimp only at es
          split at es
          · rename_i hlt
            cases es
            obtain ⟨kvs, hh, r⟩ := g3
            cases keyOf_v ck eκ
            obtain ⟨m1, m2, m3⟩ := hm (.dict (dput ps j v))
            obtain ⟨R3, s3⟩ := mut_rel (o' := .dK (putK kvs j w)) (d' := .dict (dput ps j v)) R e m m1 m3 hv g2 ⟨_, upd_same, r.put rv⟩ m2
            exact ⟨_, DPut.k hh (by rw [r.length]; exact hlt), h σ F _ (st.trans s3).s R3⟩
          · cases es
    cases es : ρ[i]? with
    | none => rw [es] at h; exact False.elim h
    | some s =>
      rw [es] at h
      cases s with
      | un => exact False.elim h
      | dat d => exact False.elim h
      | lck d => exact False.elim h
      | obj d => exact False.elim h
      | opa d => exact False.elim h
      | exc d => exact False.elim h
      | own d => exact go _ d .own es rfl rfl (fun d' => ⟨rfl, rfl, trivial⟩) h
      | par d => exact go _ d .par es rfl rfl (fun d' => ⟨rfl, rfl, trivial⟩) h
theorem ds_putD {i : Nat} {x : Str} {xp sp : Pos} {ix e : Expr} {mk me : ME} (hu : X.A.units + 1 < cLine) (hp : PE X (.Name x xp) (tVar i)) (hk : DE X W ix mk) (he : DE X W e me)
    (hs : swapsWith e (some (.Subscript (.Name x xp) ix sp)) pos.line X.env = pure false := by rfl) :
    DS X W (.Assign [.Subscript (.Name x xp) ix sp] e pos) (sPutD i mk me) := by
  obtain ⟨t, pe, q⟩ := he
  obtain ⟨u, pk, qk⟩ := hk
  refine ⟨_, ps_dput hu hp pk pe hs, fun F σ H ρ Z R h => q F σ H ρ _ R (ES h fun o ρ1 v F1 H1 s1 R1 ro ns hq => ?_)⟩
  cases eu : useO ρ1 o with
  | none => rw [eu] at hq; exact False.elim hq
  | some p =>
    obtain ⟨d, ρ2⟩ := p
    rw [eu] at hq
    dsimp only at hq
    obtain ⟨F2, s2, R2, rp, _⟩ := use_ok R1 s1 ro ns eu
    split at hq
    · rename_i hl
      obtain ⟨a, hx, _⟩ := isDct_ty R2 hl
      refine ⟨.ref a, hx, ?_⟩
      refine qk F2 σ H1 ρ2 _ R2 ?_
      cases em : mk ρ2 with
      | fail => rw [em] at hq; exact False.elim hq
      | ex x ρ' =>
        rw [em] at hq
        exact XPost.step s2 (XPostS.x hq)
      | ok k ρ3 =>
        rw [em] at hq
        intro y F3 H3 s3 R3 rk nk
        obtain ⟨H', z1, z2⟩ := putD_ok R3 (s2.trans s3) rk (rp.mono s3.fr.ext) hx hq
        exact ⟨a, H', rfl, z1, z2⟩
    · exact False.elim hq
end
theorem de_lcW {X : Cx} {W : WX} {pos : Pos} {elt tg iter : Expr} {ifs : List Expr} {scope : Scope} (own : List (Str × Nat)) {mi : MI} {mg : MG} {mt : MT} {me : ME} (hc : X.calm = true) (hN : X.N.Nodup) (hi : DI X W tg iter mi) (ok : blkC X.N X.env.scope scope own = true) {ts : List Nat}
    (pgn : ∀ j ∈ ts, j ∈ own.map (·.2))
    (hg : ∀ (s : Shared) (H : Hp) (C : Addr) (cl : List (Str × Addr)) (fp : List Addr), DG (X.blk s H scope (compEnvC scope cl C X.env) fp) tg ts mg)
    (ht : ∀ (s : Shared) (H : Hp) (C : Addr) (cl : List (Str × Addr)) (fp : List Addr), DTs (X.blk s H scope (compEnvC scope cl C X.env) fp) W0 ifs mt)
    (he : ∀ (s : Shared) (H : Hp) (C : Addr) (cl : List (Str × Addr)) (fp : List Addr), DE (X.blk s H scope (compEnvC scope cl C X.env) fp) W0 elt me)
    (hs : ∀ x, foldedSetIterable iter X.env x = pure x := by intro _; rfl) : DE X W (.ListComp elt [⟨tg, iter, ifs, 0⟩] scope pos) (eComp (own.map (·.2)) mi mg mt me) :=
  de_lc own hc hN hi (blkOk_by ok) pgn (hg X.s_0 X.H_0 0 [] []).1 hg ht he hs
theorem di_or {X : Cx} {W : WX} {tg e : Expr} {a b : MI} (ha : DI X W tg e a) (hb : DI X W tg e b) : DI X W tg e (iOr a b) := by
  obtain ⟨t, p, q⟩ := ha
  obtain ⟨u, p2, q2⟩ := hb
  refine ⟨fun σ H R => t σ H R ∨ u σ H R, ⟨fun pins s σ H R I h => h.elim (p.run pins s σ H R I) (p2.run pins s σ H R I)⟩, fun F σ H ρ R r h => ?_⟩
  unfold iOr at h
  cases e : a ρ with
  | fail => rw [e] at h; exact .inr (q2 F σ H ρ R r h)
  | ok _ _ => rw [e] at h; exact .inl (q F σ H ρ R r (by rw [e]; exact h))
  | ex _ _ => rw [e] at h; exact .inl (q F σ H ρ R r (by rw [e]; exact h))
section
variable {X : Cx} {W : WX} {tg : Expr}
theorem di_seq {e : Expr} {m : ME} (h : DE X W e m) : DI X W tg e (iSeq m) := di_or (di_list h) (di_tup h)
end
theorem room1 {k : Nat} {A : Around} (r : Room k A) : A.units + 1 < cLine := by have := r.units; omega
theorem room65 {k : Nat} {A : Around} (r : Room k A) : A.units + 65 < cLine := by
  have := r.un
  have h : cLine = 9900 ∨ 9900 ≤ cLine := by first | exact .inr (by decide) | exact .inl rfl
  rcases h with h | h <;> omega
theorem RpA.snoc {K : PySem.W.Frag} {F : Hp} {v : V} {d : D} (h : Rp K F v d) : ∀ {vs : List V} {ds : List D}, RpA K F vs ds → RpA K F (vs ++ [v]) (ds ++ [d])
  | _, _, .nil => .cons h .nil
  | _, _, .cons a r => .cons a (RpA.snoc h r)
def pyRev (d : D) : Option Opd := match d with
  | .list ds => some (.new (.list ds.reverse))
  | _ => none
section
variable {X : Cx} {W : WX} {a b : Expr} {op : CmpOp} {pos : Pos}
theorem dt_pc {t : TE} {m : ME} (p : PC X op a b t) (q : ∀ F σ H ρ Q, Rel X.K F σ H ρ → EPost X.K W F H σ ρ Q (m ρ) → t σ H Q) (h1 : behindInMarks op b = false) : DT X W (.Compare a [op] [b] pos) (tVal m) := by
  refine ⟨_, pt_cmp p h1, fun F σ H ρ Q R h => ?_⟩
  exact q F σ H ρ _ R (bindET h fun o ρ1 v F1 H1 s1 R1 ro ns hp => boolOf_ok R1 ro hp)
theorem dt_or2 {e : Expr} {f g : D → D → Option Opd} {ma mb : ME} (h1 : DT X W e (tVal (eOp2 f ma mb))) (h2 : DT X W e (tVal (eOp2 g ma mb))) : DT X W e (tVal (eOp2 (orf f g) ma mb)) := by
  obtain ⟨t, p, q⟩ := h1
  obtain ⟨u, p2, q2⟩ := h2
  refine ⟨fun σ H Q => t σ H Q ∨ u σ H Q, ⟨fun pins s σ H Q I h => h.elim (p.run pins s σ H Q I) (p2.run pins s σ H Q I)⟩, fun F σ H ρ Q R h => ?_⟩
  unfold tVal at h
  rcases op2_or f g ma mb ρ with e | e
  · rw [e] at h; exact .inl (q F σ H ρ Q R h)
  · rw [e] at h; exact .inr (q2 F σ H ρ Q R h)
theorem dt_in {mi mo : ME} (hu : X.A.units + 65 < cLine) (hi : DE X W a mi) (ho : DE X W b mo) (hb : behindInMarks .In b = false := by rfl) : DT X W (.Compare a [.In] [b] pos) (tVal (eOp2 (orf pyIn pyInK) mi mo)) := by
  refine dt_or2 (dt_cmp (op_inU hu) snd_in hi ho hb) ?_
  obtain ⟨t, p, q⟩ := hi
  obtain ⟨u, p2, q2⟩ := ho
  refine dt_pc (pc_din (by omega) p p2) (op2_ok (r := fun y x H Q => ∃ a o, x = .ref a ∧ DGet H a y o ∧ Q (.bl o.isSome) H) ?_ q q2) hb
  intro F H v w e d o Q s cv cw hf k
  unfold pyInK at hf
  cases h : hasK e d with
  | none => rw [h] at hf; cases hf
  | some b =>
    rw [h] at hf
    cases hf
    obtain ⟨a, ov, e1, g, eb⟩ := hasK_ok s cv cw h
    exact ⟨a, ov, e1, g, by rw [eb]; exact same s (.bl _) k⟩
theorem dt_notIn {mi mo : ME} (hu : X.A.units + 65 < cLine) (hi : DE X W a mi) (ho : DE X W b mo) (hb : behindInMarks .NotIn b = false := by rfl) : DT X W (.Compare a [.NotIn] [b] pos) (tVal (eOp2 (orf pyNotIn pyNotInK) mi mo)) := by
  refine dt_or2 (dt_cmp (op_notInU hu) snd_notIn hi ho hb) ?_
  obtain ⟨t, p, q⟩ := hi
  obtain ⟨u, p2, q2⟩ := ho
  refine dt_pc (pc_dnotin (by omega) p p2) (op2_ok (r := fun y x H Q => ∃ a o, x = .ref a ∧ DGet H a y o ∧ Q (.bl (!o.isSome)) H) ?_ q q2) hb
  intro F H v w e d o Q s cv cw hf k
  unfold pyNotInK at hf
  cases h : hasK e d with
  | none => rw [h] at hf; cases hf
  | some b =>
    rw [h] at hf
    cases hf
    obtain ⟨a, ov, e1, g, eb⟩ := hasK_ok s cv cw h
    exact ⟨a, ov, e1, g, by rw [eb]; exact same s (.bl _) k⟩
end
end Dl
set_option maxRecDepth 100000
set_option maxHeartbeats 4000000
namespace Dl
open PySem PySem.Spec
set_option autoImplicit false
theorem wp_mono {α : Type} {r : Rs α} {Q Q' : α → Rho → Prop} {X X' : Ex → Rho → Prop} (h : wp r Q X) (k : ∀ a ρ, Q a ρ → Q' a ρ) (kx : ∀ x ρ, X x ρ → X' x ρ) : wp r Q' X' := by
  cases r with
  | ok a ρ => exact k a ρ h
  | ex x ρ => exact kx x ρ h
  | fail => exact h
theorem wp_mono0 {α : Type} {r : Rs α} {Q Q' : α → Rho → Prop} {X' : Ex → Rho → Prop} (h : wp r Q NoX) (k : ∀ a ρ, Q a ρ → Q' a ρ) : wp r Q' X' := wp_mono h k fun _ _ z => z.elim
theorem wp_out {α : Type} {r : Rs α} {Q : α → Rho → Prop} (h : wp r Q NoX) : ∃ a ρ, r = .ok a ρ ∧ Q a ρ := by
  cases r with
  | ok a ρ => exact ⟨a, ρ, rfl, h⟩
  | ex x ρ => exact h.elim
  | fail => exact h.elim
section
variable {α β : Type} {Q : α → Rho → Prop} {Q' : β → Rho → Prop} {QO : Opd → Rho → Prop} {QF : Flow → Rho → Prop} {QA : List Opd → Rho → Prop} {QB : Bool → Rho → Prop} {X : Ex → Rho → Prop} {ρ : Rho}
@[simp ↓] theorem wp_ok (a : α) : wp (.ok a ρ) Q X = Q a ρ := rfl
@[simp ↓] theorem wp_ex (x : Ex) : wp (.ex x ρ : Rs α) Q X = X x ρ := rfl
@[simp ↓] theorem wp_fail : wp (.fail : Rs α) Q X = False := rfl
@[simp ↓] theorem wp_bind (r : Rs α) (f : α → Rho → Rs β) : wp (r.bind f) Q' X = wp r (fun a ρ => wp (f a ρ) Q' X) X := by cases r <;> rfl
@[simp ↓] theorem wp_eC (d : D) : wp (eC d ρ) QO X = QO (.val d) ρ := rfl
@[simp ↓] theorem wp_eOp2 (f : D → D → Option Opd) (a b : ME) : wp (eOp2 f a b ρ) QO X = wp (a ρ) (fun x ρ1 => wp (b ρ1) (fun y ρ2 => wp (run2 f ρ2 x y) QO X) X) X := by unfold eOp2; rw [wp_bind]; exact wp_ext fun x ρ1 => by rw [wp_bind] <;> rfl
@[simp ↓] theorem wp_eOp1 (f : D → Option Opd) (a : ME) : wp (eOp1 f a ρ) QO X = wp (a ρ) (fun x ρ1 => wp (run1 f ρ1 x) QO X) X := by unfold eOp1; rw [wp_bind]
@[simp ↓] theorem wp_tVal (m : ME) : wp (tVal m ρ) QB X = wp (m ρ) (fun o ρ1 => wp (boolOf ρ1 o) QB X) X := by unfold tVal; rw [wp_bind]
@[simp ↓] theorem wp_ite {c : Prop} [Decidable c] (a b : Rs α) : wp (if c then a else b) Q X = if c then wp a Q X else wp b Q X := by split <;> rfl
@[simp ↓] theorem wp_tAndM (a b : MT) : wp (tAndM a b ρ) QB X = wp (a ρ) (fun x ρ1 => if x = true then wp (b ρ1) QB X else QB false ρ1) X := by unfold tAndM; rw [wp_bind]; exact wp_ext fun x ρ1 => by split <;> rfl
@[simp ↓] theorem wp_tOrM (a b : MT) : wp (tOrM a b ρ) QB X = wp (a ρ) (fun x ρ1 => if x = true then QB true ρ1 else wp (b ρ1) QB X) X := by unfold tOrM; rw [wp_bind]; exact wp_ext fun x ρ1 => by split <;> rfl
@[simp ↓] theorem wp_tNotM (a : MT) : wp (tNotM a ρ) QB X = wp (a ρ) (fun x ρ1 => QB (!x) ρ1) X := by unfold tNotM; rw [wp_bind] <;> rfl
@[simp ↓] theorem wp_tTrue : wp (tTrue ρ) QB X = QB true ρ := rfl
@[simp ↓] theorem wp_eAnd (a b : ME) : wp (eAnd a b ρ) QO X = wp (tVal a ρ) (fun x ρ1 => if x = true then wp (b ρ1) QO X else QO (.val (.bool false)) ρ1) X := by unfold eAnd; rw [wp_bind]; exact wp_ext fun x ρ1 => by split <;> rfl
@[simp ↓] theorem wp_eOr (a b : ME) : wp (eOr a b ρ) QO X = wp (tVal a ρ) (fun x ρ1 => if x = true then QO (.val (.bool true)) ρ1 else wp (b ρ1) QO X) X := by unfold eOr; rw [wp_bind]; exact wp_ext fun x ρ1 => by split <;> rfl
@[simp ↓] theorem wp_eNot (a : ME) : wp (eNot a ρ) QO X = wp (tVal a ρ) (fun x ρ1 => QO (.val (.bool !x)) ρ1) X := by unfold eNot; rw [wp_bind] <;> rfl
@[simp ↓] theorem wp_eIf (c : MT) (a b : ME) : wp (eIf c a b ρ) QO X = wp (c ρ) (fun x ρ1 => if x = true then wp (a ρ1) QO X else wp (b ρ1) QO X) X := by unfold eIf; rw [wp_bind]; exact wp_ext fun x ρ1 => by split <;> rfl
@[simp ↓] theorem wp_aNil : wp (aNil ρ) QA X = QA [] ρ := rfl
@[simp ↓] theorem wp_aCons (a : ME) (r : MA) : wp (aCons a r ρ) QA X = wp (a ρ) (fun x ρ1 => wp (r ρ1) (fun xs ρ2 => QA (x :: xs) ρ2) X) X := by unfold aCons; rw [wp_bind]; exact wp_ext fun x ρ1 => by rw [wp_bind] <;> rfl
@[simp ↓] theorem wp_eUse (f : List D → Option Opd) (a : MA) : wp (eUse f a ρ) QO X = wp (a ρ) (fun os ρ1 => wp (withAll f ρ1 os) QO X) X := by unfold eUse; rw [wp_bind]
@[simp ↓] theorem wp_eBlt (f : List D → Option Opd) (a : MA) : wp (eBlt f a ρ) QO X = wp (a ρ) (fun os ρ1 => wp (runN f ρ1 os) QO X) X := by unfold eBlt; rw [wp_bind]
@[simp ↓] theorem wp_eSlice (a : ME) (lo hi : Rho → Rs (Option Int)) : wp (eSlice a lo hi ρ) QO X = wp (a ρ) (fun x ρ1 => wp (lo ρ1) (fun l ρ2 => wp (hi ρ2) (fun h ρ3 => wp (run1 (pySlice l h) ρ3 x) QO X) X) X) X := by unfold eSlice; rw [wp_bind]; exact wp_ext fun x ρ1 => by rw [wp_bind]; exact wp_ext fun l ρ2 => by rw [wp_bind]
@[simp ↓] theorem wp_oNone {QI : Option Int → Rho → Prop} : wp (oNone ρ) QI X = QI none ρ := rfl
@[simp ↓] theorem wp_oSome {QI : Option Int → Rho → Prop} (m : ME) : wp (oSome m ρ) QI X = wp (m ρ) (fun o ρ1 => wp (match deref ρ1 o with | some (.int i) => .ok (some i) ρ1 | _ => .fail) QI X) X := by simp only [oSome, wp_bind] <;> rfl
@[simp ↓] theorem wp_eCall (n : Nat) (fl : List Bool) (sem : ME) (ma : MA) : wp (eCall n fl sem ma ρ) QO X = wp (ma ρ) (fun os ρ1 => wp (callO n fl sem os ρ1) QO X) X := by unfold eCall; rw [wp_bind]
@[simp ↓] theorem wp_sNil : wp (sNil ρ) QF X = QF .nx ρ := rfl
@[simp ↓] theorem wp_sBrk : wp (sBrk ρ) QF X = QF .bk ρ := rfl
@[simp ↓] theorem wp_sCnt : wp (sCnt ρ) QF X = QF .ct ρ := rfl
@[simp ↓] theorem wp_sRetN : wp (sRetN ρ) QF X = QF (.rt (.val .none)) ρ := rfl
@[simp ↓] theorem wp_sSet (i : Nat) (m : ME) : wp (sSet i m ρ) QF X = wp (m ρ) (fun o ρ1 => wp (putO i o ρ1) QF X) X := by unfold sSet; rw [wp_bind]
@[simp ↓] theorem wp_sSeq {N : Rho → Prop} {O : Flow → Rho → Prop} (a b : MS) : wp (sSeq a b ρ) (kf N O) X = wp (a ρ) (kf (fun ρ1 => wp (b ρ1) (kf N O) X) O) X := by
  unfold sSeq
  cases e : a ρ with
  | ok f ρ1 => cases f <;> rfl
  | ex x ρ1 => rfl
  | fail => rfl
@[simp ↓] theorem wp_sExp (m : ME) : wp (sExp m ρ) QF X = wp (m ρ) (fun _ ρ1 => QF .nx ρ1) X := by unfold sExp; rw [wp_bind] <;> rfl
@[simp ↓] theorem wp_sRet (m : ME) : wp (sRet m ρ) QF X = wp (m ρ) (fun o ρ1 => wp (outO o ρ1) QF X) X := by unfold sRet; rw [wp_bind]
@[simp ↓] theorem wp_sIf (c : MT) (a b : MS) : wp (sIf c a b ρ) QF X = wp (c ρ) (fun x ρ1 => if x = true then wp (a ρ1) QF X else wp (b ρ1) QF X) X := by unfold sIf; rw [wp_bind]; exact wp_ext fun x ρ1 => by split <;> rfl
@[simp ↓] theorem wp_sFor (mi : MI) (mg : MG) (b : MS) : wp (sFor mi mg b ρ) QF X = wp (mi ρ) (fun s ρ1 => wp (sLoop mg b s.ds ρ1) QF X) X := by unfold sFor; rw [wp_bind]
@[simp ↓] theorem wp_eComp (vs : List Nat) (mi : MI) (mg : MG) (mt : MT) (me : ME) : wp (eComp vs mi mg mt me ρ) QO X = wp (mi ρ) (fun s ρ1 => wp (compL vs mg mt me s.ds [] ρ1) QO X) X := by unfold eComp; rw [wp_bind]
@[simp ↓] theorem wp_iLst {QS : Src → Rho → Prop} (m : ME) : wp (iLst m ρ) QS X = wp (m ρ) (fun o ρ1 => wp (srcL o ρ1) QS X) X := by unfold iLst; rw [wp_bind]
@[simp ↓] theorem wp_iTpl {QS : Src → Rho → Prop} (m : ME) : wp (iTpl m ρ) QS X = wp (m ρ) (fun o ρ1 => wp (srcT o ρ1) QS X) X := by unfold iTpl; rw [wp_bind]
@[simp ↓] theorem wp_iTxt {QS : Src → Rho → Prop} (m : ME) : wp (iTxt m ρ) QS X = wp (m ρ) (fun o ρ1 => wp (srcS o ρ1) QS X) X := by unfold iTxt; rw [wp_bind]
@[simp ↓] theorem wp_iRng {QS : Src → Rho → Prop} (m : MA) : wp (iRng m ρ) QS X = wp (m ρ) (fun o ρ1 => wp (srcR1 o ρ1) QS X) X := by unfold iRng; rw [wp_bind]
@[simp ↓] theorem wp_iRng2 {QS : Src → Rho → Prop} (m : MA) : wp (iRng2 m ρ) QS X = wp (m ρ) (fun o ρ1 => wp (srcR2 o ρ1) QS X) X := by unfold iRng2; rw [wp_bind]
@[simp ↓] theorem wp_iSeq {QS : Src → Rho → Prop} (m : ME) : wp (iSeq m ρ) QS X = wp (m ρ) (fun o ρ1 => wp (srcQ o ρ1) QS X) X := by
  unfold iSeq iOr iLst iTpl
  cases e : m ρ with
  | ok o ρ1 =>
    dsimp only [Rs.bind, wp_ok]
    unfold srcQ
    cases srcL o ρ1 <;> rfl
  | ex x ρ1 => rfl
  | fail => rfl
@[simp ↓] theorem wp_retO (r : Rs Opd) (ps : List Opd) : wp (retO r ps ρ) QO X = wp r (noL fun o cs => QO o (takeB ρ ps cs)) (fun x cs => X x (takeB ρ ps cs)) := by
  cases r with
  | ok o cs => cases o <;> rfl
  | ex x cs => rfl
  | fail => rfl
@[simp ↓] theorem wp_fnSem (n l : Nat) (mb : MS) (cs : Rho) : wp (fnSem n l mb cs) QO X = wp (mb (cs ++ List.replicate (l - n) .un)) (kf (fun ρ => QO (.val .none) (back cs ρ)) (kr fun o ρ => QO o (back cs ρ))) (fun x ρ => X x (back cs ρ)) := by
  unfold fnSem
  generalize mb (cs ++ List.replicate (l - n) .un) = r
  cases r with
  | ok f ρ => cases f with
    | rt o => cases o <;> rfl
    | nx => rfl
    | bk => rfl
    | ct => rfl
  | ex x ρ => rfl
  | fail => rfl
@[simp ↓] theorem wp_noEx (r : Rs α) : wp (noEx r) Q X = wp r Q NoX := by cases r <;> rfl
@[simp ↓] theorem wp_sAsg (mg : MG) (m : ME) : wp (sAsg mg m ρ) QF X = wp (m ρ) (fun o ρ1 => wp (match useO ρ1 o with
    | some (d, ρ2) => (match mg d ρ2 with
      | some ρ3 => .ok .nx ρ3
      | none => .fail)
    | none => .fail) QF X) X := by simp only [sAsg, wp_bind] <;> rfl
@[simp ↓] theorem wp_sPut (i : Nat) (mk me : ME) : wp (sPut i mk me ρ) QF X = wp (me ρ) (fun o ρ1 => wp (match useO ρ1 o with
    | some (v, ρ2) => if isLst ρ2 i = true then (mk ρ2).bind fun k ρ3 => putI i .none k v ρ3 else .fail
    | none => .fail) QF X) X := by simp only [sPut, wp_bind] <;> rfl
@[simp ↓] theorem wp_sPutD (i : Nat) (mk me : ME) : wp (sPutD i mk me ρ) QF X = wp (me ρ) (fun o ρ1 => wp (match useO ρ1 o with
    | some (v, ρ2) => if isDct ρ2 i = true then (mk ρ2).bind fun k ρ3 => putD i k v ρ3 else .fail
    | none => .fail) QF X) X := by simp only [sPutD, wp_bind] <;> rfl
/-- a loop, by what holds ahead of each turn -/
theorem wp_loop {mg : MG} {b : MS} (I : Nat → Rho → Prop) : ∀ {ds : List D} {n : Nat} {ρ : Rho}, I n ρ →
    (∀ i d ρ, ds[i]? = some d → I (n + i) ρ → ∃ ρ1, mg d ρ = some ρ1 ∧ wp (b ρ1) (kf (fun ρ2 => I (n + i + 1) ρ2) (kl (fun ρ2 => I (n + i + 1) ρ2) QF)) X) →
    (∀ ρ, I (n + ds.length) ρ → QF .nx ρ) → wp (sLoop mg b ds ρ) QF X
  | [], n, ρ, h, _, q => q ρ h
  | d :: ds, n, ρ, h, st, q => by
    obtain ⟨ρ1, e, w⟩ := st 0 d ρ rfl h
    unfold sLoop
    rw [e]
    dsimp only
    have go : ∀ ρ2, I (n + 0 + 1) ρ2 → wp (sLoop mg b ds ρ2) QF X := fun ρ2 h2 => by
      refine wp_loop I (n := n + 1) h2 (fun i d ρ e h => ?_) fun ρ h => q ρ (by rw [List.length_cons]; rw [show n + (ds.length + 1) = n + 1 + ds.length by omega]; exact h)
      have := st (i + 1) d ρ e (by rw [show n + (i + 1) = n + 1 + i by omega]; exact h)
      rw [show n + (i + 1) + 1 = n + 1 + i + 1 by omega] at this
      exact this
    cases e2 : b ρ1 with
    | fail => rw [e2] at w; exact w
    | ex x ρ2 => rw [e2] at w; exact w
    | ok f ρ2 =>
      rw [e2] at w
      cases f with
      | nx => exact go ρ2 w
      | ct => exact go ρ2 w
      | bk => exact w
      | rt o => exact w
/-- a comprehension, likewise: acc by turns -/
theorem wp_comp {vs : List Nat} {mg : MG} {mt : MT} {me : ME} (I : Nat → List D → Rho → Prop) : ∀ {ds : List D} {n : Nat} {acc : List D} {ρ : Rho}, I n acc ρ →
    (∀ i d acc ρ, ds[i]? = some d → I (n + i) acc ρ → ∃ ρ2, mg d (hide vs ρ) = some ρ2 ∧ wp (mt ρ2) (fun c ρ3 => if c = true then wp (me ρ3) (fun o ρ4 => ∃ x ρ5, useO ρ4 o = some (x, ρ5) ∧ acc.length < sizeLine ∧ I (n + i + 1) (acc ++ [x]) (restore vs ρ ρ5)) NoX else I (n + i + 1) acc (restore vs ρ ρ3)) NoX) →
    (∀ acc ρ, I (n + ds.length) acc ρ → QO (.new (.list acc)) ρ) → wp (compL vs mg mt me ds acc ρ) QO X
  | [], n, acc, ρ, h, _, q => q acc ρ h
  | d :: ds, n, acc, ρ, h, st, q => by
    obtain ⟨ρ2, e, w⟩ := st 0 d acc ρ rfl h
    unfold compL
    rw [e]
    dsimp only
    have go : ∀ acc ρ, I (n + 0 + 1) acc ρ → wp (compL vs mg mt me ds acc ρ) QO X := fun acc ρ h2 => by
      refine wp_comp I (n := n + 1) h2 (fun i d acc ρ e h => ?_) fun acc ρ h => q acc ρ (by rw [List.length_cons]; rw [show n + (ds.length + 1) = n + 1 + ds.length by omega]; exact h)
      have := st (i + 1) d acc ρ e (by rw [show n + (i + 1) = n + 1 + i by omega]; exact h)
      rw [show n + (i + 1) + 1 = n + 1 + i + 1 by omega] at this
      exact this
    rw [wp_bind, wp_noEx]
    refine wp_mono0 w fun c ρ3 hc => ?_
    split
    · rename_i ht
      rw [if_pos ht] at hc
      rw [wp_bind, wp_noEx]
      refine wp_mono0 hc fun o ρ4 ho => ?_
      obtain ⟨x, ρ5, e5, hl, hI⟩ := ho
      rw [e5]
      dsimp only
      rw [if_pos hl]
      exact go _ _ hI
    · rename_i ht
      rw [if_neg ht] at hc
      exact go _ _ hc
end
end Dl
set_option maxRecDepth 100000
set_option maxHeartbeats 4000000
namespace Dl
open PySem PySem.Spec L2
set_option autoImplicit false
local macro_rules | `(tactic| simp_arith [$ls,*]) => `(tactic| simp -dsimp -implicitDefEqProofs [Dl.T.odd, Dl.vI, Dl.vB, Dl.vS, Dl.run2, Dl.run1, Dl.deref, Dl.Slot.data?, Dl.Slot.tree?, Dl.T.toD, Dl.toDs, Dl.useO, Dl.useAll, Dl.boolOf, Dl.putO, Dl.free, Dl.outO, Dl.withAll, Dl.runN, Dl.derefs, Dl.mutO, Dl.isLst, Dl.isDct, Dl.putI, Dl.putD, Dl.setI, Dl.augO, Dl.getI, Dl.slotOf, Dl.slotsOf, Dl.lents, Dl.takeB, Dl.backS, Dl.useSel, Dl.back, Dl.gd, $ls,*])
local macro_rules | `(tactic| simp_arith) => `(tactic| simp -dsimp -implicitDefEqProofs [Dl.T.odd, Dl.vI, Dl.vB, Dl.vS, Dl.run2, Dl.run1, Dl.deref, Dl.Slot.data?, Dl.Slot.tree?, Dl.T.toD, Dl.toDs, Dl.useO, Dl.useAll, Dl.boolOf, Dl.putO, Dl.free, Dl.outO, Dl.withAll, Dl.runN, Dl.derefs, Dl.mutO, Dl.isLst, Dl.isDct, Dl.putI, Dl.putD, Dl.setI, Dl.augO, Dl.getI, Dl.slotOf, Dl.slotsOf, Dl.lents, Dl.takeB, Dl.backS, Dl.useSel, Dl.back, Dl.gd])
@[simp ↓] theorem wp_eVar {QO : Opd → Rho → Prop} {X : Ex → Rho → Prop} {ρ : Rho} (i : Nat) : wp (eVar i ρ) QO X = wp (match ρ[i]? with
    | some (.dat d) => .ok (.val d) ρ
    | some (.opa (.fr d)) => .ok (.val d) ρ
    | some s => (match s.data? with
      | some _ => .ok (.loc i) ρ
      | none => (match s.tree? with
        | some _ => .ok (.lob i) ρ
        | none => .fail))
    | none => .fail) QO X := by
  unfold eVar
  cases e : ρ[i]? with
  | none => rfl
  | some s =>
    cases s with
    | opa t => cases t <;> rfl
    | _ => rfl
local macro_rules | `(tactic| simp_arith [$ls,*]) => `(tactic| simp -dsimp -implicitDefEqProofs [Dl.T.odd, Dl.vI, Dl.vB, Dl.vS, Dl.run2, Dl.run1, Dl.deref, Dl.Slot.data?, Dl.Slot.tree?, Dl.T.toD, Dl.toDs, Dl.useO, Dl.useAll, Dl.boolOf, Dl.putO, Dl.free, Dl.outO, Dl.withAll, Dl.runN, Dl.derefs, Dl.mutO, Dl.isLst, Dl.isDct, Dl.putI, Dl.putD, Dl.setI, Dl.augO, Dl.getI, Dl.slotOf, Dl.slotsOf, Dl.lents, Dl.takeB, Dl.backS, Dl.useSel, Dl.back, Dl.gd, Dl.pyIx, L2.atI, L2.ixN, Dl.pyGet, Dl.pyMul, Dl.pyAdd, Dl.pyEq, Dl.pyNe, Dl.mulOk, Dl.powOk, Dl.pySlice, Dl.fLen, Dl.fList, Dl.fTuple, Dl.mAppend, Dl.mReverse, Dl.mClear, Dl.mExtend, Dl.mInsert, Dl.mkTup, Dl.mkLst, Dl.pyIsN, Dl.pyNotN, Dl.fNeg, Dl.pyRev, Dl.gN, Dl.gsNil, Dl.gsCons, Dl.gT, Dl.srcL, Dl.srcT, Dl.srcS, Dl.srcQ, Dl.srcR1, Dl.srcR2, Dl.hide, Dl.restore, $ls,*])
local macro_rules | `(tactic| simp_arith) => `(tactic| simp -dsimp -implicitDefEqProofs [Dl.T.odd, Dl.vI, Dl.vB, Dl.vS, Dl.run2, Dl.run1, Dl.deref, Dl.Slot.data?, Dl.Slot.tree?, Dl.T.toD, Dl.toDs, Dl.useO, Dl.useAll, Dl.boolOf, Dl.putO, Dl.free, Dl.outO, Dl.withAll, Dl.runN, Dl.derefs, Dl.mutO, Dl.isLst, Dl.isDct, Dl.putI, Dl.putD, Dl.setI, Dl.augO, Dl.getI, Dl.slotOf, Dl.slotsOf, Dl.lents, Dl.takeB, Dl.backS, Dl.useSel, Dl.back, Dl.gd, Dl.pyIx, L2.atI, L2.ixN, Dl.pyGet, Dl.pyMul, Dl.pyAdd, Dl.pyEq, Dl.pyNe, Dl.mulOk, Dl.powOk, Dl.pySlice, Dl.fLen, Dl.fList, Dl.fTuple, Dl.mAppend, Dl.mReverse, Dl.mClear, Dl.mExtend, Dl.mInsert, Dl.mkTup, Dl.mkLst, Dl.pyIsN, Dl.pyNotN, Dl.fNeg, Dl.pyRev, Dl.gN, Dl.gsNil, Dl.gsCons, Dl.gT, Dl.srcL, Dl.srcT, Dl.srcS, Dl.srcQ, Dl.srcR1, Dl.srcR2, Dl.hide, Dl.restore])
theorem pyAt_dict (ps : List (D × D)) (k : D) : pyAt (.dict ps) k = pyGet (.dict ps) k := by cases k <;> rfl
@[simp ↓] theorem wp_sAug {QF : Flow → Rho → Prop} {X : Ex → Rho → Prop} {ρ : Rho} (i : Nat) (f : Int → Int → Int) (mk me : ME) : wp (sAug i f mk me ρ) QF X = if isLst ρ i = true then wp (mk ρ) (fun k ρ1 => wp (match getI i k ρ1 with
    | some x => (me ρ1).bind fun o ρ2 => augO i f k o x ρ2
    | none => .fail) QF X) X else False := by
  unfold sAug
  split
  · rw [wp_bind] <;> rfl
  · rfl
local macro_rules | `(tactic| simp_arith [$ls,*]) => `(tactic| simp -dsimp -implicitDefEqProofs [Dl.T.odd, Dl.vI, Dl.vB, Dl.vS, Dl.run2, Dl.run1, Dl.deref, Dl.Slot.data?, Dl.Slot.tree?, Dl.T.toD, Dl.toDs, Dl.useO, Dl.useAll, Dl.boolOf, Dl.putO, Dl.free, Dl.outO, Dl.withAll, Dl.runN, Dl.derefs, Dl.mutO, Dl.isLst, Dl.isDct, Dl.putI, Dl.putD, Dl.setI, Dl.augO, Dl.getI, Dl.slotOf, Dl.slotsOf, Dl.lents, Dl.takeB, Dl.backS, Dl.useSel, Dl.back, Dl.gd, Dl.pyIx, L2.atI, L2.ixN, Dl.pyGet, Dl.pyMul, Dl.pyAdd, Dl.pyEq, Dl.pyNe, Dl.mulOk, Dl.powOk, Dl.pySlice, Dl.fLen, Dl.fList, Dl.fTuple, Dl.mAppend, Dl.mReverse, Dl.mClear, Dl.mExtend, Dl.mInsert, Dl.mkTup, Dl.mkLst, Dl.pyIsN, Dl.pyNotN, Dl.fNeg, Dl.pyRev, Dl.gN, Dl.gsNil, Dl.gsCons, Dl.gT, Dl.srcL, Dl.srcT, Dl.srcS, Dl.srcQ, Dl.srcR1, Dl.srcR2, Dl.hide, Dl.restore, PySem.sizeLine_eq, $ls,*])
local macro_rules | `(tactic| simp_arith) => `(tactic| simp -dsimp -implicitDefEqProofs [Dl.T.odd, Dl.vI, Dl.vB, Dl.vS, Dl.run2, Dl.run1, Dl.deref, Dl.Slot.data?, Dl.Slot.tree?, Dl.T.toD, Dl.toDs, Dl.useO, Dl.useAll, Dl.boolOf, Dl.putO, Dl.free, Dl.outO, Dl.withAll, Dl.runN, Dl.derefs, Dl.mutO, Dl.isLst, Dl.isDct, Dl.putI, Dl.putD, Dl.setI, Dl.augO, Dl.getI, Dl.slotOf, Dl.slotsOf, Dl.lents, Dl.takeB, Dl.backS, Dl.useSel, Dl.back, Dl.gd, Dl.pyIx, L2.atI, L2.ixN, Dl.pyGet, Dl.pyMul, Dl.pyAdd, Dl.pyEq, Dl.pyNe, Dl.mulOk, Dl.powOk, Dl.pySlice, Dl.fLen, Dl.fList, Dl.fTuple, Dl.mAppend, Dl.mReverse, Dl.mClear, Dl.mExtend, Dl.mInsert, Dl.mkTup, Dl.mkLst, Dl.pyIsN, Dl.pyNotN, Dl.fNeg, Dl.pyRev, Dl.gN, Dl.gsNil, Dl.gsCons, Dl.gT, Dl.srcL, Dl.srcT, Dl.srcS, Dl.srcQ, Dl.srcR1, Dl.srcR2, Dl.hide, Dl.restore, PySem.sizeLine_eq])
/-- while, by turns -/
theorem wp_turns {c : MT} {b : MS} {QF : Flow → Rho → Prop} {X : Ex → Rho → Prop} (I : Nat → Rho → Prop) {N : Nat} (st : ∀ j ρ, I j ρ → j < N ∧ wp (c ρ) (fun x ρ1 => if x = true then wp (b ρ1) (kf (fun ρ2 => I (j + 1) ρ2) (kl (fun ρ2 => I (j + 1) ρ2) QF)) X else QF .nx ρ1) X) : ∀ {n j : Nat} {ρ : Rho}, n + j = N → I j ρ → wp (sWhile c b n ρ) QF X
  | 0, j, ρ, hn, hI => absurd (st j ρ hI).1 (by omega)
  | n + 1, j, ρ, hn, hI => by
    unfold sWhile
    rw [wp_bind]
    refine wp_mono (st j ρ hI).2 (fun x ρ1 hx => ?_) fun _ _ z => z
    split
    · rename_i ht
      rw [if_pos ht] at hx
      cases e : b ρ1 with
      | fail => rw [e] at hx; exact hx
      | ex x ρ2 => rw [e] at hx; exact hx
      | ok f ρ2 =>
        rw [e] at hx
        cases f with
        | nx => exact wp_turns I st (n := n) (by omega) hx
        | ct => exact wp_turns I st (n := n) (by omega) hx
        | bk => exact hx
        | rt o => exact hx
    · rename_i ht
      rw [if_neg ht] at hx
      exact hx
@[simp ↓] theorem wp_callO {QO : Opd → Rho → Prop} {X : Ex → Rho → Prop} {ρ : Rho} (n : Nat) (fl : List Bool) (sem : ME) (os : List Opd) : wp (callO n fl sem os ρ) QO X = wp (match useSel ρ fl os with
    | some (ps, ρ2) => (match slotsOf ρ2 ps with
      | some cs => if (lents ρ2 ps).Nodup ∧ cs.length = n then retO (sem cs) ps ρ2 else .fail
      | none => .fail)
    | none => .fail) QO X := rfl
@[simp ↓] theorem wp_loopC {mg : MG} {b : MS} {d : D} {ds : List D} {ρ : Rho} {QF : Flow → Rho → Prop} {X : Ex → Rho → Prop} : wp (sLoop mg b (d :: ds) ρ) QF X = wp (ofO (mg d ρ)) (fun _ ρ1 => wp (b ρ1) (kf (fun ρ2 => wp (sLoop mg b ds ρ2) QF X) (kl (fun ρ2 => wp (sLoop mg b ds ρ2) QF X) QF)) X) X := by
  unfold sLoop
  cases e : mg d ρ with
  | none => dsimp only [ofO]; rfl
  | some ρ1 =>
    dsimp only [ofO]
    rw [wp_ok]
    cases e2 : b ρ1 with
    | ok f ρ2 => cases f <;> rfl
    | ex x ρ2 => rfl
    | fail => rfl
@[simp ↓] theorem wp_loop0 {mg : MG} {b : MS} {ρ : Rho} {QF : Flow → Rho → Prop} {X : Ex → Rho → Prop} : wp (sLoop mg b [] ρ) QF X = QF .nx ρ := rfl
theorem wp_for {mg : MG} {b : MS} {QF : Flow → Rho → Prop} {X : Ex → Rho → Prop} (I : Nat → Rho → Prop) {ds : List D} {ρ : Rho} (h : I 0 ρ)
    (st : ∀ i d ρ, ds[i]? = some d → I i ρ → ∃ ρ1, mg d ρ = some ρ1 ∧ wp (b ρ1) (kf (fun ρ2 => I (i + 1) ρ2) (kl (fun ρ2 => I (i + 1) ρ2) QF)) X) (q : ∀ ρ, I ds.length ρ → QF .nx ρ) : wp (sLoop mg b ds ρ) QF X :=
  wp_loop I (n := 0) h (fun i d ρ e hI => by rw [Nat.zero_add] at hI ⊢; exact st i d ρ e hI) fun ρ hI => q ρ (by rw [Nat.zero_add] at hI; exact hI)
theorem wp_cmp {vs : List Nat} {mg : MG} {mt : MT} {me : ME} {QO : Opd → Rho → Prop} {X : Ex → Rho → Prop} (I : Nat → List D → Rho → Prop) {ds : List D} {ρ : Rho} (h : I 0 [] ρ)
    (st : ∀ i d acc ρ, ds[i]? = some d → I i acc ρ → ∃ ρ2, mg d (hide vs ρ) = some ρ2 ∧ wp (mt ρ2) (fun c ρ3 => if c = true then wp (me ρ3) (fun o ρ4 => ∃ x ρ5, useO ρ4 o = some (x, ρ5) ∧ acc.length < sizeLine ∧ I (i + 1) (acc ++ [x]) (restore vs ρ ρ5)) NoX else I (i + 1) acc (restore vs ρ ρ3)) NoX)
    (q : ∀ acc ρ, I ds.length acc ρ → QO (.new (.list acc)) ρ) : wp (compL vs mg mt me ds [] ρ) QO X :=
  wp_comp I (n := 0) h (fun i d acc ρ e hI => by rw [Nat.zero_add] at hI ⊢; exact st i d acc ρ e hI) fun acc ρ hI => q acc ρ (by rw [Nat.zero_add] at hI; exact hI)
@[simp ↓] theorem wp_lkd {α : Type} {Q : α → Rho → Prop} {X : Ex → Rho → Prop} {ρ : Rho} (j : Nat) (m : Rho → Rs α) : wp (lkd j m ρ) Q X = lkQ (lockS ρ j) j m ρ Q X := by
  unfold lkd lkQ
  cases lockS ρ j with
  | none => rfl
  | some p =>
    obtain ⟨s, d⟩ := p
    dsimp only
    cases m (ρ.set j (.lck d)) <;> rfl
local macro_rules | `(tactic| simp_arith [$ls,*]) => `(tactic| simp -dsimp -implicitDefEqProofs [Dl.T.odd, Dl.vI, Dl.vB, Dl.vS, Dl.run2, Dl.run1, Dl.deref, Dl.Slot.data?, Dl.Slot.tree?, Dl.T.toD, Dl.toDs, Dl.useO, Dl.useAll, Dl.boolOf, Dl.putO, Dl.free, Dl.outO, Dl.withAll, Dl.runN, Dl.derefs, Dl.mutO, Dl.isLst, Dl.isDct, Dl.putI, Dl.putD, Dl.setI, Dl.augO, Dl.getI, Dl.slotOf, Dl.slotsOf, Dl.lents, Dl.takeB, Dl.backS, Dl.useSel, Dl.back, Dl.gd, Dl.pyIx, L2.atI, L2.ixN, Dl.pyGet, Dl.pyMul, Dl.pyAdd, Dl.pyEq, Dl.pyNe, Dl.mulOk, Dl.powOk, Dl.pySlice, Dl.fLen, Dl.fList, Dl.fTuple, Dl.mAppend, Dl.mReverse, Dl.mClear, Dl.mExtend, Dl.mInsert, Dl.mkTup, Dl.mkLst, Dl.pyIsN, Dl.pyNotN, Dl.fNeg, Dl.pyRev, Dl.gN, Dl.gsNil, Dl.gsCons, Dl.gT, Dl.srcL, Dl.srcT, Dl.srcS, Dl.srcQ, Dl.srcR1, Dl.srcR2, Dl.hide, Dl.restore, PySem.sizeLine_eq, Dl.lockS, $ls,*])
local macro_rules | `(tactic| simp_arith) => `(tactic| simp -dsimp -implicitDefEqProofs [Dl.T.odd, Dl.vI, Dl.vB, Dl.vS, Dl.run2, Dl.run1, Dl.deref, Dl.Slot.data?, Dl.Slot.tree?, Dl.T.toD, Dl.toDs, Dl.useO, Dl.useAll, Dl.boolOf, Dl.putO, Dl.free, Dl.outO, Dl.withAll, Dl.runN, Dl.derefs, Dl.mutO, Dl.isLst, Dl.isDct, Dl.putI, Dl.putD, Dl.setI, Dl.augO, Dl.getI, Dl.slotOf, Dl.slotsOf, Dl.lents, Dl.takeB, Dl.backS, Dl.useSel, Dl.back, Dl.gd, Dl.pyIx, L2.atI, L2.ixN, Dl.pyGet, Dl.pyMul, Dl.pyAdd, Dl.pyEq, Dl.pyNe, Dl.mulOk, Dl.powOk, Dl.pySlice, Dl.fLen, Dl.fList, Dl.fTuple, Dl.mAppend, Dl.mReverse, Dl.mClear, Dl.mExtend, Dl.mInsert, Dl.mkTup, Dl.mkLst, Dl.pyIsN, Dl.pyNotN, Dl.fNeg, Dl.pyRev, Dl.gN, Dl.gsNil, Dl.gsCons, Dl.gT, Dl.srcL, Dl.srcT, Dl.srcS, Dl.srcQ, Dl.srcR1, Dl.srcR2, Dl.hide, Dl.restore, PySem.sizeLine_eq, Dl.lockS])
@[simp ↓] theorem wp_eMut {QO : Opd → Rho → Prop} {X : Ex → Rho → Prop} {ρ : Rho} (i : Nat) (f : D → List D → Option (D × D)) (ma : MA) : wp (eMut i f ma ρ) QO X = if isLst ρ i = true then wp (ma ρ) (fun os ρ1 => wp (mutO i f os ρ1) QO X) X else False := by
  unfold eMut
  split
  · rw [wp_bind]
  · rfl
@[simp ↓] theorem wp_sAugN {QF : Flow → Rho → Prop} {X : Ex → Rho → Prop} {ρ : Rho} (i : Nat) (f : Int → Int → Int) (me : ME) : wp (sAugN i f me ρ) QF X = wp (match ρ[i]? with
  | some (.dat (.int a)) => (me ρ).bind fun o ρ1 => (match deref ρ1 o with
    | some (.int b) => if free ρ1 i = true then .ok .nx (ρ1.set i (.dat (.int (f a b)))) else .fail
    | _ => .fail)
  | _ => .fail) QF X := rfl
def Hand (d : D) : Prop := ∃ ns i b k x y, d = hd ns i b k x y ∧ 0 ≤ i
def mNext : ME := fnSem 1 1
   (sSeq (sPut 0 (eC (.int 4)) (eOp2 pyMod (eOp2 pyMul (eOp2 pyAt (eVar 0) (eC (.int 4))) (eC (.int 48271))) (eC (.int 2147483647))))
   (sSeq (sPut 0 (eC (.int 5)) (eOp2 pyMod (eOp2 pyMul (eOp2 pyAt (eVar 0) (eC (.int 5))) (eC (.int 40693))) (eC (.int 2147483399))))
   (sRet (eOp2 pyAdd (eOp2 pyAt (eVar 0) (eC (.int 4))) (eOp2 pyAt (eVar 0) (eC (.int 5)))))))
def mTake : ME := fnSem 1 2
   (sSeq (sSet 1 (eC (.int 0)))
   (sSeq (sIf (tVal (eOp2 pyLt (eOp2 pyAt (eVar 0) (eC (.int 1))) (eBlt fLen (aCons (eOp2 pyAt (eVar 0) (eC (.int 0))) aNil))))
   (sSet 1 (eBlt fAbs (aCons (eOp2 pyAt (eOp2 pyAt (eVar 0) (eC (.int 0))) (eOp2 pyAt (eVar 0) (eC (.int 1)))) aNil)))
   sNil)
   (sSeq (sAug 0 (fun i j => i + j) (eC (.int 1)) (eC (.int 1)))
   (sSeq (sIf (tVal (eOp2 pyGe (eVar 1) (eOp2 pyPow (eC (.int 10)) (eC (.int 18)))))
   (sPut 0 (eC (.int 2)) (eVar 1))
   (sPut 0 (eC (.int 3)) (eC (.int 7))))
   (sSeq (sPut 0 (eC (.int 4)) (eOp2 pyAdd (eOp2 pyMod (eOp2 pyAdd (eOp2 pyAt (eVar 0) (eC (.int 4))) (eOp2 pyMod (eVar 1) (eC (.int 2147483587)))) (eC (.int 2147483646))) (eC (.int 1))))
   (sSeq (sPut 0 (eC (.int 5)) (eOp2 pyAdd (eOp2 pyMod (eOp2 pyAdd (eOp2 pyMul (eOp2 pyAt (eVar 0) (eC (.int 5))) (eC (.int 3))) (eOp2 pyMod (eVar 1) (eC (.int 1000003)))) (eC (.int 2147483398))) (eC (.int 1))))
   (sSeq (sExp (eCall 1 [true] mNext (aCons (eVar 0) aNil)))
   (sExp (eCall 1 [true] mNext (aCons (eVar 0) aNil))))))))))
def mDrawB : MS :=
   (sSeq (sIf (tVal (eOp2 pyGt (eOp2 pyAt (eVar 0) (eC (.int 2))) (eC (.int 0))))
   (sSeq (sSet 4 (eOp2 pyMod (eOp2 pyAt (eVar 0) (eC (.int 2))) (eVar 1)))
   (sSeq (sPut 0 (eC (.int 2)) (eOp2 pyDiv (eOp2 pyAt (eVar 0) (eC (.int 2))) (eVar 1)))
   (sRet (eVar 4))))
   sNil)
   (sSeq (sAug 0 (fun i j => i - j) (eC (.int 3)) (eC (.int 1)))
   (sSeq (sSet 2 (eCall 1 [true] mNext (aCons (eVar 0) aNil)))
   (sSeq (sSet 3 (eC (.int 4294967296)))
   (sSeq (sWhile (tVal (eOp2 pyLt (eVar 3) (eVar 1)))
   (sSeq (sSet 2 (eOp2 pyAdd (eOp2 pyMul (eVar 2) (eC (.int 4294967296))) (eCall 1 [true] mNext (aCons (eVar 0) aNil))))
   (sSet 3 (eOp2 pyMul (eVar 3) (eC (.int 4294967296))))) 64)
   (sRet (eOp2 pyMod (eVar 2) (eVar 1))))))))
def mDraw : ME := fnSem 2 5
   (sSeq (sIf (tAndM (tVal (eOp2 pyEq (eOp2 pyAt (eVar 0) (eC (.int 2))) (eC (.int 0)))) (tVal (eOp2 pyEq (eOp2 pyAt (eVar 0) (eC (.int 3))) (eC (.int 0)))))
   (sExp (eCall 1 [true] mTake (aCons (eVar 0) aNil)))
   sNil)
     mDrawB)
theorem next_eq (ns : List Int) (i b k x y : Int) : ∃ r x' y', mNext [.par (hd ns i b k x y)] = .ok (vI r) [.par (hd ns i b k x' y')] := by
  have : wp (mNext [.par (hd ns i b k x y)]) (fun o ρ => ∃ r x' y', o = vI r ∧ ρ = [.par (hd ns i b k x' y')]) NoX := by
    unfold mNext hd
    simp_arith
  obtain ⟨o, ρ, e, r, x', y', rfl, rfl⟩ := wp_out this
  exact ⟨r, x', y', e⟩
theorem wp_next (ns : List Int) (i b k x y : Int) {Q : Opd → Rho → Prop} {X : Ex → Rho → Prop} (h : ∀ r x' y', Q (vI r) [.par (hd ns i b k x' y')]) : wp (mNext [.par (hd ns i b k x y)]) Q X := by
  obtain ⟨r, x1, y1, e1⟩ := next_eq ns i b k x y
  rw [e1]
  exact h r x1 y1
theorem take_eq (ns : List Int) (i b k x y : Int) (hi : 0 ≤ i) : ∃ i' b' k' x' y', 0 ≤ i' ∧ mTake [.par (hd ns i b k x y)] = .ok (.val .none) [.par (hd ns i' b' k' x' y')] := by
  have : wp (mTake [.par (hd ns i b k x y)]) (fun o ρ => ∃ i' b' k' x' y', 0 ≤ i' ∧ o = .val .none ∧ ρ = [.par (hd ns i' b' k' x' y')]) NoX := by
    unfold mTake
    have e1 : (∃ c, ns[i.toNat]? = some c ∧ i < ns.length) ∨ ¬ i < ns.length := by
      by_cases h : i < ns.length
      · exact .inl ⟨_, List.getElem?_eq_getElem (by omega), h⟩
      · exact .inr h
    rcases e1 with ⟨c, hc, h⟩ | h
    all_goals
      (simp -dsimp -implicitDefEqProofs [Dl.T.odd, Dl.vI, Dl.vB, Dl.vS, Dl.run2, Dl.run1, Dl.deref, Dl.Slot.data?, Dl.Slot.tree?, Dl.T.toD, Dl.toDs, Dl.useO, Dl.useAll, Dl.boolOf, Dl.putO, Dl.free, Dl.outO, Dl.withAll, Dl.runN, Dl.derefs, Dl.mutO, Dl.isLst, Dl.isDct, Dl.putI, Dl.putD, Dl.setI, Dl.augO, Dl.getI, Dl.slotOf, Dl.slotsOf, Dl.lents, Dl.takeB, Dl.backS, Dl.useSel, Dl.back, Dl.gd, Dl.pyIx, atI, ixN, Dl.pyGet, Dl.pyMul, Dl.pyAdd, Dl.pyEq, Dl.pyNe, Dl.mulOk, Dl.powOk, Dl.pySlice, Dl.fLen, Dl.fList, Dl.fTuple, Dl.mAppend, Dl.mReverse, Dl.mClear, Dl.mExtend, Dl.mInsert, Dl.mkTup, Dl.mkLst, Dl.pyIsN, Dl.pyNotN, Dl.fNeg, Dl.pyRev, Dl.gN, Dl.gsNil, Dl.gsCons, Dl.gT, Dl.srcL, Dl.srcT, Dl.srcS, Dl.srcQ, Dl.srcR1, Dl.srcR2, Dl.hide, Dl.restore, sizeLine_eq, Dl.lockS, hd, hi, *]
       try split)
    all_goals
      (refine wp_next ns _ _ _ _ _ fun r x' y' => ?_
       simp_arith
       refine wp_next ns _ _ _ _ _ fun r x' y' => ?_
       simp_arith
       refine ⟨i + 1, ?_, _, _, x', y', rfl⟩
       omega)
  obtain ⟨o, ρ, e, i', b', k', x', y', h, rfl, rfl⟩ := wp_out this
  exact ⟨i', b', k', x', y', h, e⟩
theorem wp_take {ns : List Int} {i b k x y : Int} (hi : 0 ≤ i) {Q : Opd → Rho → Prop} {X : Ex → Rho → Prop} (h : ∀ i' b' k' x' y', 0 ≤ i' → Q (.val .none) [.par (hd ns i' b' k' x' y')]) : wp (mTake [.par (hd ns i b k x y)]) Q X := by
  obtain ⟨i', b', k', x', y', h', e⟩ := take_eq ns i b k x y hi
  rw [e]
  exact h i' b' k' x' y' h'
theorem drawB_eq (ns : List Int) (n : Int) (h0 : 0 < n) (h1 : n ≤ 10 ^ 70) (i b k x y : Int) (hi : 0 ≤ i) {O : Flow → Rho → Prop} {N : Rho → Prop} {X : Ex → Rho → Prop} (h : ∀ r i' b' k' x' y' s2 s3 s4, 0 ≤ i' → 0 ≤ r → r < n → O (.rt (vI r)) [.par (hd ns i' b' k' x' y'), .dat (.int n), s2, s3, s4]) :
    wp (mDrawB [.par (hd ns i b k x y), .dat (.int n), .un, .un, .un]) (kf N O) X := by
  have lg : n.natAbs.log2 < 9000 := by
    by_cases z : n.natAbs = 0
    · rw [z]; decide
    · have h2 : n.natAbs < 2 ^ 256 := by
        have : (n.natAbs : Int) ≤ 10 ^ 70 := by rw [Int.natAbs_of_nonneg (by omega)]; exact h1
        simp at this ⊢
        omega
      have := (Nat.log2_lt z).mpr h2
      omega
  have md : ∀ z : Int, 0 ≤ z % n ∧ z % n < n := fun z => ⟨Int.emod_nonneg z (by omega), Int.emod_lt_of_pos z h0⟩
  unfold mDrawB
  simp_arith [hd, h0, lg]
  split
  · exact h _ _ _ _ _ _ _ _ _ hi (md b).1 (md b).2
  · refine wp_next ns _ _ _ _ _ fun r x' y' => ?_
    simp_arith [hd]
    refine wp_turns (fun j ρ => ∃ v x y sz, (j ≤ 8 ∧ sz = 4294967296 ^ (j + 1)) ∧ ρ = [.par (hd ns i b (k - 1) x y), .dat (.int n), .dat (.int v), .dat (.int sz), .un]) (N := 64) (fun j ρ hI => ?_) (n := 64) (j := 0) rfl ⟨r, x', y', 4294967296, ⟨by omega, by simp⟩, rfl⟩
    obtain ⟨v, x, y, sz, ⟨hj, hs⟩, rfl⟩ := hI
    refine ⟨by omega, ?_⟩
    simp_arith [hd, h0]
    split
    · rename_i hlt
      refine wp_next ns _ _ _ _ _ fun r x' y' => ?_
      simp_arith
      refine ⟨_, x', y', sz * 4294967296, ⟨?_, by rw [hs, ← Int.pow_succ]⟩, rfl, rfl, rfl⟩
      by_cases e : j ≤ 7
      · omega
      · exfalso
        have : j = 8 := by omega
        subst this
        simp at hs
        omega
    · exact h _ _ _ _ _ _ _ _ _ hi (md v).1 (md v).2
theorem draw_eq (ns : List Int) (i b k x y n : Int) (hi : 0 ≤ i) (h0 : 0 < n) (h1 : n ≤ 10 ^ 70) : ∃ r i' b' k' x' y', 0 ≤ i' ∧ 0 ≤ r ∧ r < n ∧ mDraw [.par (hd ns i b k x y), .dat (.int n)] = .ok (vI r) [.par (hd ns i' b' k' x' y'), .dat (.int n)] := by
  have rest : wp (mDraw [.par (hd ns i b k x y), .dat (.int n)]) (fun o ρ => ∃ r i' b' k' x' y', 0 ≤ i' ∧ 0 ≤ r ∧ r < n ∧ o = vI r ∧ ρ = [.par (hd ns i' b' k' x' y'), .dat (.int n)]) NoX := by
    have go : ∀ (c0 : D) (i b k x y : Int), 0 ≤ i → ∀ {N : Rho → Prop} {X : Ex → Rho → Prop}, wp (mDrawB [.par (hd ns i b k x y), .dat (.int n), .un, .un, .un]) (kf N (kr fun o ρ => ∃ r i' b' k' x' y', 0 ≤ i' ∧ 0 ≤ r ∧ r < n ∧ o = vI r ∧ back [.par c0, .dat (.int n)] ρ = [.par (hd ns i' b' k' x' y'), .dat (.int n)])) X := fun c0 i b k x y hi N X => drawB_eq ns n h0 h1 i b k x y hi fun r i' b' k' x' y' s2 s3 s4 h2 h3 h4 => ⟨r, i', b', k', x', y', h2, h3, h4, rfl, rfl⟩
    unfold mDraw
    simp_arith [hd]
    split
    · split
      · refine wp_take hi fun i' b' k' x' y' h => ?_
        simp_arith [hd]
        exact go _ i' b' k' x' y' h
      · exact go _ i b k x y hi
    · exact go _ i b k x y hi
  obtain ⟨o, ρ, e, r, i', b', k', x', y', h, h2, h3, rfl, rfl⟩ := wp_out rest
  exact ⟨r, i', b', k', x', y', h, h2, h3, e⟩
/-- the hand's state, whatever it is -/
theorem wp_draw {d : D} {n : Int} (hd : Hand d) (h0 : 0 < n) (h1 : n ≤ 10 ^ 70) {Q : Opd → Rho → Prop} {X : Ex → Rho → Prop} (h : ∀ r d', Hand d' → 0 ≤ r → r < n → Q (vI r) [.par d', .dat (.int n)]) : wp (mDraw [.par d, .dat (.int n)]) Q X := by
  obtain ⟨ns, i, b, k, x, y, rfl, hi⟩ := hd
  obtain ⟨r, i', b', k', x', y', h2, h3, h4, e⟩ := draw_eq ns i b k x y n hi h0 h1
  rw [e]
  exact h r _ ⟨ns, i', b', k', x', y', rfl, h2⟩ h3 h4
theorem okC_app {a b : List Nat} (ha : okC a) (hb : okC b) : okC (a ++ b) := fun c h => (List.mem_append.mp h).elim (ha c) (hb c)
theorem canAll : ∀ {ss : List Str}, (∀ s ∈ ss, Nm s) → PyData.canLayAll0 (ss.map .str) = true
  | [], _ => rfl
  | s :: ss, h => by
    show (PyData.canLay0 (.str s) && PyData.canLayAll0 (ss.map .str)) = true
    rw [strOk_of (h s List.mem_cons_self).ok, canAll fun t ht => h t (List.mem_cons_of_mem _ ht)]
    rfl
theorem depthAll0 : ∀ ss : List Str, PyData.depthAll (ss.map .str) = 0
  | [] => by simp [PyData.depthAll]
  | s :: ss => by
    rw [List.map_cons, PyData.depthAll, depthAll0 ss]
    rfl
theorem depthAll_str (ss : List Str) : PyData.depth (.list (ss.map .str)) ≤ 1 := by
  rw [PyData.depth, depthAll0]
  omega
theorem shaped_list {ss : List Str} (h : ∀ s ∈ ss, Nm s) : SeqAt.shaped (.list (ss.map .str)) = true := by
  unfold SeqAt.shaped
  rw [show PyData.canLay0 (.list (ss.map .str)) = PyData.canLayAll0 (ss.map .str) from rfl, canAll h]
  have := depthAll_str ss
  simp
  omega
theorem any_str (s : Str) : ∀ ss : List Str, (ss.map PyData.str).any (fun z => PyData.eqv z (.str s)) = decide (s ∈ ss)
  | [] => by simp
  | t :: ss => by
    rw [List.map_cons, List.any_cons, any_str s ss]
    by_cases h : t = s
    · subst h; simp
    · have : ¬ s = t := fun e => h e.symm
      simp [h, this]
theorem in_names {s : Str} {ss : List Str} (hs : Nm s) (h : ∀ s ∈ ss, Nm s) : hasD (.str s) (.list (ss.map .str)) = some (decide (s ∈ ss)) := by
  unfold hasD
  dsimp only
  rw [shaped_list h, hs.shaped]
  simp only [Bool.and_self, if_true, any_str]
theorem strs_map : ∀ ss : List Str, strsOf (ss.map .str) = some ss
  | [] => rfl
  | s :: ss => by
    rw [List.map_cons]
    unfold strsOf
    rw [strs_map ss]
    rfl
theorem join_list : ∀ ss : List Str, (Str.join "" ss).cps.toList = ss.flatMap fun s => s.cps.toList
  | [] => rfl
  | [x] => by simp [Str.join]
  | x :: y :: r => by
    show (x ++ "" ++ Str.join "" (y :: r)).cps.toList = _
    have e : (x ++ ("" : Str) ++ Str.join "" (y :: r)).cps = x.cps ++ #[] ++ (Str.join "" (y :: r)).cps := rfl
    rw [e]
    simp [join_list (y :: r)]
def one (c : Nat) : Str := ⟨#[c]⟩
theorem join_ones (cs : List Nat) : (Txt.join "" (cs.map one)).cps.toList = cs := by
  unfold Txt.join
  rw [StrLaws.glued_eq_join, join_list]
  induction cs with
  | nil => rfl
  | cons c cs ih => rw [List.map_cons, List.flatMap_cons, ih]; rfl
theorem join_py (cs : List Nat) (h : cs.length ≤ 100) : pyJoin (.str "") (.list ((cs.map one).map .str)) = some (vS (Txt.join "" (cs.map one))) := by
  unfold pyJoin
  dsimp only
  rw [strs_map]
  have e : ((cs.map one).map (·.length)).sum = cs.length := by
    rw [List.map_map]
    clear h
    induction cs with
    | nil => rfl
    | cons c cs ih =>
      rw [List.map_cons, List.sum_cons, ih]
      show 1 + cs.length = cs.length + 1
      omega
  dsimp only
  rw [e]
  have z : (("" : Str)).length = 0 := rfl
  rw [z, if_pos (by omega)]
theorem nm_join {cs : List Nat} (h : okC cs) (hl : cs.length ≤ 64) : Nm (Txt.join "" (cs.map one)) := ⟨by rw [join_ones]; exact h, by rw [join_ones]; exact hl⟩
theorem sort_same {a b : List Str} (ha : a.Nodup) (hb : b.Nodup) (h : ∀ s, s ∈ a ↔ s ∈ b) : sortStr a = sortStr b := by
  have p : a.Perm b := (List.perm_ext_iff_of_nodup ha hb).mpr h
  exact List.Perm.eq_of_pairwise (le := fun a b => strLe a b = true) (fun a b _ _ h1 h2 => strLe_anti h1 h2) (List.pairwise_mergeSort (le := strLe) strLe_trans strLe_total a) (List.pairwise_mergeSort (le := strLe) strLe_trans strLe_total b) ((List.mergeSort_perm a strLe).trans (p.trans (List.mergeSort_perm b strLe).symm))
theorem sort_one (s : Str) : sortStr [s] = [s] := by simp [sortStr, List.mergeSort]
theorem sort_mem {s : Str} {a : List Str} : s ∈ sortStr a ↔ s ∈ a := List.mem_mergeSort
theorem sort_nodup {a : List Str} (h : a.Nodup) : (sortStr a).Nodup := (List.mergeSort_perm a strLe).symm.nodup h
theorem sort_len (a : List Str) : (sortStr a).length = a.length := (List.mergeSort_perm a strLe).length_eq
theorem sortDs_str {ss : List Str} (h : ss.length < 64) : sortDs (ss.map .str) = some ((sortStr ss).map .str) := by
  cases ss with
  | nil => simp [sortDs, intsOf, sortInt, sortStr]
  | cons s ss =>
    unfold sortDs
    have e : intsOf ((s :: ss).map PyData.str) = none := rfl
    rw [e, strs_map]
    dsimp only
    rw [if_pos h]
theorem addS_nodup {ks : List Str} {s : Str} (h : ks.Nodup) : (addS ks s).Nodup := by
  unfold addS
  split
  · exact h
  · rename_i n
    refine List.nodup_append.mpr ⟨h, by simp, fun a ha b hb => ?_⟩
    rw [List.mem_singleton.mp hb]
    rintro rfl
    exact n ha
theorem addS_mem {ks : List Str} {s t : Str} : t ∈ addS ks s ↔ t ∈ ks ∨ t = s := by
  unfold addS
  split
  · rename_i h
    exact ⟨.inl, fun z => z.elim (fun z => z) fun z => z ▸ h⟩
  · simp
theorem dd_go : ∀ (ss ks : List Str), ks.Nodup → (ss.foldl addS ks).Nodup ∧ (∀ t, t ∈ ss.foldl addS ks ↔ t ∈ ks ∨ t ∈ ss) ∧ (ss.foldl addS ks).length ≤ ks.length + ss.length
  | [], ks, h => ⟨h, by simp, by simp⟩
  | s :: ss, ks, h => by
    obtain ⟨h1, h2, h3⟩ := dd_go ss (addS ks s) (addS_nodup h)
    refine ⟨h1, fun t => ?_, ?_⟩
    · rw [List.foldl_cons, h2 t, addS_mem, List.mem_cons]
      constructor
      · rintro ((h | h) | h)
        · exact .inl h
        · exact .inr (.inl h)
        · exact .inr (.inr h)
      · rintro (h | h | h)
        · exact .inl (.inl h)
        · exact .inl (.inr h)
        · exact .inr h
    · have : (addS ks s).length ≤ ks.length + 1 := by unfold addS; split <;> simp
      rw [List.foldl_cons, List.length_cons]
      omega
theorem dd_nodup (ss : List Str) : (dd ss).Nodup := (dd_go ss [] .nil).1
theorem dd_mem {ss : List Str} {t : Str} : t ∈ dd ss ↔ t ∈ ss := by rw [show dd ss = ss.foldl addS [] from rfl, (dd_go ss [] .nil).2.1 t]; simp
theorem dd_len (ss : List Str) : (dd ss).length ≤ ss.length := by have := (dd_go ss [] .nil).2.2; unfold dd; simpa using this
/-- the names, in order, each once -/
def canon (ss : List Str) : List Str := sortStr (dd ss)
theorem canon_nodup (ss : List Str) : (canon ss).Nodup := sort_nodup (dd_nodup ss)
theorem canon_mem {ss : List Str} {t : Str} : t ∈ canon ss ↔ t ∈ ss := by rw [show canon ss = sortStr (dd ss) from rfl, sort_mem, dd_mem]
theorem canon_len (ss : List Str) : (canon ss).length ≤ ss.length := by rw [show canon ss = sortStr (dd ss) from rfl, sort_len]; exact dd_len ss
theorem canon_of {ss a : List Str} (ha : a.Nodup) (h : ∀ s, s ∈ a ↔ s ∈ ss) : sortStr a = canon ss := sort_same ha (dd_nodup ss) fun s => (h s).trans dd_mem.symm
def setD (ks : List Str) : D := .dict (ks.map fun k => (.str k, .bool true))
theorem any_key (s : Str) : ∀ ks : List Str, (ks.map fun k => (PyData.str k, PyData.bool true)).any (fun p => decide (keyOf p.1 = some (.inr s))) = decide (s ∈ ks)
  | [] => by simp
  | k :: ks => by
    rw [List.map_cons, List.any_cons, any_key s ks]
    by_cases h : k = s
    · subst h; simp [keyOf]
    · have : ¬ s = k := fun e => h e.symm
      simp [keyOf, h, this]
theorem setD_put {ks : List Str} {s : Str} (h : ks.length < sizeLine) : setK (setD ks) (.str s) (.bool true) = some (setD (addS ks s)) := by
  unfold setK setD
  dsimp only [keyOf]
  rw [List.length_map, if_pos h]
  congr 2
  unfold dput addS
  rw [any_key]
  by_cases hs : s ∈ ks
  · rw [if_pos (by simpa using hs), if_pos hs]
    rw [List.map_map]
    refine List.map_congr_left fun k hk => ?_
    show (if keyOf (PyData.str k) = some (.inr s) then (PyData.str k, PyData.bool true) else (PyData.str k, PyData.bool true)) = _
    split <;> rfl
  · rw [if_neg (by simpa using hs), if_neg hs, List.map_append]
    rfl
theorem setD_sorted {ks : List Str} (h : ks.length < 64) : fSorted [setD ks] = some (.new (.list ((sortStr ks).map .str))) := by
  unfold fSorted setD
  dsimp only
  rw [List.length_map, if_pos h, List.map_map]
  rw [show ((fun x : D × D => x.1) ∘ fun k : Str => (PyData.str k, PyData.bool true)) = PyData.str from rfl, sortDs_str h]
  rfl
def mAllNames : Nat → ME
 | 0 => fun _ => .fail
 | n + 1 => fnSem 1 3
   (sSeq (sIf (tVal (eOp2 pyEq (eOp2 pyAt (eVar 0) (eC (.int 0))) (eC (.str "is"))))
   (sRet (eUse mkLst (aCons (eOp2 pyAt (eVar 0) (eC (.int 1))) aNil)))
   sNil)
   (sSeq (sSet 1 (eUse mkLst aNil))
   (sSeq (sFor (iSeq (eSlice (eVar 0) (oSome (eC (.int 1))) oNone)) (gN 2)
   (sSet 1 (eOp2 pyAdd (eVar 1) (eCall 1 [true] (mAllNames n) (aCons (eVar 2) aNil)))))
   (sRet (eVar 1)))))
def mNamesOf : ME := fnSem 1 3
   (sSeq (sSet 1 (fun ρ => .ok (.new (.dict [])) ρ))
   (sSeq (sFor (iSeq (eCall 1 [true] (mAllNames 7) (aCons (eVar 0) aNil))) (gN 2)
   (sPutD 1 (eVar 2) (eC (.bool true))))
   (sRet (eBlt fSorted (aCons (eVar 1) aNil)))))
def mLawNamesOf : Nat → ME
 | 0 => fun _ => .fail
 | n + 1 => fnSem 1 4
   (sSeq (sIf (tVal (eOp2 pyEq (eOp2 pyAt (eVar 0) (eC (.int 0))) (eC (.str "is"))))
   (sRet (eUse mkLst (aCons (eOp2 pyAt (eVar 0) (eC (.int 1))) aNil)))
   sNil)
   (sSeq (sSet 1 (eUse mkLst aNil))
   (sSeq (sFor (iSeq (eSlice (eVar 0) (oSome (eC (.int 1))) oNone)) (gN 2)
   (sSet 1 (eOp2 pyAdd (eVar 1) (eComp [3] (iSeq (eCall 1 [true] (mLawNamesOf n) (aCons (eVar 2) aNil))) (gN 3) (tVal (eOp2 (orf pyNotIn pyNotInK) (eVar 3) (eVar 1))) (eVar 3)))))
   (sRet (eBlt fSorted (aCons (eVar 1) aNil))))))
def mRuleLeaf : MS :=
   (sSeq (sIf (tOrM (tVal (eOp2 pyEq (eCall 2 [true, true] mDraw (aCons (eVar 0) (aCons (eC (.int 12)) aNil))) (eC (.int 0)))) (tVal (eOp2 pyEq (eBlt fLen (aCons (eVar 1) aNil)) (eC (.int 0)))))
   (sRet (eOp2 pyAt (eUse mkLst (aCons (eUse mkTup (aCons (eC (.str "yes")) aNil)) (aCons (eUse mkTup (aCons (eC (.str "no")) aNil)) aNil))) (eCall 2 [true, true] mDraw (aCons (eVar 0) (aCons (eC (.int 2)) aNil)))))
   sNil)
   (sRet (eUse mkTup (aCons (eC (.str "is")) (aCons (eOp2 pyAt (eVar 1) (eCall 2 [true, true] mDraw (aCons (eVar 0) (aCons (eBlt fLen (aCons (eVar 1) aNil)) aNil)))) aNil)))))
def mRuleRest (f : ME) : MS :=
   (sSeq (sSet 4 (eCall 3 [true, true, true] f (aCons (eVar 0) (aCons (eVar 1) (aCons (eOp2 pySub (eVar 2) (eC (.int 1))) aNil)))))
   (sSeq (sIf (tVal (eOp2 pyLt (eVar 3) (eC (.int 4))))
   (sRet (eUse mkTup (aCons (eC (.str "not")) (aCons (eVar 4) aNil))))
   sNil)
   (sRet (eUse mkTup (aCons (eOp2 pyAt (eUse mkLst (aCons (eC (.str "and")) (aCons (eC (.str "or")) (aCons (eC (.str "then")) (aCons (eC (.str "same")) aNil))))) (eOp2 pySub (eVar 3) (eC (.int 4)))) (aCons (eVar 4) (aCons (eCall 3 [true, true, true] f (aCons (eVar 0) (aCons (eVar 1) (aCons (eOp2 pySub (eVar 2) (eC (.int 1))) aNil)))) aNil)))))))
def mLawRule : Nat → ME
 | 0 => fun _ => .fail
 | n + 1 => fnSem 3 5
   (sSeq (sSet 3 (eCall 2 [true, true] mDraw (aCons (eVar 0) (aCons (eC (.int 8)) aNil))))
   (sSeq (sIf (tOrM (tVal (eOp2 pyEq (eVar 2) (eC (.int 1)))) (tVal (eOp2 pyLt (eVar 3) (eC (.int 2))))) mRuleLeaf sNil)
   (mRuleRest (mLawRule n))))
def mWordC (j : Nat) (k : MA) : ME := eComp [j] (iRng k) (gN j) tTrue (eOp2 pyAt (eVar 2) (eCall 2 [true, true] mDraw (aCons (eVar 0) (aCons (eC (.int 26)) aNil))))
def mNames0 : MS :=
   (sSeq (sSet 10 (eCall 2 [true, true] mDraw (aCons (eVar 0) (aCons (eC (.int 13)) aNil))))
   (sRet (eComp [9] (iRng (aCons (eVar 1) aNil)) (gN 9) tTrue (eOp2 pyAt (eVar 3) (eOp2 pyMod (eOp2 pyAdd (eVar 10) (eOp2 pyMul (eC (.int 5)) (eVar 9))) (eC (.int 13)))))))
def mNames3L : MS :=
   (sSeq (sSet 12 (eOp2 pyJoin (eC (.str "")) (mWordC 13 (aCons (eOp2 pyAdd (eC (.int 1)) (eCall 2 [true, true] mDraw (aCons (eVar 0) (aCons (eC (.int 8)) aNil)))) aNil))))
   (sSeq (sIf (tVal (eOp2 (orf pyIn pyInK) (eVar 12) (eVar 5)))
   (sSet 12 (eOp2 pyAt (lkd 3 (eComp [14] (iLst (eVar 3)) (gN 14) (tVal (eOp2 (orf pyNotIn pyNotInK) (eVar 14) (eVar 5))) (eVar 14))) (eC (.int 0))))
   sNil)
   (sExp (eMut 5 mAppend (aCons (eVar 12) aNil)))))
def mNames3 : MS :=
   (sSeq (sFor (iRng (aCons (eVar 1) aNil)) (gN 9)
     mNames3L)
   (sRet (eVar 5)))
def mNames1 : MS :=
   (sSeq (sSet 10 (eCall 2 [true, true] mDraw (aCons (eVar 0) (aCons (eC (.int 8)) aNil))))
   (sRet (eComp [9] (iRng (aCons (eVar 1) aNil)) (gN 9) tTrue (eSlice (eVar 6) oNone (oSome (eOp2 pyAdd (eOp2 pyMod (eOp2 pyAdd (eVar 10) (eOp2 pyMul (eC (.int 3)) (eVar 9))) (eC (.int 8))) (eC (.int 1))))))))
def mNames2L : MS :=
   (sSeq (sSet 11 (eOp2 pyAt (eVar 2) (eOp2 pyMod (eOp2 pyAdd (eVar 8) (eOp2 pyMul (eC (.int 7)) (eVar 9))) (eC (.int 26)))))
   (sSeq (sSet 12 (eOp2 pyAdd (eOp2 pyAdd (eSlice (eVar 6) oNone (oSome (eVar 7))) (eVar 11)) (eSlice (eVar 6) (oSome (eOp2 pyAdd (eVar 7) (eC (.int 1)))) oNone)))
   (sExp (eMut 5 mAppend (aCons (eSlice (eVar 12) oNone (oSome (eOp2 pyAdd (eOp2 pyAdd (eVar 7) (eC (.int 1))) (eCall 2 [true, true] mDraw (aCons (eVar 0) (aCons (eOp2 pySub (eC (.int 8)) (eVar 7)) aNil)))))) aNil)))))
def mNames2 : MS :=
   (sSeq (sSet 7 (eCall 2 [true, true] mDraw (aCons (eVar 0) (aCons (eC (.int 8)) aNil))))
   (sSeq (sSet 8 (eCall 2 [true, true] mDraw (aCons (eVar 0) (aCons (eC (.int 26)) aNil))))
   (sSeq (sFor (iRng (aCons (eVar 1) aNil)) (gN 9)
     mNames2L)
   (sRet (eVar 5)))))
def mNamesR : MS :=
   (sSeq (sSet 6 (eOp2 pyJoin (eC (.str "")) (mWordC 9 (aCons (eC (.int 8)) aNil))))
   (sSeq (sIf (tVal (eOp2 pyEq (eVar 4) (eC (.int 1)))) mNames1 sNil)
     mNames2))
def mLawNames : ME := fnSem 2 15
   (sSeq (sSet 2 (eC (.str "abcdefghijklmnopqrstuvwxyz")))
   (sSeq (sSet 3 (eUse mkLst (aCons (eC (.str "is")) (aCons (eC (.str "not")) (aCons (eC (.str "and")) (aCons (eC (.str "or")) (aCons (eC (.str "then")) (aCons (eC (.str "same")) (aCons (eC (.str "yes")) (aCons (eC (.str "no")) (aCons (eC (.str "say")) (aCons (eC (.str "fix")) (aCons (eC (.str "isa")) (aCons (eC (.str "nota")) (aCons (eC (.str "a")) aNil)))))))))))))))
   (sSeq (sSet 4 (eCall 2 [true, true] mDraw (aCons (eVar 0) (aCons (eC (.int 4)) aNil))))
   (sSeq (sIf (tVal (eOp2 pyEq (eVar 4) (eC (.int 0)))) mNames0 sNil)
   (sSeq (sSet 5 (eUse mkLst aNil))
   (sSeq (sIf (tVal (eOp2 pyEq (eVar 4) (eC (.int 3)))) mNames3 sNil)
     mNamesR))))))
theorem sz (n : Nat) (h : n ≤ 1000) : n ≤ sizeLine := by rw [sizeLine_eq]; omega
theorem all_names_eq : ∀ (n : Nat) (r : Ru), r.dep ≤ n → r.dep ≤ 7 → mAllNames n [.dat r.toD] = .ok (.new (.list (r.names.map .str))) [.dat r.toD]
  | 0, r, h, _ => by cases r <;> simp [Ru.dep] at h
  | n + 1, .is s, _, _ => by
    have : wp (mAllNames (n + 1) [.dat (Ru.is s).toD]) (fun o ρ => o = .new (.list ((Ru.is s).names.map .str)) ∧ ρ = [.dat (Ru.is s).toD]) NoX := by
      unfold mAllNames
      simp_arith [Ru.toD, Ru.names]
    obtain ⟨o, ρ, e, rfl, rfl⟩ := wp_out this
    exact e
  | n + 1, .yes, _, _ => by
    have : wp (mAllNames (n + 1) [.dat Ru.yes.toD]) (fun o ρ => o = .new (.list (Ru.yes.names.map .str)) ∧ ρ = [.dat Ru.yes.toD]) NoX := by
      unfold mAllNames
      simp_arith [Ru.toD, Ru.names]
    obtain ⟨o, ρ, e, rfl, rfl⟩ := wp_out this
    exact e
  | n + 1, .no, _, _ => by
    have : wp (mAllNames (n + 1) [.dat Ru.no.toD]) (fun o ρ => o = .new (.list (Ru.no.names.map .str)) ∧ ρ = [.dat Ru.no.toD]) NoX := by
      unfold mAllNames
      simp_arith [Ru.toD, Ru.names]
    obtain ⟨o, ρ, e, rfl, rfl⟩ := wp_out this
    exact e
  | n + 1, .not r, h, h7 => by
    have ih := all_names_eq n r (by simp only [Ru.dep] at h; omega) (by simp only [Ru.dep] at h7; omega)
    have hl := (Ru.not r).len
    have hp : 2 ^ ((Ru.not r).dep - 1) ≤ 2 ^ 6 := Nat.pow_le_pow_right (by decide) (by omega)
    have hl : r.names.length ≤ 64 := Nat.le_trans hl hp
    have : wp (mAllNames (n + 1) [.dat (Ru.not r).toD]) (fun o' ρ => o' = .new (.list ((Ru.not r).names.map .str)) ∧ ρ = [.dat (Ru.not r).toD]) NoX := by
      unfold mAllNames
      simp_arith [Ru.toD, Ru.names, ih, show r.names.length ≤ 16777216 by omega]
    obtain ⟨o, ρ, e, rfl, rfl⟩ := wp_out this
    exact e
  | n + 1, .two o a b, h, h7 => by
    have ia := all_names_eq n a (by simp only [Ru.dep] at h; omega) (by simp only [Ru.dep] at h7; omega)
    have ib := all_names_eq n b (by simp only [Ru.dep] at h; omega) (by simp only [Ru.dep] at h7; omega)
    have hl := (Ru.two o a b).len
    have hp : 2 ^ ((Ru.two o a b).dep - 1) ≤ 2 ^ 6 := Nat.pow_le_pow_right (by decide) (by omega)
    have hl : (a.names ++ b.names).length ≤ 64 := Nat.le_trans hl hp
    rw [List.length_append] at hl
    have : wp (mAllNames (n + 1) [.dat (Ru.two o a b).toD]) (fun o' ρ => o' = .new (.list ((Ru.two o a b).names.map .str)) ∧ ρ = [.dat (Ru.two o a b).toD]) NoX := by
      unfold mAllNames
      simp_arith [Ru.toD, Ru.names, ia, ib, show a.names.length ≤ 16777216 by omega, show a.names.length + b.names.length ≤ 16777216 by omega]
    obtain ⟨o, ρ, e, rfl, rfl⟩ := wp_out this
    exact e
theorem names_of_eq (r : Ru) (h7 : r.dep ≤ 6) : mNamesOf [.dat r.toD] = .ok (.new (.list ((canon r.names).map .str))) [.dat r.toD] := by
  have e := all_names_eq 7 r (by omega) (by omega)
  have hl : r.names.length ≤ 2 ^ 5 := Nat.le_trans r.len (Nat.pow_le_pow_right (by decide) (by omega))
  have : wp (mNamesOf [.dat r.toD]) (fun o' ρ => o' = .new (.list ((canon r.names).map .str)) ∧ ρ = [.dat r.toD]) NoX := by
    unfold mNamesOf
    simp_arith [e]
    refine wp_for (fun i ρ => ∃ s2, ρ = [.dat r.toD, .own (setD ((r.names.take i).foldl addS [])), s2] ∧ free ρ 2 = true) ⟨.un, rfl, rfl⟩ (fun i d ρ hd hI => ?_) fun ρ hI => ?_
    · obtain ⟨s2, rfl, hf⟩ := hI
      rw [List.getElem?_map, Option.map_eq_some_iff] at hd
      obtain ⟨s, hs, rfl⟩ := hd
      refine ⟨[.dat r.toD, .own (setD ((r.names.take i).foldl addS [])), .dat (.str s)], ?_, ?_⟩
      · unfold gN
        rw [if_pos hf]
        rfl
      · have hk : ((r.names.take i).foldl addS []).length < sizeLine := by
          have := (dd_go (r.names.take i) [] .nil).2.2
          have h2 : (r.names.take i).length ≤ r.names.length := by rw [List.length_take]; omega
          rw [sizeLine_eq]
          simp only [List.length_nil] at this
          omega
        have hp := setD_put (s := s) hk
        have isd : isDct [.dat r.toD, .own (setD ((r.names.take i).foldl addS [])), .dat (.str s)] 1 = true := rfl
        have hn : (r.names.take (i + 1)).foldl addS [] = addS ((r.names.take i).foldl addS []) s := by
          rw [List.take_add_one, hs, List.foldl_append]
          rfl
        simp_arith [isd, putD, hp]
        refine ⟨rfl, ?_⟩
        rw [hn]
    · obtain ⟨s2, rfl, hf⟩ := hI
      have hk : (r.names.take ((r.names.map PyData.str).length)) = r.names := by rw [List.length_map, List.take_length]
      rw [hk]
      have hs := setD_sorted (ks := r.names.foldl addS []) (by have := dd_len r.names; unfold dd at this; omega)
      simp_arith [hs]
      rfl
  obtain ⟨o, ρ, e, rfl, rfl⟩ := wp_out this
  exact e
theorem comp_fresh {acc ss : List Str} {R p : D} {s3 : Slot} (h1 : ∀ s ∈ acc, Nm s) (h2 : ∀ s ∈ ss, Nm s) (hl : ss.length < 1000) {QO : Opd → Rho → Prop} {X : Ex → Rho → Prop}
    (h : QO (.new (.list ((fresh acc ss).map .str))) [.dat R, .own (.list (acc.map .str)), .dat p, s3]) :
    wp (compL [3] (gN 3) (tVal (eOp2 (orf pyNotIn pyNotInK) (eVar 3) (eVar 1))) (eVar 3) (ss.map .str) [] [.dat R, .own (.list (acc.map .str)), .dat p, s3]) QO X := by
  refine wp_cmp (fun i out ρ => out = (fresh acc (ss.take i)).map .str ∧ ρ = [.dat R, .own (.list (acc.map .str)), .dat p, s3]) ⟨rfl, rfl⟩ (fun i d out ρ hd hI => ?_) fun out ρ hI => ?_
  · obtain ⟨rfl, rfl⟩ := hI
    rw [List.getElem?_map, Option.map_eq_some_iff] at hd
    obtain ⟨s, hs, rfl⟩ := hd
    refine ⟨[.dat R, .own (.list (acc.map .str)), .dat p, .dat (.str s)], rfl, ?_⟩
    have hm := List.mem_of_getElem? hs
    have hin := in_names (h2 s hm) h1
    have hn : fresh acc (ss.take (i + 1)) = fresh acc (ss.take i) ++ (if s ∈ acc then [] else [s]) := by
      unfold fresh
      rw [List.take_add_one, hs, List.filter_append]
      by_cases z : s ∈ acc <;> simp [z]
    have hlen : (fresh acc (ss.take i)).length < 16777216 := by
      have := List.length_filter_le (fun s => decide (s ∉ acc)) (ss.take i)
      unfold fresh
      rw [List.length_take] at this
      omega
    by_cases z : s ∈ acc
    · simp_arith [hin, z, hn]
    · simp_arith [hin, z, hn, hlen]
      exact ⟨_, _, ⟨rfl, rfl⟩, rfl, rfl⟩
  · obtain ⟨rfl, rfl⟩ := hI
    rw [List.length_map, List.take_length]
    exact h
theorem fresh_nil (ss : List Str) : fresh [] ss = ss := by unfold fresh; simp
theorem fresh_mem {acc ss : List Str} {s : Str} : s ∈ fresh acc ss ↔ s ∈ ss ∧ s ∉ acc := by unfold fresh; simp
theorem fresh_nodup {acc ss : List Str} (h : ss.Nodup) : (fresh acc ss).Nodup := h.sublist List.filter_sublist
theorem fresh_len (acc ss : List Str) : (fresh acc ss).length ≤ ss.length := List.length_filter_le _ _
theorem app_nodup {acc ss : List Str} (h : acc.Nodup) (h2 : ss.Nodup) : (acc ++ fresh acc ss).Nodup := List.nodup_append.mpr ⟨h, fresh_nodup h2, fun a ha b hb => by rintro rfl; exact (fresh_mem.mp hb).2 ha⟩
theorem canon_nm {ss : List Str} (h : ∀ s ∈ ss, Nm s) : ∀ s ∈ canon ss, Nm s := fun s hs => h s (canon_mem.mp hs)
theorem law_names_of_eq : ∀ (n : Nat) (r : Ru), r.dep ≤ n → r.dep ≤ 6 → r.ok → mLawNamesOf n [.dat r.toD] = .ok (.new (.list ((canon r.names).map .str))) [.dat r.toD]
  | 0, r, h, _, _ => by cases r <;> simp [Ru.dep] at h
  | n + 1, .is s, _, _, _ => by
    have : wp (mLawNamesOf (n + 1) [.dat (Ru.is s).toD]) (fun o ρ => o = .new (.list ((canon (Ru.is s).names).map .str)) ∧ ρ = [.dat (Ru.is s).toD]) NoX := by
      unfold mLawNamesOf
      simp_arith [Ru.toD, Ru.names, show canon [s] = [s] from sort_one s]
    obtain ⟨o, ρ, e, rfl, rfl⟩ := wp_out this
    exact e
  | n + 1, .yes, _, _, _ => by
    have : wp (mLawNamesOf (n + 1) [.dat Ru.yes.toD]) (fun o ρ => o = .new (.list ((canon Ru.yes.names).map .str)) ∧ ρ = [.dat Ru.yes.toD]) NoX := by
      unfold mLawNamesOf
      simp_arith [Ru.toD, Ru.names, fSorted, sortDs, intsOf, sortInt, canon, dd, sortStr]
    obtain ⟨o, ρ, e, rfl, rfl⟩ := wp_out this
    exact e
  | n + 1, .no, _, _, _ => by
    have : wp (mLawNamesOf (n + 1) [.dat Ru.no.toD]) (fun o ρ => o = .new (.list ((canon Ru.no.names).map .str)) ∧ ρ = [.dat Ru.no.toD]) NoX := by
      unfold mLawNamesOf
      simp_arith [Ru.toD, Ru.names, fSorted, sortDs, intsOf, sortInt, canon, dd, sortStr]
    obtain ⟨o, ρ, e, rfl, rfl⟩ := wp_out this
    exact e
  | n + 1, .not r, h, h7, ok => by
    have ih := law_names_of_eq n r (by simp only [Ru.dep] at h; omega) (by simp only [Ru.dep] at h7; omega) ok
    have hl := (Ru.not r).len
    have hp : 2 ^ ((Ru.not r).dep - 1) ≤ 2 ^ 5 := Nat.pow_le_pow_right (by decide) (by omega)
    have hl : r.names.length ≤ 32 := Nat.le_trans hl hp
    have hc := canon_len r.names
    have this : wp (mLawNamesOf (n + 1) [.dat (Ru.not r).toD]) (fun o' ρ => o' = .new (.list ((canon (Ru.not r).names).map .str)) ∧ ρ = [.dat (Ru.not r).toD]) NoX := by
      unfold mLawNamesOf
      simp_arith [Ru.toD, Ru.names, ih]
      refine comp_fresh (acc := []) (ss := canon r.names) (fun s h => by cases h) (canon_nm ok) (by omega) ?_
      rw [fresh_nil]
      have hs : fSorted [.list ((canon r.names).map .str)] = some (.new (.list ((canon r.names).map .str))) := by
        unfold fSorted
        dsimp only
        rw [sortDs_str (by omega), canon_of (canon_nodup _) fun s => canon_mem]
        rfl
      simp_arith [hs, show (canon r.names).length ≤ 16777216 by omega, Ru.names]
    obtain ⟨o, ρ, e, rfl, rfl⟩ := wp_out this
    exact e
  | n + 1, .two o a b, h, h7, ok => by
    have oka : a.ok := fun s hs => ok s (List.mem_append_left _ hs)
    have okb : b.ok := fun s hs => ok s (List.mem_append_right _ hs)
    have ia := law_names_of_eq n a (by simp only [Ru.dep] at h; omega) (by simp only [Ru.dep] at h7; omega) oka
    have ib := law_names_of_eq n b (by simp only [Ru.dep] at h; omega) (by simp only [Ru.dep] at h7; omega) okb
    have hl := (Ru.two o a b).len
    have hp : 2 ^ ((Ru.two o a b).dep - 1) ≤ 2 ^ 5 := Nat.pow_le_pow_right (by decide) (by omega)
    have hl : (a.names ++ b.names).length ≤ 32 := Nat.le_trans hl hp
    rw [List.length_append] at hl
    have ha := canon_len a.names
    have hb := canon_len b.names
    have hf := fresh_len (canon a.names) (canon b.names)
    have this : wp (mLawNamesOf (n + 1) [.dat (Ru.two o a b).toD]) (fun o' ρ => o' = .new (.list ((canon (Ru.two o a b).names).map .str)) ∧ ρ = [.dat (Ru.two o a b).toD]) NoX := by
      unfold mLawNamesOf
      simp_arith [Ru.toD, Ru.names, ia]
      refine comp_fresh (acc := []) (ss := canon a.names) (fun s h => by cases h) (canon_nm oka) (by omega) ?_
      rw [fresh_nil]
      simp_arith [show (canon a.names).length ≤ 16777216 by omega, ib]
      refine comp_fresh (acc := canon a.names) (ss := canon b.names) (canon_nm oka) (canon_nm okb) (by omega) ?_
      have hs : fSorted [.list ((canon a.names ++ fresh (canon a.names) (canon b.names)).map .str)] = some (.new (.list ((canon (a.names ++ b.names)).map .str))) := by
        unfold fSorted
        dsimp only
        rw [sortDs_str (by rw [List.length_append]; omega), canon_of (app_nodup (canon_nodup _) (canon_nodup _)) fun s => ?_]
        · rfl
        · rw [List.mem_append, fresh_mem, canon_mem, canon_mem, List.mem_append]
          constructor
          · rintro (h | h)
            · exact .inl h
            · exact .inr h.1
          · rintro (h | h)
            · exact .inl h
            · by_cases z : s ∈ a.names
              · exact .inl z
              · exact .inr ⟨h, z⟩
      rw [List.map_append] at hs
      simp_arith [hs, show (canon a.names).length + (fresh (canon a.names) (canon b.names)).length ≤ 16777216 by omega, Ru.names]
    obtain ⟨o, ρ, e, rfl, rfl⟩ := wp_out this
    exact e
theorem at_map (ss : List Str) (i : Int) (h0 : 0 ≤ i) (h1 : i < ss.length) : ∃ s, s ∈ ss ∧ atI (ss.map PyData.str) i = some (.str s) := by
  obtain ⟨s, hs⟩ : ∃ s, ss[i.toNat]? = some s := ⟨_, List.getElem?_eq_getElem (by omega)⟩
  refine ⟨s, List.mem_of_getElem? hs, ?_⟩
  unfold atI ixN
  rw [if_pos h0, List.length_map, if_pos h1]
  show (ss.map PyData.str)[i.toNat]? = _
  rw [List.getElem?_map, hs]
  rfl
theorem rule_leaf {deep : Int} {d : D} {ss : List Str} {s3 s4 : Slot} {O : Opd → Rho → Prop} {N : Rho → Prop} {X : Ex → Rho → Prop} (hd : Hand d) (hl : ss.length ≤ 1000)
    (k : ∀ r d', Hand d' → r.dep = 1 → (∀ s ∈ r.names, s ∈ ss) → O (.val (Ru.toD r)) [.par d', .par (.list (ss.map .str)), .dat (.int deep), s3, s4]) :
    wp (mRuleLeaf [.par d, .par (.list (ss.map .str)), .dat (.int deep), s3, s4]) (kf N (kr O)) X := by
  unfold mRuleLeaf
  simp_arith
  refine wp_draw hd (by decide) (by decide) fun w d hd w0 w1 => ?_
  simp_arith
  by_cases e : w = 0
  · simp_arith [e]
    refine wp_draw hd (by decide) (by decide) fun w d hd w0 w1 => ?_
    have hw : w = 0 ∨ w = 1 := by omega
    rcases hw with rfl | rfl
    · simp_arith
      exact k .yes d hd rfl (fun s h => by cases h)
    · simp_arith
      exact k .no d hd rfl (fun s h => by cases h)
  · simp_arith [e]
    by_cases e2 : ss = []
    · simp_arith [e2]
      subst e2
      refine wp_draw hd (by decide) (by decide) fun w d hd w0 w1 => ?_
      have hw : w = 0 ∨ w = 1 := by omega
      rcases hw with rfl | rfl
      · simp_arith
        exact k .yes d hd rfl (fun s h => by cases h)
      · simp_arith
        exact k .no d hd rfl (fun s h => by cases h)
    · have hp : 0 < ss.length := by cases ss with | nil => exact absurd rfl e2 | cons _ _ => simp
      simp_arith [e2]
      refine wp_draw hd (by omega) (by omega) fun w d hd w0 w1 => ?_
      obtain ⟨s, hs, ha⟩ := at_map ss w w0 w1
      simp -dsimp -implicitDefEqProofs [Dl.T.odd, Dl.vI, Dl.vB, Dl.vS, Dl.run2, Dl.run1, Dl.deref, Dl.Slot.data?, Dl.Slot.tree?, Dl.T.toD, Dl.toDs, Dl.useO, Dl.useAll, Dl.boolOf, Dl.putO, Dl.free, Dl.outO, Dl.withAll, Dl.runN, Dl.derefs, Dl.mutO, Dl.isLst, Dl.isDct, Dl.putI, Dl.putD, Dl.setI, Dl.augO, Dl.getI, Dl.slotOf, Dl.slotsOf, Dl.lents, Dl.takeB, Dl.backS, Dl.useSel, Dl.back, Dl.gd, Dl.pyIx, ixN, Dl.pyGet, Dl.pyMul, Dl.pyAdd, Dl.pyEq, Dl.pyNe, Dl.mulOk, Dl.powOk, Dl.pySlice, Dl.fLen, Dl.fList, Dl.fTuple, Dl.mAppend, Dl.mReverse, Dl.mClear, Dl.mExtend, Dl.mInsert, Dl.mkTup, Dl.mkLst, Dl.pyIsN, Dl.pyNotN, Dl.fNeg, Dl.pyRev, Dl.gN, Dl.gsNil, Dl.gsCons, Dl.gT, Dl.srcL, Dl.srcT, Dl.srcS, Dl.srcQ, Dl.srcR1, Dl.srcR2, Dl.hide, Dl.restore, sizeLine_eq, Dl.lockS, ha]
      exact k (.is s) d hd rfl (fun t h => by rw [List.mem_singleton.mp h]; exact hs)
theorem law_rule : ∀ (n : Nat) (deep : Int) (d : D) (ss : List Str) {Q : Opd → Rho → Prop} {X : Ex → Rho → Prop}, deep ≤ n → 1 ≤ deep → Hand d → ss.length ≤ 1000 →
    (∀ r d', Hand d' → (r.dep : Int) ≤ deep → (∀ s ∈ r.names, s ∈ ss) → Q (.val (Ru.toD r)) [.par d', .par (.list (ss.map .str)), .dat (.int deep)]) →
    wp (mLawRule n [.par d, .par (.list (ss.map .str)), .dat (.int deep)]) Q X
  | 0, deep, d, ss, Q, X, h, h1, _, _, _ => by omega
  | n + 1, deep, d, ss, Q, X, h, h1, hd, hl, k => by
    unfold mLawRule
    simp_arith
    refine wp_draw hd (by decide) (by decide) fun w d hd w0 w1 => ?_
    simp_arith
    by_cases e : deep = 1
    · simp_arith [e]
      subst e
      exact rule_leaf hd hl fun r d' h2 h3 h4 => k r d' h2 (by omega) h4
    · simp_arith [e]
      by_cases e2 : w < 2
      · simp_arith [e2]
        exact rule_leaf hd hl fun r d' h2 h3 h4 => k r d' h2 (by omega) h4
      · simp_arith [e2, mRuleRest]
        refine law_rule n (deep - 1) d ss (by omega) (by omega) hd hl fun r d hd h2 h3 => ?_
        simp_arith
        by_cases e3 : w < 4
        · simp_arith [e3]
          exact k (.not r) d hd (by simp only [Ru.dep]; omega) h3
        · simp_arith [e3]
          have hw : w = 4 ∨ w = 5 ∨ w = 6 ∨ w = 7 := by omega
          have fin : ∀ o : Op4, ∀ r2 d', Hand d' → (r2.dep : Int) ≤ deep - 1 → (∀ s ∈ r2.names, s ∈ ss) → Q (.val (Ru.toD (.two o r r2))) [.par d', .par (.list (ss.map .str)), .dat (.int deep)] := fun o r2 d' hd' h4 h5 =>
            k (.two o r r2) d' hd' (by simp only [Ru.dep]; omega) (fun s h => (List.mem_append.mp h).elim (h3 s) (h5 s))
          rcases hw with rfl | rfl | rfl | rfl
          all_goals
            (simp_arith
             refine law_rule n (deep - 1) d ss (by omega) (by omega) hd hl fun r2 d2 hd2 h4 h5 => ?_
             simp_arith)
          · exact fin .and r2 d2 hd2 h4 h5
          · exact fin .or r2 d2 hd2 h4 h5
          · exact fin .thn r2 d2 hd2 h4 h5
          · exact fin .same r2 d2 hd2 h4 h5
abbrev abc : Str := "abcdefghijklmnopqrstuvwxyz"
theorem abc_len : abc.cps.toList.length = 26 := by decide +kernel
theorem okL_nil : okL [] := fun c h => by cases h
theorem okL_app {a b : List Nat} (ha : okL a) (hb : okL b) : okL (a ++ b) := fun c h => (List.mem_append.mp h).elim (ha c) (hb c)
theorem Gd.snoc {ss : List Str} {s : Str} (g : Gd ss) (h : Lw s) (n : s ∉ ss) : Gd (ss ++ [s]) :=
  ⟨List.nodup_append.mpr ⟨g.nd, by simp, fun a ha b hb => by rintro rfl; rw [List.mem_singleton.mp hb] at ha; exact n ha⟩, fun t ht => (List.mem_append.mp ht).elim (g.lw t) fun z => by rw [List.mem_singleton.mp z]; exact h⟩
theorem abc_list : abc.cps.toList = List.range' 97 26 := by decide +kernel
theorem at_abc {i : Int} (h0 : 0 ≤ i) (h1 : i < 26) : ∃ c, ((97 ≤ c ∧ c ≤ 122) ∧ c = 97 + i.toNat) ∧ pyAt (.str abc) (.int i) = some (.val (.str (one c))) := by
  refine ⟨97 + i.toNat, ⟨by omega, rfl⟩, ?_⟩
  have ha : atI abc.cps.toList i = some (97 + i.toNat) := by
    unfold atI ixN
    rw [if_pos h0, if_pos (by rw [abc_len]; exact h1), abc_list]
    show (List.range' 97 26)[i.toNat]? = _
    rw [List.getElem?_range' (by omega)]
    simp
  have hl : abc.length ≤ sizeLine := by rw [sizeLine_eq]; decide +kernel
  unfold pyAt orf pyIx
  dsimp only
  rw [if_pos hl, ha]
  rfl
abbrev range0 (k : Nat) : List D := (List.range k).map fun k : Nat => .int (k : Int)
theorem range_at {k i : Nat} {d : D} (h : (range0 k)[i]? = some d) : d = .int i ∧ i < k := by
  rw [List.getElem?_map, Option.map_eq_some_iff] at h
  obtain ⟨j, hj, rfl⟩ := h
  obtain ⟨h1, h2⟩ := List.getElem?_eq_some_iff.mp hj
  rw [List.getElem_range] at h2
  subst h2
  exact ⟨rfl, by simpa using h1⟩
theorem word_comp9 {d : D} {n : Int} {t3 t4 t5 t6 t7 t8 t9 t10 t11 t12 t13 t14 : Slot} {k : Nat} {QO : Opd → Rho → Prop} {X : Ex → Rho → Prop} (hd : Hand d) (hk : k ≤ 16)
    (h : ∀ cs d, Hand d → okL cs → cs.length = k → QO (.new (.list ((cs.map one).map .str))) [.par d, .dat (.int n), .dat (.str abc), t3, t4, t5, t6, t7, t8, t9, t10, t11, t12, t13, t14]) :
    wp (compL [9] (gN 9) tTrue (eOp2 pyAt (eVar 2) (eCall 2 [true, true] mDraw (aCons (eVar 0) (aCons (eC (.int 26)) aNil)))) (range0 k) [] [.par d, .dat (.int n), .dat (.str abc), t3, t4, t5, t6, t7, t8, t9, t10, t11, t12, t13, t14]) QO X := by
  refine wp_cmp (fun i acc ρ => ∃ cs d, Hand d ∧ okL cs ∧ cs.length = i ∧ acc = (cs.map one).map .str ∧ ρ = [.par d, .dat (.int n), .dat (.str abc), t3, t4, t5, t6, t7, t8, t9, t10, t11, t12, t13, t14]) ⟨[], d, hd, okL_nil, rfl, rfl, rfl⟩ (fun i x acc ρ hx hI => ?_) fun acc ρ hI => ?_
  · obtain ⟨cs, d, hd, ho, hl, rfl, rfl⟩ := hI
    obtain ⟨rfl, hi⟩ := range_at hx
    refine ⟨[.par d, .dat (.int n), .dat (.str abc), t3, t4, t5, t6, t7, t8, .dat (.int i), t10, t11, t12, t13, t14], rfl, ?_⟩
    simp_arith
    refine wp_draw hd (by decide) (by decide) fun w d hd w0 w1 => ?_
    obtain ⟨c, hc, ha⟩ := at_abc w0 w1
    simp_arith [ha]
    refine ⟨_, _, ⟨rfl, rfl⟩, by omega, cs ++ [c], ⟨d, hd, okL_app ho (fun a h => by rw [List.mem_singleton.mp h]; exact hc.1), by rw [List.length_append, hl]; rfl, ?_⟩⟩
    simp
  · obtain ⟨cs, d, hd, ho, hl, rfl, rfl⟩ := hI
    exact h cs d hd ho (by rw [hl]; simp)
theorem word_comp13 {d : D} {n : Int} {t3 t4 t5 t6 t7 t8 t9 t10 t11 t12 t13 t14 : Slot} {k : Nat} {QO : Opd → Rho → Prop} {X : Ex → Rho → Prop} (hd : Hand d) (hk : k ≤ 16)
    (h : ∀ cs d, Hand d → okL cs → cs.length = k → QO (.new (.list ((cs.map one).map .str))) [.par d, .dat (.int n), .dat (.str abc), t3, t4, t5, t6, t7, t8, t9, t10, t11, t12, t13, t14]) :
    wp (compL [13] (gN 13) tTrue (eOp2 pyAt (eVar 2) (eCall 2 [true, true] mDraw (aCons (eVar 0) (aCons (eC (.int 26)) aNil)))) (range0 k) [] [.par d, .dat (.int n), .dat (.str abc), t3, t4, t5, t6, t7, t8, t9, t10, t11, t12, t13, t14]) QO X := by
  refine wp_cmp (fun i acc ρ => ∃ cs d, Hand d ∧ okL cs ∧ cs.length = i ∧ acc = (cs.map one).map .str ∧ ρ = [.par d, .dat (.int n), .dat (.str abc), t3, t4, t5, t6, t7, t8, t9, t10, t11, t12, t13, t14]) ⟨[], d, hd, okL_nil, rfl, rfl, rfl⟩ (fun i x acc ρ hx hI => ?_) fun acc ρ hI => ?_
  · obtain ⟨cs, d, hd, ho, hl, rfl, rfl⟩ := hI
    obtain ⟨rfl, hi⟩ := range_at hx
    refine ⟨[.par d, .dat (.int n), .dat (.str abc), t3, t4, t5, t6, t7, t8, t9, t10, t11, t12, .dat (.int i), t14], rfl, ?_⟩
    simp_arith
    refine wp_draw hd (by decide) (by decide) fun w d hd w0 w1 => ?_
    obtain ⟨c, hc, ha⟩ := at_abc w0 w1
    simp_arith [ha]
    refine ⟨_, _, ⟨rfl, rfl⟩, by omega, cs ++ [c], ⟨d, hd, okL_app ho (fun a h => by rw [List.mem_singleton.mp h]; exact hc.1), by rw [List.length_append, hl]; rfl, ?_⟩⟩
    simp
  · obtain ⟨cs, d, hd, ho, hl, rfl, rfl⟩ := hI
    exact h cs d hd ho (by rw [hl]; simp)
abbrev tongue : List Str := ["is", "not", "and", "or", "then", "same", "yes", "no", "say", "fix", "isa", "nota", "a"]
theorem tongue_nm : ∀ s ∈ tongue, Nm s := by
  have h : tongue.all (fun s => s.cps.toList.all (fun c => decide (c < 1114112)) && decide (s.cps.toList.length ≤ 64)) = true := by decide +kernel
  intro s hs
  have := List.all_eq_true.mp h s hs
  simp only [Bool.and_eq_true, List.all_eq_true, decide_eq_true_eq] at this
  exact ⟨this.1, this.2⟩
theorem tongue_nodup : tongue.Nodup := by decide +kernel
def frS (s : Slot) : Bool := free [s] 0
theorem at_map2 (ss : List Str) (i : Int) (h0 : 0 ≤ i) (h1 : i < ss.length) : ∃ s, s ∈ ss ∧ atI (ss.map PyData.str) i = some (.str s) ∧ ss[i.toNat]? = some s := by
  obtain ⟨s, hs⟩ : ∃ s, ss[i.toNat]? = some s := ⟨_, List.getElem?_eq_getElem (by omega)⟩
  refine ⟨s, List.mem_of_getElem? hs, ?_, hs⟩
  unfold atI ixN
  rw [if_pos h0, List.length_map, if_pos h1]
  show (ss.map PyData.str)[i.toNat]? = _
  rw [List.getElem?_map, hs]
  rfl
theorem tongue_lw : ∀ s ∈ tongue, Lw s := by
  have h : tongue.all (fun s => s.cps.toList.all (fun c => decide (97 ≤ c) && decide (c ≤ 122)) && (decide (1 ≤ s.cps.toList.length) && decide (s.cps.toList.length ≤ 8))) = true := by decide +kernel
  intro s hs
  have := List.all_eq_true.mp h s hs
  simp only [Bool.and_eq_true, List.all_eq_true, decide_eq_true_eq] at this
  exact ⟨this.2.1, this.2.2, this.1⟩
theorem tongue_inj {a b : Nat} {s : Str} (ha : tongue[a]? = some s) (hb : tongue[b]? = some s) (la : a < 13) (lb : b < 13) : a = b := by
  have h : ∀ a : Fin 13, ∀ b : Fin 13, tongue[a.val]? = tongue[b.val]? → a = b := by decide +kernel
  exact congrArg Fin.val (h ⟨a, la⟩ ⟨b, lb⟩ (ha.trans hb.symm))
theorem names0 {d : D} {n : Int} {t4 : Slot} {tg : List D} (htg : tg = tongue.map .str) {O : Opd → Rho → Prop} {N : Rho → Prop} {X : Ex → Rho → Prop} (hd : Hand d) (h0 : 0 ≤ n) (h1 : n ≤ 1000)
    (h : ∀ (ss : List Str) (d : D) (r : Rho), Hand d → (∀ s ∈ ss, Nm s) → (n ≤ 8 → Gd ss) → (ss.length : Int) = n → O (.new (.list (ss.map .str))) (.par d :: .dat (.int n) :: r)) : wp (mNames0 [.par d, .dat (.int n), .dat (.str abc), .own (.list tg), t4, .un, .un, .un, .un, .un, .un, .un, .un, .un, .un]) (kf N (kr O)) X := by
  unfold mNames0
  simp_arith
  refine wp_draw hd (by decide) (by decide) fun w d hd w0 w1 => ?_
  simp_arith [show -(4611686018427387904 : Int) ≤ n by omega, show n < 4611686018427387904 by omega]
  refine wp_cmp (fun i acc ρ => ∃ ss : List Str, (∀ s ∈ ss, Nm s) ∧ (n ≤ 8 → Gd ss ∧ ∀ s ∈ ss, ∃ k, k < i ∧ tongue[(w + 5 * (k : Int)).toNat % 13]? = some s) ∧ ss.length = i ∧ acc = ss.map .str ∧ ρ = [.par d, .dat (.int n), .dat (.str abc), .own (.list tg), t4, .un, .un, .un, .un, .un, .dat (.int w), .un, .un, .un, .un]) ⟨[], fun s h => (by cases h), fun _ => ⟨Gd.nil, fun s h => (by cases h)⟩, rfl, rfl, rfl⟩ (fun i x acc ρ hx hI => ?_) fun acc ρ hI => ?_
  · obtain ⟨ss, hn, hg, hl, rfl, rfl⟩ := hI
    obtain ⟨rfl, hi⟩ := range_at hx
    refine ⟨[.par d, .dat (.int n), .dat (.str abc), .own (.list tg), t4, .un, .un, .un, .un, .dat (.int i), .dat (.int w), .un, .un, .un, .un], rfl, ?_⟩
    have z0 : 0 ≤ (w + 5 * (i : Int)) % 13 := Int.emod_nonneg _ (by decide)
    have z1 : (w + 5 * (i : Int)) % 13 < 13 := Int.emod_lt_of_pos _ (by decide)
    obtain ⟨s, hs, ha, hq⟩ := at_map2 tongue ((w + 5 * (i : Int)) % 13) z0 (by have : tongue.length = 13 := rfl; omega)
    rw [← htg] at ha
    simp -dsimp -implicitDefEqProofs [Dl.T.odd, Dl.vI, Dl.vB, Dl.vS, Dl.run2, Dl.run1, Dl.deref, Dl.Slot.data?, Dl.Slot.tree?, Dl.T.toD, Dl.toDs, Dl.useO, Dl.useAll, Dl.boolOf, Dl.putO, Dl.free, Dl.outO, Dl.withAll, Dl.runN, Dl.derefs, Dl.mutO, Dl.isLst, Dl.isDct, Dl.putI, Dl.putD, Dl.setI, Dl.augO, Dl.getI, Dl.slotOf, Dl.slotsOf, Dl.lents, Dl.takeB, Dl.backS, Dl.useSel, Dl.back, Dl.gd, Dl.pyIx, Dl.pyGet, Dl.pyMul, Dl.pyAdd, Dl.pyEq, Dl.pyNe, Dl.mulOk, Dl.powOk, Dl.pySlice, Dl.fLen, Dl.fList, Dl.fTuple, Dl.mAppend, Dl.mReverse, Dl.mClear, Dl.mExtend, Dl.mInsert, Dl.mkTup, Dl.mkLst, Dl.pyIsN, Dl.pyNotN, Dl.fNeg, Dl.pyRev, Dl.gN, Dl.gsNil, Dl.gsCons, Dl.gT, Dl.srcL, Dl.srcT, Dl.srcS, Dl.srcQ, Dl.srcR1, Dl.srcR2, Dl.hide, Dl.restore, sizeLine_eq, Dl.lockS, ha]
    refine ⟨_, _, ⟨rfl, rfl⟩, by omega, ss ++ [s], fun t ht => ?_, fun h8 => ?_, by simp [hl], by simp, rfl⟩
    rcases List.mem_append.mp ht with ht | ht
    · exact hn t ht
    · rw [List.mem_singleton.mp ht]; exact tongue_nm s hs
    · obtain ⟨g, f⟩ := hg h8
      have e : ((w + 5 * (i : Int)) % 13).toNat = (w + 5 * (i : Int)).toNat % 13 := by omega
      rw [e] at hq
      refine ⟨g.snoc (tongue_lw s hs) fun z => ?_, fun t ht => ?_⟩
      · obtain ⟨k, hk, q⟩ := f s z
        have := tongue_inj hq q (by omega) (by omega)
        omega
      · rcases List.mem_append.mp ht with ht | ht
        · obtain ⟨k, hk, q⟩ := f t ht
          exact ⟨k, by omega, q⟩
        · rw [List.mem_singleton.mp ht]; exact ⟨i, by omega, hq⟩
  · obtain ⟨ss, hn, hg, hl, rfl, rfl⟩ := hI
    simp_arith
    exact h ss d _ hd hn (fun h8 => (hg h8).1) (by rw [hl]; simp; omega)
theorem cut_pre (s : Str) {j : Int} (h : 0 ≤ j) : (cutS s none (some j)).cps.toList = s.cps.toList.take j.toNat := by
  unfold cutS HT.sIx
  dsimp only
  rw [if_neg (by omega)]
  simp only [List.drop_zero, Nat.sub_zero, List.toList_toArray]
  have e : s.length = s.cps.toList.length := Array.length_toList.symm
  rw [e, Nat.min_comm, ← List.take_take]
  exact List.take_of_length_le (by rw [List.length_take]; omega)
theorem cut_suf (s : Str) {j : Int} (h : 0 ≤ j) : (cutS s (some j) none).cps.toList = s.cps.toList.drop j.toNat := by
  unfold cutS HT.sIx
  dsimp only
  rw [if_neg (by omega)]
  have e : s.length = s.cps.toList.length := Array.length_toList.symm
  rw [e]
  by_cases q : j.toNat ≤ s.cps.toList.length
  · rw [Nat.min_eq_left q]
    exact List.take_of_length_le (by rw [List.length_drop]; omega)
  · rw [Nat.min_eq_right (by omega), List.drop_length, List.drop_of_length_le (by omega)]
    simp
theorem nm_cut {s : Str} (h : Nm s) (lo hi : Option Int) : Nm (cutS s lo hi) := by
  unfold cutS
  refine ⟨fun c hc => h.ok c ?_, ?_⟩
  · simp only [List.toList_toArray] at hc
    exact List.mem_of_mem_drop (List.mem_of_mem_take hc)
  · have := h.len
    have e : s.cps.toList.length = s.cps.size := Array.length_toList
    simp only [List.toList_toArray, List.length_take, List.length_drop]
    omega
theorem cut_len (s : Str) (lo hi : Option Int) : (cutS s lo hi).cps.toList.length ≤ s.cps.toList.length := by
  unfold cutS
  simp only [List.toList_toArray, List.length_take, List.length_drop]
  omega
theorem Nm.size {s : Str} (h : Nm s) : s.length ≤ 64 := by
  have := h.len
  show s.cps.size ≤ 64
  simpa using this
theorem nm_add {a b : Str} (ha : Nm a) (hb : Nm b) (h : a.cps.toList.length + b.cps.toList.length ≤ 64) : Nm (a ++ b) := by
  have e : (a ++ b).cps.toList = a.cps.toList ++ b.cps.toList := by
    show (a.cps ++ b.cps).toList = _
    simp
  exact ⟨by rw [e]; exact okC_app ha.ok hb.ok, by rw [e, List.length_append]; exact h⟩
theorem add_len (a b : Str) : (a ++ b).cps.toList.length = a.cps.toList.length + b.cps.toList.length := by
  show (a.cps ++ b.cps).toList.length = _
  simp
theorem nm_one {c : Nat} (h : c < 1114112) : Nm (one c) := ⟨fun a ha => by rw [show a = c from by simpa [one] using ha]; exact h, by simp [one]⟩
theorem names1 {d : D} {n : Int} {t4 t5 : Slot} {wd : Str} (hw : Nm wd) (hL : okL wd.cps.toList) (h8 : wd.cps.toList.length = 8) {tg : List D} {O : Opd → Rho → Prop} {N : Rho → Prop} {X : Ex → Rho → Prop} (hd : Hand d) (h0 : 0 ≤ n) (h1 : n ≤ 1000)
    (h : ∀ (ss : List Str) (d : D) (r : Rho), Hand d → (∀ s ∈ ss, Nm s) → (n ≤ 8 → Gd ss) → (ss.length : Int) = n → O (.new (.list (ss.map .str))) (.par d :: .dat (.int n) :: r)) : wp (mNames1 [.par d, .dat (.int n), .dat (.str abc), .own (.list tg), t4, t5, .dat (.str wd), .un, .un, .un, .un, .un, .un, .un, .un]) (kf N (kr O)) X := by
  unfold mNames1
  simp_arith
  refine wp_draw hd (by decide) (by decide) fun w d hd w0 w1 => ?_
  simp_arith [show -(4611686018427387904 : Int) ≤ n by omega, show n < 4611686018427387904 by omega]
  refine wp_cmp (fun i acc ρ => ∃ ss : List Str, (∀ s ∈ ss, Nm s) ∧ (n ≤ 8 → Gd ss ∧ ∀ s ∈ ss, ∃ k : Nat, k < i ∧ s.cps.toList.length = ((w + 3 * (k : Int)) % 8 + 1).toNat) ∧ ss.length = i ∧ acc = ss.map .str ∧ ρ = [.par d, .dat (.int n), .dat (.str abc), .own (.list tg), t4, t5, .dat (.str wd), .un, .un, .un, .dat (.int w), .un, .un, .un, .un]) ⟨[], fun s h => (by cases h), fun _ => ⟨Gd.nil, fun s h => (by cases h)⟩, rfl, rfl, rfl⟩ (fun i x acc ρ hx hI => ?_) fun acc ρ hI => ?_
  · obtain ⟨ss, hn, hg, hl, rfl, rfl⟩ := hI
    obtain ⟨rfl, hi⟩ := range_at hx
    refine ⟨[.par d, .dat (.int n), .dat (.str abc), .own (.list tg), t4, t5, .dat (.str wd), .un, .un, .dat (.int i), .dat (.int w), .un, .un, .un, .un], rfl, ?_⟩
    have hz := hw.size
    simp_arith [show wd.length ≤ 16777216 by omega]
    refine ⟨_, _, ⟨rfl, rfl⟩, by omega, ss ++ [cutS wd none (some ((w + 3 * (i : Int)) % 8 + 1))], fun t ht => ?_, fun n8 => ?_, by simp [hl], by simp, rfl⟩
    rcases List.mem_append.mp ht with ht | ht
    · exact hn t ht
    · rw [List.mem_singleton.mp ht]; exact nm_cut hw _ _
    · obtain ⟨g, f⟩ := hg n8
      have ec := cut_pre wd (j := (w + 3 * (i : Int)) % 8 + 1) (by omega)
      have el : (cutS wd none (some ((w + 3 * (i : Int)) % 8 + 1))).cps.toList.length = ((w + 3 * (i : Int)) % 8 + 1).toNat := by
        rw [ec, List.length_take]
        omega
      refine ⟨g.snoc ⟨by omega, by omega, fun c hc => hL c (by rw [ec] at hc; exact List.mem_of_mem_take hc)⟩ fun z => ?_, fun t ht => ?_⟩
      · obtain ⟨k, hk, q⟩ := f _ z
        omega
      · rcases List.mem_append.mp ht with ht | ht
        · obtain ⟨k, hk, q⟩ := f t ht
          exact ⟨k, by omega, q⟩
        · rw [List.mem_singleton.mp ht]; exact ⟨i, by omega, el⟩
  · obtain ⟨ss, hn, hg, hl, rfl, rfl⟩ := hI
    simp_arith
    exact h ss d _ hd hn (fun n8 => (hg n8).1) (by rw [hl]; simp; omega)
theorem names2 {d : D} {n : Int} {t4 : Slot} {wd : Str} (hw : Nm wd) (hL : okL wd.cps.toList) (h8 : wd.cps.toList.length = 8) (hw2 : wd.cps.toList.length ≤ 16) {tg : List D} {O : Opd → Rho → Prop} {N : Rho → Prop} {X : Ex → Rho → Prop} (hd : Hand d) (h0 : 0 ≤ n) (h1 : n ≤ 1000)
    (h : ∀ (ss : List Str) (d : D) (r : Rho), Hand d → (∀ s ∈ ss, Nm s) → (n ≤ 8 → Gd ss) → (ss.length : Int) = n → O (.new (.list (ss.map .str))) (.par d :: .dat (.int n) :: r)) : wp (mNames2 [.par d, .dat (.int n), .dat (.str abc), .own (.list tg), t4, .own (.list []), .dat (.str wd), .un, .un, .un, .un, .un, .un, .un, .un]) (kf N (kr O)) X := by
  unfold mNames2
  simp_arith
  refine wp_draw hd (by decide) (by decide) fun sp d hd p0 p1 => ?_
  simp_arith
  refine wp_draw hd (by decide) (by decide) fun st d hd q0 q1 => ?_
  simp_arith [show -(4611686018427387904 : Int) ≤ n by omega, show n < 4611686018427387904 by omega]
  obtain ⟨I, eI⟩ : ∃ I : Nat → Rho → Prop, I = fun i ρ => ∃ (ss : List Str) (d : D) (s9 s11 s12 : Slot), Hand d ∧ (∀ s ∈ ss, Nm s) ∧ (n ≤ 8 → Gd ss ∧ ∀ s ∈ ss, ∃ k : Nat, k < i ∧ s.cps.toList[sp.toNat]? = some (97 + ((st + 7 * (k : Int)) % 26).toNat)) ∧ ss.length = i ∧ (frS s9 = true ∧ frS s11 = true ∧ frS s12 = true) ∧ ρ = [.par d, .dat (.int n), .dat (.str abc), .own (.list tg), t4, .own (.list (ss.map .str)), .dat (.str wd), .dat (.int sp), .dat (.int st), s9, .un, s11, s12, .un, .un] := ⟨_, rfl⟩
  refine wp_for I (by rw [eI]; exact ⟨[], d, .un, .un, .un, hd, fun s h => (by cases h), fun _ => ⟨Gd.nil, fun s h => (by cases h)⟩, rfl, ⟨rfl, rfl, rfl⟩, rfl⟩) (fun i x ρ hx hI => ?_) fun ρ hI => ?_
  · rw [eI] at hI
    obtain ⟨ss, d, s9, s11, s12, hd, hn, hg, hl, ⟨f9, f11, f12⟩, rfl⟩ := hI
    obtain ⟨rfl, hi⟩ := range_at hx
    simp only [frS, free, List.getElem?_cons_zero] at f9 f11 f12
    refine ⟨[.par d, .dat (.int n), .dat (.str abc), .own (.list tg), t4, .own (.list (ss.map .str)), .dat (.str wd), .dat (.int sp), .dat (.int st), .dat (.int i), .un, s11, s12, .un, .un], ?_, ?_⟩
    · simp_arith [f9]
    have hz := hw.size
    have z0 : 0 ≤ (st + 7 * (i : Int)) % 26 := Int.emod_nonneg _ (by decide)
    have z1 : (st + 7 * (i : Int)) % 26 < 26 := Int.emod_lt_of_pos _ (by decide)
    obtain ⟨c, ⟨hc1, hc2⟩, ha⟩ := at_abc z0 z1
    have hc : c < 1114112 := by omega
    have n1 : Nm (cutS wd none (some sp) ++ one c) := nm_add (nm_cut hw _ _) (nm_one hc) (by have := cut_len wd none (some sp); have : (one c).cps.toList.length = 1 := rfl; omega)
    have n2 : Nm (cutS wd none (some sp) ++ one c ++ cutS wd (some (sp + 1)) none) := nm_add n1 (nm_cut hw _ _) (by
      have := cut_len wd none (some sp)
      have := cut_len wd (some (sp + 1)) none
      have : (one c).cps.toList.length = 1 := rfl
      rw [add_len]
      omega)
    have l1 := (nm_cut hw none (some sp)).size
    have l2 := (nm_one hc).size
    have l3 := n1.size
    have l4 := (nm_cut hw (some (sp + 1)) none).size
    have l5 := n2.size
    unfold mNames2L
    simp_arith [ha, f11, f12, show wd.length ≤ 16777216 by omega, show (cutS wd none (some sp)).length + (one c).length ≤ 16777216 by omega, show (cutS wd none (some sp) ++ one c).length + (cutS wd (some (sp + 1)) none).length ≤ 16777216 by omega]
    refine wp_draw (n := 8 - sp) hd (by omega) (by omega) fun e d hd e0 e1 => ?_
    simp_arith [show (cutS wd none (some sp) ++ one c ++ cutS wd (some (sp + 1)) none).length ≤ 16777216 by omega, show ss.length < 16777216 by omega]
    rw [eI]
    refine ⟨ss ++ [cutS (cutS wd none (some sp) ++ one c ++ cutS wd (some (sp + 1)) none) none (some (sp + 1 + e))], d, _, _, _, hd, fun t ht => ?_, fun n8 => ?_, by simp [hl], ⟨rfl, rfl, rfl⟩, by rw [List.map_append]; rfl⟩
    rcases List.mem_append.mp ht with ht | ht
    · exact hn t ht
    · rw [List.mem_singleton.mp ht]; exact nm_cut n2 _ _
    · obtain ⟨g, f⟩ := hg n8
      obtain ⟨nw, enw⟩ : ∃ nw, nw = cutS (cutS wd none (some sp) ++ one c ++ cutS wd (some (sp + 1)) none) none (some (sp + 1 + e)) := ⟨_, rfl⟩
      rw [← enw]
      have ec : nw.cps.toList = (wd.cps.toList.take sp.toNat ++ [c] ++ wd.cps.toList.drop (sp + 1).toNat).take (sp + 1 + e).toNat := by
        rw [enw, cut_pre _ (by omega)]
        congr 1
        show ((cutS wd none (some sp)).cps ++ (one c).cps ++ (cutS wd (some (sp + 1)) none).cps).toList = _
        rw [Array.toList_append, Array.toList_append, cut_pre _ p0, cut_suf _ (by omega)]
        rfl
      have lt : (wd.cps.toList.take sp.toNat).length = sp.toNat := by rw [List.length_take]; omega
      have el : nw.cps.toList.length = (sp + 1 + e).toNat := by
        rw [ec, List.length_take, List.length_append, List.length_append, lt, List.length_drop, List.length_singleton]
        omega
      have ea : nw.cps.toList[sp.toNat]? = some c := by
        rw [ec, List.getElem?_take, if_pos (by omega), List.append_assoc, List.getElem?_append_right (by omega), lt]
        simp
      refine ⟨g.snoc ⟨by omega, by omega, fun x hx => ?_⟩ fun z => ?_, fun t ht => ?_⟩
      · rw [ec] at hx
        have hx := List.mem_of_mem_take hx
        simp only [List.mem_append, List.mem_singleton] at hx
        rcases hx with (hx | hx) | hx
        · exact hL x (List.mem_of_mem_take hx)
        · rw [hx]; exact hc1
        · exact hL x (List.mem_of_mem_drop hx)
      · obtain ⟨k, hk, q⟩ := f _ z
        rw [ea] at q
        have q := Option.some.inj q
        omega
      · rcases List.mem_append.mp ht with ht | ht
        · obtain ⟨k, hk, q⟩ := f t ht
          exact ⟨k, by omega, q⟩
        · rw [List.mem_singleton.mp ht]; exact ⟨i, by omega, by rw [ea, hc2]⟩
  · rw [eI] at hI
    obtain ⟨ss, d, s9, s11, s12, hd, hn, hg, hl, _, rfl⟩ := hI
    simp_arith
    exact h ss d _ hd hn (fun n8 => (hg n8).1) (by rw [hl]; simp; omega)
theorem fresh14 {d : D} {n : Int} {t4 s9 s12 : Slot} {tg : List D} {ss : List Str} (h1 : ∀ s ∈ ss, Nm s) {QO : Opd → Rho → Prop} {X : Ex → Rho → Prop}
    (h : QO (.new (.list ((fresh ss tongue).map .str))) [.par d, .dat (.int n), .dat (.str abc), .lck (.list tg), t4, .own (.list (ss.map .str)), .un, .un, .un, s9, .un, .un, s12, .un, .un]) :
    wp (compL [14] (gN 14) (tVal (eOp2 (orf pyNotIn pyNotInK) (eVar 14) (eVar 5))) (eVar 14) (tongue.map .str) [] [.par d, .dat (.int n), .dat (.str abc), .lck (.list tg), t4, .own (.list (ss.map .str)), .un, .un, .un, s9, .un, .un, s12, .un, .un]) QO X := by
  obtain ⟨I, eI⟩ : ∃ I : Nat → List D → Rho → Prop, I = fun i out ρ => out = (fresh ss (tongue.take i)).map .str ∧ ρ = [.par d, .dat (.int n), .dat (.str abc), .lck (.list tg), t4, .own (.list (ss.map .str)), .un, .un, .un, s9, .un, .un, s12, .un, .un] := ⟨_, rfl⟩
  refine wp_cmp I (by rw [eI]; exact ⟨rfl, rfl⟩) (fun i d' out ρ hd hI => ?_) fun out ρ hI => ?_
  · rw [eI] at hI
    obtain ⟨rfl, rfl⟩ := hI
    rw [List.getElem?_map, Option.map_eq_some_iff] at hd
    obtain ⟨s, hs, rfl⟩ := hd
    refine ⟨[.par d, .dat (.int n), .dat (.str abc), .lck (.list tg), t4, .own (.list (ss.map .str)), .un, .un, .un, s9, .un, .un, s12, .un, .dat (.str s)], rfl, ?_⟩
    have hm := List.mem_of_getElem? hs
    have hin := in_names (tongue_nm s hm) h1
    have hn : fresh ss (tongue.take (i + 1)) = fresh ss (tongue.take i) ++ (if s ∈ ss then [] else [s]) := by
      unfold fresh
      rw [List.take_add_one, hs, List.filter_append]
      by_cases z : s ∈ ss <;> simp [z]
    have hlen : (fresh ss (tongue.take i)).length < 16777216 := by
      have := List.length_filter_le (fun s => decide (s ∉ ss)) (tongue.take i)
      have e : tongue.length = 13 := rfl
      unfold fresh
      rw [List.length_take] at this
      omega
    by_cases z : s ∈ ss
    · simp_arith [hin, z]
      rw [eI]
      exact ⟨by rw [hn, if_pos z, List.append_nil], rfl⟩
    · simp_arith [hin, z, hlen]
      refine ⟨_, _, ⟨rfl, rfl⟩, ?_⟩
      rw [eI]
      exact ⟨by rw [hn, if_neg z, List.map_append]; rfl, rfl⟩
  · rw [eI] at hI
    obtain ⟨rfl, rfl⟩ := hI
    exact h
theorem some_fresh {ss : List Str} (h : ss.length < 13) : ∃ s r, fresh ss tongue = s :: r ∧ s ∈ tongue ∧ s ∉ ss := by
  cases e : fresh ss tongue with
  | nil =>
    exfalso
    have sub : tongue ⊆ ss := fun s hs => by
      by_cases z : s ∈ ss
      · exact z
      · have : s ∈ fresh ss tongue := fresh_mem.mpr ⟨hs, z⟩
        rw [e] at this
        cases this
    have := tongue_nodup.length_le_of_subset sub
    have e : tongue.length = 13 := rfl
    omega
  | cons s r => exact ⟨s, r, rfl, (fresh_mem.mp (show s ∈ fresh ss tongue by rw [e]; exact List.mem_cons_self))⟩
theorem names3 {d : D} {n : Int} {t4 : Slot} {tg : List D} (htg : tg = tongue.map .str) {O : Opd → Rho → Prop} {N : Rho → Prop} {X : Ex → Rho → Prop} (hd : Hand d) (h0 : 0 ≤ n) (h1 : n ≤ 13)
    (h : ∀ (ss : List Str) (d : D) (r : Rho), Hand d → (∀ s ∈ ss, Nm s) → (n ≤ 8 → Gd ss) → (ss.length : Int) = n → O (.new (.list (ss.map .str))) (.par d :: .dat (.int n) :: r)) : wp (mNames3 [.par d, .dat (.int n), .dat (.str abc), .own (.list tg), t4, .own (.list []), .un, .un, .un, .un, .un, .un, .un, .un, .un]) (kf N (kr O)) X := by
  unfold mNames3
  simp_arith [show -(4611686018427387904 : Int) ≤ n by omega, show n < 4611686018427387904 by omega]
  obtain ⟨I, eI⟩ : ∃ I : Nat → Rho → Prop, I = fun i ρ => ∃ (ss : List Str) (d : D) (s9 s12 : Slot), Hand d ∧ (∀ s ∈ ss, Nm s) ∧ (n ≤ 8 → Gd ss) ∧ ss.length = i ∧ (frS s9 = true ∧ frS s12 = true) ∧ ρ = [.par d, .dat (.int n), .dat (.str abc), .own (.list tg), t4, .own (.list (ss.map .str)), .un, .un, .un, s9, .un, .un, s12, .un, .un] := ⟨_, rfl⟩
  refine wp_for I (by rw [eI]; exact ⟨[], d, .un, .un, hd, fun s h => (by cases h), fun _ => Gd.nil, rfl, ⟨rfl, rfl⟩, rfl⟩) (fun i x ρ hx hI => ?_) fun ρ hI => ?_
  · rw [eI] at hI
    obtain ⟨ss, d, s9, s12, hd, hn, hg, hl, ⟨f9, f12⟩, rfl⟩ := hI
    obtain ⟨rfl, hi⟩ := range_at hx
    simp only [frS, free, List.getElem?_cons_zero] at f9 f12
    refine ⟨[.par d, .dat (.int n), .dat (.str abc), .own (.list tg), t4, .own (.list (ss.map .str)), .un, .un, .un, .dat (.int i), .un, .un, s12, .un, .un], ?_, ?_⟩
    · simp_arith [f9]
    unfold mNames3L mWordC
    simp_arith
    refine wp_draw hd (by decide) (by decide) fun w d hd w0 w1 => ?_
    simp_arith [show -(4611686018427387904 : Int) ≤ 1 + w by omega, show 1 + w < 4611686018427387904 by omega]
    refine word_comp13 hd (by omega) fun cs d hd ho hc => ?_
    have j := join_py cs (by omega)
    have hw : Nm (Txt.join "" (cs.map one)) := nm_join ho.c (by omega)
    have hlw : Lw (Txt.join "" (cs.map one)) := ⟨by rw [join_ones]; omega, by rw [join_ones]; omega, by rw [join_ones]; exact ho⟩
    have hin := in_names hw hn
    generalize Txt.join "" (cs.map one) = wd at *
    simp only [List.map_map] at j
    simp_arith [j, f12, hin]
    have hss : ss.length < 16777216 := by omega
    by_cases z : wd ∈ ss
    · simp_arith [z]
      rw [htg]
      refine fresh14 hn ?_
      obtain ⟨s, r, e, hs, hns⟩ := some_fresh (ss := ss) (by omega)
      rw [e]
      simp_arith [hss]
      rw [eI]
      refine ⟨ss ++ [s], d, _, _, hd, fun t ht => ?_, fun n8 => (hg n8).snoc (tongue_lw s hs) hns, by simp [hl], ⟨rfl, rfl⟩, by rw [List.map_append, htg]; rfl⟩
      rcases List.mem_append.mp ht with ht | ht
      · exact hn t ht
      · rw [List.mem_singleton.mp ht]; exact tongue_nm s hs
    · simp_arith [z, hss]
      rw [eI]
      refine ⟨ss ++ [wd], d, _, _, hd, fun t ht => ?_, fun n8 => (hg n8).snoc hlw z, by simp [hl], ⟨rfl, rfl⟩, by rw [List.map_append]; rfl⟩
      rcases List.mem_append.mp ht with ht | ht
      · exact hn t ht
      · rw [List.mem_singleton.mp ht]; exact hw
  · rw [eI] at hI
    obtain ⟨ss, d, s9, s12, hd, hn, hg, hl, _, rfl⟩ := hI
    simp_arith
    exact h ss d _ hd hn hg (by rw [hl]; simp; omega)
theorem law_names {d : D} {n : Int} {Q : Opd → Rho → Prop} {X : Ex → Rho → Prop} (hd : Hand d) (h0 : 0 ≤ n) (h1 : n ≤ 13)
    (h : ∀ (ss : List Str) (d : D), Hand d → (∀ s ∈ ss, Nm s) → (n ≤ 8 → Gd ss) → (ss.length : Int) = n → Q (.new (.list (ss.map .str))) [.par d, .dat (.int n)]) : wp (mLawNames [.par d, .dat (.int n)]) Q X := by
  unfold mLawNames
  simp_arith
  refine wp_draw hd (by decide) (by decide) fun w d hd w0 w1 => ?_
  obtain ⟨tg, htg⟩ : ∃ tg : List D, tg = tongue.map .str := ⟨_, rfl⟩
  have htg' := htg.symm
  simp only [tongue, List.map_cons, List.map_nil] at htg'
  simp_arith [htg']
  by_cases e0 : w = 0
  · simp_arith [e0, htg']
    exact names0 htg hd h0 (by omega) fun ss d r hd hn hg hl => h ss d hd hn hg hl
  · simp_arith [e0, htg']
    by_cases e3 : w = 3
    · simp_arith [e3, htg']
      exact names3 htg hd h0 h1 fun ss d r hd hn hg hl => h ss d hd hn hg hl
    · simp_arith [e3, htg', mNamesR, mWordC]
      refine word_comp9 hd (by decide) fun cs d hd ho hc => ?_
      have j := join_py cs (by omega)
      have hw : Nm (Txt.join "" (cs.map one)) := nm_join ho.c (by omega)
      have hL : okL (Txt.join "" (cs.map one)).cps.toList := by rw [join_ones]; exact ho
      have h8 : (Txt.join "" (cs.map one)).cps.toList.length = 8 := by rw [join_ones]; exact hc
      have hw2 : (Txt.join "" (cs.map one)).cps.toList.length ≤ 16 := by rw [join_ones]; omega
      generalize Txt.join "" (cs.map one) = wd at *
      simp only [List.map_map] at j
      simp_arith [j]
      by_cases e1 : w = 1
      · simp_arith [e1]
        exact names1 hw hL h8 hd h0 (by omega) fun ss d r hd hn hg hl => h ss d hd hn hg hl
      · simp_arith [e1]
        exact names2 hw hL h8 hw2 hd h0 (by omega) fun ss d r hd hn hg hl => h ss d hd hn hg hl
def fDict : List D → Option Opd
  | [.dict ps] => some (.new (.dict ps))
  | _ => none
theorem snd_dict {K : PySem.W.Frag} : SndC K (fun xs H Q => ∃ (a : Addr) (kvs : List (Key × V)), xs = [.ref a] ∧ Rd H a (.dK kvs) ∧ ∀ p, H p = none → Q (.ref p) (upd H p (.dK kvs))) fDict := by
  intro F H vs ds o Q s c hf k
  match ds, hf, c with
  | [.dict ps], hf, c =>
    cases hf
    cases c with
    | cons c1 r =>
      cases r
      obtain ⟨a, kvs, rfl, hh, r⟩ := c1.dict s
      refine ⟨a, kvs, rfl, hh, fun p np => ?_⟩
      obtain ⟨f, g, _⟩ := upd_fresh (K := K) (o := .dK kvs) s np trivial
      exact k _ _ _ g ⟨p, rfl, np, f, kvs, upd_same, r⟩
def fMin2 : List D → Option Opd
  | [.int i, .int j] => some (.val (.int (if j < i then j else i)))
  | _ => none
theorem two_ints {K : PySem.W.Frag} {F H : Hp} {vs : List V} {i j : Int} (c : Paired (Ct K F H) vs [.int i, .int j]) : vs = [.int i, .int j] := by
  cases c with
  | cons c1 r => cases r with
    | cons c2 r => cases r; cases c1.int; cases c2.int; rfl
theorem snd_min2 {K : PySem.W.Frag} : SndC K (fun xs H Q => ∃ i j, xs = [.int i, .int j] ∧ Q (.int (if j < i then j else i)) H) fMin2 := by
  intro F H vs ds o Q s c hf k
  match ds, hf, c with
  | [.int i, .int j], hf, c =>
    cases hf
    exact ⟨i, j, two_ints c, same s (.int _) k⟩
def pyEqK (d e : D) : Option Opd := match d, e with
  | .dict ps, .dict qs => gd (alike ps qs) (vB true)
  | _, _ => none
def rKK (r : Bool) : R2 := fun x y H Q => ∃ a b ks ls, x = .ref a ∧ y = .ref b ∧ Rd H a (.dK ks) ∧ Rd H b (.dK ls) ∧ ks.length = ls.length ∧ (∀ p ∈ ks, valV ls p.1 = some p.2 ∧ flatB p.2 = true) ∧ Q (.bl r) H
section
variable {X : Cx}
theorem op_eqK (hu : X.A.units < cLine) : OpR X (compareOp .Eq) (rKK true) := by
  intro pins s σ H x y v u Q I rx ry h
  obtain ⟨a, b, ks, ls, rfl, rfl, ea, eb, hlen, hp, q⟩ := h
  obtain rfl : v = Value.ref a := rx
  obtain rfl : u = Value.ref b := ry
  obtain ⟨_, ya, va, ra, da⟩ := dk_rd I.hok ea
  obtain ⟨_, yb, vb, rb, db⟩ := dk_rd I.hok eb
  have hl : va.length = vb.length := by rw [← ra.length, ← rb.length]; exact hlen
  exact PySem.W.keq_eq (knd := mixKind X.prog X.w) (r := true) ya yb da db hu (fun _ => hits_all rb ra hp) (fin_bl I q (by simp [hl]))
end
theorem same_flat {K : PySem.W.Frag} {F : Hp} {v w : V} {d e : D} (hv : Rp K F v d) (hw : Rp K F w e) (h : sameF d e = true) : v = w ∧ flatB v = true := by
  cases d <;> cases e <;> first | (cases h; done) | (cases hv; cases hw; first | exact ⟨rfl, rfl⟩ | (have := (beq_iff_eq ..).mp h; subst this; exact ⟨rfl, rfl⟩))
theorem alike_rel {K : PySem.W.Frag} {F : Hp} {qs : List (D × D)} {ls : List (Key × V)} (r' : RpD K F ls qs) : ∀ {ks : List (Key × V)} {ps : List (D × D)}, RpD K F ks ps → (ps.all fun p => match keyOf p.1 with
    | some κ => (match dlook qs κ with
      | some d => sameF p.2 d
      | none => false)
    | none => false) = true → ∀ p ∈ ks, valV ls p.1 = some p.2 ∧ flatB p.2 = true
  | [], _, _, _, p, hp => by cases hp
  | _ :: _, [], r, _, _, _ => by cases r
  | (k, v) :: ks, (c, d) :: ps, r, h, p, hp => by
    obtain ⟨e, hd, r2⟩ := r.key
    subst e
    rw [List.all_cons, Bool.and_eq_true, keyOf_D] at h
    rcases List.mem_cons.mp hp with rfl | hp
    · obtain ⟨h1, _⟩ := h
      dsimp only at h1
      obtain ⟨l1, l2⟩ := look_rel (k := k) r'
      cases ed : dlook qs k with
      | none => rw [ed] at h1; cases h1
      | some d' =>
        rw [ed] at h1
        obtain ⟨w, hw, rw'⟩ := l1 d' ed
        obtain ⟨e1, e2⟩ := same_flat hd rw' h1
        exact ⟨by rw [hw, e1], e2⟩
    · exact alike_rel r' r2 h.2 p hp
theorem snd_KK {K : PySem.W.Frag} (r : Bool) : Snd2 K (rKK r) (fun d e => match d, e with
    | .dict ps, .dict qs => gd (alike ps qs) (vB r)
    | _, _ => none) := by
  intro F H v w d e o Q s cv cw hf k
  cases d <;> cases e <;> try (cases hf; done)
  rename_i ps qs
  dsimp only [gd] at hf
  split at hf
  · rename_i ha
    cases hf
    obtain ⟨a, ks, rfl, h1, r1⟩ := cv.dict s
    obtain ⟨b, ls, rfl, h2, r2⟩ := cw.dict s
    unfold alike at ha
    rw [Bool.and_eq_true, decide_eq_true_eq] at ha
    exact ⟨a, b, ks, ls, rfl, rfl, h1, h2, by rw [r1.length, r2.length]; exact ha.1, alike_rel r2 r1 ha.2, same s (.bl _) k⟩
  · cases hf
theorem snd_eqK {K : PySem.W.Frag} : Snd2 K (rKK true) pyEqK := snd_KK true
theorem dlook_tr (s : Str) : ∀ ks : Li, dlook (tr ks) (.inr s) = (look ks s).map .bool
  | [] => rfl
  | (k, b) :: ks => by
    show dlook ((.str k, .bool b) :: tr ks) (.inr s) = _
    unfold dlook look
    rw [List.find?_cons]
    by_cases h : k = s
    · subst h
      simp [keyOf]
    · have ih := dlook_tr s ks
      unfold look at ih
      simp [keyOf, h, ih]
theorem tr_len (ks : Li) : (tr ks).length = ks.length := List.length_map ..
theorem dput_tr (ks : Li) (s : Str) (b : Bool) : dput (tr ks) (.inr s) (.bool b) = tr (putB ks s b) := by
  have ha : (tr ks).any (fun p => decide (keyOf p.1 = some (.inr s))) = ks.any (fun p => decide (p.1 = s)) := by
    unfold tr
    rw [List.any_map]
    congr 1
    funext p
    simp [keyOf]
  unfold dput putB
  rw [ha]
  split
  · unfold tr
    rw [List.map_map, List.map_map]
    refine List.map_congr_left fun p _ => ?_
    by_cases h : p.1 = s
    · simp [keyOf, h]
    · simp [keyOf, h]
  · unfold tr
    rw [List.map_append]
    rfl
theorem look_put (ks : Li) (s t : Str) (b : Bool) : look (putB ks s b) t = if t = s then some b else look ks t := by
  have key : ∀ ks : Li, look (ks.map (fun p => if p.1 = s then (p.1, b) else p)) t = if t = s then (look ks t).map (fun _ => b) else look ks t := by
    intro ks
    induction ks with
    | nil => unfold look; split <;> rfl
    | cons p ks ih =>
      obtain ⟨k, c⟩ := p
      unfold look at ih ⊢
      rw [List.map_cons, List.find?_cons, List.find?_cons]
      by_cases hk : k = s
      · subst hk
        by_cases ht : t = k
        · subst ht; simp
        · have : ¬ k = t := fun e => ht e.symm
          simp [this, ht] at ih ⊢
          exact ih
      · by_cases ht : k = t
        · subst ht
          simp [hk]
        · simp [hk, ht] at ih ⊢
          exact ih
  unfold putB
  by_cases ha : ks.any (fun p => decide (p.1 = s)) = true
  · rw [if_pos ha, key]
    by_cases ht : t = s
    · subst ht
      rw [if_pos rfl, if_pos rfl]
      obtain ⟨p, hp, he⟩ := List.any_eq_true.mp ha
      have : (look ks t).isSome := by
        unfold look
        rw [Option.isSome_map, List.find?_isSome]
        exact ⟨p, hp, he⟩
      obtain ⟨c, hc⟩ := Option.isSome_iff_exists.mp this
      rw [hc]; rfl
    · rw [if_neg ht, if_neg ht]
  · rw [if_neg ha]
    have hn : ∀ p ∈ ks, p.1 ≠ s := fun p hp e => ha (List.any_eq_true.mpr ⟨p, hp, decide_eq_true e⟩)
    unfold look
    rw [List.find?_append]
    by_cases ht : t = s
    · subst ht
      rw [if_pos rfl]
      have : ks.find? (fun p => decide (p.1 = t)) = none := List.find?_eq_none.mpr fun p hp => by simpa using hn p hp
      rw [this]
      simp
    · rw [if_neg ht]
      have : ¬ s = t := fun e => ht e.symm
      cases ks.find? (fun p => decide (p.1 = t)) <;> simp [this]
@[simp ↓] theorem wp_eSetd {QO : Opd → Rho → Prop} {X : Ex → Rho → Prop} {ρ : Rho} (i : Nat) (mk mv : ME) : wp (eSetd i mk mv ρ) QO X = if isDct ρ i = true then wp (mk ρ) (fun k ρ1 => wp (mv ρ1) (fun v ρ2 => wp (match useO ρ2 v with
    | some (d, ρ3) => setdO i k d ρ3
    | none => .fail) QO X) X) X else False := by
  unfold eSetd
  split
  · rw [wp_bind]
    exact wp_ext fun k ρ1 => by rw [wp_bind] <;> rfl
  · rfl
def sNo : MS := fun _ => .fail
theorem ds_never {X : Cx} {W : WX} {st : Stmt} : DS X W st sNo := ⟨_, ps_never, fun F σ H ρ Z R h => h⟩
theorem enc_str : Enc PyData.str Nm 0 := ⟨fun x y => by show (x == y) = _; by_cases h : x = y <;> simp [h], fun x h => strOk_of h.ok, fun x => Nat.le_of_eq rfl⟩
section
variable {α : Type} [DecidableEq α] {f : α → D} {P : α → Prop} {n : Nat}
theorem Enc.canAll (E : Enc f P n) : ∀ {xs : List α}, (∀ x ∈ xs, P x) → PyData.canLayAll0 (xs.map f) = true
  | [], _ => rfl
  | x :: xs, h => by
    show (PyData.canLay0 (f x) && PyData.canLayAll0 (xs.map f)) = true
    rw [E.can x (h x List.mem_cons_self), E.canAll fun t ht => h t (List.mem_cons_of_mem _ ht)]
    rfl
theorem Enc.depAll (E : Enc f P n) : ∀ xs : List α, PyData.depthAll (xs.map f) ≤ n
  | [] => by simp [PyData.depthAll]
  | x :: xs => by
    rw [List.map_cons, PyData.depthAll]
    have := E.depAll xs
    have := E.dep x
    omega
theorem enc_list (E : Enc f P n) : Enc (fun xs : List α => .list (xs.map f)) (fun xs => ∀ x ∈ xs, P x) (n + 1) := ⟨fun x y => E.eqAll x y, fun x h => E.canAll h, fun x => by
  show PyData.depth (.list (x.map f)) ≤ _
  rw [PyData.depth]
  have := E.depAll x
  omega⟩
theorem Enc.pyEq (E : Enc f P n) (hn : n ≤ 63) {x y : α} (hx : P x) (hy : P y) : pyEq (f x) (f y) = some (.val (.bool (decide (x = y)))) := by
  unfold Dl.pyEq
  rw [E.shaped hn hx, E.shaped hn hy, E.eq]
  rfl
theorem Enc.hasL (E : Enc f P n) (hn : n ≤ 62) {x : α} {xs : List α} (h : P x) (hx : ∀ x ∈ xs, P x) : hasD (f x) (.list (xs.map f)) = some (decide (x ∈ xs)) := by
  unfold hasD
  dsimp only
  rw [(enc_list E).shaped (x := xs) (by omega) hx, E.shaped (by omega) h]
  simp only [Bool.and_self, if_true, E.any]
end
theorem at_enc {α : Type} {f : α → D} {xs : List α} {i : Int} {x : α} (h0 : 0 ≤ i) (h : xs[i.toNat]? = some x) : pyAt (.list (xs.map f)) (.int i) = some (.val (f x)) := by
  have hl := (List.getElem?_eq_some_iff.mp h).1
  rw [pyAt_list]
  unfold atI ixN
  rw [if_pos h0, if_pos (by rw [List.length_map]; omega), Option.map_eq_some_iff]
  exact ⟨_, by show (xs.map f)[i.toNat]? = _; rw [List.getElem?_map, h]; rfl, rfl⟩
theorem cut_map {α β : Type} (f : α → β) (xs : List α) (lo hi : Option Int) : cutD (xs.map f) lo hi = (cutD xs lo hi).map f := by
  unfold cutD
  rw [List.length_map, List.map_take, List.map_drop]
theorem cut_mem {α : Type} {xs : List α} {lo hi : Option Int} {x : α} (h : x ∈ cutD xs lo hi) : x ∈ xs := by
  unfold cutD at h
  exact List.mem_of_mem_drop (List.mem_of_mem_take h)
theorem cut_le {α : Type} (xs : List α) (lo hi : Option Int) : (cutD xs lo hi).length ≤ xs.length := by
  unfold cutD
  rw [List.length_take, List.length_drop]
  omega
theorem nin_tr (ks : Li) (n : Str) : orf pyNotIn pyNotInK (.str n) (.dict (tr ks)) = some (.val (.bool (!(look ks n).isSome))) := by
  unfold orf pyNotIn pyNotInK hasD hasK
  dsimp only [Dl.keyOf, Option.map]
  rw [dlook_tr]
  cases look ks n <;> rfl
theorem at_tr {ks : Li} {n : Str} {c : Bool} (e : look ks n = some c) : pyAt (.dict (tr ks)) (.str n) = some (.val (.bool c)) := by
  rw [pyAt_dict]
  unfold pyGet
  dsimp only [Dl.keyOf]
  rw [dlook_tr, e]
  rfl
theorem isD_b (b : Bool) : isD "bool" (.bool b) = some (.val (.bool true)) := by
  have h : kitB "bool" "bool" = some true := by decide +kernel
  unfold isD tyN
  rw [h]
  rfl
set_option maxHeartbeats 400000
theorem dict_tr (fs : Li) : fDict [.dict (tr fs)] = some (.new (.dict (tr fs))) := rfl
theorem mem_look {fs : Li} (nd : (fs.map (·.1)).Nodup) {p : Str × Bool} (h : p ∈ fs) : look fs p.1 = some p.2 := by
  induction fs with
  | nil => cases h
  | cons q fs ih =>
    rw [List.map_cons, List.nodup_cons] at nd
    unfold look
    rw [List.find?_cons]
    rcases List.mem_cons.mp h with e | e
    · subst e
      simp
    · have : ¬ q.1 = p.1 := fun z => nd.1 (by rw [z]; exact List.mem_map.mpr ⟨p, e, rfl⟩)
      simp only [this, decide_false]
      exact ih nd.2 e
theorem alike_tr {fs : Li} (nd : (fs.map (·.1)).Nodup) : alike (tr fs) (tr fs) = true := by
  unfold alike
  rw [decide_eq_true rfl, Bool.true_and, List.all_eq_true]
  intro p hp
  obtain ⟨q, hq, rfl⟩ := List.mem_map.mp hp
  have : keyOf (PyData.str q.1) = some (.inr q.1) := rfl
  rw [this]
  dsimp only
  rw [dlook_tr, mem_look nd hq]
  cases q.2 <;> rfl
theorem eq_tr {fs : Li} (nd : (fs.map (·.1)).Nodup) : pyEqK (.dict (tr fs)) (.dict (tr fs)) = some (.val (.bool true)) := by
  unfold pyEqK
  dsimp only
  rw [alike_tr nd]
  rfl
theorem putB_keys (fs : Li) (s : Str) (b : Bool) : (putB fs s b).map (·.1) = if s ∈ fs.map (·.1) then fs.map (·.1) else fs.map (·.1) ++ [s] := by
  unfold putB
  have e : fs.any (fun p => decide (p.1 = s)) = true ↔ s ∈ fs.map (·.1) := by
    rw [List.any_eq_true]
    simp only [decide_eq_true_eq, List.mem_map]
  by_cases h : s ∈ fs.map (·.1)
  · rw [if_pos (e.mpr h), if_pos h, List.map_map]
    refine List.map_congr_left fun p _ => ?_
    dsimp only [Function.comp]
    split <;> rfl
  · rw [if_neg (fun z => h (e.mp z)), if_neg h, List.map_append]
    rfl
theorem putB_nd {fs : Li} {s : Str} {b : Bool} (nd : (fs.map (·.1)).Nodup) : ((putB fs s b).map (·.1)).Nodup := by
  rw [putB_keys]
  split
  · exact nd
  · rename_i h
    exact List.nodup_append.mpr ⟨nd, by simp, fun a ha b hb => by rintro rfl; rw [List.mem_singleton.mp hb] at ha; exact h ha⟩
theorem putB_len (fs : Li) (s : Str) (b : Bool) : (putB fs s b).length ≤ fs.length + 1 := by
  have := congrArg List.length (putB_keys fs s b)
  rw [List.length_map] at this
  rw [this]
  split <;> simp
theorem setK_tr {fs : Li} {s : Str} {b : Bool} (h : fs.length < 16777216) : setK (.dict (tr fs)) (.str s) (.bool b) = some (.dict (tr (putB fs s b))) := by
  unfold setK
  have : keyOf (PyData.str s) = some (.inr s) := rfl
  dsimp only
  rw [this]
  dsimp only
  rw [if_pos (by rw [tr_len, sizeLine_eq]; omega), dput_tr]
def mHoldsUnder : Nat → ME
 | 0 => fun _ => .fail
 | n + 1 => fnSem 2 5
   (sSeq (sSet 2 (eOp2 pyAt (eVar 0) (eC (.int 0))))
   (sSeq (sIf (tVal (eOp2 pyEq (eVar 2) (eC (.str "yes"))))
   (sRet (eC (.bool true)))
   sNil)
   (sSeq (sIf (tVal (eOp2 pyEq (eVar 2) (eC (.str "no"))))
   (sRet (eC (.bool false)))
   sNil)
   (sSeq (sIf (tVal (eOp2 pyEq (eVar 2) (eC (.str "is"))))
   (sRet (eOp2 pyAt (eVar 1) (eOp2 pyAt (eVar 0) (eC (.int 1)))))
   sNil)
   (sSeq (sIf (tVal (eOp2 pyEq (eVar 2) (eC (.str "not"))))
   (sRet (eNot (eCall 2 [true, true] (mHoldsUnder n) (aCons (eOp2 pyAt (eVar 0) (eC (.int 1))) (aCons (eVar 1) aNil)))))
   sNil)
   (sSeq (sSet 3 (eCall 2 [true, true] (mHoldsUnder n) (aCons (eOp2 pyAt (eVar 0) (eC (.int 1))) (aCons (eVar 1) aNil))))
   (sSeq (sSet 4 (eCall 2 [true, true] (mHoldsUnder n) (aCons (eOp2 pyAt (eVar 0) (eC (.int 2))) (aCons (eVar 1) aNil))))
   (sSeq (sIf (tVal (eOp2 pyEq (eVar 2) (eC (.str "and"))))
   (sRet (eAnd (eVar 3) (eVar 4)))
   sNil)
   (sSeq (sIf (tVal (eOp2 pyEq (eVar 2) (eC (.str "or"))))
   (sRet (eOr (eVar 3) (eVar 4)))
   sNil)
   (sSeq (sIf (tVal (eOp2 pyEq (eVar 2) (eC (.str "then"))))
   (sRet (eOr (eVar 4) (eNot (eVar 3))))
   sNil)
   (sRet (eOp2 pyEq (eVar 3) (eVar 4)))))))))))))
def mHolds : ME := fnSem 2 3
   (sSeq (sFor (iSeq (eCall 1 [true] mNamesOf (aCons (eVar 0) aNil))) (gN 2)
   (sIf (tVal (eOp2 (orf pyNotIn pyNotInK) (eVar 2) (eVar 1)))
   sNo
   sNil))
   (sRet (eCall 2 [true, true] (mHoldsUnder 7) (aCons (eVar 0) (aCons (eVar 1) aNil)))))
def mLawHolds : Nat → ME
 | 0 => fun _ => .fail
 | n + 1 => fnSem 2 5
   (sSeq (sSet 2 (eOp2 pyAt (eVar 0) (eC (.int 0))))
   (sSeq (sIf (tOrM (tVal (eOp2 pyEq (eVar 2) (eC (.str "yes")))) (tVal (eOp2 pyEq (eVar 2) (eC (.str "no")))))
   (sRet (eOp2 pyEq (eVar 2) (eC (.str "yes"))))
   sNil)
   (sSeq (sIf (tVal (eOp2 pyEq (eVar 2) (eC (.str "is"))))
   (sRet (eOp2 pyAt (eVar 1) (eOp2 pyAt (eVar 0) (eC (.int 1)))))
   sNil)
   (sSeq (sSet 3 (eCall 2 [true, true] (mLawHolds n) (aCons (eOp2 pyAt (eVar 0) (eC (.int 1))) (aCons (eVar 1) aNil))))
   (sSeq (sIf (tVal (eOp2 pyEq (eVar 2) (eC (.str "not"))))
   (sRet (eNot (eVar 3)))
   sNil)
   (sSeq (sSet 4 (eCall 2 [true, true] (mLawHolds n) (aCons (eOp2 pyAt (eVar 0) (eC (.int 2))) (aCons (eVar 1) aNil))))
   (sSeq (sIf (tVal (eOp2 pyEq (eVar 2) (eC (.str "and"))))
   (sRet (eAnd (eVar 3) (eVar 4)))
   sNil)
   (sSeq (sIf (tVal (eOp2 pyEq (eVar 2) (eC (.str "or"))))
   (sRet (eOr (eVar 3) (eVar 4)))
   sNil)
   (sSeq (sIf (tVal (eOp2 pyEq (eVar 2) (eC (.str "then"))))
   (sRet (eOr (eNot (eVar 3)) (eVar 4)))
   sNil)
   (sRet (eOp2 pyEq (eVar 3) (eVar 4))))))))))))
def ev (fs : Li) (s : Str) : Bool := (look fs s).getD false
theorem ev_look {fs : Li} {s : Str} {b : Bool} (h : look fs s = some b) : ev fs s = b := by unfold ev; rw [h]; rfl
theorem holds_under_eq {fs : Li} : ∀ (n : Nat) (r : Ru) {s : Slot}, FS s fs → r.dep ≤ n → (∀ x ∈ r.names, (look fs x).isSome) → mHoldsUnder n [.dat r.toD, s] = .ok (.val (.bool (r.val (ev fs)))) [.dat r.toD, s]
  | 0, r, s, _, h, _ => by cases r <;> simp [Ru.dep] at h
  | n + 1, r, s, hs, h, hk => by
    have : wp (mHoldsUnder (n + 1) [.dat r.toD, s]) (fun o ρ => o = .val (.bool (r.val (ev fs))) ∧ ρ = [.dat r.toD, s]) NoX := by
      unfold mHoldsUnder
      cases r with
      | yes => rcases hs with rfl | rfl | rfl <;> simp_arith [Ru.toD, Ru.val]
      | no => rcases hs with rfl | rfl | rfl <;> simp_arith [Ru.toD, Ru.val]
      | is x =>
        obtain ⟨b, hb⟩ := Option.isSome_iff_exists.mp (hk x (by simp [Ru.names]))
        have a := at_tr hb
        have e := ev_look hb
        rcases hs with rfl | rfl | rfl <;> simp_arith [Ru.toD, Ru.val, a, e]
      | not r =>
        have ih := holds_under_eq n r hs (by simp only [Ru.dep] at h; omega) hk
        rcases hs with rfl | rfl | rfl <;> simp_arith [Ru.toD, Ru.val, ih]
      | two o a b =>
        have ia := holds_under_eq n a hs (by simp only [Ru.dep] at h; omega) fun x hx => hk x (List.mem_append_left _ hx)
        have ib := holds_under_eq n b hs (by simp only [Ru.dep] at h; omega) fun x hx => hk x (List.mem_append_right _ hx)
        cases va : a.val (ev fs) <;> cases vb : b.val (ev fs) <;> rw [va] at ia <;> rw [vb] at ib <;> rcases hs with rfl | rfl | rfl <;> cases o <;> simp_arith [Ru.toD, Op4.str, Ru.val, ia, ib, va, vb]
    obtain ⟨o, ρ, e, rfl, rfl⟩ := wp_out this
    exact e
theorem law_holds_eq {fs : Li} : ∀ (n : Nat) (r : Ru) {s : Slot}, FS s fs → r.dep ≤ n → (∀ x ∈ r.names, (look fs x).isSome) → mLawHolds n [.dat r.toD, s] = .ok (.val (.bool (r.val (ev fs)))) [.dat r.toD, s]
  | 0, r, s, _, h, _ => by cases r <;> simp [Ru.dep] at h
  | n + 1, r, s, hs, h, hk => by
    have : wp (mLawHolds (n + 1) [.dat r.toD, s]) (fun o ρ => o = .val (.bool (r.val (ev fs))) ∧ ρ = [.dat r.toD, s]) NoX := by
      unfold mLawHolds
      cases r with
      | yes => rcases hs with rfl | rfl | rfl <;> simp_arith [Ru.toD, Ru.val]
      | no => rcases hs with rfl | rfl | rfl <;> simp_arith [Ru.toD, Ru.val]
      | is x =>
        obtain ⟨b, hb⟩ := Option.isSome_iff_exists.mp (hk x (by simp [Ru.names]))
        have a := at_tr hb
        have e := ev_look hb
        rcases hs with rfl | rfl | rfl <;> simp_arith [Ru.toD, Ru.val, a, e]
      | not r =>
        have ih := law_holds_eq n r hs (by simp only [Ru.dep] at h; omega) hk
        rcases hs with rfl | rfl | rfl <;> simp_arith [Ru.toD, Ru.val, ih]
      | two o a b =>
        have ia := law_holds_eq n a hs (by simp only [Ru.dep] at h; omega) fun x hx => hk x (List.mem_append_left _ hx)
        have ib := law_holds_eq n b hs (by simp only [Ru.dep] at h; omega) fun x hx => hk x (List.mem_append_right _ hx)
        cases va : a.val (ev fs) <;> cases vb : b.val (ev fs) <;> rw [va] at ia <;> rw [vb] at ib <;> rcases hs with rfl | rfl | rfl <;> cases o <;> simp_arith [Ru.toD, Op4.str, Ru.val, ia, ib, va, vb]
    obtain ⟨o, ρ, e, rfl, rfl⟩ := wp_out this
    exact e
theorem holds_eq {fs : Li} {r : Ru} {s : Slot} (hs : FS s fs) (h : r.dep ≤ 6) (hk : ∀ x ∈ r.names, (look fs x).isSome) : mHolds [.dat r.toD, s] = .ok (.val (.bool (r.val (ev fs)))) [.dat r.toD, s] := by
  have : wp (mHolds [.dat r.toD, s]) (fun o ρ => o = .val (.bool (r.val (ev fs))) ∧ ρ = [.dat r.toD, s]) NoX := by
    unfold mHolds
    have e := names_of_eq r h
    have hh := holds_under_eq 7 r hs (by omega) hk
    obtain ⟨I, eI⟩ : ∃ I : Nat → Rho → Prop, I = fun _ ρ => ∃ s2, frS s2 = true ∧ ρ = [.dat r.toD, s, s2] := ⟨_, rfl⟩
    have step : ∀ (x : Str) (s2 : Slot), x ∈ r.names → orf pyNotIn pyNotInK (.str x) (.dict (tr fs)) = some (.val (.bool false)) := fun x s2 hx => by
      rw [nin_tr, hk x hx]
      rfl
    simp_arith [e]
    refine wp_for I (by rw [eI]; exact ⟨.un, rfl, rfl⟩) (fun i x ρ hx hI => ?_) fun ρ hI => ?_
    · rw [eI] at hI
      obtain ⟨s2, f2, rfl⟩ := hI
      simp only [frS, free, List.getElem?_cons_zero] at f2
      rw [List.getElem?_map, Option.map_eq_some_iff] at hx
      obtain ⟨y, hy, rfl⟩ := hx
      have hm := step y s2 (canon_mem.mp (List.mem_of_getElem? hy))
      refine ⟨[.dat r.toD, s, .dat (.str y)], ?_, ?_⟩
      · simp_arith [f2]
      rcases hs with rfl | rfl | rfl <;> simp_arith [hm] <;> (rw [eI]; exact ⟨_, rfl, rfl⟩)
    · rw [eI] at hI
      obtain ⟨s2, f2, rfl⟩ := hI
      rcases hs with rfl | rfl | rfl <;> simp_arith [hh]
  obtain ⟨o, ρ, e, rfl, rfl⟩ := wp_out this
  exact e
def allF (names : List Str) : List Li := names.foldl ext [[]]
theorem ext_len (rows : List Li) (n : Str) : (ext rows n).length = 2 * rows.length := by
  induction rows with
  | nil => rfl
  | cons f rows ih =>
    unfold ext at ih ⊢
    rw [List.flatMap_cons, List.length_append, ih]
    simp
    omega
theorem ext_all {rows : List Li} {n : Str} {P P' : Li → Prop} (h : ∀ f ∈ rows, P f) (hp : ∀ f b, P f → P' (putB f n b)) : ∀ f ∈ ext rows n, P' f := fun f hf => by
  unfold ext at hf
  obtain ⟨g, hg, hm⟩ := List.mem_flatMap.mp hf
  rcases List.mem_cons.mp hm with rfl | hm
  · exact hp g _ (h g hg)
  · rw [List.mem_singleton.mp hm]
    exact hp g _ (h g hg)
theorem allF_len (names : List Str) : (allF names).length = 2 ^ names.length := by
  have key : ∀ (names : List Str) (rows : List Li), (names.foldl ext rows).length = 2 ^ names.length * rows.length := by
    intro names
    induction names with
    | nil => intro rows; simp
    | cons n names ih =>
      intro rows
      rw [List.foldl_cons, ih, ext_len, List.length_cons, Nat.pow_succ, Nat.mul_assoc]
  unfold allF
  rw [key]
  simp
theorem allF_snoc (names : List Str) (n : Str) : allF (names ++ [n]) = ext (allF names) n := by
  unfold allF
  rw [List.foldl_append]
  rfl
theorem allF_ind {P : List Str → Li → Prop} (h0 : P [] []) (hs : ∀ ns n f b, P ns f → P (ns ++ [n]) (putB f n b)) (names : List Str) : ∀ f ∈ allF names, P names f := by
  have key : ∀ k, k ≤ names.length → ∀ f ∈ allF (names.take k), P (names.take k) f := by
    intro k
    induction k with
    | zero =>
      intro _ f hf
      have hf : f ∈ ([[]] : List Li) := hf
      rw [List.mem_singleton.mp hf]
      exact h0
    | succ k ih =>
      intro hk f hf
      have hg : names[k]? = some names[k] := List.getElem?_eq_getElem (by omega)
      have e : names.take (k + 1) = names.take k ++ [names[k]] := by rw [List.take_add_one, hg]; rfl
      rw [e] at hf ⊢
      rw [allF_snoc] at hf
      exact ext_all (P := P (names.take k)) (P' := P (names.take k ++ [names[k]])) (ih (by omega)) (fun f b hp => hs _ _ f b hp) f hf
  have := key names.length (Nat.le_refl _)
  rw [List.take_length] at this
  exact this
theorem allF_short (names : List Str) : ∀ f ∈ allF names, f.length ≤ names.length := allF_ind (P := fun ns f => f.length ≤ ns.length) (Nat.le_refl _) (fun ns n f b h => by
  have := putB_len f n b
  rw [List.length_append]
  simp
  omega) names
/-- what all_facts tells: a list, made or known -/
def TL (Q : Opd → Rho → Prop) (ds : List D) (ρ : Rho) : Prop := Q (.new (.list ds)) ρ ∧ Q (.val (.list ds)) ρ
theorem bools_map : ∀ bs : List Bool, boolsOf (bs.map .bool) = some bs
  | [] => rfl
  | b :: bs => by
    rw [List.map_cons]
    unfold boolsOf
    rw [bools_map bs]
    rfl
theorem any_map (bs : List Bool) : fAny [.list (bs.map .bool)] = some (.val (.bool (bs.any id))) := by
  unfold fAny
  dsimp only
  rw [bools_map]
  rfl
@[simp ↓] theorem wp_eChain {QO : Opd → Rho → Prop} {X : Ex → Rho → Prop} {ρ : Rho} (f g : D → D → Option Opd) (a b c : ME) : wp (eChain f g a b c ρ) QO X = wp (a ρ) (fun x ρ1 => wp (b ρ1) (fun y ρ2 => wp (run2 f ρ2 x y) (fun o ρ3 => chQ QO (fun ρ3 => wp (c ρ3) (fun z ρ4 => wp (run2 g ρ4 y z) QO X) X) o ρ3) X) X) X := by
  unfold eChain
  rw [wp_bind]
  refine wp_ext fun x ρ1 => ?_
  rw [wp_bind]
  refine wp_ext fun y ρ2 => ?_
  cases e : run2 f ρ2 x y with
  | fail => rfl
  | ex x' ρ' =>
    exfalso
    unfold run2 at e
    split at e
    · split at e <;> cases e
    · cases e
  | ok o ρ3 =>
    show wp (match (Rs.ok o ρ3 : Rs Opd) with
      | .ok (.val (.bool true)) ρ2 => (c ρ2).bind fun z ρ3 => run2 g ρ3 y z
      | .ok (.val (.bool false)) ρ2 => .ok (.val (.bool false)) ρ2
      | _ => .fail) QO X = chQ QO _ o ρ3
    cases o with
    | val d =>
      cases d with
      | bool b =>
        cases b with
        | true => exact wp_bind ..
        | false => rfl
      | none => rfl
      | int i => rfl
      | str i => rfl
      | list i => rfl
      | tuple i => rfl
      | dict i => rfl
    | loc i => rfl
    | lob i => rfl
    | nob i => rfl
    | new d => rfl
end Dl
local macro_rules | `(tactic| simp_arith [$ls,*]) => `(tactic| simp -dsimp -implicitDefEqProofs [Dl.T.odd, Dl.vI, Dl.vB, Dl.vS, Dl.run2, Dl.run1, Dl.deref, Dl.Slot.data?, Dl.Slot.tree?, Dl.T.toD, Dl.toDs, Dl.useO, Dl.useAll, Dl.boolOf, Dl.putO, Dl.free, Dl.outO, Dl.withAll, Dl.runN, Dl.derefs, Dl.mutO, Dl.isLst, Dl.isDct, Dl.putI, Dl.putD, Dl.setI, Dl.augO, Dl.getI, Dl.slotOf, Dl.slotsOf, Dl.lents, Dl.takeB, Dl.backS, Dl.useSel, Dl.back, Dl.gd, Dl.pyIx, L2.atI, L2.ixN, Dl.pyGet, Dl.pyMul, Dl.pyAdd, Dl.pyEq, Dl.pyNe, Dl.mulOk, Dl.powOk, Dl.pySlice, Dl.fLen, Dl.fList, Dl.fTuple, Dl.mAppend, Dl.mReverse, Dl.mClear, Dl.mExtend, Dl.mInsert, Dl.mkTup, Dl.mkLst, Dl.pyIsN, Dl.pyNotN, Dl.fNeg, Dl.pyRev, Dl.gN, Dl.gsNil, Dl.gsCons, Dl.gT, Dl.srcL, Dl.srcT, Dl.srcS, Dl.srcQ, Dl.srcR1, Dl.srcR2, Dl.hide, Dl.restore, PySem.sizeLine_eq, Dl.lockS, $ls,*])
local macro_rules | `(tactic| simp_arith) => `(tactic| simp -dsimp -implicitDefEqProofs [Dl.T.odd, Dl.vI, Dl.vB, Dl.vS, Dl.run2, Dl.run1, Dl.deref, Dl.Slot.data?, Dl.Slot.tree?, Dl.T.toD, Dl.toDs, Dl.useO, Dl.useAll, Dl.boolOf, Dl.putO, Dl.free, Dl.outO, Dl.withAll, Dl.runN, Dl.derefs, Dl.mutO, Dl.isLst, Dl.isDct, Dl.putI, Dl.putD, Dl.setI, Dl.augO, Dl.getI, Dl.slotOf, Dl.slotsOf, Dl.lents, Dl.takeB, Dl.backS, Dl.useSel, Dl.back, Dl.gd, Dl.pyIx, L2.atI, L2.ixN, Dl.pyGet, Dl.pyMul, Dl.pyAdd, Dl.pyEq, Dl.pyNe, Dl.mulOk, Dl.powOk, Dl.pySlice, Dl.fLen, Dl.fList, Dl.fTuple, Dl.mAppend, Dl.mReverse, Dl.mClear, Dl.mExtend, Dl.mInsert, Dl.mkTup, Dl.mkLst, Dl.pyIsN, Dl.pyNotN, Dl.fNeg, Dl.pyRev, Dl.gN, Dl.gsNil, Dl.gsCons, Dl.gT, Dl.srcL, Dl.srcT, Dl.srcS, Dl.srcQ, Dl.srcR1, Dl.srcR2, Dl.hide, Dl.restore, PySem.sizeLine_eq, Dl.lockS])
set_option maxRecDepth 100000
set_option maxHeartbeats 4000000
set_option maxRecDepth 100000
set_option maxHeartbeats 4000000
namespace SL
open PySem PySem.Spec PySem.W PyProof.Rows L2 LamX
set_option autoImplicit false
end SL
set_option maxRecDepth 100000
set_option maxHeartbeats 4000000
namespace Dl
open PySem PySem.Spec L2 LamX
set_option autoImplicit false
section
variable {K : PySem.W.Frag} {F H H' : Hp} {σ : Sg} {ρ : Rho}
end
end Dl
set_option maxRecDepth 100000
set_option maxHeartbeats 4000000
namespace Dl
open PySem PySem.Spec PyProof.Rows L2 LamX He
set_option autoImplicit false
structure TabsB (K : PySem.W.Frag) (mg : Str → Option Value) (base : Heap) : Prop where
  tb : ∀ x c P, x ∈ lamNames → codeTab K x = some (c, P) → TabB base mg c P
  uq : ∀ p ∈ tabsOf K, ∀ p' ∈ tabsOf K, p.1 = p'.1 → p.2 = p'.2
def csOf (K : PySem.W.Frag) : List (Addr × Addr) := lamNames.filterMap fun x => codeTab K x
theorem tabs_nil {K : PySem.W.Frag} {H : Hp} (h : ∀ p ∈ csOf K, H p.2 = some (.tbl #[])) : Tabs (tabsOf K) H := fun p hp => by
  obtain ⟨x, hx, e⟩ := List.mem_filterMap.mp hp
  obtain ⟨⟨c, P⟩, hc, rfl⟩ := Option.map_eq_some_iff.mp e
  exact TabS.nil (h (c, P) (List.mem_filterMap.mpr ⟨x, hx, hc⟩))
theorem lawAt_of {l : PySem.W.OpenLaw} {w : World} {K : PySem.W.Frag} {k : Nat} {mg : Str → Option Value} {fa : Addr} {h : Heap} {lf : List Str} {fd : FuncData} {x : Str} (T : TabsH h K lf) (hb : ∀ (s : Shared) (v : Value), BindsTo s fd ⟨[v], []⟩ [(x, v)])
    (hF : ∀ base : Heap, K.In base → base.Ns mainGlobals mg → TabsB K mg base → FnOk l.prog w K mg base CX0 k fa fd [x] (spLaw K)) : LawAtS l w K CX0 k 63 x mg fa h :=
  ⟨fd, csOf K, spLaw K, fun p hp => by
    obtain ⟨x, hx, e⟩ := List.mem_filterMap.mp hp
    exact (T.tab x p.1 p.2 hx e).2.1, fun p hp => by
    obtain ⟨x, hx, e⟩ := List.mem_filterMap.mp hp
    exact (T.tab x p.1 p.2 hx e).2.2, fun p hp => by
    obtain ⟨x, hx, e⟩ := List.mem_filterMap.mp hp
    exact (T.tab x p.1 p.2 hx e).1, hb, fun H a ns hl _ hT hS => ⟨tabs_nil hT, a, ns, rfl, hS, hl, fun _ => rfl⟩, fun base hK hn hTB => hF base hK hn ⟨fun x c P hx hc => hTB (c, P) (List.mem_filterMap.mpr ⟨x, hx, hc⟩), T.uq⟩⟩
end Dl
set_option maxRecDepth 100000
set_option maxHeartbeats 400000
namespace Dl
open PySem PySem.Spec L2
set_option autoImplicit false
open PySem.W in
open PySem.W in
open PySem.W in
open PySem.W in
open PySem.W in
theorem c0 (n : Str) (t : Bool) : pyAt (.tuple [.str n, .bool t]) (.int 0) = some (.val (.str n)) := by simp_arith
theorem c1 (n : Str) (t : Bool) : pyAt (.tuple [.str n, .bool t]) (.int 1) = some (.val (.bool t)) := by simp_arith
section
variable {X : Cx}
def pyIs (f : Bool → Bool) : D → D → Option Opd
  | .bool a, .bool b => some (vB (f (a == b)))
  | _, _ => none
def fInt : List D → Option Opd
  | [.bool b] => some (vI (if b then 1 else 0))
  | [.int i] => some (vI i)
  | _ => none
end
local macro_rules | `(tactic| simp_arith [$ls,*]) => `(tactic| simp -dsimp -implicitDefEqProofs [Dl.T.odd, Dl.vI, Dl.vB, Dl.vS, Dl.run2, Dl.run1, Dl.deref, Dl.Slot.data?, Dl.Slot.tree?, Dl.T.toD, Dl.toDs, Dl.useO, Dl.useAll, Dl.boolOf, Dl.putO, Dl.free, Dl.outO, Dl.withAll, Dl.runN, Dl.derefs, Dl.mutO, Dl.isLst, Dl.isDct, Dl.putI, Dl.putD, Dl.setI, Dl.augO, Dl.getI, Dl.slotOf, Dl.slotsOf, Dl.lents, Dl.takeB, Dl.backS, Dl.useSel, Dl.back, Dl.gd, Dl.pyIx, L2.atI, L2.ixN, Dl.pyGet, Dl.pyMul, Dl.pyAdd, Dl.pyEq, Dl.pyNe, Dl.mulOk, Dl.powOk, Dl.pySlice, Dl.fLen, Dl.fList, Dl.fTuple, Dl.mAppend, Dl.mReverse, Dl.mClear, Dl.mExtend, Dl.mInsert, Dl.mkTup, Dl.mkLst, Dl.pyIsN, Dl.pyNotN, Dl.fNeg, Dl.pyRev, Dl.gN, Dl.gsNil, Dl.gsCons, Dl.gT, Dl.srcL, Dl.srcT, Dl.srcS, Dl.srcQ, Dl.srcR1, Dl.srcR2, Dl.hide, Dl.restore, PySem.sizeLine_eq, Dl.lockS, Dl.pyIs, Dl.fInt, $ls,*])
local macro_rules | `(tactic| simp_arith) => `(tactic| simp -dsimp -implicitDefEqProofs [Dl.T.odd, Dl.vI, Dl.vB, Dl.vS, Dl.run2, Dl.run1, Dl.deref, Dl.Slot.data?, Dl.Slot.tree?, Dl.T.toD, Dl.toDs, Dl.useO, Dl.useAll, Dl.boolOf, Dl.putO, Dl.free, Dl.outO, Dl.withAll, Dl.runN, Dl.derefs, Dl.mutO, Dl.isLst, Dl.isDct, Dl.putI, Dl.putD, Dl.setI, Dl.augO, Dl.getI, Dl.slotOf, Dl.slotsOf, Dl.lents, Dl.takeB, Dl.backS, Dl.useSel, Dl.back, Dl.gd, Dl.pyIx, L2.atI, L2.ixN, Dl.pyGet, Dl.pyMul, Dl.pyAdd, Dl.pyEq, Dl.pyNe, Dl.mulOk, Dl.powOk, Dl.pySlice, Dl.fLen, Dl.fList, Dl.fTuple, Dl.mAppend, Dl.mReverse, Dl.mClear, Dl.mExtend, Dl.mInsert, Dl.mkTup, Dl.mkLst, Dl.pyIsN, Dl.pyNotN, Dl.fNeg, Dl.pyRev, Dl.gN, Dl.gsNil, Dl.gsCons, Dl.gT, Dl.srcL, Dl.srcT, Dl.srcS, Dl.srcQ, Dl.srcR1, Dl.srcR2, Dl.hide, Dl.restore, PySem.sizeLine_eq, Dl.lockS, Dl.pyIs, Dl.fInt])
open PySem.W in
open PySem.W in
open PySem.W in
open PySem.W in
section
variable {α : Type} {enc : α → D} {xs : List α} {ρ : Rho} {QF : Flow → Rho → Prop} {QO : Opd → Rho → Prop} {X : Ex → Rho → Prop}
theorem wp_forP {mg : MG} {b : MS} (I : List α → Rho → Prop) (h : I [] ρ)
    (st : ∀ pre x post ρ, xs = pre ++ x :: post → I pre ρ → ∃ ρ1, mg (enc x) ρ = some ρ1 ∧ wp (b ρ1) (kf (fun ρ2 => I (pre ++ [x]) ρ2) (kl (fun ρ2 => I (pre ++ [x]) ρ2) QF)) X)
    (q : ∀ ρ, I xs ρ → QF .nx ρ) : wp (sLoop mg b (xs.map enc) ρ) QF X := by
  refine wp_for (fun i ρ => I (xs.take i) ρ) (by rw [List.take_zero]; exact h) (fun i d ρ hd hI => ?_) fun ρ hI => q ρ (by rw [List.length_map, List.take_length] at hI; exact hI)
  rw [List.getElem?_map, Option.map_eq_some_iff] at hd
  obtain ⟨x, hx, rfl⟩ := hd
  obtain ⟨hi, hx'⟩ := List.getElem?_eq_some_iff.mp hx
  have e1 : xs = xs.take i ++ x :: xs.drop (i + 1) := by
    have := (List.take_append_drop i xs).symm
    rwa [List.drop_eq_getElem_cons hi, hx'] at this
  have e2 : xs.take (i + 1) = xs.take i ++ [x] := by rw [List.take_add_one, hx]; rfl
  have := st (xs.take i) x (xs.drop (i + 1)) ρ e1 hI
  rw [e2]
  exact this
theorem wp_cmpP {vs : List Nat} {mg : MG} {mt : MT} {me : ME} (I : List α → List D → Rho → Prop) (h : I [] [] ρ)
    (st : ∀ pre x post acc ρ, xs = pre ++ x :: post → I pre acc ρ → ∃ ρ2, mg (enc x) (hide vs ρ) = some ρ2 ∧ wp (mt ρ2) (fun c ρ3 => if c = true then wp (me ρ3) (fun o ρ4 => ∃ y ρ5, useO ρ4 o = some (y, ρ5) ∧ acc.length < sizeLine ∧ I (pre ++ [x]) (acc ++ [y]) (restore vs ρ ρ5)) NoX else I (pre ++ [x]) acc (restore vs ρ ρ3)) NoX)
    (q : ∀ acc ρ, I xs acc ρ → QO (.new (.list acc)) ρ) : wp (compL vs mg mt me (xs.map enc) [] ρ) QO X := by
  refine wp_cmp (fun i acc ρ => I (xs.take i) acc ρ) (by rw [List.take_zero]; exact h) (fun i d acc ρ hd hI => ?_) fun acc ρ hI => q acc ρ (by rw [List.length_map, List.take_length] at hI; exact hI)
  rw [List.getElem?_map, Option.map_eq_some_iff] at hd
  obtain ⟨x, hx, rfl⟩ := hd
  obtain ⟨hi, hx'⟩ := List.getElem?_eq_some_iff.mp hx
  have e1 : xs = xs.take i ++ x :: xs.drop (i + 1) := by
    have := (List.take_append_drop i xs).symm
    rwa [List.drop_eq_getElem_cons hi, hx'] at this
  have e2 : xs.take (i + 1) = xs.take i ++ [x] := by rw [List.take_add_one, hx]; rfl
  have := st (xs.take i) x (xs.drop (i + 1)) acc ρ e1 hI
  rw [e2]
  exact this
/-- a comprehension that changes nothing -/
theorem wp_pcomp {vs : List Nat} {mg : MG} {mt : MT} {me : ME} (tst : α → Bool) (out : α → D) (hl : xs.length ≤ 16777216)
    (st : ∀ x ∈ xs, ∃ ρ2, mg (enc x) (hide vs ρ) = some ρ2 ∧ wp (mt ρ2) (fun c ρ3 => c = tst x ∧ ρ3 = ρ2) NoX ∧ (tst x = true → wp (me ρ2) (fun o ρ4 => ∃ ρ5, useO ρ4 o = some (out x, ρ5) ∧ restore vs ρ ρ5 = ρ) NoX) ∧ restore vs ρ ρ2 = ρ)
    (q : QO (.new (.list ((xs.filter tst).map out))) ρ) : wp (compL vs mg mt me (xs.map enc) [] ρ) QO X := by
  refine wp_cmpP (fun pre acc ρ' => acc = (pre.filter tst).map out ∧ ρ' = ρ) ⟨rfl, rfl⟩ (fun pre x post acc ρ' e hI => ?_) fun acc ρ' hI => by rw [hI.1, hI.2]; exact q
  obtain ⟨rfl, rfl⟩ := hI
  obtain ⟨ρ2, e2, w, w2, w3⟩ := st x (by rw [e]; simp)
  refine ⟨ρ2, e2, wp_mono w (fun c ρ3 hc => ?_) fun _ _ z => z⟩
  obtain ⟨rfl, rfl⟩ := hc
  have hf : ((pre ++ [x]).filter tst).map out = (pre.filter tst).map out ++ if tst x = true then [out x] else [] := by
    rw [List.filter_append, List.map_append]
    cases z : tst x <;> simp [z]
  by_cases ht : tst x = true
  · rw [if_pos ht]
    refine wp_mono (w2 ht) (fun o ρ4 ho => ?_) fun _ _ z => z
    obtain ⟨ρ5, e5, er⟩ := ho
    refine ⟨out x, ρ5, e5, ?_, by rw [hf, if_pos ht], er⟩
    have h1 := List.length_filter_le tst pre
    have h2 : pre.length < xs.length := by rw [e]; simp
    rw [List.length_map, sizeLine_eq]
    omega
  · rw [if_neg ht]
    exact ⟨by rw [hf, if_neg ht, List.append_nil], w3⟩
end
set_option maxHeartbeats 4000000
section
variable {X : Cx} {W : WX} {pos : Pos}
end
section
variable {K : PySem.W.Frag} {fx : List Fx}
end
section
variable {QF : Flow → Rho → Prop} {QO : Opd → Rho → Prop} {X : Ex → Rho → Prop} {ρ : Rho}
@[simp ↓] theorem wp_sRaise0 (c : Str) : wp (sRaise0 c ρ) QF X = X ⟨c, []⟩ ρ := rfl
@[simp ↓] theorem wp_sRaise1 (c f : Str) (m : ME) : wp (sRaise1 c f m ρ) QF X = wp (m ρ) (fun o ρ1 => wp (match useO ρ1 o with
    | some (d, ρ2) => (.ex ⟨c, [(f, d)]⟩ ρ2 : Rs Flow)
    | none => .fail) QF X) X := by unfold sRaise1; rw [wp_bind]
@[simp] theorem wp_eIsX {i : Nat} {a : Addr} {d : Option Addr} {b : Option Bool} {q : XRef} (e : ρ[i]? = some (.exc q)) (ha : q.a = a) (hd : q.d = d) : wp (eIsX i a d b ρ) QO X = match b with
    | some b => QO (.val (.bool b)) ρ
    | none => False := by
  unfold eIsX
  rw [e]
  dsimp only
  rw [if_pos ⟨ha, hd⟩]
  cases b <;> rfl
@[simp] theorem wp_eXf {i : Nat} {a : Addr} {d : Option Addr} {f : Str} {v : D} {q : XRef} (e : ρ[i]? = some (.exc q)) (ha : q.a = a) (hd : q.d = d) (hx : q.x.fs = [(f, v)]) : wp (eXf i a d f ρ) QO X = QO (.val v) ρ := by
  unfold eXf
  rw [e]
  dsimp only
  rw [if_pos ⟨ha, hd⟩, hx]
  dsimp only
  rw [if_pos rfl]
  rfl
end
@[simp ↓] theorem wp_eDPop {QO : Opd → Rho → Prop} {X : Ex → Rho → Prop} {ρ : Rho} (i : Nat) (mk : ME) : wp (eDPop i mk ρ) QO X = if isDct ρ i = true then wp (mk ρ) (fun k ρ1 => wp (dpopO i k ρ1) QO X) X else False := by
  unfold eDPop
  split
  · rw [wp_bind]
  · rfl
local macro_rules | `(tactic| simp_arith [$ls,*]) => `(tactic| simp -dsimp -implicitDefEqProofs [Dl.T.odd, Dl.vI, Dl.vB, Dl.vS, Dl.run2, Dl.run1, Dl.deref, Dl.Slot.data?, Dl.Slot.tree?, Dl.T.toD, Dl.toDs, Dl.useO, Dl.useAll, Dl.boolOf, Dl.putO, Dl.free, Dl.outO, Dl.withAll, Dl.runN, Dl.derefs, Dl.mutO, Dl.isLst, Dl.isDct, Dl.putI, Dl.putD, Dl.setI, Dl.augO, Dl.getI, Dl.slotOf, Dl.slotsOf, Dl.lents, Dl.takeB, Dl.backS, Dl.useSel, Dl.back, Dl.gd, Dl.pyIx, L2.atI, L2.ixN, Dl.pyGet, Dl.pyMul, Dl.pyAdd, Dl.pyEq, Dl.pyNe, Dl.mulOk, Dl.powOk, Dl.pySlice, Dl.fLen, Dl.fList, Dl.fTuple, Dl.mAppend, Dl.mReverse, Dl.mClear, Dl.mExtend, Dl.mInsert, Dl.mkTup, Dl.mkLst, Dl.pyIsN, Dl.pyNotN, Dl.fNeg, Dl.pyRev, Dl.gN, Dl.gsNil, Dl.gsCons, Dl.gT, Dl.srcL, Dl.srcT, Dl.srcS, Dl.srcQ, Dl.srcR1, Dl.srcR2, Dl.hide, Dl.restore, PySem.sizeLine_eq, Dl.lockS, Dl.pyIs, Dl.fInt, Dl.dpopO, $ls,*])
local macro_rules | `(tactic| simp_arith) => `(tactic| simp -dsimp -implicitDefEqProofs [Dl.T.odd, Dl.vI, Dl.vB, Dl.vS, Dl.run2, Dl.run1, Dl.deref, Dl.Slot.data?, Dl.Slot.tree?, Dl.T.toD, Dl.toDs, Dl.useO, Dl.useAll, Dl.boolOf, Dl.putO, Dl.free, Dl.outO, Dl.withAll, Dl.runN, Dl.derefs, Dl.mutO, Dl.isLst, Dl.isDct, Dl.putI, Dl.putD, Dl.setI, Dl.augO, Dl.getI, Dl.slotOf, Dl.slotsOf, Dl.lents, Dl.takeB, Dl.backS, Dl.useSel, Dl.back, Dl.gd, Dl.pyIx, L2.atI, L2.ixN, Dl.pyGet, Dl.pyMul, Dl.pyAdd, Dl.pyEq, Dl.pyNe, Dl.mulOk, Dl.powOk, Dl.pySlice, Dl.fLen, Dl.fList, Dl.fTuple, Dl.mAppend, Dl.mReverse, Dl.mClear, Dl.mExtend, Dl.mInsert, Dl.mkTup, Dl.mkLst, Dl.pyIsN, Dl.pyNotN, Dl.fNeg, Dl.pyRev, Dl.gN, Dl.gsNil, Dl.gsCons, Dl.gT, Dl.srcL, Dl.srcT, Dl.srcS, Dl.srcQ, Dl.srcR1, Dl.srcR2, Dl.hide, Dl.restore, PySem.sizeLine_eq, Dl.lockS, Dl.pyIs, Dl.fInt, Dl.dpopO])
section
variable {K : PySem.W.Frag} {F H : Hp} {σ : Sg} {ρ : Rho}
def refsL (vs : List V) : List Addr := vs.flatMap refsV
theorem fpL_own : ∀ {vs : List V} {ds : List D}, vs.length = ds.length → fpL H vs (ds.map .own) = refsL vs
  | [], [], _ => rfl
  | v :: vs, d :: ds, h => by
    rw [List.map_cons, fpL, fpT, fpL_own (by simpa using h)]
    rfl
  | [], _ :: _, h => by simp at h
  | _ :: _, [], h => by simp at h
def KidsAt (K : PySem.W.Frag) (F H : Hp) (vs : List V) (ds : List D) : Prop := vs.length = ds.length ∧ ∀ (k : Nat) (v : V) (d : D), vs[k]? = some v → ds[k]? = some d → ∃ b : Addr, v = V.ref b ∧ F b = none ∧ OwnAt K F H b d
theorem tatL_own : ∀ {vs : List V} {ds : List D}, TAtL K F H vs (ds.map .own) ↔ KidsAt K F H vs ds
  | [], [] => ⟨fun _ => ⟨rfl, fun k v d h => by simp at h⟩, fun _ => trivial⟩
  | [], d :: ds => ⟨fun h => h.elim, fun h => by have := h.1; simp at this⟩
  | v :: vs, [] => ⟨fun h => h.elim, fun h => by have := h.1; simp at this⟩
  | v :: vs, d :: ds => by
    rw [List.map_cons, TAtL]
    have ih := @tatL_own vs ds
    constructor
    · rintro ⟨h1, h2⟩
      obtain ⟨l, h3⟩ := ih.mp h2
      refine ⟨by simp [l], fun k w e hw he => ?_⟩
      cases k with
      | zero => cases hw; cases he; exact h1
      | succ k => exact h3 k w e (by simpa using hw) (by simpa using he)
    · rintro ⟨l, h⟩
      exact ⟨h 0 v d rfl rfl, ih.mpr ⟨by simpa using l, fun k w e hw he => h (k + 1) w e (by simpa using hw) (by simpa using he)⟩⟩
theorem refs_in {vs : List V} {b : Addr} : b ∈ refsL vs ↔ ∃ k : Nat, vs[k]? = some (V.ref b) := by
  unfold refsL
  rw [List.mem_flatMap]
  constructor
  · rintro ⟨v, hv, hb⟩
    rw [mem_refs] at hb
    subst hb
    obtain ⟨k, hk, e⟩ := List.getElem_of_mem hv
    exact ⟨k, by rw [List.getElem?_eq_getElem hk, e]⟩
  · rintro ⟨k, hk⟩
    exact ⟨_, List.mem_of_getElem? hk, mem_refs.mpr rfl⟩
theorem refs_inj : ∀ {vs : List V} {b : Addr} {k l : Nat}, (refsL vs).Nodup → vs[k]? = some (.ref b) → vs[l]? = some (.ref b) → k = l
  | [], b, k, l, _, h, _ => by simp at h
  | v :: vs, b, k, l, nd, h1, h2 => by
    have nd : (refsV v ++ refsL vs).Nodup := nd
    obtain ⟨n1, n2, n3⟩ := List.nodup_append.mp nd
    cases k with
    | zero =>
      cases l with
      | zero => rfl
      | succ l =>
        cases h1
        exact absurd rfl (n3 b (mem_refs.mpr rfl) b (refs_in.mpr ⟨l, by simpa using h2⟩))
    | succ k =>
      cases l with
      | zero =>
        cases h2
        exact absurd rfl (n3 b (mem_refs.mpr rfl) b (refs_in.mpr ⟨k, by simpa using h1⟩))
      | succ l =>
        have h1 : vs[k]? = some (V.ref b) := by simpa using h1
        have h2 : vs[l]? = some (V.ref b) := by simpa using h2
        rw [refs_inj n2 h1 h2]
/-- what is known of it -/
structure Kids (K : PySem.W.Frag) (F H : Hp) (σ : Sg) (ρ : Rho) (i : Nat) (ds : List D) (a : Addr) (vs : List V) : Prop where
  at_ : σ[i]? = some (some (.ref a))
  fr : F a = none
  ob : H a = some (.lst vs)
  kids : KidsAt K F H vs ds
  na : a ∉ refsL vs
  nd : (refsL vs).Nodup
theorem kids_of (R : Rel K F σ H ρ) {i : Nat} {ds : List D} (hi : ρ[i]? = some (.obj (.lst (ds.map .own)))) : ∃ a vs, Kids K F H σ ρ i ds a vs := by
  obtain ⟨v, h1, h2, h3⟩ := R.obj i _ _ hi rfl
  rw [TAt] at h2
  obtain ⟨a, rfl, f, ob, hk⟩ := h2
  have hk := tatL_own.mp hk
  rw [fpT, fpL_own hk.1] at h3
  obtain ⟨n1, n2, n3⟩ := List.nodup_append.mp h3
  exact ⟨a, _, h1, f, ob, hk, fun h => n3 a (mem_refs.mpr rfl) a h rfl, n2⟩
theorem mine_i {i : Nat} {ds : List D} {a : Addr} {vs : List V} (hi : ρ[i]? = some (.obj (.lst (ds.map .own)))) (k : Kids K F H σ ρ i ds a vs) {b : Addr} : Mine H σ ρ i b ↔ b = a ∨ b ∈ refsL vs := by
  have kv : kidsV H (.ref a) = vs := by
    unfold kidsV
    dsimp only
    rw [k.ob]
    rfl
  have fp : (Slot.obj (.lst (ds.map .own))).fp H (.ref a) = refsV (.ref a) ++ refsL vs := by
    show fpT H (.ref a) (.lst (ds.map .own)) = _
    rw [fpT, kv, fpL_own k.kids.1]
  constructor
  · rintro ⟨s, v, e1, e2, h⟩
    rw [hi] at e1; cases e1
    rw [k.at_] at e2; cases e2
    rw [fp, List.mem_append, mem_refs] at h
    exact h.imp (fun z => by cases z; rfl) id
  · intro h
    exact ⟨_, _, hi, k.at_, by rw [fp, List.mem_append, mem_refs]; exact h.imp (fun z => by rw [z]) id⟩
/-- put together again -/
def closeR (ρ3 : Rho) (i : Nat) (ds' : List D) : Rho := ρ3.set i (.obj (.lst (ds'.map .own)))
end
section
variable {X : Cx} {W : WX} {pos : Pos}
theorem newsOf_at {K : PySem.W.Frag} {F H : Hp} {σ : Sg} {ρ : Rho} : ∀ {os : List Opd} {ds : List D} {vs : List V}, newsOf os = some ds → Paired (RO K F H σ ρ) vs os → KidsAt K F H vs ds ∧ news H vs os = refsL vs ∧ ∀ b ∈ refsL vs, ¬ Own H σ ρ b
  | [], ds, vs, h, p => by cases h; cases p; exact ⟨⟨rfl, fun k v d h => by simp at h⟩, rfl, fun b h => by cases h⟩
  | o :: os, ds, vs, h, p => by
    cases p with
    | @cons v _ vs _ r rs =>
      cases o with
      | new d =>
        unfold newsOf at h
        obtain ⟨es, he, rfl⟩ := Option.map_eq_some_iff.mp h
        obtain ⟨⟨l, h1⟩, h2, h3⟩ := newsOf_at he rs
        obtain ⟨a, rfl, f, ow, n⟩ := r
        refine ⟨⟨by simp [l], fun k v e hv he => ?_⟩, ?_, fun b hb => ?_⟩
        · cases k with
          | zero => cases hv; cases he; exact ⟨a, rfl, f, ow⟩
          | succ k => exact h1 k v e (by simpa using hv) (by simpa using he)
        · unfold news
          rw [h2]
          rfl
        · have hb : b ∈ refsV (.ref a) ++ refsL vs := hb
          rcases List.mem_append.mp hb with z | z
          · rw [mem_refs] at z; cases z; exact n
          · exact h3 b z
      | val d => cases h
      | loc d => cases h
      | nob d => cases h
      | lob d => cases h
theorem de_lstN {es : List Expr} {m : MA} (h : DA X W es m) : DE X W (.List es pos) (eLstN m) := by
  obtain ⟨t, p, q⟩ := h
  refine ⟨_, pe_lst p, fun F σ H ρ Q R h => q F σ H ρ _ R ?_⟩
  unfold eLstN at h
  cases e : m ρ with
  | fail => rw [e] at h; exact h
  | ex x ρ' => rw [e] at h; exact h
  | ok os ρ1 =>
    rw [e] at h
    intro vs F1 H1 s1 R1 ro ns
    dsimp only [Rs.bind] at h
    unfold lstN at h
    cases en : newsOf os with
    | none => rw [en] at h; exact False.elim h
    | some ds =>
      rw [en] at h
      dsimp only at h
      split at h
      · rename_i hz
        obtain ⟨⟨l, hk⟩, hn, hno⟩ := newsOf_at en ro.all
        refine ⟨by rw [l]; exact hz, fun p np => ?_⟩
        obtain ⟨fp, g, _⟩ := upd_fresh (K := X.K) (o := .lst vs) R1.sub np trivial
        have np' : p ∉ refsL vs := fun z => by
          obtain ⟨k, hk'⟩ := refs_in.mp z
          have hl : k < ds.length := by rw [← l]; exact (List.getElem?_eq_some_iff.mp hk').1
          obtain ⟨b, e1, _, ow⟩ := hk k _ _ hk' (List.getElem?_eq_getElem hl)
          cases e1
          obtain ⟨o, ho, _⟩ := ow.some
          rw [np] at ho; cases ho
        have kv : kidsV (upd H1 p (.lst vs)) (.ref p) = vs := by
          show kidsO (upd H1 p (.lst vs) p) = vs
          rw [upd_same]; rfl
        have kids : KidsAt X.K F1 (upd H1 p (.lst vs)) vs ds := ⟨l, fun k v d hv hd => by
          obtain ⟨b, e1, f, ow⟩ := hk k v d hv hd
          subst e1
          refine ⟨b, rfl, f, ow.mono (Ext.refl _) fun u hu => ?_⟩
          rw [upd_ne (by rintro rfl; exact np' (refs_in.mpr ⟨k, hv⟩))]
          exact hu⟩
        have efp : fpT (upd H1 p (.lst vs)) (.ref p) (.lst (ds.map .own)) = refsV (.ref p) ++ refsL vs := by rw [fpT, kv, fpL_own l]
        refine h (.ref p) _ _ (s1.trans (g.step R1)) (g.rel R1) ⟨?_, ?_, fun b hb => ?_⟩ fun _ b hb u hu t f => ?_
        · rw [TAt]
          exact ⟨p, rfl, fp, by rw [kv]; exact upd_same, by rw [kv]; exact tatL_own.mpr kids⟩
        · rw [efp]
          have nd := ro.nd
          rw [hn] at nd
          exact List.nodup_append.mpr ⟨by simp [refsV], nd, fun x hx y hy e => by
            rw [mem_refs] at hx
            cases hx
            subst e
            exact np' hy⟩
        · rw [efp] at hb
          rcases List.mem_append.mp hb with z | z
          · rw [mem_refs] at z; cases z
            exact not_ownG R1 g np
          · intro w
            exact hno b z ((R1.owns (g.same R1) b).mp w)
        · have hb : b ∈ fpT (upd H1 p (.lst vs)) (.ref p) (.lst (ds.map .own)) := hb
          rw [efp] at hb
          rcases List.mem_append.mp hb with z | z
          · rw [mem_refs] at z; cases z
            refine Classical.byContradiction fun n => ?_
            obtain ⟨x, _⟩ := s1.fr.keep p u hu t f n
            rw [np] at x; cases x
          · exact ns b (by rw [hn]; exact z) u hu t f
      · exact False.elim h
end
theorem ownsT_eq : ∀ {ts : List T} {ds : List D}, ownsT ts = some ds → ts = ds.map .own
  | [], ds, h => by cases h; rfl
  | t :: ts, ds, h => by
    cases t <;> try (cases h; done)
    unfold ownsT at h
    obtain ⟨es, he, rfl⟩ := Option.map_eq_some_iff.mp h
    rw [ownsT_eq he]; rfl
section
variable {X : Cx} {W : WX} {pos : Pos}
end
def kLoop (i j : Nat) (b : MS) : List D → List D → Rho → Rs Flow
  | done, [], ρ => .ok .nx (closeR ρ i done)
  | done, d :: ds, ρ => if free ρ j = true ∧ j < ρ.length then (match b (ρ.set j (.par d)) with
    | .ok .nx ρ1 => (match ρ1[i]?, ρ1[j]? with
      | some (.opa .gone), some (.par d') => kLoop i j b (done ++ [d']) ds (ρ1.set j .un)
      | _, _ => .fail)
    | _ => .fail) else .fail
def sForK (i j : Nat) (b : MS) : MS := fun ρ => match ρ[i]? with
  | some (.obj (.lst ts)) => (match ownsT ts with
    | some ds => if i ≠ j then kLoop i j b [] ds (ρ.set i (.opa .gone)) else .fail
    | none => .fail)
  | _ => .fail
section
variable {K : PySem.W.Frag} {F H F0 H0 : Hp} {σ σ0 : Sg} {ρ ρ0 : Rho} {i j : Nat} {a : Addr} {vs : List V}
/-- the list and its members are nobody's now -/
structure Aw (K : PySem.W.Frag) (F H : Hp) (σ : Sg) (ρ : Rho) (i : Nat) (a : Addr) (vs : List V) (cur : List D) : Prop where
  at_ : σ[i]? = some (some (.ref a))
  lk : ρ[i]? = some (.opa .gone)
  fr : F a = none
  ob : H a = some (.lst vs)
  na : ¬ Own H σ ρ a
  kids : KidsAt K F H vs cur
  nk : ∀ b ∈ refsL vs, ¬ Own H σ ρ b
theorem opa_mine {i : Nat} {j : Nat} {b : Addr} (h : Mine H σ (ρ.set i (.opa .gone)) j b) : j ≠ i ∧ Mine H σ ρ j b := by
  obtain ⟨s, v, e1, e2, hb⟩ := h
  by_cases hj : i = j
  · subst hj
    by_cases hl : i < ρ.length
    · rw [List.getElem?_set_self hl] at e1; cases e1
      cases hb
    · rw [List.getElem?_eq_none (by simpa using hl)] at e1; cases e1
  · rw [List.getElem?_set_ne hj] at e1
    exact ⟨fun z => hj z.symm, s, v, e1, e2, hb⟩
theorem aw_open (R : Rel K F σ H ρ) {ds : List D} (hi : ρ[i]? = some (.obj (.lst (ds.map .own)))) (k : Kids K F H σ ρ i ds a vs) :
    Rel K F σ H (ρ.set i (.opa .gone)) ∧ Aw K F H σ (ρ.set i (.opa .gone)) i a vs ds ∧ Fr F H σ ρ F H σ (ρ.set i (.opa .gone)) ∧ Par σ ρ σ (ρ.set i (.opa .gone)) ∧ ∀ b ∈ refsL vs, Own H σ ρ b := by
  have il : i < ρ.length := (List.getElem?_eq_some_iff.mp hi).1
  have mi : ∀ {b}, b = a ∨ b ∈ refsL vs → Mine H σ ρ i b := fun {b} h => (mine_i hi k).mpr h
  have no : ∀ {b}, b = a ∨ b ∈ refsL vs → ¬ Own H σ (ρ.set i (.opa .gone)) b := fun {b} h ⟨j, mj⟩ => (opa_mine mj).1 (R.sep j i b (opa_mine mj).2 (mi h))
  refine ⟨⟨R.sub, by rw [List.length_set]; exact R.len, fun j d e => ?_, fun j s d e m q => ?_, fun j l b h1 h2 => R.sep j l b (opa_mine h1).2 (opa_mine h2).2, fun j s t e q => ?_, fun j q e => ?_, R.tab, fun _ _ _ _ _ => trivial⟩, ⟨k.at_, List.getElem?_set_self il, k.fr, k.ob, no (.inl rfl), k.kids, fun b hb => no (.inr hb)⟩, ⟨Ext.refl _, fun b o h t f n => ⟨h, f, fun ⟨j, m⟩ => n ⟨j, (opa_mine m).2⟩⟩⟩, ⟨fun j d e => ?_, fun j d e => ?_, fun j d e => ?_⟩, fun b hb => ⟨i, mi (.inr hb)⟩⟩
  · exact R.dat j d (set_at e (by simp)).2
  · exact R.own j s d (set_at e (by rintro rfl; cases m)).2 m q
  · by_cases hj : i = j
    · subst hj
      rw [List.getElem?_set_self il] at e; cases e
      cases q
      exact ⟨.ref a, k.at_, trivial, .nil⟩
    · rw [List.getElem?_set_ne hj] at e
      exact R.obj j s t e q
  · exact R.exc j q (set_at e (by simp)).2
  all_goals
    have hj : i ≠ j := by rintro rfl; rw [hi] at e; cases e
    rw [List.getElem?_set_ne hj]
  · exact ⟨⟨d, e⟩, rfl⟩
  · exact ⟨e, rfl⟩
  · exact ⟨⟨d, e, KpT.refl d⟩, rfl⟩
theorem aw_close (R : Rel K F σ H ρ) {cur : List D} (w : Aw K F H σ ρ i a vs cur) (hnd : (refsL vs).Nodup) (hna : a ∉ refsL vs) :
    Rel K F σ H (closeR ρ i cur) ∧ ∀ b, Own H σ (closeR ρ i cur) b → b = a ∨ b ∈ refsL vs ∨ Own H σ ρ b := by
  have il : i < ρ.length := (List.getElem?_eq_some_iff.mp w.lk).1
  have hi2 : (closeR ρ i cur)[i]? = some (.obj (.lst (cur.map .own))) := by unfold closeR; rw [List.getElem?_set_self il]
  have k2 : Kids K F H σ (closeR ρ i cur) i cur a vs := ⟨w.at_, w.fr, w.ob, w.kids, hna, hnd⟩
  have cat : ∀ {j : Nat} {s : Slot}, (closeR ρ i cur)[j]? = some s → (j = i ∧ s = .obj (.lst (cur.map .own))) ∨ (j ≠ i ∧ ρ[j]? = some s) := fun {j s} h => by
    by_cases hj : i = j
    · subst hj
      rw [hi2] at h; cases h
      exact .inl ⟨rfl, rfl⟩
    · unfold closeR at h
      rw [List.getElem?_set_ne hj] at h
      exact .inr ⟨fun z => hj z.symm, h⟩
  have mine : ∀ {j : Nat} {b : Addr}, Mine H σ (closeR ρ i cur) j b → (j = i ∧ (b = a ∨ b ∈ refsL vs)) ∨ (j ≠ i ∧ Mine H σ ρ j b) := fun {j b} h => by
    by_cases hj : j = i
    · subst hj
      exact .inl ⟨rfl, (mine_i hi2 k2).mp h⟩
    · obtain ⟨s, v, e1, e2, hb⟩ := h
      rcases cat e1 with ⟨z, _⟩ | ⟨_, e⟩
      · exact absurd z hj
      · exact .inr ⟨hj, s, v, e, e2, hb⟩
  have no : ∀ {b}, b = a ∨ b ∈ refsL vs → ¬ Own H σ ρ b := fun {b} h => h.elim (fun z => by rw [z]; exact w.na) (w.nk b)
  refine ⟨⟨R.sub, by unfold closeR; rw [List.length_set]; exact R.len, fun j d e => ?_, fun j s d e m q => ?_, fun j l b h1 h2 => ?_, fun j s t e q => ?_, fun j q e => ?_, R.tab, fun _ _ _ _ _ => trivial⟩, fun b ⟨j, mj⟩ => ?_⟩
  · rcases cat e with ⟨_, z⟩ | ⟨_, e⟩
    · cases z
    · exact R.dat j d e
  · rcases cat e with ⟨_, z⟩ | ⟨_, e⟩
    · subst z; cases m
    · exact R.own j s d e m q
  · rcases mine h1 with ⟨rfl, z1⟩ | ⟨n1, m1⟩ <;> rcases mine h2 with ⟨rfl, z2⟩ | ⟨n2, m2⟩
    · rfl
    · exact absurd ⟨_, m2⟩ (no z1)
    · exact absurd ⟨_, m1⟩ (no z2)
    · exact R.sep _ _ b m1 m2
  · rcases cat e with ⟨rfl, z⟩ | ⟨_, e⟩
    · subst z
      cases q
      have kv : kidsV H (.ref a) = vs := by
        show kidsO (H a) = vs
        rw [w.ob]; rfl
      refine ⟨.ref a, w.at_, ?_, ?_⟩
      · rw [TAt]
        exact ⟨a, rfl, w.fr, by rw [kv]; exact w.ob, by rw [kv]; exact tatL_own.mpr w.kids⟩
      · rw [fpT, kv, fpL_own w.kids.1]
        exact List.nodup_append.mpr ⟨by simp [refsV], hnd, fun x hx y hy e => by
          rw [mem_refs] at hx
          cases hx
          subst e
          exact hna hy⟩
    · exact R.obj j s t e q
  · rcases cat e with ⟨_, z⟩ | ⟨_, e⟩
    · cases z
    · exact R.exc j q e
  · rcases mine mj with ⟨_, z | z⟩ | ⟨_, m⟩
    · exact .inl z
    · exact .inr (.inl z)
    · exact .inr (.inr ⟨j, m⟩)
/-- a member at the name j -/
theorem aw_take (R : Rel K F σ H ρ) {cur : List D} (w : Aw K F H σ ρ i a vs cur) {m : Nat} {b : Addr} {d : D} (hv : vs[m]? = some (.ref b)) (hd : cur[m]? = some d) (hf : free ρ j = true) (hij : i ≠ j) (hj : j < ρ.length) :
    Rel K F (σ.set j (some (.ref b))) H (ρ.set j (.par d)) ∧ (∀ c, Own H (σ.set j (some (.ref b))) (ρ.set j (.par d)) c → c = b ∨ Own H σ ρ c) := by
  obtain ⟨b', e1, f, ow⟩ := w.kids.2 m _ d hv hd
  cases e1
  have nb : ¬ Own H σ ρ b := w.nk b (refs_in.mpr ⟨m, hv⟩)
  have mine : ∀ {l c}, Mine H (σ.set j (some (.ref b))) (ρ.set j (.par d)) l c → (l = j ∧ c = b) ∨ (l ≠ j ∧ Mine H σ ρ l c) := fun {l c} ⟨s, v, e1, e2, hc⟩ => by
    by_cases hl : j = l
    · subst hl
      rw [List.getElem?_set_self hj] at e1; cases e1
      rw [List.getElem?_set_self (by rw [R.len]; exact hj)] at e2; cases e2
      have hc : c ∈ refsV (.ref b) := hc
      exact .inl ⟨rfl, by have := mem_refs.mp hc; cases this; rfl⟩
    · rw [List.getElem?_set_ne hl] at e1 e2
      exact .inr ⟨fun z => hl z.symm, s, v, e1, e2, hc⟩
  refine ⟨⟨R.sub, by rw [List.length_set, List.length_set]; exact R.len, fun l e he => ?_, fun l s e he ms q => ?_, fun l k c h1 h2 => ?_, fun l s t he q => ?_, fun l q he => ?_, R.tab, fun _ _ _ _ _ => trivial⟩, fun c ⟨l, ml⟩ => ?_⟩
  · obtain ⟨ne, e2⟩ := set_at he (by simp)
    rw [List.getElem?_set_ne (Ne.symm ne)]
    exact R.dat l e e2
  · by_cases hl : j = l
    · subst hl
      rw [List.getElem?_set_self hj] at he; cases he
      cases q
      exact ⟨b, List.getElem?_set_self (by rw [R.len]; exact hj), f, ow⟩
    · rw [List.getElem?_set_ne hl] at he ⊢
      exact R.own l s e he ms q
  · rcases mine h1 with ⟨rfl, rfl⟩ | ⟨n1, m1⟩ <;> rcases mine h2 with ⟨rfl, z2⟩ | ⟨n2, m2⟩
    · rfl
    · exact absurd ⟨_, m2⟩ nb
    · subst z2; exact absurd ⟨_, m1⟩ nb
    · exact R.sep _ _ c m1 m2
  · obtain ⟨ne, e2⟩ := set_at he (by rintro rfl; cases q)
    rw [List.getElem?_set_ne (Ne.symm ne)]
    exact R.obj l s t e2 q
  · obtain ⟨ne, e2⟩ := set_at he (by simp)
    rw [List.getElem?_set_ne (Ne.symm ne)]
    exact R.exc l q e2
  · rcases mine ml with ⟨_, z⟩ | ⟨_, m⟩
    · exact .inl z
    · exact .inr ⟨l, m⟩
/-- it goes back -/
theorem aw_put {F4 H4 : Hp} {σ4 : Sg} {ρ4 : Rho} (R : Rel K F σ H ρ) {cur : List D} (w : Aw K F H σ ρ i a vs cur) (hnd : (refsL vs).Nodup) (hna : a ∉ refsL vs) {m : Nat} {b : Addr} {d d' : D} (hv : vs[m]? = some (.ref b)) (hd : cur[m]? = some d) (hf : free ρ j = true) (hij : i ≠ j) (hj : j < ρ.length)
    (s4 : StepS F H (σ.set j (some (.ref b))) (ρ.set j (.par d)) F4 H4 σ4 ρ4) (R4 : Rel K F4 σ4 H4 ρ4) (e1 : ρ4[i]? = some (.opa .gone)) (e2 : ρ4[j]? = some (.par d')) :
    Rel K F4 σ4 H4 (ρ4.set j .un) ∧ Aw K F4 H4 σ4 (ρ4.set j .un) i a vs (cur.set m d') ∧ Par σ ρ σ4 (ρ4.set j .un) ∧ (∀ c o, H c = some o → nt o → F c = none → ¬ Own H σ ρ c → c ∉ refsL vs → H4 c = some o ∧ F4 c = none ∧ ¬ Own H4 σ4 (ρ4.set j .un) c) := by
  obtain ⟨R3, o3⟩ := aw_take R w hv hd hf hij hj
  have hb : b ∈ refsL vs := refs_in.mpr ⟨m, hv⟩
  have k4 : ∀ c o, H c = some o → nt o → F c = none → ¬ Own H σ ρ c → c ≠ b → H4 c = some o ∧ F4 c = none ∧ ¬ Own H4 σ4 ρ4 c := fun c o h t f n nb => s4.fr.keep c o h t f fun z => (o3 c z).elim nb n
  have sub5 : ∀ {l c}, Mine H4 σ4 (ρ4.set j .un) l c → l ≠ j ∧ Mine H4 σ4 ρ4 l c := fun {l c} h => let ⟨x, y⟩ := mine_set rfl h; ⟨x, y⟩
  have n5 : ∀ {c}, ¬ Own H4 σ4 ρ4 c → ¬ Own H4 σ4 (ρ4.set j .un) c := fun {c} n ⟨l, ml⟩ => n ⟨l, (sub5 ml).2⟩
  have p3 := fun k t (h : (ρ.set j (.par d))[k]? = some (.opa t)) => s4.par.2.2 k t h
  have sj : σ4[j]? = some (some (.ref b)) := by
    have := (s4.par.1 j d (List.getElem?_set_self hj)).2
    rw [this, List.getElem?_set_self (by rw [R.len]; exact hj)]
  have si : σ4[i]? = σ[i]? := by
    have := (p3 i .gone (by rw [List.getElem?_set_ne (Ne.symm hij)]; exact w.lk)).2
    rw [this, List.getElem?_set_ne (Ne.symm hij)]
  have hab : a ≠ b := fun z => hna (by rw [z]; exact hb)
  obtain ⟨a1, a2, a3⟩ := k4 a _ w.ob trivial w.fr w.na hab
  obtain ⟨b', z1, bf, bow⟩ := R4.own j (.par d') d' e2 rfl rfl
  rw [sj] at z1; cases z1
  have nb5 : ¬ Own H4 σ4 (ρ4.set j .un) b := fun ⟨l, ml⟩ => by
    obtain ⟨x, y⟩ := sub5 ml
    exact x (R4.sep l j b y ⟨_, _, e2, sj, mem_refs.mpr rfl⟩)
  have kid : ∀ {k c e}, vs[k]? = some (V.ref c) → cur[k]? = some e → k ≠ m → F4 c = none ∧ OwnAt K F4 H4 c e ∧ ¬ Own H4 σ4 ρ4 c := fun {k c e} h1 h2 hk => by
    obtain ⟨c', z, f, ow⟩ := w.kids.2 k _ e h1 h2
    cases z
    obtain ⟨o, ho, t⟩ := ow.some
    have hcb : c ≠ b := fun z => by
      subst z
      exact hk (refs_inj hnd h1 hv)
    obtain ⟨x, y, z⟩ := k4 c o ho t f (w.nk c (refs_in.mpr ⟨k, h1⟩)) hcb
    exact ⟨y, ow.mono s4.fr.ext fun u hu => by rw [ho] at hu; cases hu; exact x, z⟩
  refine ⟨rel_drop R4 j, ⟨by rw [si]; exact w.at_, by rw [List.getElem?_set_ne (Ne.symm hij)]; exact e1, a2, a1, n5 a3, ⟨by rw [List.length_set]; exact w.kids.1, fun k v e h1 h2 => ?_⟩, fun c hc => ?_⟩, ⟨fun k e h => ?_, fun k e h => ?_, fun k e h => ?_⟩, fun c o h t f n nk => ?_⟩
  · by_cases hk : m = k
    · subst hk
      have hl : m < cur.length := (List.getElem?_eq_some_iff.mp hd).1
      rw [List.getElem?_set_self hl] at h2; cases h2
      rw [hv] at h1; cases h1
      exact ⟨b, rfl, bf, bow⟩
    · rw [List.getElem?_set_ne hk] at h2
      obtain ⟨c, z, _⟩ := w.kids.2 k v e h1 h2
      subst z
      obtain ⟨x, y, _⟩ := kid h1 h2 (fun z => hk z.symm)
      exact ⟨c, rfl, x, y⟩
  · by_cases hcb : c = b
    · subst hcb; exact nb5
    · obtain ⟨k, hk⟩ := refs_in.mp hc
      have hl : k < cur.length := by rw [← w.kids.1]; exact (List.getElem?_eq_some_iff.mp hk).1
      exact n5 (kid hk (List.getElem?_eq_getElem hl) (fun z => hcb (by subst z; rw [hv] at hk; cases hk; rfl))).2.2
  · have hk : j ≠ k := by rintro rfl; unfold free at hf; rw [h] at hf; cases hf
    obtain ⟨⟨d2, x⟩, y⟩ := s4.par.1 k e (by rw [List.getElem?_set_ne hk]; exact h)
    rw [List.getElem?_set_ne hk] at y ⊢
    exact ⟨⟨d2, x⟩, y⟩
  · have hk : j ≠ k := by rintro rfl; unfold free at hf; rw [h] at hf; cases hf
    obtain ⟨x, y⟩ := s4.par.2.1 k e (by rw [List.getElem?_set_ne hk]; exact h)
    rw [List.getElem?_set_ne hk] at y ⊢
    exact ⟨x, y⟩
  · have hk : j ≠ k := by rintro rfl; unfold free at hf; rw [h] at hf; cases hf
    obtain ⟨⟨d2, x⟩, y⟩ := s4.par.2.2 k e (by rw [List.getElem?_set_ne hk]; exact h)
    rw [List.getElem?_set_ne hk] at y ⊢
    exact ⟨⟨d2, x⟩, y⟩
  · obtain ⟨x, y, z⟩ := k4 c o h t f n (fun z => nk (by rw [z]; exact hb))
    exact ⟨x, y, n5 z⟩
end
section
variable {X : Cx} {W : WX} {pos : Pos}
theorem ds_forK {i j : Nat} {x y : Str} {xp yp : Pos} {body : List Stmt} {mb : MS} (hp : PassesOwn (model X.prog X.w) X.A X.env X.xe) (hc : X.calm = true) (hi : PE X (.Name x xp) (tVar i)) (hg : PG X (.Name y yp) (gName j)) (hb : DSs X W body mb)
    (hs : ∀ v, foldedSetIterable (.Name x xp) X.env v = pure v := by intro _; rfl) : DS X W (.For (.Name y yp) (.Name x xp) body [] pos) (sForK i j mb) := by
  obtain ⟨t, pb, qb⟩ := hb
  refine ⟨_, ps_for hp hc (pi_list hi) hg pb hs, fun F σ H ρ Z R h => ?_⟩
  unfold sForK at h
  cases ei : ρ[i]? with
  | none => rw [ei] at h; exact False.elim h
  | some s =>
    rw [ei] at h
    cases s with
    | obj tt =>
      cases tt with
      | lst ts =>
        dsimp only at h
        cases eo : ownsT ts with
        | none => rw [eo] at h; exact False.elim h
        | some ds =>
          rw [eo] at h
          dsimp only at h
          rw [ownsT_eq eo] at ei
          split at h
          · rename_i hij
            obtain ⟨a, vs, kk⟩ := kids_of R ei
            obtain ⟨R1, w1, fr1, par1, ow1⟩ := aw_open R ei kk
            have hnd := kk.nd
            have hna := kk.na
            refine ⟨.ref a, kk.at_, a, rfl, ⟨vs, SqL.of kk.ob⟩, ?_⟩
            have parI : ∀ {σ' : Sg} {ρ' : Rho} {cur : List D}, Par σ ρ σ' ρ' → Par σ ρ σ' (closeR ρ' i cur) := fun {σ' ρ' cur} q => by
              have ne : ∀ {k s}, ρ[k]? = some s → (∀ u, s ≠ .obj u) → i ≠ k := fun {k s} e n z => by subst z; rw [ei] at e; cases e; exact n _ rfl
              refine ⟨fun k d e => ?_, fun k d e => ?_, fun k d e => ?_⟩
              · obtain ⟨⟨d', x⟩, y⟩ := q.1 k d e
                exact ⟨⟨d', by unfold closeR; rw [List.getElem?_set_ne (ne e (by simp))]; exact x⟩, y⟩
              · obtain ⟨x, y⟩ := q.2.1 k d e
                exact ⟨by unfold closeR; rw [List.getElem?_set_ne (ne e (by simp))]; exact x, y⟩
              · obtain ⟨⟨d', x⟩, y⟩ := q.2.2 k d e
                exact ⟨⟨d', by unfold closeR; rw [List.getElem?_set_ne (ne e (by simp))]; exact x⟩, y⟩
            refine ⟨fun n m σ' H' => m = ds.length - n ∧ ∃ F' ρ' done rest, done.length = n ∧ n + rest.length = ds.length ∧ Rel X.K F' σ' H' ρ' ∧ Aw X.K F' H' σ' ρ' i a vs (done ++ rest) ∧ Fr F H σ ρ F' H' σ' ρ' ∧ Par σ ρ σ' ρ' ∧ SPost X.K W F H σ ρ Z (kLoop i j mb done rest ρ'),
              ⟨ds.length, rfl, F, _, [], ds, rfl, by simp, R1, w1, fr1, par1, h⟩, ?_⟩
            rintro n m σ' H' ⟨rfl, F', ρ', done, rest, hdl, hrl, R', w', fr', par', hq⟩
            cases rest with
            | nil =>
              refine .inl ⟨⟨vs, SqL.of w'.ob, by rw [w'.kids.1, List.append_nil]; omega⟩, ?_⟩
              rw [List.append_nil] at w'
              obtain ⟨R2, o2⟩ := aw_close R' w' hnd hna
              unfold kLoop at hq
              refine hq σ' F' H' ⟨⟨fr'.ext, fun b o hb tb f nb => ?_⟩, parI par'⟩ R2
              obtain ⟨x, y, z⟩ := fr'.keep b o hb tb f nb
              refine ⟨x, y, fun q => ?_⟩
              rcases o2 b q with rfl | q | q
              · exact nb ⟨i, (mine_i ei kk).mpr (.inl rfl)⟩
              · exact nb (ow1 b q)
              · exact z q
            | cons d rest =>
              have hlt : n < vs.length := by rw [w'.kids.1, List.length_append, List.length_cons]; omega
              have hd : (done ++ d :: rest)[n]? = some d := by rw [List.getElem?_append_right (by omega), hdl, Nat.sub_self]; rfl
              obtain ⟨b, hvb, _, _⟩ := w'.kids.2 n _ d (List.getElem?_eq_getElem hlt) hd
              have hv : vs[n]? = some (.ref b) := by rw [List.getElem?_eq_getElem hlt, hvb]
              unfold kLoop at hq
              split at hq
              · rename_i hf
                refine .inr ⟨⟨vs, _, SqL.of w'.ob, hv⟩, fun σ2 H2 => ∃ F' ρ' done rest, done.length = n + 1 ∧ n + 1 + rest.length = ds.length ∧ Rel X.K F' σ2 H2 ρ' ∧ Aw X.K F' H2 σ2 ρ' i a vs (done ++ rest) ∧ Fr F H σ ρ F' H2 σ2 ρ' ∧ Par σ ρ σ2 ρ' ∧ SPost X.K W F H σ ρ Z (kLoop i j mb done rest ρ'), fun σ2 H2 q => ⟨ds.length - (n + 1), by simp only [List.length_cons] at hrl; omega, rfl, q⟩, fun x H2 y => ?_⟩
                obtain ⟨rfl, y⟩ := y
                have hx := y vs (SqL.of w'.ob)
                rw [hv] at hx; cases hx
                obtain ⟨hf, hj⟩ := hf
                obtain ⟨R3, o3⟩ := aw_take R' w' hv hd hf hij hj
                refine qb F' _ H2 _ _ R3 ?_
                cases er : mb (ρ'.set j (.par d)) with
                | fail => rw [er] at hq; exact False.elim hq
                | ex x ρ4 => rw [er] at hq; exact False.elim hq
                | ok f ρ4 =>
                  rw [er] at hq
                  cases f with
                  | bk => exact False.elim hq
                  | ct => exact False.elim hq
                  | rt o => exact False.elim hq
                  | nx =>
                    intro σ4 F4 H4 s4 R4
                    dsimp only at hq
                    split at hq
                    · rename_i d' e1 e2
                      obtain ⟨R5, w5, p5, k5⟩ := aw_put R' w' hnd hna hv hd hf hij hj s4 R4 e1 e2
                      have es : (done ++ d :: rest).set n d' = (done ++ [d']) ++ rest := by
                        rw [List.set_append_right _ _ (by omega), hdl, Nat.sub_self]
                        simp
                      rw [es] at w5
                      refine ⟨F4, _, done ++ [d'], rest, by simp [hdl], by simp only [List.length_cons] at hrl; omega, R5, w5, ⟨fr'.ext.trans s4.fr.ext, fun c o hc tc f nc => ?_⟩, ?_, hq⟩
                      · obtain ⟨x, y, z⟩ := fr'.keep c o hc tc f nc
                        exact k5 c o x tc y z fun q => nc (ow1 c q)
                      · exact ⟨fun k d e => by
                          obtain ⟨⟨d1, x1⟩, y1⟩ := par'.1 k d e
                          obtain ⟨x2, y2⟩ := p5.1 k d1 x1
                          exact ⟨x2, y2.trans y1⟩, fun k d e => by
                          obtain ⟨x1, y1⟩ := par'.2.1 k d e
                          obtain ⟨x2, y2⟩ := p5.2.1 k d x1
                          exact ⟨x2, y2.trans y1⟩, fun k d e => by
                          obtain ⟨⟨d1, x1, q1⟩, y1⟩ := par'.2.2 k d e
                          obtain ⟨⟨d2, x2, q2⟩, y2⟩ := p5.2.2 k d1 x1
                          exact ⟨⟨d2, x2, q1.trans q2⟩, y2.trans y1⟩⟩
                    · exact False.elim hq
              · exact False.elim hq
          · exact False.elim h
      | _ => exact False.elim h
    | un => exact False.elim h
    | dat d => exact False.elim h
    | own d => exact False.elim h
    | par d => exact False.elim h
    | lck d => exact False.elim h
    | opa d => exact False.elim h
    | exc d => exact False.elim h
end
@[simp ↓] theorem wp_eLstN {QO : Opd → Rho → Prop} {X : Ex → Rho → Prop} {ρ : Rho} (ma : MA) : wp (eLstN ma ρ) QO X = wp (ma ρ) (fun os ρ1 => wp (lstN os ρ1) QO X) X := by unfold eLstN; rw [wp_bind]
local macro_rules | `(tactic| simp_arith [$ls,*]) => `(tactic| simp -dsimp -implicitDefEqProofs [Dl.T.odd, Dl.vI, Dl.vB, Dl.vS, Dl.run2, Dl.run1, Dl.deref, Dl.Slot.data?, Dl.Slot.tree?, Dl.T.toD, Dl.toDs, Dl.useO, Dl.useAll, Dl.boolOf, Dl.putO, Dl.free, Dl.outO, Dl.withAll, Dl.runN, Dl.derefs, Dl.mutO, Dl.isLst, Dl.isDct, Dl.putI, Dl.putD, Dl.setI, Dl.augO, Dl.getI, Dl.slotOf, Dl.slotsOf, Dl.lents, Dl.takeB, Dl.backS, Dl.useSel, Dl.back, Dl.gd, Dl.pyIx, L2.atI, L2.ixN, Dl.pyGet, Dl.pyMul, Dl.pyAdd, Dl.pyEq, Dl.pyNe, Dl.mulOk, Dl.powOk, Dl.pySlice, Dl.fLen, Dl.fList, Dl.fTuple, Dl.mAppend, Dl.mReverse, Dl.mClear, Dl.mExtend, Dl.mInsert, Dl.mkTup, Dl.mkLst, Dl.pyIsN, Dl.pyNotN, Dl.fNeg, Dl.pyRev, Dl.gN, Dl.gsNil, Dl.gsCons, Dl.gT, Dl.srcL, Dl.srcT, Dl.srcS, Dl.srcQ, Dl.srcR1, Dl.srcR2, Dl.hide, Dl.restore, PySem.sizeLine_eq, Dl.lockS, Dl.pyIs, Dl.fInt, Dl.dpopO, Dl.lstN, Dl.newsOf, $ls,*])
local macro_rules | `(tactic| simp_arith) => `(tactic| simp -dsimp -implicitDefEqProofs [Dl.T.odd, Dl.vI, Dl.vB, Dl.vS, Dl.run2, Dl.run1, Dl.deref, Dl.Slot.data?, Dl.Slot.tree?, Dl.T.toD, Dl.toDs, Dl.useO, Dl.useAll, Dl.boolOf, Dl.putO, Dl.free, Dl.outO, Dl.withAll, Dl.runN, Dl.derefs, Dl.mutO, Dl.isLst, Dl.isDct, Dl.putI, Dl.putD, Dl.setI, Dl.augO, Dl.getI, Dl.slotOf, Dl.slotsOf, Dl.lents, Dl.takeB, Dl.backS, Dl.useSel, Dl.back, Dl.gd, Dl.pyIx, L2.atI, L2.ixN, Dl.pyGet, Dl.pyMul, Dl.pyAdd, Dl.pyEq, Dl.pyNe, Dl.mulOk, Dl.powOk, Dl.pySlice, Dl.fLen, Dl.fList, Dl.fTuple, Dl.mAppend, Dl.mReverse, Dl.mClear, Dl.mExtend, Dl.mInsert, Dl.mkTup, Dl.mkLst, Dl.pyIsN, Dl.pyNotN, Dl.fNeg, Dl.pyRev, Dl.gN, Dl.gsNil, Dl.gsCons, Dl.gT, Dl.srcL, Dl.srcT, Dl.srcS, Dl.srcQ, Dl.srcR1, Dl.srcR2, Dl.hide, Dl.restore, PySem.sizeLine_eq, Dl.lockS, Dl.pyIs, Dl.fInt, Dl.dpopO, Dl.lstN, Dl.newsOf])
def treeS (t : T) : Slot := match t.toD with
  | some d => .dat d
  | none => .un
theorem treeS_or (t : T) : treeS t = .un ∨ ∃ d, treeS t = .dat d ∧ t.toD = some d := by
  unfold treeS
  cases e : t.toD with
  | none => exact .inl rfl
  | some d => exact .inr ⟨d, rfl, rfl⟩
def viewS : Slot → Slot
  | .un => .un
  | .dat d => .dat d
  | .own d => .dat d
  | .par d => .dat d
  | .lck d => .dat d
  | .obj t => treeS t
  | .opa t => treeS t
  | .exc q => .exc q
def viewR (ρ : Rho) : Rho := ρ.map viewS
def scal : D → Bool
  | .int _ => true
  | .bool _ => true
  | .str _ => true
  | .none => true
  | _ => false
def eView (m : ME) : ME := fun ρ => match m (viewR ρ) with
  | .ok (.val d) _ => if scal d = true then .ok (.val d) ρ else .fail
  | _ => .fail
section
variable {K : PySem.W.Frag} {F H : Hp} {σ : Sg} {ρ : Rho}
def ownL (H : Hp) (σ : Sg) (ρ : Rho) : List Addr := (List.range ρ.length).flatMap fun i => match ρ[i]?, σ[i]? with
  | some s, some (some v) => s.fp H v
  | _, _ => []
theorem ownL_mem {b : Addr} : b ∈ ownL H σ ρ ↔ Own H σ ρ b := by
  unfold ownL
  rw [List.mem_flatMap]
  constructor
  · rintro ⟨i, _, hb⟩
    cases e1 : ρ[i]? with
    | none => rw [e1] at hb; cases hb
    | some s =>
      cases e2 : σ[i]? with
      | none => rw [e1, e2] at hb; cases hb
      | some o =>
        cases o with
        | none => rw [e1, e2] at hb; cases hb
        | some v =>
          rw [e1, e2] at hb
          exact ⟨i, s, v, e1, e2, hb⟩
  · rintro ⟨i, s, v, e1, e2, hb⟩
    exact ⟨i, List.mem_range.mpr (List.getElem?_eq_some_iff.mp e1).1, by rw [e1, e2]; exact hb⟩
theorem viewS_fp (s : Slot) (H : Hp) (v : V) : (viewS s).fp H v = [] := by
  cases s with
  | obj t => show (treeS t).fp H v = []; rcases treeS_or t with e | ⟨d, e, _⟩ <;> (rw [e]; rfl)
  | opa t => show (treeS t).fp H v = []; rcases treeS_or t with e | ⟨d, e, _⟩ <;> (rw [e]; rfl)
  | un => rfl
  | dat d => rfl
  | own d => rfl
  | par d => rfl
  | lck d => rfl
  | exc d => rfl
theorem view_own (b : Addr) : ¬ Own H σ (viewR ρ) b := fun ⟨i, s, v, e1, _, hb⟩ => by
  unfold viewR at e1
  rw [List.getElem?_map, Option.map_eq_some_iff] at e1
  obtain ⟨t, _, rfl⟩ := e1
  rw [viewS_fp] at hb
  cases hb
theorem view_rel (R : Rel K F σ H ρ) : Rel K (frzS F H (ownL H σ ρ)) σ H (viewR ρ) := by
  have hS : ∀ a ∈ ownL H σ ρ, F a = none ∧ ∃ o, H a = some o ∧ nt o := fun a ha => R.has (ownL_mem.mp ha)
  have ex : Ext F (frzS F H (ownL H σ ρ)) := frz_ext fun a h => (hS a h).1
  have at_ : ∀ {i : Nat} {s : Slot}, (viewR ρ)[i]? = some s → ∃ t, ρ[i]? = some t ∧ s = viewS t := fun {i s} e => by
    unfold viewR at e
    rw [List.getElem?_map, Option.map_eq_some_iff] at e
    obtain ⟨t, h, rfl⟩ := e
    exact ⟨t, h, rfl⟩
  have nm : ∀ {t : Slot}, (viewS t).mine = false := fun {t} => by
    cases t with
    | obj t => show (treeS t).mine = false; rcases treeS_or t with e | ⟨d, e, _⟩ <;> (rw [e]; rfl)
    | opa t => show (treeS t).mine = false; rcases treeS_or t with e | ⟨d, e, _⟩ <;> (rw [e]; rfl)
    | un => rfl
    | dat d => rfl
    | own d => rfl
    | par d => rfl
    | lck d => rfl
    | exc d => rfl
  have ntr : ∀ {t : Slot}, (viewS t).tree? = none := fun {t} => by
    cases t with
    | obj t => show (treeS t).tree? = none; rcases treeS_or t with e | ⟨d, e, _⟩ <;> (rw [e]; rfl)
    | opa t => show (treeS t).tree? = none; rcases treeS_or t with e | ⟨d, e, _⟩ <;> (rw [e]; rfl)
    | un => rfl
    | dat d => rfl
    | own d => rfl
    | par d => rfl
    | lck d => rfl
    | exc d => rfl
  refine ⟨fun b u h => ?_, by unfold viewR; rw [List.length_map]; exact R.len, fun i d e => ?_, fun i s d e m q => ?_, fun i j a h1 h2 => absurd ⟨i, h1⟩ (view_own a), fun i s t e q => ?_, fun i q e => ?_, R.tab, fun _ _ _ _ _ => trivial⟩
  · by_cases hb : b ∈ ownL H σ ρ
    · rw [frz_in hb] at h
      obtain ⟨o, ho, t⟩ := (hS b hb).2
      rw [ho] at h; cases h
      exact ⟨.inl ho, t.tb⟩
    · rw [frz_out hb] at h; exact R.sub b u h
  · obtain ⟨t, et, ed⟩ := at_ e
    have own : ∀ d', t.mine = true → t.data? = some d' → d' = d → ∃ v, σ[i]? = some (some v) ∧ Rp K (frzS F H (ownL H σ ρ)) v d := fun d' m q z => by
      subst z
      obtain ⟨a, h1, _, ow⟩ := R.own i t d' et m q
      exact ⟨_, h1, frz_own ex (frz_in (ownL_mem.mpr ⟨i, Mine.of et m h1⟩)) ow⟩
    have tree : ∀ u, t.tree? = some u → u.toD = some d → ∃ v, σ[i]? = some (some v) ∧ Rp K (frzS F H (ownL H σ ρ)) v d := fun u q z => by
      obtain ⟨v, h1, h2, _⟩ := R.obj i t u et q
      refine ⟨v, h1, frz_tree ex h2 z fun a ha => frz_in (ownL_mem.mpr ⟨i, t, v, et, h1, ?_⟩)⟩
      cases t <;> first | (cases q; done) | (cases q; exact ha)
    cases t with
    | obj u =>
      have ed : Slot.dat d = treeS u := ed
      rcases treeS_or u with z | ⟨d2, z, z2⟩
      · rw [z] at ed; cases ed
      · rw [z] at ed; cases ed; exact tree u rfl z2
    | opa u =>
      have ed : Slot.dat d = treeS u := ed
      rcases treeS_or u with z | ⟨d2, z, z2⟩
      · rw [z] at ed; cases ed
      · rw [z] at ed; cases ed; exact tree u rfl z2
    | un => cases ed
    | dat d2 =>
      cases ed
      obtain ⟨v, h1, h2⟩ := R.dat i _ et
      exact ⟨v, h1, h2.mono ex⟩
    | own d2 => cases ed; exact own _ rfl rfl rfl
    | par d2 => cases ed; exact own _ rfl rfl rfl
    | lck d2 => cases ed; exact own _ rfl rfl rfl
    | exc d2 => cases ed
  · obtain ⟨t, _, rfl⟩ := at_ e
    rw [nm] at m; cases m
  · obtain ⟨u, _, rfl⟩ := at_ e
    rw [ntr] at q; cases q
  · obtain ⟨t, et, ed⟩ := at_ e
    cases t with
    | exc q2 =>
      cases ed
      exact ⟨(R.exc i q et).1, (R.exc i q et).2.mono ex⟩
    | obj u =>
      have ed : Slot.exc q = treeS u := ed
      rcases treeS_or u with z | ⟨d2, z, z2⟩
      · rw [z] at ed; cases ed
      · rw [z] at ed; cases ed
    | opa u =>
      have ed : Slot.exc q = treeS u := ed
      rcases treeS_or u with z | ⟨d2, z, z2⟩
      · rw [z] at ed; cases ed
      · rw [z] at ed; cases ed
    | un => cases ed
    | dat d => cases ed
    | own d => cases ed
    | par d => cases ed
    | lck d => cases ed
theorem view_back (R : Rel K F σ H ρ) {F2 H2 : Hp} {ρ2 : Rho} (st : Step (frzS F H (ownL H σ ρ)) H σ (viewR ρ) F2 H2 ρ2) (R2 : Rel K F2 σ H2 ρ2) : Rel K F σ H2 ρ ∧ Step F H σ ρ F H2 ρ := by
  have hS : ∀ a ∈ ownL H σ ρ, F a = none ∧ ∃ o, H a = some o ∧ nt o := fun a ha => R.has (ownL_mem.mp ha)
  have ex : Ext F (frzS F H (ownL H σ ρ)) := frz_ext fun a h => (hS a h).1
  have eqS : ∀ {a u}, F2 a = some u → H2 a = some u := fun {a u} h => (R2.sub a u h).1.elim id fun ⟨_, _, ps, e⟩ => by subst e; exact ((R2.sub a _ h).2).elim
  have same : ∀ a, Own H σ ρ a → H2 a = H a := fun a ha => by
    have hm := ownL_mem.mpr ha
    obtain ⟨_, o, ho, _⟩ := hS a hm
    rw [ho]
    exact eqS (st.fr.ext a o (by rw [frz_in hm]; exact ho))
  have own2 := R.owns same
  refine ⟨⟨fun a o h => ⟨.inl (eqS (st.fr.ext a o (ex a o h))), (R.sub a o h).2⟩, R.len, R.dat, fun i s d e m q => ?_, fun i j a h1 h2 => R.sep i j a ((R.mine same i a).mp h1) ((R.mine same j a).mp h2), fun i s t e q => ?_, R.exc, R2.tab, fun _ _ _ _ _ => trivial⟩, ⟨⟨Ext.refl _, fun a o h t f n => ?_⟩, Kp.refl _, fun i c ns n v e h => R.kids e h fun a m => same a ⟨i, m⟩⟩⟩
  · obtain ⟨a, h1, h2, h3⟩ := R.own i s d e m q
    exact ⟨a, h1, h2, h3.mono (Ext.refl _) fun w hw => by rw [same a ⟨i, Mine.of e m h1⟩]; exact hw⟩
  · obtain ⟨w, h1, h2, h3, _⟩ := R.trees (F' := F) (H' := H2) (Ext.refl _) e q fun b h => ⟨same b ⟨i, h⟩, fun fb => fb⟩
    exact ⟨w, h1, h2, h3⟩
  · have hn : a ∉ ownL H σ ρ := fun z => n (ownL_mem.mp z)
    obtain ⟨x, _, _⟩ := st.fr.keep a o h t (by rw [frz_out hn]; exact f) (view_own a)
    exact ⟨x, f, fun z => n ((own2 a).mp z)⟩
theorem scal_rp {F2 : Hp} {v : V} {d : D} (h : scal d = true) (r : Rp K F2 v d) : Rp K F v d := by
  cases d <;> try (cases h; done)
  all_goals (cases r; constructor)
end
section
variable {X : Cx} {W : WX}
theorem de_view {e : Expr} {m : ME} (h : DE X W e m) : DE X W e (eView m) := by
  obtain ⟨t, p, q⟩ := h
  refine ⟨t, p, fun F σ H ρ Q R h => q _ σ H _ Q (view_rel R) ?_⟩
  unfold eView at h
  cases em : m (viewR ρ) with
  | fail => rw [em] at h; exact False.elim h
  | ex x ρ' => rw [em] at h; exact False.elim h
  | ok o ρ2 =>
    rw [em] at h
    cases o with
    | loc i => exact False.elim h
    | new i => exact False.elim h
    | nob i => exact False.elim h
    | lob i => exact False.elim h
    | val d =>
      dsimp only at h
      split at h
      · rename_i hd
        intro v F2 H2 st R2 ro _
        obtain ⟨R3, s3⟩ := view_back R st R2
        exact h v F H2 s3 R3 (scal_rp hd ro) (fun z => nomatch z)
      · exact False.elim h
end
local macro_rules | `(tactic| simp_arith [$ls,*]) => `(tactic| simp -dsimp -implicitDefEqProofs [Dl.T.odd, Dl.vI, Dl.vB, Dl.vS, Dl.run2, Dl.run1, Dl.deref, Dl.Slot.data?, Dl.Slot.tree?, Dl.T.toD, Dl.toDs, Dl.useO, Dl.useAll, Dl.boolOf, Dl.putO, Dl.free, Dl.outO, Dl.withAll, Dl.runN, Dl.derefs, Dl.mutO, Dl.isLst, Dl.isDct, Dl.putI, Dl.putD, Dl.setI, Dl.augO, Dl.getI, Dl.slotOf, Dl.slotsOf, Dl.lents, Dl.takeB, Dl.backS, Dl.useSel, Dl.back, Dl.gd, Dl.pyIx, L2.atI, L2.ixN, Dl.pyGet, Dl.pyMul, Dl.pyAdd, Dl.pyEq, Dl.pyNe, Dl.mulOk, Dl.powOk, Dl.pySlice, Dl.fLen, Dl.fList, Dl.fTuple, Dl.mAppend, Dl.mReverse, Dl.mClear, Dl.mExtend, Dl.mInsert, Dl.mkTup, Dl.mkLst, Dl.pyIsN, Dl.pyNotN, Dl.fNeg, Dl.pyRev, Dl.gN, Dl.gsNil, Dl.gsCons, Dl.gT, Dl.srcL, Dl.srcT, Dl.srcS, Dl.srcQ, Dl.srcR1, Dl.srcR2, Dl.hide, Dl.restore, PySem.sizeLine_eq, Dl.lockS, Dl.pyIs, Dl.fInt, Dl.dpopO, Dl.lstN, Dl.newsOf, Dl.viewR, Dl.viewS, Dl.treeS, Dl.scal, $ls,*])
local macro_rules | `(tactic| simp_arith) => `(tactic| simp -dsimp -implicitDefEqProofs [Dl.T.odd, Dl.vI, Dl.vB, Dl.vS, Dl.run2, Dl.run1, Dl.deref, Dl.Slot.data?, Dl.Slot.tree?, Dl.T.toD, Dl.toDs, Dl.useO, Dl.useAll, Dl.boolOf, Dl.putO, Dl.free, Dl.outO, Dl.withAll, Dl.runN, Dl.derefs, Dl.mutO, Dl.isLst, Dl.isDct, Dl.putI, Dl.putD, Dl.setI, Dl.augO, Dl.getI, Dl.slotOf, Dl.slotsOf, Dl.lents, Dl.takeB, Dl.backS, Dl.useSel, Dl.back, Dl.gd, Dl.pyIx, L2.atI, L2.ixN, Dl.pyGet, Dl.pyMul, Dl.pyAdd, Dl.pyEq, Dl.pyNe, Dl.mulOk, Dl.powOk, Dl.pySlice, Dl.fLen, Dl.fList, Dl.fTuple, Dl.mAppend, Dl.mReverse, Dl.mClear, Dl.mExtend, Dl.mInsert, Dl.mkTup, Dl.mkLst, Dl.pyIsN, Dl.pyNotN, Dl.fNeg, Dl.pyRev, Dl.gN, Dl.gsNil, Dl.gsCons, Dl.gT, Dl.srcL, Dl.srcT, Dl.srcS, Dl.srcQ, Dl.srcR1, Dl.srcR2, Dl.hide, Dl.restore, PySem.sizeLine_eq, Dl.lockS, Dl.pyIs, Dl.fInt, Dl.dpopO, Dl.lstN, Dl.newsOf, Dl.viewR, Dl.viewS, Dl.treeS, Dl.scal])
def sRetT (i j : Nat) : MS := fun ρ => match ρ[i]?, ρ[j]? with
  | some (.own d), some (.own e) => if i ≠ j then .ok (.rt (.nob (.tup [.own d, .own e]))) ((ρ.set i .un).set j .un) else .fail
  | _, _ => .fail
@[simp ↓] theorem wp_sUnp {QF : Flow → Rho → Prop} {X : Ex → Rho → Prop} {ρ : Rho} (i j : Nat) (m : ME) : wp (sUnp i j m ρ) QF X = wp (m ρ) (fun o ρ1 => wp (match o with
  | .nob (.tup [.own d, .own e]) => if i ≠ j ∧ free ρ1 i = true ∧ free ρ1 j = true then (.ok .nx ((ρ1.set i (.own d)).set j (.own e)) : Rs Flow) else .fail
  | _ => .fail) QF X) X := by unfold sUnp; rw [wp_bind]
local macro_rules | `(tactic| simp_arith [$ls,*]) => `(tactic| simp -dsimp -implicitDefEqProofs [Dl.T.odd, Dl.vI, Dl.vB, Dl.vS, Dl.run2, Dl.run1, Dl.deref, Dl.Slot.data?, Dl.Slot.tree?, Dl.T.toD, Dl.toDs, Dl.useO, Dl.useAll, Dl.boolOf, Dl.putO, Dl.free, Dl.outO, Dl.withAll, Dl.runN, Dl.derefs, Dl.mutO, Dl.isLst, Dl.isDct, Dl.putI, Dl.putD, Dl.setI, Dl.augO, Dl.getI, Dl.slotOf, Dl.slotsOf, Dl.lents, Dl.takeB, Dl.backS, Dl.useSel, Dl.back, Dl.gd, Dl.pyIx, L2.atI, L2.ixN, Dl.pyGet, Dl.pyMul, Dl.pyAdd, Dl.pyEq, Dl.pyNe, Dl.mulOk, Dl.powOk, Dl.pySlice, Dl.fLen, Dl.fList, Dl.fTuple, Dl.mAppend, Dl.mReverse, Dl.mClear, Dl.mExtend, Dl.mInsert, Dl.mkTup, Dl.mkLst, Dl.pyIsN, Dl.pyNotN, Dl.fNeg, Dl.pyRev, Dl.gN, Dl.gsNil, Dl.gsCons, Dl.gT, Dl.srcL, Dl.srcT, Dl.srcS, Dl.srcQ, Dl.srcR1, Dl.srcR2, Dl.hide, Dl.restore, PySem.sizeLine_eq, Dl.lockS, Dl.pyIs, Dl.fInt, Dl.dpopO, Dl.lstN, Dl.newsOf, Dl.viewR, Dl.viewS, Dl.treeS, Dl.scal, Dl.sRetT, $ls,*])
local macro_rules | `(tactic| simp_arith) => `(tactic| simp -dsimp -implicitDefEqProofs [Dl.T.odd, Dl.vI, Dl.vB, Dl.vS, Dl.run2, Dl.run1, Dl.deref, Dl.Slot.data?, Dl.Slot.tree?, Dl.T.toD, Dl.toDs, Dl.useO, Dl.useAll, Dl.boolOf, Dl.putO, Dl.free, Dl.outO, Dl.withAll, Dl.runN, Dl.derefs, Dl.mutO, Dl.isLst, Dl.isDct, Dl.putI, Dl.putD, Dl.setI, Dl.augO, Dl.getI, Dl.slotOf, Dl.slotsOf, Dl.lents, Dl.takeB, Dl.backS, Dl.useSel, Dl.back, Dl.gd, Dl.pyIx, L2.atI, L2.ixN, Dl.pyGet, Dl.pyMul, Dl.pyAdd, Dl.pyEq, Dl.pyNe, Dl.mulOk, Dl.powOk, Dl.pySlice, Dl.fLen, Dl.fList, Dl.fTuple, Dl.mAppend, Dl.mReverse, Dl.mClear, Dl.mExtend, Dl.mInsert, Dl.mkTup, Dl.mkLst, Dl.pyIsN, Dl.pyNotN, Dl.fNeg, Dl.pyRev, Dl.gN, Dl.gsNil, Dl.gsCons, Dl.gT, Dl.srcL, Dl.srcT, Dl.srcS, Dl.srcQ, Dl.srcR1, Dl.srcR2, Dl.hide, Dl.restore, PySem.sizeLine_eq, Dl.lockS, Dl.pyIs, Dl.fInt, Dl.dpopO, Dl.lstN, Dl.newsOf, Dl.viewR, Dl.viewS, Dl.treeS, Dl.scal, Dl.sRetT])
/-- a name that holds an object: held alone, or lent -/
def reT : Slot → T → Slot
  | .opa _, t => .opa t
  | _, t => .obj t
section
variable {K : PySem.W.Frag} {F0 H0 F H F' H' : Hp} {σ : Sg} {ρ0 ρ : Rho}
theorem reT_tree {s : Slot} {t t' : T} (h : s.tree? = some t) : (reT s t').tree? = some t' := by cases s <;> first | rfl | cases h
theorem reT_fp {s : Slot} {t t' : T} {v : V} (h : s.tree? = some t) : (reT s t').fp H v = fpT H v t' := by cases s <;> first | rfl | cases h
theorem slot_fp {s : Slot} {t : T} {v : V} (h : s.tree? = some t) : s.fp H v = fpT H v t := by cases s <;> first | (cases h; rfl) | cases h
theorem reT_kp {s : Slot} {t t' : T} (h : s.tree? = some t) (o : t.odd = false) (o' : t'.odd = false) : KpS s (reT s t') := by
  cases s <;> first | trivial | (cases h; exact fun z => by rw [o, o'] at z; rcases z with z | z <;> cases z) | cases h
theorem reT_nd {s : Slot} {t t' : T} (h : s.tree? = some t) : (∀ d, reT s t' ≠ .dat d) ∧ (∀ q, reT s t' ≠ .exc q) ∧ (reT s t').mine = false ∧ (reT s t').fixed = s.fixed := by
  cases s with
  | obj u => exact ⟨fun d e => (by have e : Slot.obj t' = .dat d := e; cases e), fun q e => (by have e : Slot.obj t' = .exc q := e; cases e), rfl, rfl⟩
  | opa u => exact ⟨fun d e => (by have e : Slot.opa t' = .dat d := e; cases e), fun q e => (by have e : Slot.opa t' = .exc q := e; cases e), rfl, rfl⟩
  | _ => cases h
/-- the object at i and what is behind it changes; what is new comes from elsewhere -/
theorem tree_step {i : Nat} {s : Slot} {t t' : T} {v : V} (R : Rel K F σ H ρ) (st : Step F0 H0 σ ρ0 F H ρ) (e : ρ[i]? = some s) (hs : s.tree? = some t) (hv : σ[i]? = some (some v)) (o : t.odd = false) (o' : t'.odd = false)
    (ex : Ext F F') (sub : Sub F' H') (out : ∀ a u, a ∉ fpT H v t → H a = some u → nt u → F a = none → H' a = some u ∧ F' a = none) (tab : LamX.Tabs (tabsOf K) H') (ta : TAt K F' H' v t') (nd : (fpT H' v t').Nodup)
    (fp : ∀ a ∈ fpT H' v t', a ∈ fpT H v t ∨ (¬ Own H σ ρ a ∧ ∀ u, H0 a = some u → nt u → F0 a = none → Own H0 σ ρ0 a)) :
    Rel K F' σ H' (ρ.set i (reT s t')) ∧ Step F0 H0 σ ρ0 F' H' (ρ.set i (reT s t')) := by
  have hil := (List.getElem?_eq_some_iff.mp e).1
  have mi : ∀ {a}, a ∈ fpT H v t → Mine H σ ρ i a := fun {a} ha => ⟨s, v, e, hv, by rw [slot_fp hs]; exact ha⟩
  have keep : ∀ {j a}, j ≠ i → Mine H σ ρ j a → H' a = H a ∧ F' a = none := fun {j a} hj m => by
    obtain ⟨f, u, hu, t1⟩ := R.has ⟨j, m⟩
    obtain ⟨x, y⟩ := out a u (fun hm => hj (R.sep j i a m (mi hm))) hu t1 f
    exact ⟨by rw [x, hu], y⟩
  have at_ : ∀ {j : Nat} {u : Slot}, (ρ.set i (reT s t'))[j]? = some u → (j = i ∧ u = reT s t') ∨ (j ≠ i ∧ ρ[j]? = some u) := fun {j u} h => by
    by_cases hj : j = i
    · subst hj
      rw [List.getElem?_set_self hil] at h
      exact .inl ⟨rfl, (Option.some.inj h).symm⟩
    · rw [List.getElem?_set_ne (Ne.symm hj)] at h
      exact .inr ⟨hj, h⟩
  obtain ⟨nd1, nd2, nd3, nd4⟩ := reT_nd (t' := t') hs
  have mine : ∀ {j a}, Mine H' σ (ρ.set i (reT s t')) j a → (j = i ∧ a ∈ fpT H' v t') ∨ (j ≠ i ∧ Mine H σ ρ j a) := fun {j a} ⟨u, w, e1, h1, m⟩ => by
    rcases at_ e1 with ⟨rfl, rfl⟩ | ⟨hj, e2⟩
    · rw [hv] at h1
      cases h1
      rw [reT_fp hs] at m
      exact .inl ⟨rfl, m⟩
    · exact .inr ⟨hj, (R.mine1 j (fun b hb => (keep hj hb).1) a).mp ⟨u, w, e2, h1, m⟩⟩
  have own : ∀ {a}, Own H' σ (ρ.set i (reT s t')) a → Own H σ ρ a ∨ ∀ u, H0 a = some u → nt u → F0 a = none → Own H0 σ ρ0 a := fun {a} ⟨j, m⟩ => by
    rcases mine m with ⟨rfl, ha⟩ | ⟨_, m⟩
    · rcases fp a ha with h | h
      · exact .inl ⟨_, mi h⟩
      · exact .inr h.2
    · exact .inl ⟨j, m⟩
  refine ⟨⟨sub, by rw [List.length_set]; exact R.len, fun j d h => ?_, fun j u d h m q => ?_, fun j k a h1 h2 => ?_, fun j u t1 h q => ?_, fun j q h => ?_, tab, ?_⟩, ⟨⟨st.fr.ext.trans ex, fun a u h1 t1 f1 n1 => ?_⟩, st.kp.trans (kp_set e (reT_kp hs o o')), ?_⟩⟩
  · rcases at_ h with ⟨_, z⟩ | ⟨hj, h⟩
    · exact absurd z.symm (nd1 d)
    · obtain ⟨w, h1, h2⟩ := R.dat j d h
      exact ⟨w, h1, h2.mono ex⟩
  · rcases at_ h with ⟨_, z⟩ | ⟨hj, h⟩
    · subst z; rw [nd3] at m; cases m
    · obtain ⟨a, h1, h2, h3⟩ := R.own j u d h m q
      obtain ⟨x, y⟩ := keep hj (Mine.of h m h1)
      exact ⟨a, h1, y, h3.mono ex fun w hw => by rw [x]; exact hw⟩
  · rcases mine h1 with ⟨rfl, a1⟩ | ⟨n1, m1⟩ <;> rcases mine h2 with ⟨z, a2⟩ | ⟨n2, m2⟩
    · exact z.symm
    · rcases fp a a1 with h | h
      · exact R.sep _ _ a (mi h) m2
      · exact absurd ⟨k, m2⟩ h.1
    · subst z
      rcases fp a a2 with h | h
      · exact R.sep _ _ a m1 (mi h)
      · exact absurd ⟨j, m1⟩ h.1
    · exact R.sep j k a m1 m2
  · rcases at_ h with ⟨z0, z⟩ | ⟨hj, h⟩
    · subst z0 z
      rw [reT_tree hs] at q
      cases q
      exact ⟨v, hv, ta, nd⟩
    · obtain ⟨w, g1, g2, g3, _⟩ := R.trees (F' := F') (H' := H') ex h q fun a m => ⟨(keep hj m).1, fun _ => (keep hj m).2⟩
      exact ⟨w, g1, g2, g3⟩
  · rcases at_ h with ⟨_, z⟩ | ⟨hj, h⟩
    · exact absurd z.symm (nd2 q)
    · exact ⟨(R.exc j q h).1, (R.exc j q h).2.mono ex⟩
  · refine Tie.keep R.tie ex (fun j u w h g q => ?_) fun j u x h f g => ?_
    · rcases at_ h with ⟨_, z⟩ | ⟨hj, h⟩
      · have : (reT s t').tree? = some u := by rw [← z]; rfl
        rw [reT_tree hs] at this
        cases this
        rw [o'] at q; cases q
      · exact ⟨h, g, fun ⟨c, ns, n, z⟩ => by subst z; exact R.kids h g fun a m => (keep hj m).1⟩
    · rcases at_ h with ⟨z0, z⟩ | ⟨hj, h⟩
      · subst z0 z
        rw [nd4] at f
        exact ⟨s, e, f, g⟩
      · exact ⟨u, h, f, g⟩
  · obtain ⟨x, y, z⟩ := st.fr.keep a u h1 t1 f1 n1
    obtain ⟨x2, y2⟩ := out a u (fun hm => z ⟨i, mi hm⟩) x t1 y
    refine ⟨x2, y2, fun ow => ?_⟩
    rcases own ow with h | h
    · exact z h
    · exact n1 (h u h1 t1 f1)
  · refine st.kid.trans (R.kid fun j a ⟨c, ns, n, h⟩ m => ?_) st.kp
    have hj : j ≠ i := by
      rintro rfl
      rw [e] at h
      cases h
      cases hs
      cases o
    exact (keep hj m).1
end
section
variable {K : PySem.W.Frag} {F H : Hp}
theorem fpL_app {vs1 vs2 : List V} {ts1 ts2 : List T} (h : vs1.length = ts1.length) : fpL H (vs1 ++ vs2) (ts1 ++ ts2) = fpL H vs1 ts1 ++ fpL H vs2 ts2 := by
  induction vs1 generalizing ts1 with
  | nil =>
    cases ts1 with
    | nil => show _ = fpL H [] [] ++ _; rw [show fpL H [] [] = [] by unfold fpL; rfl]; rfl
    | cons => cases h
  | cons v vs1 ih =>
    cases ts1 with
    | nil => cases h
    | cons t ts1 =>
      rw [List.cons_append, List.cons_append]
      have a : fpL H (v :: (vs1 ++ vs2)) (t :: (ts1 ++ ts2)) = fpT H v t ++ fpL H (vs1 ++ vs2) (ts1 ++ ts2) := by rw [fpL]
      have b : fpL H (v :: vs1) (t :: ts1) = fpT H v t ++ fpL H vs1 ts1 := by rw [fpL]
      rw [a, b, ih (by simpa using h), List.append_assoc]
theorem tatL_app {vs1 vs2 : List V} {ts1 ts2 : List T} (h : vs1.length = ts1.length) : TAtL K F H (vs1 ++ vs2) (ts1 ++ ts2) ↔ TAtL K F H vs1 ts1 ∧ TAtL K F H vs2 ts2 := by
  induction vs1 generalizing ts1 with
  | nil =>
    cases ts1 with
    | nil => exact ⟨fun h => ⟨by unfold TAtL; trivial, h⟩, fun h => h.2⟩
    | cons => cases h
  | cons v vs1 ih =>
    cases ts1 with
    | nil => cases h
    | cons t ts1 =>
      rw [List.cons_append, List.cons_append]
      have a : TAtL K F H (v :: (vs1 ++ vs2)) (t :: (ts1 ++ ts2)) ↔ TAt K F H v t ∧ TAtL K F H (vs1 ++ vs2) (ts1 ++ ts2) := by rw [TAtL]
      have b : TAtL K F H (v :: vs1) (t :: ts1) ↔ TAt K F H v t ∧ TAtL K F H vs1 ts1 := by rw [TAtL]
      rw [a, b, ih (by simpa using h), and_assoc]
theorem tatL_len : ∀ {vs : List V} {ts : List T}, TAtL K F H vs ts → vs.length = ts.length
  | [], [], _ => rfl
  | [], _ :: _, h => by unfold TAtL at h; exact h.elim
  | _ :: _, [], h => by unfold TAtL at h; exact h.elim
  | v :: vs, t :: ts, h => by
    unfold TAtL at h
    rw [List.length_cons, List.length_cons, tatL_len h.2]
end
section
variable {K : PySem.W.Frag} {F H F' H' : Hp} {σ : Sg} {ρ : Rho}
theorem fpI_eq {v : V} {c : Str} {ns : List Str} {ts : List T} : fpT H v (.ins c ns ts) = refsV v ++ (dxV H v ++ fpL H (kidsV H v) ts) := by rw [fpT]
end
end Dl
local macro_rules | `(tactic| simp_arith [$ls,*]) => `(tactic| simp -dsimp -implicitDefEqProofs [Dl.T.odd, Dl.vI, Dl.vB, Dl.vS, Dl.run2, Dl.run1, Dl.deref, Dl.Slot.data?, Dl.Slot.tree?, Dl.T.toD, Dl.toDs, Dl.useO, Dl.useAll, Dl.boolOf, Dl.putO, Dl.free, Dl.outO, Dl.withAll, Dl.runN, Dl.derefs, Dl.mutO, Dl.isLst, Dl.isDct, Dl.putI, Dl.putD, Dl.setI, Dl.augO, Dl.getI, Dl.slotOf, Dl.slotsOf, Dl.lents, Dl.takeB, Dl.backS, Dl.useSel, Dl.back, Dl.gd, Dl.pyIx, L2.atI, L2.ixN, Dl.pyGet, Dl.pyMul, Dl.pyAdd, Dl.pyEq, Dl.pyNe, Dl.mulOk, Dl.powOk, Dl.pySlice, Dl.fLen, Dl.fList, Dl.fTuple, Dl.mAppend, Dl.mReverse, Dl.mClear, Dl.mExtend, Dl.mInsert, Dl.mkTup, Dl.mkLst, Dl.pyIsN, Dl.pyNotN, Dl.fNeg, Dl.pyRev, Dl.gN, Dl.gsNil, Dl.gsCons, Dl.gT, Dl.srcL, Dl.srcT, Dl.srcS, Dl.srcQ, Dl.srcR1, Dl.srcR2, Dl.hide, Dl.restore, PySem.sizeLine_eq, Dl.lockS, Dl.pyIs, Dl.fInt, Dl.dpopO, Dl.lstN, Dl.newsOf, Dl.viewR, Dl.viewS, Dl.treeS, Dl.scal, Dl.sRetT, $ls,*])
local macro_rules | `(tactic| simp_arith) => `(tactic| simp -dsimp -implicitDefEqProofs [Dl.T.odd, Dl.vI, Dl.vB, Dl.vS, Dl.run2, Dl.run1, Dl.deref, Dl.Slot.data?, Dl.Slot.tree?, Dl.T.toD, Dl.toDs, Dl.useO, Dl.useAll, Dl.boolOf, Dl.putO, Dl.free, Dl.outO, Dl.withAll, Dl.runN, Dl.derefs, Dl.mutO, Dl.isLst, Dl.isDct, Dl.putI, Dl.putD, Dl.setI, Dl.augO, Dl.getI, Dl.slotOf, Dl.slotsOf, Dl.lents, Dl.takeB, Dl.backS, Dl.useSel, Dl.back, Dl.gd, Dl.pyIx, L2.atI, L2.ixN, Dl.pyGet, Dl.pyMul, Dl.pyAdd, Dl.pyEq, Dl.pyNe, Dl.mulOk, Dl.powOk, Dl.pySlice, Dl.fLen, Dl.fList, Dl.fTuple, Dl.mAppend, Dl.mReverse, Dl.mClear, Dl.mExtend, Dl.mInsert, Dl.mkTup, Dl.mkLst, Dl.pyIsN, Dl.pyNotN, Dl.fNeg, Dl.pyRev, Dl.gN, Dl.gsNil, Dl.gsCons, Dl.gT, Dl.srcL, Dl.srcT, Dl.srcS, Dl.srcQ, Dl.srcR1, Dl.srcR2, Dl.hide, Dl.restore, PySem.sizeLine_eq, Dl.lockS, Dl.pyIs, Dl.fInt, Dl.dpopO, Dl.lstN, Dl.newsOf, Dl.viewR, Dl.viewS, Dl.treeS, Dl.scal, Dl.sRetT])
set_option maxRecDepth 100000
set_option maxHeartbeats 4000000
namespace Dl
open PySem PySem.Spec L2 PyProof.Rows
set_option autoImplicit false
section
variable {X : Cx} {W : WX} {pos xp : Pos} {x : Str} {i : Nat}
def eFz (me : ME) : ME := fun ρ => (me ρ).bind fun o ρ1 => match o with
  | .nob (.ins c ns ts) => (match toDs ts with
    | some ds => .ok (.nob (.fzi c ns ds)) ρ1
    | none => .fail)
  | o => (match useO ρ1 o with
    | some (d, ρ2) => .ok (.val d) ρ2
    | none => .fail)
theorem de_fz {e : Expr} {me : ME} (he : DE X W e me) : DE X W e (eFz me) := by
  obtain ⟨t, p, q⟩ := he
  refine ⟨t, p, fun F σ H ρ Q R h => q F σ H ρ Q R ?_⟩
  unfold eFz at h
  cases em : me ρ with
  | fail => rw [em] at h; exact h
  | ex x ρ' => rw [em] at h; exact h
  | ok o ρ1 =>
    rw [em] at h
    intro v F1 H1 s1 R1 ro ns
    dsimp only [Rs.bind] at h
    have use : EPost X.K W F H σ ρ Q (match useO ρ1 o with
      | some (d, ρ2) => .ok (.val d) ρ2
      | none => .fail) → Q v H1 := fun h => by
      cases eu : useO ρ1 o with
      | none => rw [eu] at h; exact h.elim
      | some p =>
        obtain ⟨d, ρ2⟩ := p
        rw [eu] at h
        obtain ⟨F2, s2, R2, rp, _⟩ := use_ok R1 s1 ro ns eu
        exact h v F2 H1 s2 R2 rp (fun z => nomatch z)
    cases o with
    | nob t0 =>
      cases t0 with
      | ins c ns' ts =>
        dsimp only at h
        cases ed : toDs ts with
        | none => rw [ed] at h; exact h.elim
        | some ds =>
          rw [ed] at h
          have hS : ∀ a ∈ fpT H1 v (.ins c ns' ts), F1 a = none ∧ (∃ o, H1 a = some o ∧ nt o) ∧ ¬ Own H1 σ ρ1 a := fun a ha => by
            obtain ⟨u, hu, t, f, n⟩ := ro.prot ha
            exact ⟨f, ⟨u, hu, t⟩, n⟩
          have R2 := rel_frz R1 hS
          have ex : Ext F1 (frzS F1 H1 (fpT H1 v (.ins c ns' ts))) := frz_ext fun a h => (hS a h).1
          have st : Step F H σ ρ (frzS F1 H1 (fpT H1 v (.ins c ns' ts))) H1 ρ1 := ⟨⟨s1.fr.ext.trans ex, fun b u h1 t f1 n1 => by
            obtain ⟨x, y, z⟩ := s1.fr.keep b u h1 t f1 n1
            exact ⟨x, by rw [frz_out (show b ∉ fpT H1 v (.ins c ns' ts) from fun hb => n1 (ns rfl b hb u h1 t f1))]; exact y, z⟩⟩, s1.kp, s1.kid⟩
          have ta := ro.1
          unfold TAt at ta
          obtain ⟨a, dx, rfl, fa, ha, hl, fd, hd, r⟩ := ta
          have am : a ∈ fpT H1 (.ref a) (.ins c ns' ts) := by rw [fpI_eq]; exact List.mem_append_left _ (mem_refs.mpr rfl)
          have rr : RpA X.K (frzS F1 H1 (fpT H1 (.ref a) (.ins c ns' ts))) (kidsV H1 (.ref a)) ds := frz_trees ex r ed fun b hb => frz_in (by rw [fpI_eq]; exact List.mem_append_right _ (List.mem_append_right _ hb))
          refine h (.ref a) _ H1 st R2 ⟨?_, ?_, fun b hb => ?_⟩ fun _ b hb => ?_
          · unfold TAt
            exact ⟨a, dx, _, rfl, by rw [frz_in am]; exact ha, by rw [tatL_len r]; exact hl, rr⟩
          · unfold fpT; exact .nil
          · unfold fpT at hb; cases hb
          · have hb : b ∈ fpT H1 (.ref a) (.fzi c ns' ds) := hb
            unfold fpT at hb; cases hb
      | _ => exact use h
    | _ => exact use h
end
section
variable {K : PySem.W.Frag} {F H : Hp}
theorem lst_child {w : V} {ts : List T} {n : Nat} {d : D} (h : TAt K F H w (.lst ts)) (nd : (fpT H w (.lst ts)).Nodup) (g : ts[n]? = some (.own d)) :
    ∃ a vs b, w = .ref a ∧ H a = some (.lst vs) ∧ vs[n]? = some (.ref b) ∧ F b = none ∧ OwnAt K F H b d ∧ b ∈ fpT H w (.lst ts) ∧
      ∀ o' d', OwnAt K F (upd H b o') b d' → TAt K F (upd H b o') w (.lst (ts.set n (.own d'))) ∧ fpT (upd H b o') w (.lst (ts.set n (.own d'))) = fpT H w (.lst ts) := by
  unfold TAt at h
  obtain ⟨a, rfl, fa, ha, r⟩ := h
  generalize hvs : kidsV H (.ref a) = vs at *
  have hl := tatL_len r
  have hn := (List.getElem?_eq_some_iff.mp g).1
  have et : ts = ts.take n ++ .own d :: ts.drop (n + 1) := by
    have e0 := List.drop_eq_getElem_cons hn
    rw [(List.getElem?_eq_some_iff.mp g).2] at e0
    rw [← e0, List.take_append_drop]
  have hv : n < vs.length := by omega
  obtain ⟨w, hw⟩ : ∃ w, vs[n]? = some w := ⟨vs[n], List.getElem?_eq_getElem hv⟩
  have ev : vs = vs.take n ++ w :: vs.drop (n + 1) := by
    have e0 := List.drop_eq_getElem_cons hv
    rw [(List.getElem?_eq_some_iff.mp hw).2] at e0
    rw [← e0, List.take_append_drop]
  have ln : (vs.take n).length = (ts.take n).length := by simp; omega
  have r0 := r
  rw [et, ev, tatL_app ln, show TAtL K F H (w :: vs.drop (n + 1)) (.own d :: ts.drop (n + 1)) ↔ TAt K F H w (.own d) ∧ TAtL K F H (vs.drop (n + 1)) (ts.drop (n + 1)) by rw [TAtL]] at r
  obtain ⟨r1, tw, r3⟩ := r
  unfold TAt at tw
  obtain ⟨b, rfl, fb, ow⟩ := tw
  have ef : fpT H (.ref a) (.lst ts) = a :: (fpL H (vs.take n) (ts.take n) ++ (b :: fpL H (vs.drop (n + 1)) (ts.drop (n + 1)))) := by
    have e1 : fpT H (.ref a) (.lst ts) = a :: fpL H vs ts := by rw [fpT, hvs]; rfl
    have e2 : fpL H vs ts = fpL H (vs.take n ++ .ref b :: vs.drop (n + 1)) (ts.take n ++ .own d :: ts.drop (n + 1)) := by rw [← et, ← ev]
    have e3 : fpT H (.ref b) (.own d) = [b] := by rw [fpT]; rfl
    rw [e1, e2, fpL_app ln, show fpL H (.ref b :: vs.drop (n + 1)) (.own d :: ts.drop (n + 1)) = fpT H (.ref b) (.own d) ++ fpL H (vs.drop (n + 1)) (ts.drop (n + 1)) by rw [fpL], e3]
    rfl
  rw [ef] at nd
  obtain ⟨n1, n2⟩ := List.nodup_cons.mp nd
  obtain ⟨n3, n4, n5⟩ := List.nodup_append.mp n2
  obtain ⟨n6, n7⟩ := List.nodup_cons.mp n4
  have ab : a ≠ b := fun e => n1 (by rw [e]; exact List.mem_append_right _ List.mem_cons_self)
  refine ⟨a, vs, b, rfl, ha, hw, fb, ow, by rw [ef]; exact List.mem_cons_of_mem _ (List.mem_append_right _ List.mem_cons_self), fun o' d' ow' => ?_⟩
  obtain ⟨H', hH'⟩ : ∃ H', H' = upd H b o' := ⟨_, rfl⟩
  rw [← hH'] at ow' ⊢
  have oth : ∀ c, c ≠ b → H' c = H c := fun c hc => by rw [hH', upd_ne hc]
  obtain ⟨q1, s1⟩ := TAtL.stay (Ext.refl F) r1 fun c hc => ⟨oth c fun e => n5 c hc b List.mem_cons_self e, id⟩
  obtain ⟨q2, s2⟩ := TAtL.stay (Ext.refl F) r3 fun c hc => ⟨oth c fun e => n6 (e ▸ hc), id⟩
  have ka : kidsV H' (.ref a) = vs := by
    show kidsO (H' a) = vs
    rw [oth a ab, ha]; rfl
  have es : ts.set n (.own d') = ts.take n ++ .own d' :: ts.drop (n + 1) := by
    rw [List.set_eq_take_append_cons_drop, if_pos hn]
  have tb : TAt K F H' (.ref b) (.own d') := by unfold TAt; exact ⟨b, rfl, fb, ow'⟩
  refine ⟨?_, ?_⟩
  · unfold TAt
    refine ⟨a, rfl, fa, by rw [ka, oth a ab]; exact ha, ?_⟩
    rw [ka, es]
    conv => lhs; rw [ev]
    rw [tatL_app ln]
    exact ⟨s1, by rw [TAtL]; exact ⟨tb, s2⟩⟩
  · have e1 : fpT H' (.ref a) (.lst (ts.set n (.own d'))) = a :: fpL H' vs (ts.set n (.own d')) := by rw [fpT, ka]; rfl
    have e2 : fpL H' vs (ts.set n (.own d')) = fpL H' (vs.take n ++ .ref b :: vs.drop (n + 1)) (ts.take n ++ .own d' :: ts.drop (n + 1)) := by rw [← es, ← ev]
    have e3 : fpT H' (.ref b) (.own d') = [b] := by rw [fpT]; rfl
    rw [e1, e2, fpL_app ln, show fpL H' (.ref b :: vs.drop (n + 1)) (.own d' :: ts.drop (n + 1)) = fpT H' (.ref b) (.own d') ++ fpL H' (vs.drop (n + 1)) (ts.drop (n + 1)) by rw [fpL], e3, q1, q2, ef]
    rfl
end
end Dl
set_option maxRecDepth 100000
set_option maxHeartbeats 4000000
namespace Dl
open PySem PySem.Spec L2
set_option autoImplicit false
@[simp ↓] theorem wp_iEnM {QS : Src → Rho → Prop} {X : Ex → Rho → Prop} {ρ : Rho} (m : ME) : wp (iEnM m ρ) QS X = wp (m ρ) (fun o ρ1 => wp (srcE o ρ1) QS X) X := by unfold iEnM; rw [wp_bind]
local macro_rules | `(tactic| simp_arith [$ls,*]) => `(tactic| simp -dsimp -implicitDefEqProofs [Dl.T.odd, Dl.vI, Dl.vB, Dl.vS, Dl.run2, Dl.run1, Dl.deref, Dl.Slot.data?, Dl.Slot.tree?, Dl.T.toD, Dl.toDs, Dl.useO, Dl.useAll, Dl.boolOf, Dl.putO, Dl.free, Dl.outO, Dl.withAll, Dl.runN, Dl.derefs, Dl.mutO, Dl.isLst, Dl.isDct, Dl.putI, Dl.putD, Dl.setI, Dl.augO, Dl.getI, Dl.slotOf, Dl.slotsOf, Dl.lents, Dl.takeB, Dl.backS, Dl.useSel, Dl.back, Dl.gd, Dl.pyIx, L2.atI, L2.ixN, Dl.pyGet, Dl.pyMul, Dl.pyAdd, Dl.pyEq, Dl.pyNe, Dl.mulOk, Dl.powOk, Dl.pySlice, Dl.fLen, Dl.fList, Dl.fTuple, Dl.mAppend, Dl.mReverse, Dl.mClear, Dl.mExtend, Dl.mInsert, Dl.mkTup, Dl.mkLst, Dl.pyIsN, Dl.pyNotN, Dl.fNeg, Dl.pyRev, Dl.gN, Dl.gsNil, Dl.gsCons, Dl.gT, Dl.srcL, Dl.srcT, Dl.srcS, Dl.srcQ, Dl.srcR1, Dl.srcR2, Dl.hide, Dl.restore, PySem.sizeLine_eq, Dl.lockS, Dl.pyIs, Dl.fInt, Dl.dpopO, Dl.lstN, Dl.newsOf, Dl.viewR, Dl.viewS, Dl.treeS, Dl.scal, Dl.sRetT, Dl.srcE, $ls,*])
local macro_rules | `(tactic| simp_arith) => `(tactic| simp -dsimp -implicitDefEqProofs [Dl.T.odd, Dl.vI, Dl.vB, Dl.vS, Dl.run2, Dl.run1, Dl.deref, Dl.Slot.data?, Dl.Slot.tree?, Dl.T.toD, Dl.toDs, Dl.useO, Dl.useAll, Dl.boolOf, Dl.putO, Dl.free, Dl.outO, Dl.withAll, Dl.runN, Dl.derefs, Dl.mutO, Dl.isLst, Dl.isDct, Dl.putI, Dl.putD, Dl.setI, Dl.augO, Dl.getI, Dl.slotOf, Dl.slotsOf, Dl.lents, Dl.takeB, Dl.backS, Dl.useSel, Dl.back, Dl.gd, Dl.pyIx, L2.atI, L2.ixN, Dl.pyGet, Dl.pyMul, Dl.pyAdd, Dl.pyEq, Dl.pyNe, Dl.mulOk, Dl.powOk, Dl.pySlice, Dl.fLen, Dl.fList, Dl.fTuple, Dl.mAppend, Dl.mReverse, Dl.mClear, Dl.mExtend, Dl.mInsert, Dl.mkTup, Dl.mkLst, Dl.pyIsN, Dl.pyNotN, Dl.fNeg, Dl.pyRev, Dl.gN, Dl.gsNil, Dl.gsCons, Dl.gT, Dl.srcL, Dl.srcT, Dl.srcS, Dl.srcQ, Dl.srcR1, Dl.srcR2, Dl.hide, Dl.restore, PySem.sizeLine_eq, Dl.lockS, Dl.pyIs, Dl.fInt, Dl.dpopO, Dl.lstN, Dl.newsOf, Dl.viewR, Dl.viewS, Dl.treeS, Dl.scal, Dl.sRetT, Dl.srcE])
@[simp ↓] theorem wp_eIdx {Q : Opd → Rho → Prop} {X : Ex → Rho → Prop} {ρ : Rho} (a b : ME) : wp (eIdx a b ρ) Q X = wp (a ρ) (fun x ρ1 => match x with
  | .val (.list ds) => wp (b ρ1) (fun y ρ2 => wp (match deref ρ2 y with
    | some d => if SeqAt.shaped (.list ds) = true ∧ SeqAt.shaped d = true then (match ixD ds d with
      | some j => .ok (.val (.int (j : Nat))) ρ2
      | none => .fail) else .fail
    | none => .fail) Q X) X
  | _ => False) X := by
  unfold eIdx
  rw [wp_bind]
  refine congrArg (fun k => wp (a ρ) k X) (funext fun x => funext fun ρ1 => ?_)
  cases x <;> try rfl
  rename_i d
  cases d <;> try rfl
  dsimp only
  rw [wp_bind]
@[simp ↓] theorem wp_eGet {QO : Opd → Rho → Prop} {X : Ex → Rho → Prop} {ρ : Rho} (i : Nat) (mk mv : ME) : wp (eGet i mk mv ρ) QO X = if isDct ρ i = true then wp (mk ρ) (fun k ρ1 => wp (mv ρ1) (fun v ρ2 => wp (match useO ρ2 v with
    | some (d, ρ3) => getO i k d ρ3
    | none => .fail) QO X) X) X else False := by
  unfold eGet
  split
  · rw [wp_bind]
    exact wp_ext fun k ρ1 => by rw [wp_bind] <;> rfl
  · rfl
local macro_rules | `(tactic| simp_arith [$ls,*]) => `(tactic| simp -dsimp -implicitDefEqProofs [Dl.T.odd, Dl.vI, Dl.vB, Dl.vS, Dl.run2, Dl.run1, Dl.deref, Dl.Slot.data?, Dl.Slot.tree?, Dl.T.toD, Dl.toDs, Dl.useO, Dl.useAll, Dl.boolOf, Dl.putO, Dl.free, Dl.outO, Dl.withAll, Dl.runN, Dl.derefs, Dl.mutO, Dl.isLst, Dl.isDct, Dl.putI, Dl.putD, Dl.setI, Dl.augO, Dl.getI, Dl.slotOf, Dl.slotsOf, Dl.lents, Dl.takeB, Dl.backS, Dl.useSel, Dl.back, Dl.gd, Dl.pyIx, L2.atI, L2.ixN, Dl.pyGet, Dl.pyMul, Dl.pyAdd, Dl.pyEq, Dl.pyNe, Dl.mulOk, Dl.powOk, Dl.pySlice, Dl.fLen, Dl.fList, Dl.fTuple, Dl.mAppend, Dl.mReverse, Dl.mClear, Dl.mExtend, Dl.mInsert, Dl.mkTup, Dl.mkLst, Dl.pyIsN, Dl.pyNotN, Dl.fNeg, Dl.pyRev, Dl.gN, Dl.gsNil, Dl.gsCons, Dl.gT, Dl.srcL, Dl.srcT, Dl.srcS, Dl.srcQ, Dl.srcR1, Dl.srcR2, Dl.hide, Dl.restore, PySem.sizeLine_eq, Dl.lockS, Dl.pyIs, Dl.fInt, Dl.dpopO, Dl.lstN, Dl.newsOf, Dl.viewR, Dl.viewS, Dl.treeS, Dl.scal, Dl.sRetT, Dl.srcE, Dl.getO, $ls,*])
local macro_rules | `(tactic| simp_arith) => `(tactic| simp -dsimp -implicitDefEqProofs [Dl.T.odd, Dl.vI, Dl.vB, Dl.vS, Dl.run2, Dl.run1, Dl.deref, Dl.Slot.data?, Dl.Slot.tree?, Dl.T.toD, Dl.toDs, Dl.useO, Dl.useAll, Dl.boolOf, Dl.putO, Dl.free, Dl.outO, Dl.withAll, Dl.runN, Dl.derefs, Dl.mutO, Dl.isLst, Dl.isDct, Dl.putI, Dl.putD, Dl.setI, Dl.augO, Dl.getI, Dl.slotOf, Dl.slotsOf, Dl.lents, Dl.takeB, Dl.backS, Dl.useSel, Dl.back, Dl.gd, Dl.pyIx, L2.atI, L2.ixN, Dl.pyGet, Dl.pyMul, Dl.pyAdd, Dl.pyEq, Dl.pyNe, Dl.mulOk, Dl.powOk, Dl.pySlice, Dl.fLen, Dl.fList, Dl.fTuple, Dl.mAppend, Dl.mReverse, Dl.mClear, Dl.mExtend, Dl.mInsert, Dl.mkTup, Dl.mkLst, Dl.pyIsN, Dl.pyNotN, Dl.fNeg, Dl.pyRev, Dl.gN, Dl.gsNil, Dl.gsCons, Dl.gT, Dl.srcL, Dl.srcT, Dl.srcS, Dl.srcQ, Dl.srcR1, Dl.srcR2, Dl.hide, Dl.restore, PySem.sizeLine_eq, Dl.lockS, Dl.pyIs, Dl.fInt, Dl.dpopO, Dl.lstN, Dl.newsOf, Dl.viewR, Dl.viewS, Dl.treeS, Dl.scal, Dl.sRetT, Dl.srcE, Dl.getO])
def mDClear : D → List D → Option (D × D)
  | .dict _, [] => some (.dict [], .none)
  | _, _ => none
@[simp ↓] theorem wp_eMutD {QO : Opd → Rho → Prop} {X : Ex → Rho → Prop} {ρ : Rho} (i : Nat) (f : D → List D → Option (D × D)) (ma : MA) : wp (eMutD i f ma ρ) QO X = if isDct ρ i = true then wp (ma ρ) (fun os ρ1 => wp (mutO i f os ρ1) QO X) X else False := by
  unfold eMutD
  split
  · rw [wp_bind]
  · rfl
local macro_rules | `(tactic| simp_arith [$ls,*]) => `(tactic| simp -dsimp -implicitDefEqProofs [Dl.T.odd, Dl.vI, Dl.vB, Dl.vS, Dl.run2, Dl.run1, Dl.deref, Dl.Slot.data?, Dl.Slot.tree?, Dl.T.toD, Dl.toDs, Dl.useO, Dl.useAll, Dl.boolOf, Dl.putO, Dl.free, Dl.outO, Dl.withAll, Dl.runN, Dl.derefs, Dl.mutO, Dl.isLst, Dl.isDct, Dl.putI, Dl.putD, Dl.setI, Dl.augO, Dl.getI, Dl.slotOf, Dl.slotsOf, Dl.lents, Dl.takeB, Dl.backS, Dl.useSel, Dl.back, Dl.gd, Dl.pyIx, L2.atI, L2.ixN, Dl.pyGet, Dl.pyMul, Dl.pyAdd, Dl.pyEq, Dl.pyNe, Dl.mulOk, Dl.powOk, Dl.pySlice, Dl.fLen, Dl.fList, Dl.fTuple, Dl.mAppend, Dl.mReverse, Dl.mClear, Dl.mExtend, Dl.mInsert, Dl.mkTup, Dl.mkLst, Dl.pyIsN, Dl.pyNotN, Dl.fNeg, Dl.pyRev, Dl.gN, Dl.gsNil, Dl.gsCons, Dl.gT, Dl.srcL, Dl.srcT, Dl.srcS, Dl.srcQ, Dl.srcR1, Dl.srcR2, Dl.hide, Dl.restore, PySem.sizeLine_eq, Dl.lockS, Dl.pyIs, Dl.fInt, Dl.dpopO, Dl.lstN, Dl.newsOf, Dl.viewR, Dl.viewS, Dl.treeS, Dl.scal, Dl.sRetT, Dl.srcE, Dl.getO, Dl.mDClear, $ls,*])
local macro_rules | `(tactic| simp_arith) => `(tactic| simp -dsimp -implicitDefEqProofs [Dl.T.odd, Dl.vI, Dl.vB, Dl.vS, Dl.run2, Dl.run1, Dl.deref, Dl.Slot.data?, Dl.Slot.tree?, Dl.T.toD, Dl.toDs, Dl.useO, Dl.useAll, Dl.boolOf, Dl.putO, Dl.free, Dl.outO, Dl.withAll, Dl.runN, Dl.derefs, Dl.mutO, Dl.isLst, Dl.isDct, Dl.putI, Dl.putD, Dl.setI, Dl.augO, Dl.getI, Dl.slotOf, Dl.slotsOf, Dl.lents, Dl.takeB, Dl.backS, Dl.useSel, Dl.back, Dl.gd, Dl.pyIx, L2.atI, L2.ixN, Dl.pyGet, Dl.pyMul, Dl.pyAdd, Dl.pyEq, Dl.pyNe, Dl.mulOk, Dl.powOk, Dl.pySlice, Dl.fLen, Dl.fList, Dl.fTuple, Dl.mAppend, Dl.mReverse, Dl.mClear, Dl.mExtend, Dl.mInsert, Dl.mkTup, Dl.mkLst, Dl.pyIsN, Dl.pyNotN, Dl.fNeg, Dl.pyRev, Dl.gN, Dl.gsNil, Dl.gsCons, Dl.gT, Dl.srcL, Dl.srcT, Dl.srcS, Dl.srcQ, Dl.srcR1, Dl.srcR2, Dl.hide, Dl.restore, PySem.sizeLine_eq, Dl.lockS, Dl.pyIs, Dl.fInt, Dl.dpopO, Dl.lstN, Dl.newsOf, Dl.viewR, Dl.viewS, Dl.treeS, Dl.scal, Dl.sRetT, Dl.srcE, Dl.getO, Dl.mDClear])
end Dl
local macro_rules | `(tactic| simp_arith [$ls,*]) => `(tactic| simp -dsimp -implicitDefEqProofs [Dl.T.odd, Dl.vI, Dl.vB, Dl.vS, Dl.run2, Dl.run1, Dl.deref, Dl.Slot.data?, Dl.Slot.tree?, Dl.T.toD, Dl.toDs, Dl.useO, Dl.useAll, Dl.boolOf, Dl.putO, Dl.free, Dl.outO, Dl.withAll, Dl.runN, Dl.derefs, Dl.mutO, Dl.isLst, Dl.isDct, Dl.putI, Dl.putD, Dl.setI, Dl.augO, Dl.getI, Dl.slotOf, Dl.slotsOf, Dl.lents, Dl.takeB, Dl.backS, Dl.useSel, Dl.back, Dl.gd, Dl.pyIx, L2.atI, L2.ixN, Dl.pyGet, Dl.pyMul, Dl.pyAdd, Dl.pyEq, Dl.pyNe, Dl.mulOk, Dl.powOk, Dl.pySlice, Dl.fLen, Dl.fList, Dl.fTuple, Dl.mAppend, Dl.mReverse, Dl.mClear, Dl.mExtend, Dl.mInsert, Dl.mkTup, Dl.mkLst, Dl.pyIsN, Dl.pyNotN, Dl.fNeg, Dl.pyRev, Dl.gN, Dl.gsNil, Dl.gsCons, Dl.gT, Dl.srcL, Dl.srcT, Dl.srcS, Dl.srcQ, Dl.srcR1, Dl.srcR2, Dl.hide, Dl.restore, PySem.sizeLine_eq, Dl.lockS, Dl.pyIs, Dl.fInt, Dl.dpopO, Dl.lstN, Dl.newsOf, Dl.viewR, Dl.viewS, Dl.treeS, Dl.scal, Dl.sRetT, Dl.srcE, Dl.getO, Dl.mDClear, $ls,*])
local macro_rules | `(tactic| simp_arith) => `(tactic| simp -dsimp -implicitDefEqProofs [Dl.T.odd, Dl.vI, Dl.vB, Dl.vS, Dl.run2, Dl.run1, Dl.deref, Dl.Slot.data?, Dl.Slot.tree?, Dl.T.toD, Dl.toDs, Dl.useO, Dl.useAll, Dl.boolOf, Dl.putO, Dl.free, Dl.outO, Dl.withAll, Dl.runN, Dl.derefs, Dl.mutO, Dl.isLst, Dl.isDct, Dl.putI, Dl.putD, Dl.setI, Dl.augO, Dl.getI, Dl.slotOf, Dl.slotsOf, Dl.lents, Dl.takeB, Dl.backS, Dl.useSel, Dl.back, Dl.gd, Dl.pyIx, L2.atI, L2.ixN, Dl.pyGet, Dl.pyMul, Dl.pyAdd, Dl.pyEq, Dl.pyNe, Dl.mulOk, Dl.powOk, Dl.pySlice, Dl.fLen, Dl.fList, Dl.fTuple, Dl.mAppend, Dl.mReverse, Dl.mClear, Dl.mExtend, Dl.mInsert, Dl.mkTup, Dl.mkLst, Dl.pyIsN, Dl.pyNotN, Dl.fNeg, Dl.pyRev, Dl.gN, Dl.gsNil, Dl.gsCons, Dl.gT, Dl.srcL, Dl.srcT, Dl.srcS, Dl.srcQ, Dl.srcR1, Dl.srcR2, Dl.hide, Dl.restore, PySem.sizeLine_eq, Dl.lockS, Dl.pyIs, Dl.fInt, Dl.dpopO, Dl.lstN, Dl.newsOf, Dl.viewR, Dl.viewS, Dl.treeS, Dl.scal, Dl.sRetT, Dl.srcE, Dl.getO, Dl.mDClear])
set_option maxRecDepth 100000
set_option maxHeartbeats 3200000
namespace Dl
open PySem PySem.Spec PyProof.Rows L2
set_option autoImplicit false
set_option maxHeartbeats 4000000
def rSetL (K : PySem.W.Frag) (w : World) : List V → Hp → VK → Prop := fun xs H Q => ∃ (l : Addr) (ns : List Int), xs = [V.ref l] ∧ SqL K H l (ns.map V.int) ∧ ns.length < 64 ∧ ∀ (a : Addr) (c : Nat), H a = none → c ≤ ns.length → Q (.ref a) (upd H a (SetO w a (fun j => decide (j ∈ ns)) c))
def ddI : List Int → List Int
  | [] => []
  | x :: xs => if x ∈ xs then ddI xs else x :: ddI xs
def setN (xs : List Int) : List Int := sortInt (ddI xs)
end Dl
local macro_rules | `(tactic| simp_arith [$ls,*]) => `(tactic| simp -dsimp -implicitDefEqProofs [Dl.T.odd, Dl.vI, Dl.vB, Dl.vS, Dl.run2, Dl.run1, Dl.deref, Dl.Slot.data?, Dl.Slot.tree?, Dl.T.toD, Dl.toDs, Dl.useO, Dl.useAll, Dl.boolOf, Dl.putO, Dl.free, Dl.outO, Dl.withAll, Dl.runN, Dl.derefs, Dl.mutO, Dl.isLst, Dl.isDct, Dl.putI, Dl.putD, Dl.setI, Dl.augO, Dl.getI, Dl.slotOf, Dl.slotsOf, Dl.lents, Dl.takeB, Dl.backS, Dl.useSel, Dl.back, Dl.gd, Dl.pyIx, L2.atI, L2.ixN, Dl.pyGet, Dl.pyMul, Dl.pyAdd, Dl.pyEq, Dl.pyNe, Dl.mulOk, Dl.powOk, Dl.pySlice, Dl.fLen, Dl.fList, Dl.fTuple, Dl.mAppend, Dl.mReverse, Dl.mClear, Dl.mExtend, Dl.mInsert, Dl.mkTup, Dl.mkLst, Dl.pyIsN, Dl.pyNotN, Dl.fNeg, Dl.pyRev, Dl.gN, Dl.gsNil, Dl.gsCons, Dl.gT, Dl.srcL, Dl.srcT, Dl.srcS, Dl.srcQ, Dl.srcR1, Dl.srcR2, Dl.hide, Dl.restore, PySem.sizeLine_eq, Dl.lockS, Dl.pyIs, Dl.fInt, Dl.dpopO, Dl.lstN, Dl.newsOf, Dl.viewR, Dl.viewS, Dl.treeS, Dl.scal, Dl.sRetT, Dl.srcE, Dl.getO, Dl.mDClear, $ls,*])
local macro_rules | `(tactic| simp_arith) => `(tactic| simp -dsimp -implicitDefEqProofs [Dl.T.odd, Dl.vI, Dl.vB, Dl.vS, Dl.run2, Dl.run1, Dl.deref, Dl.Slot.data?, Dl.Slot.tree?, Dl.T.toD, Dl.toDs, Dl.useO, Dl.useAll, Dl.boolOf, Dl.putO, Dl.free, Dl.outO, Dl.withAll, Dl.runN, Dl.derefs, Dl.mutO, Dl.isLst, Dl.isDct, Dl.putI, Dl.putD, Dl.setI, Dl.augO, Dl.getI, Dl.slotOf, Dl.slotsOf, Dl.lents, Dl.takeB, Dl.backS, Dl.useSel, Dl.back, Dl.gd, Dl.pyIx, L2.atI, L2.ixN, Dl.pyGet, Dl.pyMul, Dl.pyAdd, Dl.pyEq, Dl.pyNe, Dl.mulOk, Dl.powOk, Dl.pySlice, Dl.fLen, Dl.fList, Dl.fTuple, Dl.mAppend, Dl.mReverse, Dl.mClear, Dl.mExtend, Dl.mInsert, Dl.mkTup, Dl.mkLst, Dl.pyIsN, Dl.pyNotN, Dl.fNeg, Dl.pyRev, Dl.gN, Dl.gsNil, Dl.gsCons, Dl.gT, Dl.srcL, Dl.srcT, Dl.srcS, Dl.srcQ, Dl.srcR1, Dl.srcR2, Dl.hide, Dl.restore, PySem.sizeLine_eq, Dl.lockS, Dl.pyIs, Dl.fInt, Dl.dpopO, Dl.lstN, Dl.newsOf, Dl.viewR, Dl.viewS, Dl.treeS, Dl.scal, Dl.sRetT, Dl.srcE, Dl.getO, Dl.mDClear])
set_option maxRecDepth 100000
set_option maxHeartbeats 4000000
namespace L2
open PySem PySem.Spec PyProof.Rows
end L2
namespace Dl
open PySem PySem.Spec PyProof.Rows L2
set_option autoImplicit false
set_option maxRecDepth 100000
set_option maxHeartbeats 3200000
def fSortSet2 : List D → Option Opd
  | [.list ds] => (match intsOf ds with
    | some is => if is.length < 4000 ∧ (ddI is).length < 4000 then some (.new (.list ((setN is).map .int))) else none
    | none => none)
  | _ => none
end Dl
set_option maxRecDepth 100000
set_option maxHeartbeats 4000000
set_option autoImplicit false
namespace PySem.AutoSeq1
open SeqRoads2
end PySem.AutoSeq1
namespace Dl
open PySem PySem.Spec L2
def mExt : D → List D → Option (D × D)
  | .list ds, [.list es] => if ds.length + es.length ≤ sizeLine then some (.list (ds ++ es), .none) else none
  | .list ds, [.tuple es] => if ds.length + es.length ≤ sizeLine then some (.list (ds ++ es), .none) else none
  | _, _ => none
end Dl
set_option maxRecDepth 100000
set_option maxHeartbeats 4000000
set_option maxRecDepth 100000
set_option maxHeartbeats 4000000
namespace Dl
open PySem PySem.Spec L2 LamX NdefX PyProof.Rows
set_option autoImplicit false
@[simp ↓] theorem wp_eSortK {QO : Opd → Rho → Prop} {X : Ex → Rho → Prop} {ρ : Rho} (mk m : ME) : wp (eSortK mk m ρ) QO X = wp (m ρ) (fun o ρ1 => wp (run1 (fSortK mk) ρ1 o) QO X) X := by
  unfold eSortK
  rw [wp_eOp1]
end Dl
set_option maxRecDepth 100000
set_option maxHeartbeats 4000000
namespace Dl
open PySem PySem.Spec L2 LamX NdefX
set_option autoImplicit false
section
variable {K : PySem.W.Frag} {F H F' H' : Hp} {σ : Sg} {ρ : Rho}
end
end Dl
set_option maxRecDepth 100000
set_option maxHeartbeats 4000000
namespace Dl
open PySem PySem.Spec L2
set_option autoImplicit false
end Dl
namespace Dl
open PySem PySem.Spec L2 LamX NdefX
set_option autoImplicit false
end Dl
set_option maxRecDepth 100000
set_option maxHeartbeats 400000
namespace Dl
open PySem PySem.Spec L2
set_option autoImplicit false
set_option maxHeartbeats 1000000
local macro_rules | `(tactic| simp_arith [$ls,*]) => `(tactic| simp -dsimp -implicitDefEqProofs [Dl.T.odd, Dl.vI, Dl.vB, Dl.vS, Dl.run2, Dl.run1, Dl.deref, Dl.Slot.data?, Dl.Slot.tree?, Dl.T.toD, Dl.toDs, Dl.useO, Dl.useAll, Dl.boolOf, Dl.putO, Dl.free, Dl.outO, Dl.withAll, Dl.runN, Dl.derefs, Dl.mutO, Dl.isLst, Dl.isDct, Dl.putI, Dl.putD, Dl.setI, Dl.augO, Dl.getI, Dl.slotOf, Dl.slotsOf, Dl.lents, Dl.takeB, Dl.backS, Dl.useSel, Dl.back, Dl.gd, Dl.pyIx, L2.atI, L2.ixN, Dl.pyGet, Dl.pyMul, Dl.pyAdd, Dl.pyEq, Dl.pyNe, Dl.mulOk, Dl.powOk, Dl.pySlice, Dl.fLen, Dl.fList, Dl.fTuple, Dl.mAppend, Dl.mReverse, Dl.mClear, Dl.mExtend, Dl.mInsert, Dl.mkTup, Dl.mkLst, Dl.pyIsN, Dl.pyNotN, Dl.fNeg, Dl.pyRev, Dl.gN, Dl.gsNil, Dl.gsCons, Dl.gT, Dl.srcL, Dl.srcT, Dl.srcS, Dl.srcQ, Dl.srcR1, Dl.srcR2, Dl.hide, Dl.restore, PySem.sizeLine_eq, Dl.lockS, Dl.pyIs, Dl.fInt, Dl.dpopO, Dl.lstN, Dl.newsOf, Dl.viewR, Dl.viewS, Dl.treeS, Dl.scal, Dl.sRetT, Dl.srcE, Dl.getO, Dl.mDClear, Dl.fSortSet2, Dl.mExt, $ls,*])
local macro_rules | `(tactic| simp_arith) => `(tactic| simp -dsimp -implicitDefEqProofs [Dl.T.odd, Dl.vI, Dl.vB, Dl.vS, Dl.run2, Dl.run1, Dl.deref, Dl.Slot.data?, Dl.Slot.tree?, Dl.T.toD, Dl.toDs, Dl.useO, Dl.useAll, Dl.boolOf, Dl.putO, Dl.free, Dl.outO, Dl.withAll, Dl.runN, Dl.derefs, Dl.mutO, Dl.isLst, Dl.isDct, Dl.putI, Dl.putD, Dl.setI, Dl.augO, Dl.getI, Dl.slotOf, Dl.slotsOf, Dl.lents, Dl.takeB, Dl.backS, Dl.useSel, Dl.back, Dl.gd, Dl.pyIx, L2.atI, L2.ixN, Dl.pyGet, Dl.pyMul, Dl.pyAdd, Dl.pyEq, Dl.pyNe, Dl.mulOk, Dl.powOk, Dl.pySlice, Dl.fLen, Dl.fList, Dl.fTuple, Dl.mAppend, Dl.mReverse, Dl.mClear, Dl.mExtend, Dl.mInsert, Dl.mkTup, Dl.mkLst, Dl.pyIsN, Dl.pyNotN, Dl.fNeg, Dl.pyRev, Dl.gN, Dl.gsNil, Dl.gsCons, Dl.gT, Dl.srcL, Dl.srcT, Dl.srcS, Dl.srcQ, Dl.srcR1, Dl.srcR2, Dl.hide, Dl.restore, PySem.sizeLine_eq, Dl.lockS, Dl.pyIs, Dl.fInt, Dl.dpopO, Dl.lstN, Dl.newsOf, Dl.viewR, Dl.viewS, Dl.treeS, Dl.scal, Dl.sRetT, Dl.srcE, Dl.getO, Dl.mDClear, Dl.fSortSet2, Dl.mExt])
set_option maxHeartbeats 400000
set_option maxHeartbeats 4000000
@[simp ↓] theorem wp_iRng3M {QS : Src → Rho → Prop} {X : Ex → Rho → Prop} {ρ : Rho} (m : MA) : wp (iRng3M m ρ) QS X = wp (m ρ) (fun o ρ1 => wp (srcR3 o ρ1) QS X) X := by unfold iRng3M; rw [wp_bind]
section
variable {K : PySem.W.Frag} {a : Addr} {kvs : List (Key × V)} {F F' : Hp}
variable {H : Hp}
variable {σ : Sg} {ρ : Rho}
end
section
variable {K : PySem.W.Frag} {F H : Hp} {a : Addr} {kvs : List (Key × V)} {x : HO} {o : Obj} {σ : Sg} {ρ : Rho}
end
end Dl
local macro_rules | `(tactic| simp_arith [$ls,*]) => `(tactic| simp -dsimp -implicitDefEqProofs [Dl.T.odd, Dl.vI, Dl.vB, Dl.vS, Dl.run2, Dl.run1, Dl.deref, Dl.Slot.data?, Dl.Slot.tree?, Dl.T.toD, Dl.toDs, Dl.useO, Dl.useAll, Dl.boolOf, Dl.putO, Dl.free, Dl.outO, Dl.withAll, Dl.runN, Dl.derefs, Dl.mutO, Dl.isLst, Dl.isDct, Dl.putI, Dl.putD, Dl.setI, Dl.augO, Dl.getI, Dl.slotOf, Dl.slotsOf, Dl.lents, Dl.takeB, Dl.backS, Dl.useSel, Dl.back, Dl.gd, Dl.pyIx, L2.atI, L2.ixN, Dl.pyGet, Dl.pyMul, Dl.pyAdd, Dl.pyEq, Dl.pyNe, Dl.mulOk, Dl.powOk, Dl.pySlice, Dl.fLen, Dl.fList, Dl.fTuple, Dl.mAppend, Dl.mReverse, Dl.mClear, Dl.mExtend, Dl.mInsert, Dl.mkTup, Dl.mkLst, Dl.pyIsN, Dl.pyNotN, Dl.fNeg, Dl.pyRev, Dl.gN, Dl.gsNil, Dl.gsCons, Dl.gT, Dl.srcL, Dl.srcT, Dl.srcS, Dl.srcQ, Dl.srcR1, Dl.srcR2, Dl.hide, Dl.restore, PySem.sizeLine_eq, Dl.lockS, Dl.pyIs, Dl.fInt, Dl.dpopO, Dl.lstN, Dl.newsOf, Dl.viewR, Dl.viewS, Dl.treeS, Dl.scal, Dl.sRetT, Dl.srcE, Dl.getO, Dl.mDClear, Dl.fSortSet2, Dl.mExt, $ls,*])
local macro_rules | `(tactic| simp_arith) => `(tactic| simp -dsimp -implicitDefEqProofs [Dl.T.odd, Dl.vI, Dl.vB, Dl.vS, Dl.run2, Dl.run1, Dl.deref, Dl.Slot.data?, Dl.Slot.tree?, Dl.T.toD, Dl.toDs, Dl.useO, Dl.useAll, Dl.boolOf, Dl.putO, Dl.free, Dl.outO, Dl.withAll, Dl.runN, Dl.derefs, Dl.mutO, Dl.isLst, Dl.isDct, Dl.putI, Dl.putD, Dl.setI, Dl.augO, Dl.getI, Dl.slotOf, Dl.slotsOf, Dl.lents, Dl.takeB, Dl.backS, Dl.useSel, Dl.back, Dl.gd, Dl.pyIx, L2.atI, L2.ixN, Dl.pyGet, Dl.pyMul, Dl.pyAdd, Dl.pyEq, Dl.pyNe, Dl.mulOk, Dl.powOk, Dl.pySlice, Dl.fLen, Dl.fList, Dl.fTuple, Dl.mAppend, Dl.mReverse, Dl.mClear, Dl.mExtend, Dl.mInsert, Dl.mkTup, Dl.mkLst, Dl.pyIsN, Dl.pyNotN, Dl.fNeg, Dl.pyRev, Dl.gN, Dl.gsNil, Dl.gsCons, Dl.gT, Dl.srcL, Dl.srcT, Dl.srcS, Dl.srcQ, Dl.srcR1, Dl.srcR2, Dl.hide, Dl.restore, PySem.sizeLine_eq, Dl.lockS, Dl.pyIs, Dl.fInt, Dl.dpopO, Dl.lstN, Dl.newsOf, Dl.viewR, Dl.viewS, Dl.treeS, Dl.scal, Dl.sRetT, Dl.srcE, Dl.getO, Dl.mDClear, Dl.fSortSet2, Dl.mExt])
set_option maxRecDepth 100000
set_option maxHeartbeats 4000000
namespace Dl
open PySem PySem.Spec L2
set_option autoImplicit false
section
variable {K : PySem.W.Frag} {F H : Hp} {a : Addr} {kvs : List (Key × V)} {x : HO} {o : Obj} {σ : Sg} {ρ : Rho}
theorem RpD.get {K : PySem.W.Frag} {F : Hp} : ∀ {kvs : List (Key × V)} {ps : List (D × D)} {i : Nat} {k : Key} {v : V}, RpD K F kvs ps → kvs[i]? = some (k, v) → ∃ c, (ps.map (·.1))[i]? = some c ∧ Rp K F (kV k) c
  | _, _, i, k, v, .nil, e => by simp at e
  | _, _, 0, k, v, .cons (k := k') c h r, e => by
    have e1 : k' = k := by
      have := Option.some.inj e
      exact congrArg Prod.fst this
    subst e1
    refine ⟨_, rfl, ?_⟩
    rw [c]
    cases k' with
    | inl i => exact .int i
    | inr x => exact .str x
  | _, _, i + 1, k, v, .cons c h r, e => by
    obtain ⟨c', h1, h2⟩ := RpD.get (i := i) r (by simpa using e)
    exact ⟨c', by simpa using h1, h2⟩
/-- what is told, behind the lock -/
theorem LkS.ro (S : LkS F H a kvs x o) {F2 H2 : Hp} {σ2 : Sg} {ρ2 : Rho} (ex : Ext (upd F a (.frz o (.dK kvs))) F2) (R2 : Rel K F2 σ2 H2 ρ2) {v : V} : ∀ {q : Opd}, RO K F2 H2 σ2 ρ2 v q → RO K (upd F2 a x) (upd H2 a x) σ2 ρ2 v q ∧ newFp (upd H2 a x) v q = newFp H2 v q
  | .val d, h => let ⟨_, _, L, _⟩ := S.out ex R2; ⟨Rp.rlk L h, rfl⟩
  | .loc i, h => ⟨h, rfl⟩
  | .lob i, h => ⟨h, rfl⟩
  | .new d, ⟨b, e, f, h, n⟩ => by
    obtain ⟨f2, h2, L, R3, ow, _⟩ := S.out ex R2
    obtain ⟨f', hb⟩ := L.nn f
    exact ⟨⟨b, e, f', (h.rlk L).mono (Ext.refl _) fun u hu => by rw [upd_ne hb]; exact hu, fun z => n ((ow b).mp z)⟩, rfl⟩
  | .nob t, ⟨h, nd, n⟩ => by
    obtain ⟨f2, h2, L, R3, ow, _⟩ := S.out ex R2
    have same : ∀ b ∈ fpT H2 v t, (upd H2 a x) b = H2 b := fun b hb => by
      have := (fp_some h b hb).1
      exact upd_ne (L.nn this).2
    obtain ⟨q1, q2⟩ := TAt.stay (Ext.refl _) h fun b hb => ⟨same b hb, id⟩
    exact ⟨⟨q2.rlk L, by rw [q1]; exact nd, fun b hb z => n b (by rw [← q1]; exact hb) ((ow b).mp z)⟩, q1⟩
theorem LkS.ns (S : LkS F H a kvs x o) (R : Rel K F σ H ρ) {F2 H2 : Hp} {σ2 : Sg} {ρ2 : Rho} (ex : Ext (upd F a (.frz o (.dK kvs))) F2) (R2 : Rel K F2 σ2 H2 ρ2) {v : V} {q : Opd} (ro : RO K F2 H2 σ2 ρ2 v q) (h : NewSep H2 (upd F a (.frz o (.dK kvs))) (upd H a (.frz o (.dK kvs))) σ ρ v q) : NewSep (upd H2 a x) F H σ ρ v q := fun hn b hb u hu t f => by
  obtain ⟨_, e⟩ := S.ro ex R2 ro
  have ne : b ≠ a := by rintro rfl; rw [S.hy] at f; cases f
  rw [e] at hb
  exact ((S.into R).2 b).mp (h hn b hb u (by rw [upd_ne ne]; exact hu) t (by rw [upd_ne ne]; exact f))
theorem EPost.lk {W : WX} {Q : VK} (S : LkS F H a kvs x o) (R : Rel K F σ H ρ) : ∀ {r : Rs Opd}, EPost K W F H σ ρ Q (noEx r) → EPost K W (upd F a (.frz o (.dK kvs))) (upd H a (.frz o (.dK kvs))) σ ρ (fun v H' => H' a = some (.frz o (.dK kvs)) ∧ Q v (upd H' a x)) r
  | .fail, h => h
  | .ex e ρ', h => False.elim h
  | .ok q ρ2, h => fun v F2 H2 st R2 ro ns => by
    obtain ⟨_, h2, _, R3, _, _⟩ := S.out st.fr.ext R2
    exact ⟨h2, h v _ _ ⟨S.keep R st.fr R2, st.kp, S.kid R st R2⟩ R3 (S.ro st.fr.ext R2 ro).1 (S.ns R st.fr.ext R2 ro ns)⟩
def noExS (r : Rs Flow) : Rs Flow := match r with
  | .ex _ _ => .fail
  | r => r
theorem SPost.lk {W : WX} {Z : Ends} (S : LkS F H a kvs x o) (R : Rel K F σ H ρ) : ∀ {r : Rs Flow}, SPost K W F H σ ρ Z (noExS r) → SPost K W (upd F a (.frz o (.dK kvs))) (upd H a (.frz o (.dK kvs))) σ ρ ⟨fun σ' H' => H' a = some (.frz o (.dK kvs)) ∧ Z.nx σ' (upd H' a x), fun v H' => H' a = some (.frz o (.dK kvs)) ∧ Z.rt v (upd H' a x), fun σ' H' => H' a = some (.frz o (.dK kvs)) ∧ Z.bk σ' (upd H' a x), fun σ' H' => H' a = some (.frz o (.dK kvs)) ∧ Z.ct σ' (upd H' a x)⟩ r
  | .fail, h => h
  | .ex e ρ', h => False.elim h
  | .ok fl ρ2, h => by
    have go : ∀ {σ2 F2 H2}, StepS (upd F a (.frz o (.dK kvs))) (upd H a (.frz o (.dK kvs))) σ ρ F2 H2 σ2 ρ2 → Rel K F2 σ2 H2 ρ2 → H2 a = some (.frz o (.dK kvs)) ∧ Rel K (upd F2 a x) σ2 (upd H2 a x) ρ2 ∧ StepS F H σ ρ (upd F2 a x) (upd H2 a x) σ2 ρ2 := fun {σ2 F2 H2} st R2 => by
      obtain ⟨_, h2, _, R3, _, _⟩ := S.out st.fr.ext R2
      exact ⟨h2, R3, ⟨S.keep R st.fr R2, st.par⟩⟩
    cases fl with
    | nx => exact fun σ2 F2 H2 st R2 => let ⟨g1, g2, g3⟩ := go st R2; ⟨g1, h σ2 _ _ g3 g2⟩
    | bk => exact fun σ2 F2 H2 st R2 => let ⟨g1, g2, g3⟩ := go st R2; ⟨g1, h σ2 _ _ g3 g2⟩
    | ct => exact fun σ2 F2 H2 st R2 => let ⟨g1, g2, g3⟩ := go st R2; ⟨g1, h σ2 _ _ g3 g2⟩
    | rt q => exact fun v σ2 F2 H2 st R2 ro ns => let ⟨g1, g2, g3⟩ := go st R2; ⟨g1, h v σ2 _ _ g3 g2 (S.ro st.fr.ext R2 ro).1 (S.ns R st.fr.ext R2 ro ns)⟩
end
section
variable {X : Cx} {W : WX} {pos : Pos}
end
section
variable {K : PySem.W.Frag} {F F' : Hp} {a : Addr}
end
section
variable {X : Cx} {W : WX} {xp ip sp apos cpos : Pos} {x : Str} {i n : Nat}
theorem atI_nat {vs : List V} {n : Nat} {v : V} (h : vs[n]? = some v) : atI vs (n : Int) = some v := by
  have hl := (List.getElem?_eq_some_iff.mp h).1
  unfold atI ixN
  rw [if_pos (by omega), if_pos (by omega)]
  rw [show (n : Int).toNat = n by omega]
  exact h
end
@[simp ↓] theorem wp_eTupN {ma : MA} {ρ : Rho} {QO : Opd → Rho → Prop} {X : Ex → Rho → Prop} : wp (eTupN ma ρ) QO X = wp (ma ρ) (fun os ρ1 => wp (tupN os ρ1) QO X) X := by
  unfold eTupN
  rw [wp_bind]
@[simp ↓] theorem wp_eLstT {ma : MA} {ρ : Rho} {QO : Opd → Rho → Prop} {X : Ex → Rho → Prop} : wp (eLstT ma ρ) QO X = wp (ma ρ) (fun os ρ1 => wp (lstT os ρ1) QO X) X := by
  unfold eLstT
  rw [wp_bind]
def sMv (i j : Nat) : MS := fun ρ => match ρ[j]? with
  | some (.obj t) => if i ≠ j ∧ free (ρ.set j .un) i = true then .ok .nx ((ρ.set j .un).set i (.obj t)) else .fail
  | _ => .fail
def sAppMv (i j : Nat) : MS := fun ρ => match ρ[i]?, ρ[j]? with
  | some (.obj (.lst ts)), some (.own d) => if ts.length < sizeLine then .ok .nx ((ρ.set j .un).set i (.obj (.lst (ts ++ [.own d])))) else .fail
  | _, _ => .fail
section
variable {K : PySem.W.Frag} {F H : Hp} {σ : Sg} {ρ : Rho}
theorem mine_un {i j : Nat} {a : Addr} (h : Mine H σ (ρ.set i .un) j a) : j ≠ i ∧ Mine H σ ρ j a := by
  obtain ⟨s, v, e, hv, ha⟩ := h
  by_cases hj : j = i
  · subst hj
    by_cases hl : j < ρ.length
    · rw [List.getElem?_set_self hl] at e; cases e; cases ha
    · rw [List.getElem?_eq_none (by simpa using hl)] at e; cases e
  · rw [List.getElem?_set_ne (Ne.symm hj)] at e
    exact ⟨hj, s, v, e, hv, ha⟩
end
section
variable {X : Cx} {W : WX} {pos xp yp ip sp apos cpos : Pos} {x y : Str} {i j n : Nat}
theorem ds_mv {pos' : Pos} (hN : X.N.Nodup) (hi : X.N[i]? = some x) (hx : Loc X.env.scope x) (hp : PE X (.Name y yp) (tVar j)) (hs : swapsWith (.Name y yp) (some (.Name x pos')) pos.line X.env = pure false := by rfl)
    (hf : X.fn x = true ∨ X.env.scope.names.lookup x = some .local := by first | exact .inl rfl | exact .inr rfl | assumption) : DS X W (.Assign [.Name x pos'] (.Name y yp) pos) (sMv i j) := by
  refine ⟨_, ps_set hN hi hx hp hs hf, fun F σ H ρ Z R h => ?_⟩
  unfold sMv at h
  cases e : ρ[j]? with
  | none => rw [e] at h; exact False.elim h
  | some s =>
    rw [e] at h
    cases s <;> try (exact False.elim h)
    rename_i t
    dsimp only at h
    split at h
    · rename_i hc
      obtain ⟨v, hv, ta, nd⟩ := R.obj j _ _ e rfl
      obtain ⟨R1, s1⟩ := set_un R (i := j) (by unfold free; rw [e])
      have mj : ∀ a ∈ fpT H v t, Mine H σ ρ j a := fun a ha => ⟨_, v, e, hv, ha⟩
      have ro : RO X.K F H σ (ρ.set j .un) v (.nob t) := ⟨ta, nd, fun a ha ⟨k, m⟩ => by
        obtain ⟨hk, m⟩ := mine_un m
        exact hk (R.sep k j a m (mj a ha))⟩
      obtain ⟨R2, s2⟩ := set_new (i := i) (s0 := .obj t) R1 ro (.inr ⟨t, rfl, rfl⟩) hc.2 s1 fun _ a ha u _ _ _ => ⟨j, mj a ha⟩
      exact ⟨v, hv, h _ F H s2 R2⟩
    · exact False.elim h
theorem ds_appMv (hp : PE X (.Name x xp) (tVar i)) (hq : PE X (.Name y yp) (tVar j)) (hmt : MtR X "list.append" rAppend) (hty : typeOf (.builtin "list.append") = pure (.type "method_descriptor")) (slot : PySem.Slot "list" "append" "list.append")
    (hb : attributeBase (.Name x xp) "append" X.env (eval (.Name x xp) X.env) = eval (.Name x xp) X.env := by rfl)
    (hfew : ((backTo cpos (starEach [.Name y yp] X.env)).all (fun x => !x.1) && (backToKw cpos (keywordEach [] X.env)).all (fun x => x.1.isSome)
      && decide (([.Name y yp] : List Expr).length + ([] : List Keyword).length + (if ([] : List Keyword).isEmpty then 0 else 1) < 30)) = true := by rfl)
    (hline : (apos.endLine == cpos.line) = true := by rfl) (hst : starEach [.Name y yp] X.env = (false, eval (.Name y yp) X.env) :: starEach [] X.env := by rfl) (hplain : (backTo cpos (starEach [] X.env)).any (·.1) = false := by rfl)
    (hs : swapsWith (.Call (.Attribute (.Name x xp) "append" apos) [.Name y yp] [] cpos) none pos.line X.env = pure false := by rfl) :
    DS X W (.Expr (.Call (.Attribute (.Name x xp) "append" apos) [.Name y yp] [] cpos) pos) (sAppMv i j) := by
  refine ⟨_, ps_expr (pe_bm PySem.F.plainAttrs_list slot hty hmt hp (pa_cons hq pa_nil hst) hb hfew hline hst hplain) hs, fun F σ H ρ Z R h => ?_⟩
  unfold sAppMv at h
  cases e : ρ[i]? with
  | none => rw [e] at h; exact False.elim h
  | some s =>
    cases e2 : ρ[j]? with
    | none => rw [e, e2] at h; cases s <;> (try exact False.elim h); rename_i t; cases t <;> exact False.elim h
    | some s2 =>
      rw [e, e2] at h
      cases s <;> try (exact False.elim h)
      rename_i t
      cases t <;> try (exact False.elim h)
      rename_i ts
      cases s2 <;> try (exact False.elim h)
      rename_i d
      dsimp only at h
      split at h
      · rename_i hz
        have hij : i ≠ j := by rintro rfl; rw [e] at e2; cases e2
        obtain ⟨v, hv, ta, nd⟩ := R.obj i _ _ e rfl
        obtain ⟨b, hw, fb, ow⟩ := R.own j _ d e2 rfl rfl
        have ta0 := ta
        rw [TAt] at ta
        obtain ⟨a, rfl, fa, ha, hk⟩ := ta
        generalize hvs : kidsV H (.ref a) = vs at *
        have hl := tatL_len hk
        have efp : fpT H (.ref a) (.lst ts) = a :: fpL H vs ts := by rw [fpT, hvs]; rfl
        have mi : ∀ c ∈ fpT H (.ref a) (.lst ts), Mine H σ ρ i c := fun c hc => ⟨_, _, e, hv, hc⟩
        have mb : Mine H σ ρ j b := Mine.of e2 rfl hw
        have nb : b ∉ fpT H (.ref a) (.lst ts) := fun z => hij (R.sep i j b (mi b z) mb)
        have hba : b ≠ a := fun z => nb (by rw [efp, z]; exact List.mem_cons_self)
        rw [efp] at nd nb
        obtain ⟨n1, n2⟩ := List.nodup_cons.mp nd
        obtain ⟨o, ho, hnt⟩ := ow.some
        obtain ⟨R1, s1⟩ := set_un R (i := j) (by unfold free; rw [e2])
        have nob : ¬ Own H σ (ρ.set j .un) b := fun ⟨k, m⟩ => by
          obtain ⟨hk, m⟩ := mine_un m
          exact hk (R.sep k j b m mb)
        -- b taken out of what there was
        obtain ⟨H0, eH0⟩ : ∃ H0 : Hp, H0 = fun c => if c = b then none else H c := ⟨_, rfl⟩
        have h0 : ∀ c, c ≠ b → H0 c = H c := fun c hc => by rw [eH0]; exact if_neg hc
        have m0 : ∀ k c, Mine H0 σ (ρ.set j .un) k c ↔ Mine H σ (ρ.set j .un) k c := fun k c => R1.mine1 k (fun c m => h0 c fun z => nob ⟨k, z ▸ m⟩) c
        have st0 : Step F H0 σ (ρ.set j .un) F H (ρ.set j .un) := ⟨⟨Ext.refl _, fun c u hc _ f n => by
          have hcb : c ≠ b := fun z => by rw [eH0, z] at hc; simp at hc
          refine ⟨by rw [← h0 c hcb]; exact hc, f, fun ⟨k, m⟩ => n ⟨k, (m0 k c).mpr m⟩⟩⟩, Kp.refl _, fun k c ns n v ek hvk => by
          exact (R1.kid (H' := H0) (fun k c _ m => h0 c fun z => nob ⟨k, z ▸ m⟩) k c ns n v ek hvk).symm⟩
        have e1 : (ρ.set j .un)[i]? = some (.obj (.lst ts)) := by rw [List.getElem?_set_ne (Ne.symm hij)]; exact e
        obtain ⟨H', eH'⟩ : ∃ H' : Hp, H' = upd H a (.lst (vs ++ [.ref b])) := ⟨_, rfl⟩
        have hne : ∀ c, c ≠ a → H' c = H c := fun c hc => by rw [eH', upd_ne hc]
        have hsa : H' a = some (.lst (vs ++ [.ref b])) := by rw [eH', upd_same]
        have nea : ∀ c ∈ fpL H vs ts, c ≠ a := fun c hc z => n1 (z ▸ hc)
        obtain ⟨q1, q2⟩ := TAtL.stay (Ext.refl F) (H' := H') hk fun c hc => ⟨hne c (nea c hc), id⟩
        have kv : kidsV H' (.ref a) = vs ++ [.ref b] := by show kidsO (H' a) = _; rw [hsa]; rfl
        have ln : vs.length = ts.length := hl
        have eb : ∀ G : Hp, fpL G [.ref b] [.own d] = [b] := fun G => by
          rw [fpL, fpT, show fpL G [] [] = [] by unfold fpL; rfl, List.append_nil]; rfl
        have ef' : fpT H' (.ref a) (.lst (ts ++ [.own d])) = a :: (fpL H vs ts ++ [b]) := by
          rw [fpT, kv, fpL_app ln, q1, eb]; rfl
        have ta' : TAt X.K F H' (.ref a) (.lst (ts ++ [.own d])) := by
          rw [TAt]
          refine ⟨a, rfl, fa, by rw [kv]; exact hsa, ?_⟩
          rw [kv, tatL_app ln]
          refine ⟨q2, ?_⟩
          rw [TAtL]
          refine ⟨?_, by unfold TAtL; trivial⟩
          rw [TAt]
          exact ⟨b, rfl, fb, ow.mono (Ext.refl _) fun u hu => by rw [hne b hba]; exact hu⟩
        have nd' : (a :: (fpL H vs ts ++ [b])).Nodup := by
          refine List.nodup_cons.mpr ⟨fun z => ?_, List.nodup_append.mpr ⟨n2, by simp, fun p hp q hq z => ?_⟩⟩
          · rcases List.mem_append.mp z with z | z
            · exact n1 z
            · exact hba (List.mem_singleton.mp z).symm
          · rw [List.mem_singleton] at hq
            subst hq z
            exact nb (List.mem_cons_of_mem _ hp)
        obtain ⟨R2, s2⟩ := tree_step (t' := .lst (ts ++ [.own d])) (F' := F) (H' := H') R1 st0 e1 rfl hv rfl rfl (Ext.refl _) (fun z u hu => by
            obtain ⟨h1, h2⟩ := R1.sub z u hu
            refine ⟨?_, h2⟩
            unfold Rdn
            rw [hne z fun e => by rw [e, fa] at hu; cases hu]
            exact h1)
          (fun z u hz hu _ fz => ⟨by rw [hne z fun e => hz (by rw [efp, e]; exact List.mem_cons_self)]; exact hu, fz⟩)
          (by rw [eH']; exact tabs_upd (fun u hu => by rw [ha] at hu; cases hu; exact fun z => z) R1.tab) ta' (by rw [ef']; exact nd')
          (fun z hz => by
            rw [ef'] at hz
            rcases List.mem_cons.mp hz with z1 | z1
            · exact .inl (by rw [efp, z1]; exact List.mem_cons_self)
            · rcases List.mem_append.mp z1 with z1 | z1
              · exact .inl (by rw [efp]; exact List.mem_cons_of_mem _ z1)
              · rw [List.mem_singleton] at z1
                subst z1
                exact .inr ⟨nob, fun u hu => by rw [eH0] at hu; simp at hu⟩)
        have es : reT (.obj (.lst ts)) (.lst (ts ++ [.own d])) = .obj (.lst (ts ++ [.own d])) := rfl
        rw [es] at R2 s2
        refine ⟨.ref a, hv, .inl ⟨rfl, vs, SqL.of ha⟩, .ref b, hw, a, vs, .ref b, rfl, rfl, ha, by rw [hl]; exact hz, ?_⟩
        rw [← eH']
        refine h σ F H' ⟨⟨Ext.refl _, fun c u hc tc f nc => ?_⟩, ?_⟩ R2
        · have hcb : c ≠ b := fun z => nc ⟨j, z ▸ mb⟩
          exact s2.fr.keep c u (by rw [h0 c hcb]; exact hc) tc f fun ⟨k, m⟩ => nc ⟨k, (mine_un ((m0 k c).mp m)).2⟩
        · have p1 : Par σ ρ σ (ρ.set j .un) := s1.par
          have p2 : Par σ (ρ.set j .un) σ ((ρ.set j .un).set i (.obj (.lst (ts ++ [.own d])))) := s2.s.par
          exact ⟨fun k d e => by
            obtain ⟨⟨d1, x1⟩, y1⟩ := p1.1 k d e
            obtain ⟨x2, y2⟩ := p2.1 k d1 x1
            exact ⟨x2, y2.trans y1⟩, fun k d e => by
            obtain ⟨x1, y1⟩ := p1.2.1 k d e
            obtain ⟨x2, y2⟩ := p2.2.1 k d x1
            exact ⟨x2, y2.trans y1⟩, fun k d e => by
            obtain ⟨⟨d1, x1, q1⟩, y1⟩ := p1.2.2 k d e
            obtain ⟨⟨d2, x2, q2⟩, y2⟩ := p2.2.2 k d1 x1
            exact ⟨⟨d2, x2, q1.trans q2⟩, y2.trans y1⟩⟩
      · exact False.elim h
end
theorem wp_kLoop {i j : Nat} {b : MS} {ds : List D} {QF : Flow → Rho → Prop} {X : Ex → Rho → Prop} (J : List D → List D → Rho → Prop)
    (st : ∀ pre d rest done ρ, ds = pre ++ d :: rest → J pre done ρ → free ρ j = true ∧ j < ρ.length ∧ wp (b (ρ.set j (.par d))) (kf (fun ρ1 => ρ1[i]? = some (.opa .gone) ∧ ∃ d', ρ1[j]? = some (.par d') ∧ J (pre ++ [d]) (done ++ [d']) (ρ1.set j .un)) (fun _ _ => False)) NoX)
    (q : ∀ done ρ, J ds done ρ → QF .nx (closeR ρ i done)) : ∀ (rest pre done : List D) (ρ : Rho), ds = pre ++ rest → J pre done ρ → wp (kLoop i j b done rest ρ) QF X
  | [], pre, done, ρ, hx, h => by
    rw [List.append_nil] at hx
    subst hx
    exact q done ρ h
  | d :: rest, pre, done, ρ, hx, h => by
    obtain ⟨h1, h2, h3⟩ := st pre d rest done ρ hx h
    unfold kLoop
    rw [if_pos ⟨h1, h2⟩]
    cases e : b (ρ.set j (.par d)) with
    | fail => rw [e] at h3; exact h3.elim
    | ex x ρ1 => rw [e] at h3; exact h3.elim
    | ok f ρ1 =>
      rw [e] at h3
      cases f with
      | nx =>
        obtain ⟨z1, d', z2, z3⟩ := h3
        dsimp only
        rw [z1, z2]
        exact wp_kLoop J st q rest (pre ++ [d]) (done ++ [d']) _ (by rw [List.append_assoc]; exact hx) z3
      | rt o => exact h3.elim
      | bk => exact h3.elim
      | ct => exact h3.elim
theorem wp_sForK {i j : Nat} {b : MS} {ds : List D} {ρ : Rho} {QF : Flow → Rho → Prop} {X : Ex → Rho → Prop} (hi : ρ[i]? = some (.obj (.lst (ds.map .own)))) (hij : i ≠ j) (J : List D → List D → Rho → Prop) (h0 : J [] [] (ρ.set i (.opa .gone)))
    (st : ∀ pre d rest done ρ, ds = pre ++ d :: rest → J pre done ρ → free ρ j = true ∧ j < ρ.length ∧ wp (b (ρ.set j (.par d))) (kf (fun ρ1 => ρ1[i]? = some (.opa .gone) ∧ ∃ d', ρ1[j]? = some (.par d') ∧ J (pre ++ [d]) (done ++ [d']) (ρ1.set j .un)) (fun _ _ => False)) NoX)
    (q : ∀ done ρ, J ds done ρ → QF .nx (closeR ρ i done)) : wp (sForK i j b ρ) QF X := by
  unfold sForK
  rw [hi]
  dsimp only
  rw [ownsT_map]
  dsimp only
  rw [if_pos hij]
  exact wp_kLoop J st q ds [] [] _ rfl h0
def fListK : List D → Option Opd
  | [.dict ps] => some (.new (.list (ps.map (·.1))))
  | _ => none
local macro_rules | `(tactic| simp_arith [$ls,*]) => `(tactic| simp -dsimp -implicitDefEqProofs [Dl.T.odd, Dl.vI, Dl.vB, Dl.vS, Dl.run2, Dl.run1, Dl.deref, Dl.Slot.data?, Dl.Slot.tree?, Dl.T.toD, Dl.toDs, Dl.useO, Dl.useAll, Dl.boolOf, Dl.putO, Dl.free, Dl.outO, Dl.withAll, Dl.runN, Dl.derefs, Dl.mutO, Dl.isLst, Dl.isDct, Dl.putI, Dl.putD, Dl.setI, Dl.augO, Dl.getI, Dl.slotOf, Dl.slotsOf, Dl.lents, Dl.takeB, Dl.backS, Dl.useSel, Dl.back, Dl.gd, Dl.pyIx, L2.atI, L2.ixN, Dl.pyGet, Dl.pyMul, Dl.pyAdd, Dl.pyEq, Dl.pyNe, Dl.mulOk, Dl.powOk, Dl.pySlice, Dl.fLen, Dl.fList, Dl.fTuple, Dl.mAppend, Dl.mReverse, Dl.mClear, Dl.mExtend, Dl.mInsert, Dl.mkTup, Dl.mkLst, Dl.pyIsN, Dl.pyNotN, Dl.fNeg, Dl.pyRev, Dl.gN, Dl.gsNil, Dl.gsCons, Dl.gT, Dl.srcL, Dl.srcT, Dl.srcS, Dl.srcQ, Dl.srcR1, Dl.srcR2, Dl.hide, Dl.restore, PySem.sizeLine_eq, Dl.lockS, Dl.pyIs, Dl.fInt, Dl.dpopO, Dl.lstN, Dl.newsOf, Dl.viewR, Dl.viewS, Dl.treeS, Dl.scal, Dl.sRetT, Dl.srcE, Dl.getO, Dl.mDClear, Dl.fSortSet2, Dl.mExt, Dl.fListK, $ls,*])
local macro_rules | `(tactic| simp_arith) => `(tactic| simp -dsimp -implicitDefEqProofs [Dl.T.odd, Dl.vI, Dl.vB, Dl.vS, Dl.run2, Dl.run1, Dl.deref, Dl.Slot.data?, Dl.Slot.tree?, Dl.T.toD, Dl.toDs, Dl.useO, Dl.useAll, Dl.boolOf, Dl.putO, Dl.free, Dl.outO, Dl.withAll, Dl.runN, Dl.derefs, Dl.mutO, Dl.isLst, Dl.isDct, Dl.putI, Dl.putD, Dl.setI, Dl.augO, Dl.getI, Dl.slotOf, Dl.slotsOf, Dl.lents, Dl.takeB, Dl.backS, Dl.useSel, Dl.back, Dl.gd, Dl.pyIx, L2.atI, L2.ixN, Dl.pyGet, Dl.pyMul, Dl.pyAdd, Dl.pyEq, Dl.pyNe, Dl.mulOk, Dl.powOk, Dl.pySlice, Dl.fLen, Dl.fList, Dl.fTuple, Dl.mAppend, Dl.mReverse, Dl.mClear, Dl.mExtend, Dl.mInsert, Dl.mkTup, Dl.mkLst, Dl.pyIsN, Dl.pyNotN, Dl.fNeg, Dl.pyRev, Dl.gN, Dl.gsNil, Dl.gsCons, Dl.gT, Dl.srcL, Dl.srcT, Dl.srcS, Dl.srcQ, Dl.srcR1, Dl.srcR2, Dl.hide, Dl.restore, PySem.sizeLine_eq, Dl.lockS, Dl.pyIs, Dl.fInt, Dl.dpopO, Dl.lstN, Dl.newsOf, Dl.viewR, Dl.viewS, Dl.treeS, Dl.scal, Dl.sRetT, Dl.srcE, Dl.getO, Dl.mDClear, Dl.fSortSet2, Dl.mExt, Dl.fListK])
def compT (vs : List Nat) (mg : MG) (mt : MT) (me : ME) : List D → List T → ME
  | [], acc => fun ρ => .ok (.nob (.lst acc)) ρ
  | d :: ds, acc => fun ρ => match mg d (hide vs ρ) with
    | some ρ2 => (noEx (mt ρ2)).bind fun b ρ3 => if b = true then (noEx (me ρ3)).bind fun o ρ4 => (match treeN o with
      | some x => if acc.length < sizeLine then compT vs mg mt me ds (acc ++ [x]) (restore vs ρ ρ4) else .fail
      | none => .fail) else compT vs mg mt me ds acc (restore vs ρ ρ3)
    | none => .fail
def eCompT (vs : List Nat) (mi : MI) (mg : MG) (mt : MT) (me : ME) : ME := fun ρ => (mi ρ).bind fun s ρ1 => compT vs mg mt me s.ds [] ρ1
section
variable {K : PySem.W.Frag} {F H F' H' : Hp} {σ σ' : Sg} {ρ ρ' : Rho} {vs : List Nat}
/-- what is ours behind a turn -/
theorem restore_own (R : Rel K F σ H ρ) (ag : Agree vs (wipe σ vs) σ') (fr : Fr F H (wipe σ vs) (hide vs ρ) F' H' σ' ρ') (hl : ρ.length = ρ'.length) {a : Addr} (h : Own H' σ (restore vs ρ ρ') a) : (∃ j ∈ vs, Mine H σ ρ j a) ∨ Own H' σ' ρ' a := by
  have sg : ∀ {j}, j ∉ vs → σ'[j]? = σ[j]? := fun {j} hj => by rw [ag.2 j hj, wipe_out hj]
  have prot : ∀ {j : Nat} {a : Addr}, j ∈ vs → Mine H σ ρ j a → H' a = H a := fun {j a} hj m => by
    obtain ⟨f, o, ho, t⟩ := R.has ⟨j, m⟩
    obtain ⟨x, y, z⟩ := fr.keep a o ho t f fun ⟨k, mk⟩ => by
      obtain ⟨hk, mk'⟩ := hide_mine mk
      have := R.sep j k a m mk'
      subst this; exact hk hj
    rw [x, ho]
  obtain ⟨j, s, v, e, e2, m⟩ := h
  by_cases hj : j ∈ vs
  · rw [restore_in hl hj] at e
    exact .inl ⟨j, hj, (R.mine1 j (fun b h => prot hj h) a).mp ⟨s, v, e, e2, m⟩⟩
  · rw [restore_out hj] at e
    exact .inr ⟨j, s, v, e, by rw [sg hj]; exact e2, m⟩
/-- a tree that nobody holds goes on -/
theorem loose_step {F0 H0 : Hp} {vs' : List V} {ts : List T} (fr : Fr F H σ ρ F' H' σ' ρ') (ta : TAtL K F H vs' ts) (n : ∀ a ∈ fpL H vs' ts, ¬ Own H σ ρ a) : TAtL K F' H' vs' ts ∧ fpL H' vs' ts = fpL H vs' ts ∧ ∀ a ∈ fpL H vs' ts, ¬ Own H' σ' ρ' a := by
  have k : ∀ a ∈ fpL H vs' ts, H' a = H a ∧ F' a = none ∧ ¬ Own H' σ' ρ' a := fun a ha => by
    obtain ⟨f, o, ho, nt⟩ := fps_some ta a ha
    obtain ⟨x, y, z⟩ := fr.keep a o ho nt f (n a ha)
    exact ⟨by rw [x, ho], y, z⟩
  obtain ⟨q1, q2⟩ := TAtL.stay fr.ext ta fun a ha => ⟨(k a ha).1, fun _ => (k a ha).2.1⟩
  exact ⟨q2, q1, fun a ha => (k a ha).2.2⟩
end
section
variable {X : Cx} {W : WX} {pos : Pos}
theorem lcT_sem1 {wi : TI} {g : TG} {tt : TT} {te : TE} {vs ts : List Nat} {mi : MI} {mg : MG} {mt : MT} {me : ME} {F H : Hp} {σ : Sg} {ρ : Rho} (q : ∀ R, IPost X.K W F H σ ρ R (mi ρ) → wi σ H R)
    (pgn : ∀ j ∈ ts, j ∈ vs) (om : OnlyG ts mg)
    (qg : ∀ F σ H ρ v d ρ' Q, Rel X.K F σ H ρ → Rp X.K F v d → mg d ρ = some ρ' → (∀ σ', Agree ts σ σ' → StepS F H σ ρ F H σ' ρ' → Rel X.K F σ' H ρ' → Q σ' H) → g v σ H Q)
    (qt : ∀ F σ H ρ Q, Rel X.K F σ H ρ → TPost X.K W0 F H σ ρ Q (mt ρ) → tt σ H Q)
    (qe : ∀ F σ H ρ Q, Rel X.K F σ H ρ → EPost X.K W0 F H σ ρ Q (me ρ) → te σ H Q) :
    ∀ Q, Rel X.K F σ H ρ → EPost X.K W F H σ ρ Q (eCompT vs mi mg mt me ρ) → tLc wi g tt te vs σ H Q := by
  intro Q R h
  refine q _ (IE h fun s ρ1 J F1 H1 s1 R1 G L hq L0 hL0 => ?_)
  have lk : ∀ {F' H' : Hp} {ρ' : Rho}, Rel X.K F' σ H' ρ' → Locked ρ' s.lk → lockC X.K σ s.lk F' H' := fun {F' H' ρ'} R' L' => by
    cases e : s.lk with
    | none => exact True.intro
    | some z =>
      obtain ⟨j, d⟩ := z
      obtain ⟨a, h1, f, ow⟩ := R'.own j _ d (L' j d e) rfl rfl
      exact ⟨a, h1, ow⟩
  obtain ⟨fD, gr0, _⟩ := upd_fresh (K := X.K) (o := .lst []) R1.sub hL0 trivial
  have st0 : Step F1 H1 σ ρ1 F1 (upd H1 L0 (.lst [])) ρ1 := gr0.step R1
  let Inv' : Nat → Hp → Prop := fun i H' => i ≤ s.ds.length ∧ ∃ F' ρ' acc accv, Rel X.K F' σ H' ρ' ∧ Step F1 H1 σ ρ1 F' H' ρ' ∧ Locked ρ' s.lk ∧ H' L0 = some (.lst accv) ∧ F' L0 = none ∧ ¬ Own H' σ ρ' L0 ∧ (TAtL X.K F' H' accv acc ∧ (fpL H' accv acc).Nodup ∧ ∀ a ∈ fpL H' accv acc, a ≠ L0 ∧ ¬ Own H' σ ρ' a ∧ (∀ u, H1 a = some u → nt u → F1 a = none → Own H1 σ ρ1 a)) ∧ EPost X.K W F1 H1 σ ρ1 Q (compT vs mg mt me (s.ds.drop i) acc ρ')
  refine ⟨fun i m H' => m = s.ds.length - i ∧ Inv' i H', ⟨s.ds.length, by simp, Nat.zero_le _, F1, ρ1, [], [], gr0.rel R1, st0, L, upd_same, fD, not_ownG R1 gr0 hL0, ⟨by unfold TAtL; trivial, by unfold fpL; exact .nil, fun a ha => by unfold fpL at ha; cases ha⟩, hq⟩, ?_⟩
  rintro i m H' ⟨rfl, hi, F', ρ', acc, accv, R', st, L', hD, fD', nD, ⟨ta, tnd, tno⟩, hq'⟩
  have C := lk R' L'
  by_cases hlt : i < s.ds.length
  · obtain ⟨go, yl⟩ := G.go i F' H' st.fr.ext R'.sub C hlt
    refine .inr ⟨go, Inv' (i + 1), fun H2 h => ⟨s.ds.length - (i + 1), by omega, rfl, h⟩, fun x H2 y => ?_⟩
    obtain ⟨F2, d, hd, gr, rp⟩ := yl x H2 y
    have ed : s.ds.drop i = d :: s.ds.drop (i + 1) := by
      rw [List.drop_eq_getElem_cons hlt]
      congr 1
      rw [List.getElem?_eq_getElem hlt] at hd
      exact Option.some.inj hd
    rw [ed] at hq'
    unfold compT at hq'
    have R2 := gr.rel R'
    have hD2 := gr.keep _ _ hD
    have fD2 := gr.fresh _ _ hD fD'
    have st2 : Step F1 H1 σ ρ1 F2 H2 ρ' := st.trans (gr.step R')
    have fr2 : Fr F' H' σ ρ' F2 H2 σ ρ' := (gr.step R').fr
    obtain ⟨ta2, ef2, no2⟩ := loose_step (F0 := F') (H0 := H') fr2 ta fun a ha => (tno a ha).2.1
    have old : ∀ {F4 H4 : Hp} {ρ4 : Rho}, Step F2 H2 σ ρ' F4 H4 ρ4 → TAtL X.K F4 H4 accv acc ∧ (fpL H4 accv acc).Nodup ∧ ∀ a ∈ fpL H4 accv acc, a ≠ L0 ∧ ¬ Own H4 σ ρ4 a ∧ (∀ u, H1 a = some u → nt u → F1 a = none → Own H1 σ ρ1 a) := fun {F4 H4 ρ4} st4 => by
      obtain ⟨t1, t2, t3⟩ := loose_step (F0 := F2) (H0 := H2) st4.fr ta2 fun a ha => no2 a (by rw [← ef2]; exact ha)
      exact ⟨t1, by rw [t2, ef2]; exact tnd, fun a ha => by
        have hb : a ∈ fpL H2 accv acc := by rw [← t2]; exact ha
        have hc : a ∈ fpL H' accv acc := by rw [← ef2]; exact hb
        exact ⟨(tno a hc).1, t3 a hb, (tno a hc).2.2⟩⟩
    have no2w : ∀ a ∈ fpL H2 accv acc, ¬ Own H2 (wipe σ vs) (hide vs ρ') a := fun a ha ⟨k, mk⟩ => no2 a (by rw [← ef2]; exact ha) ⟨k, (hide_mine mk).2⟩
    have Rw : Rel X.K F2 (wipe σ vs) H2 (hide vs ρ') := hide_rel R2
    have nD := fun z => nD ((R'.owns (gr.same R') L0).mp z)
    have nDw : ¬ Own H2 (wipe σ vs) (hide vs ρ') L0 := fun ⟨k, mk⟩ => nD ⟨k, (hide_mine mk).2⟩
    cases em : mg d (hide vs ρ') with
    | none => rw [em] at hq'; exact False.elim hq'
    | some ρ2 =>
      rw [em] at hq'
      dsimp only at hq'
      refine qg F2 (wipe σ vs) H2 (hide vs ρ') x d ρ2 _ Rw rp em fun σ3 ag s3 R3 => ?_
      have ag' : Agree vs (wipe σ vs) σ3 := ⟨ag.1, fun j hj => ag.2 j fun hm => hj (pgn j hm)⟩
      have eqw : wipe σ3 vs = wipe σ vs := by
        rw [wipe_eq ag']
        exact wipe_eq (σ := σ) (σ' := wipe σ vs) ⟨wipe_length σ vs, fun j hj => wipe_out hj⟩
      obtain ⟨om1, om2⟩ := om _ _ _ em
      have back : ∀ {F4 H4 : Hp} {ρ4 : Rho}, Step F2 H2 σ3 ρ2 F4 H4 ρ4 → Rel X.K F4 σ3 H4 ρ4 → Rel X.K F4 σ H4 (restore vs ρ' ρ4) ∧ Step F2 H2 σ ρ' F4 H4 (restore vs ρ' ρ4) ∧ H4 L0 = some (.lst accv) ∧ F4 L0 = none ∧ ¬ Own H4 σ3 ρ4 L0 := fun {F4 H4 ρ4} s4 R4 => by
        have fr := s3.fr.trans s4.fr
        obtain ⟨x1, x2, x3⟩ := fr.keep L0 _ hD2 trivial fD2 nDw
        have hl : ρ'.length = ρ4.length := by rw [← s4.kp.1, om1, hide_len]
        obtain ⟨y1, y2⟩ := restore_rel R2 (fun i c ns n v hi e h => s4.kid i c ns n v (by rw [om2 i fun hm => hi (pgn i hm), hide_out hi]; exact e) (by rw [ag'.2 i hi, wipe_out hi]; exact h)) ag' fr hl R4 fun j hj t e => by
          have e1 : ρ2[j]? = some t := by rw [om2 j fun hm => hj (pgn j hm), hide_out hj]; exact e
          exact s4.kp.2 j t e1
        exact ⟨y1, y2, x1, x2, x3⟩
      have lock' : ∀ {F4 H4 : Hp} {ρ4 : Rho}, Step F2 H2 σ ρ' F4 H4 ρ4 → Locked ρ4 s.lk := fun {F4 H4 ρ4} s4 j d z => by
        obtain ⟨s', e', k⟩ := s4.kp.2 j _ (L' j d z)
        cases s' <;> first | (cases (show _ = _ from k); exact e') | exact False.elim k
      have nown : ∀ {F4 H4 : Hp} {ρ4 : Rho}, Step F2 H2 σ ρ' F4 H4 ρ4 → ¬ Own H4 σ ρ4 L0 := fun {F4 H4 ρ4} s4 => (s4.fr.keep L0 _ hD2 trivial fD2 nD).2.2
      refine ⟨eqw, qt F2 σ3 H2 ρ2 _ R3 ?_⟩
      cases et : mt ρ2 with
      | fail => rw [et] at hq'; exact False.elim hq'
      | ex x ρ' => rw [et] at hq'; exact False.elim hq'
      | ok b ρ3 =>
        rw [et] at hq'
        intro F3 H3 s4 R4
        cases b with
        | false =>
          obtain ⟨y1, y2, x1, x2, x3⟩ := back s4 R4
          exact ⟨hlt, F3, _, acc, accv, y1, st2.trans y2, lock' y2, x1, x2, nown y2, old y2, hq'⟩
        | true =>
          refine qe F3 σ3 H3 ρ3 _ R4 ?_
          have hq' : EPost X.K W F1 H1 σ ρ1 Q ((noEx (me ρ3)).bind fun o ρ4 => (match treeN o with
            | some x => if acc.length < sizeLine then compT vs mg mt me (s.ds.drop (i + 1)) (acc ++ [x]) (restore vs ρ' ρ4) else .fail
            | none => .fail)) := hq'
          cases ee : me ρ3 with
          | fail => rw [ee] at hq'; exact False.elim hq'
          | ex x ρ' => rw [ee] at hq'; exact False.elim hq'
          | ok o ρ4 =>
            rw [ee] at hq'
            intro v F4 H4 s5 R5 ro ns
            dsimp only [noEx, Rs.bind] at hq'
            cases eu : treeN o with
            | none => rw [eu] at hq'; exact False.elim hq'
            | some t =>
              rw [eu] at hq'
              dsimp only at hq'
              split at hq'
              · rename_i hz
                obtain ⟨tv1, tv2, tv3, tv4⟩ : TAt X.K F4 H4 v t ∧ (fpT H4 v t).Nodup ∧ (∀ a ∈ fpT H4 v t, ¬ Own H4 σ3 ρ4 a) ∧ ∀ a ∈ fpT H4 v t, o.isNew = true ∧ a ∈ newFp H4 v o := by
                  cases o with
                  | val d5 =>
                    cases eu
                    have ef : fpT H4 v (.fr d5) = [] := by unfold fpT; rfl
                    refine ⟨by rw [TAt]; exact ro, by rw [ef]; exact List.nodup_nil, fun a ha => ?_, fun a ha => ?_⟩ <;> (rw [ef] at ha; cases ha)
                  | new d5 =>
                    cases eu
                    obtain ⟨b, e, f, ow, n⟩ := ro
                    refine ⟨by rw [TAt]; exact ⟨b, e, f, ow⟩, by rw [fpT, e]; simp [refsV], fun a ha => ?_, fun a ha => ⟨rfl, by rw [fpT] at ha; exact ha⟩⟩
                    rw [fpT, mem_refs, e] at ha
                    cases ha
                    exact n
                  | nob t5 => cases eu; exact ⟨ro.1, ro.2.1, ro.2.2, fun a ha => ⟨rfl, ha⟩⟩
                  | loc d5 => cases eu
                  | lob d5 => cases eu
                obtain ⟨y1, y2, x1, x2, x3⟩ := back (s4.trans s5) R5
                have fr23 := s3.fr.trans s4.fr
                have sep2 : ∀ a ∈ fpT H4 v t, ∀ u, H2 a = some u → nt u → F2 a = none → ¬ Own H2 (wipe σ vs) (hide vs ρ') a → False := fun a ha u hu nu f n => by
                  obtain ⟨z1, z2, z3⟩ := fr23.keep a u hu nu f n
                  obtain ⟨w1, w2⟩ := tv4 a ha
                  exact z3 (ns w1 a w2 u z1 nu z2)
                have aL : ∀ a ∈ fpT H4 v t, a ≠ L0 := fun a ha e => by
                  subst e
                  exact sep2 a ha _ hD2 trivial fD2 nDw
                have hl4 : ρ'.length = ρ4.length := by rw [← (s4.trans s5).kp.1, om1, hide_len]
                have nwn : ∀ a ∈ fpT H4 v t, ¬ Own H4 σ (restore vs ρ' ρ4) a := fun a ha w => by
                  rcases restore_own R2 ag' (s3.fr.trans (s4.trans s5).fr) hl4 w with ⟨j, hj, m⟩ | w
                  · obtain ⟨f, u, hu, nu⟩ := R2.has ⟨j, m⟩
                    exact sep2 a ha u hu nu f fun ⟨k, mk⟩ => by
                      obtain ⟨hk, mk'⟩ := hide_mine mk
                      have := R2.sep j k a m mk'
                      subst this
                      exact hk hj
                  · exact tv3 a ha w
                have nsp : ∀ a ∈ fpT H4 v t, ∀ u, H1 a = some u → nt u → F1 a = none → Own H1 σ ρ1 a := fun a ha u hu nu f => Classical.byContradiction fun n => by
                  obtain ⟨z1, z2, z3⟩ := st2.fr.keep a u hu nu f n
                  exact sep2 a ha u z1 nu z2 fun ⟨k, mk⟩ => z3 ⟨k, (hide_mine mk).2⟩
                have dis : ∀ a ∈ fpT H4 v t, a ∉ fpL H2 accv acc := fun a ha hb => by
                  obtain ⟨f, u, hu, nu⟩ := fps_some ta2 a hb
                  exact sep2 a ha u hu nu f (no2w a hb)
                obtain ⟨o1, o2, o3⟩ := old y2
                have efo : fpL H4 accv acc = fpL H2 accv acc := (loose_step (F0 := F2) (H0 := H2) y2.fr ta2 fun a ha => no2 a (by rw [← ef2]; exact ha)).2.1
                have ln : accv.length = acc.length := tatL_len o1
                have e1 : fpL H4 [v] [t] = fpT H4 v t := by rw [fpL, show fpL H4 [] [] = [] by unfold fpL; rfl, List.append_nil]
                have c1 : TAtL X.K F4 H4 (accv ++ [v]) (acc ++ [t]) := (tatL_app ln).mpr ⟨o1, by rw [TAtL]; exact ⟨tv1, by unfold TAtL; trivial⟩⟩
                have c2 : fpL H4 (accv ++ [v]) (acc ++ [t]) = fpL H4 accv acc ++ fpT H4 v t := by rw [fpL_app ln, e1]
                have c3 : ∀ a ∈ fpL H4 (accv ++ [v]) (acc ++ [t]), a ≠ L0 ∧ ¬ Own H4 σ (restore vs ρ' ρ4) a ∧ (∀ u, H1 a = some u → nt u → F1 a = none → Own H1 σ ρ1 a) := fun a ha => by
                  rw [c2] at ha
                  rcases List.mem_append.mp ha with z | z
                  · exact o3 a z
                  · exact ⟨aL a z, nwn a z, nsp a z⟩
                have c4 : (fpL H4 (accv ++ [v]) (acc ++ [t])).Nodup := by
                  rw [c2]
                  refine List.nodup_append.mpr ⟨o2, tv2, fun a ha b hb e => ?_⟩
                  subst e
                  rw [efo] at ha
                  exact dis a hb ha
                have st6 := st2.trans y2
                obtain ⟨H5, eH5⟩ : ∃ H5 : Hp, H5 = upd H4 L0 (.lst (accv ++ [v])) := ⟨_, rfl⟩
                have hne : ∀ c, c ≠ L0 → H5 c = H4 c := fun c hc => by rw [eH5, upd_ne hc]
                obtain ⟨q1, q2⟩ := TAtL.stay (Ext.refl F4) (H' := H5) c1 fun a ha => ⟨hne a (c3 a ha).1, id⟩
                have ownE : ∀ b, Own H5 σ (restore vs ρ' ρ4) b → Own H4 σ (restore vs ρ' ρ4) b := fun b z => (y1.owns (fun c hc => hne c (by rintro rfl; exact nown y2 hc)) b).mp z
                have hres := rel_upd (o := .lst (accv ++ [v])) y1 x2 (nown y2) (fun u hu => by rw [x1] at hu; cases hu; exact fun z => z)
                have hst := Step.upd (o := .lst (accv ++ [v])) st6 hL0 y1 (nown y2)
                refine ⟨accv, x1, by rw [ln]; exact hz, hlt, F4, _, acc ++ [t], accv ++ [v], hres, hst, lock' y2, upd_same, x2, fun z => nown y2 (ownE L0 (by rw [eH5]; exact z)), ?_, hq'⟩
                rw [← eH5]
                exact ⟨q2, by rw [q1]; exact c4, fun a ha => by rw [q1] at ha; exact ⟨(c3 a ha).1, fun z => (c3 a ha).2.1 (ownE a z), (c3 a ha).2.2⟩⟩
              · exact False.elim hq'
  · have e : i = s.ds.length := by omega
    subst e
    rw [List.drop_length] at hq'
    refine .inl ⟨G.stop _ F' H' st.fr.ext R'.sub C (Nat.le_refl _), ?_⟩
    have kv : kidsV H' (.ref L0) = accv := by
      show kidsO (H' L0) = _
      rw [hD]; rfl
    have fp : fpT H' (.ref L0) (.lst acc) = L0 :: fpL H' accv acc := by rw [fpT, kv]; rfl
    refine hq' (.ref L0) F' H' st R' ⟨?_, ?_, fun b hb => ?_⟩ fun _ b hb u hu t f => ?_
    · rw [TAt]
      exact ⟨L0, rfl, fD', by rw [kv]; exact hD, by rw [kv]; exact ta⟩
    · rw [fp]
      exact List.nodup_cons.mpr ⟨fun hm => (tno L0 hm).1 rfl, tnd⟩
    · rw [fp] at hb
      rcases List.mem_cons.mp hb with z | z
      · rw [z]; exact nD
      · exact (tno b z).2.1
    · have hb : b ∈ fpT H' (.ref L0) (.lst acc) := hb
      rw [fp] at hb
      rcases List.mem_cons.mp hb with z | z
      · rw [z, hL0] at hu; cases hu
      · exact (tno b z).2.2 u hu t f
theorem lcT_sem {wi : TI} {g : TG} {tt : TT} {te : TE} {vs ts : List Nat} {mi : MI} {mg : MG} {mt : MT} {me : ME} (q : ∀ F σ H ρ R, Rel X.K F σ H ρ → IPost X.K W F H σ ρ R (mi ρ) → wi σ H R)
    (pgn : ∀ j ∈ ts, j ∈ vs) (om : OnlyG ts mg)
    (qg : ∀ F σ H ρ v d ρ' Q, Rel X.K F σ H ρ → Rp X.K F v d → mg d ρ = some ρ' → (∀ σ', Agree ts σ σ' → StepS F H σ ρ F H σ' ρ' → Rel X.K F σ' H ρ' → Q σ' H) → g v σ H Q)
    (qt : ∀ F σ H ρ Q, Rel X.K F σ H ρ → TPost X.K W0 F H σ ρ Q (mt ρ) → tt σ H Q)
    (qe : ∀ F σ H ρ Q, Rel X.K F σ H ρ → EPost X.K W0 F H σ ρ Q (me ρ) → te σ H Q) :
    ∀ F σ H ρ Q, Rel X.K F σ H ρ → EPost X.K W F H σ ρ Q (eCompT vs mi mg mt me ρ) → tLc wi g tt te vs σ H Q :=
  fun F σ H ρ Q R => lcT_sem1 (fun R' => q F σ H ρ R' R) pgn om qg qt qe Q R
/-- y = [..] on one line -/
theorem ds_setLcT {X : Cx} {W : WX} {pos spos py : Pos} {i : Nat} {y : Str} {elt tg iter : Expr} {ifs : List Expr} {scope : Scope} (own : List (Str × Nat)) {mi : MI} {mg : MG} {mt : MT} {me : ME} (hc : X.calm = true) (hN : X.N.Nodup) (hy : X.N[i]? = some y) (hyl : X.env.scope.names.lookup y = some .local)
    (hsw : swapsWith (.ListComp elt [⟨tg, iter, ifs, 0⟩] scope pos) (some (.Name y py)) spos.line X.env = pure true) (hi : DI X W tg iter mi) (ok : BlkOk X.N X.env.scope scope own) {ts : List Nat}
    (pgn : ∀ j ∈ ts, j ∈ own.map (·.2)) (om : OnlyG ts mg)
    (hg : ∀ (s : Shared) (H : Hp) (C : Addr) (cl : List (Str × Addr)) (fp : List Addr), DG (X.blk s H scope (compEnvC scope cl C X.env) fp) tg ts mg)
    (ht : ∀ (s : Shared) (H : Hp) (C : Addr) (cl : List (Str × Addr)) (fp : List Addr), DTs (X.blk s H scope (compEnvC scope cl C X.env) fp) W0 ifs mt)
    (he : ∀ (s : Shared) (H : Hp) (C : Addr) (cl : List (Str × Addr)) (fp : List Addr), DE (X.blk s H scope (compEnvC scope cl C X.env) fp) W0 elt me)
    (hs : ∀ x, foldedSetIterable iter X.env x = pure x := by intro _; rfl) : DS X W (.Assign [.Name y py] (.ListComp elt [⟨tg, iter, ifs, 0⟩] scope pos) spos) (sSet i (eCompT (own.map (·.2)) mi mg mt me)) := by
  obtain ⟨wi, p, q⟩ := hi
  refine ⟨_, ps_setLc (g := canG X.K ts mg) (tt := canT X.K W0 mt) (te := canE X.K W0 me) hc hN hy hyl hsw p ok (fun s H C cl fp => (hg s H C cl fp).can) (fun s H C cl fp => (ht s H C cl fp).can) (fun s H C cl fp => (he s H C cl fp).can) hs, fun F σ H ρ Z R h => ?_⟩
  exact lcT_sem (W := W) q pgn om (fun F σ H ρ v d ρ' Q R rp e k => ⟨F, ρ, d, ρ', R, rp, e, k⟩) (fun F σ H ρ Q R h => ⟨F, ρ, R, h⟩) (fun F σ H ρ Q R h => ⟨F, ρ, R, h⟩) F σ H ρ _ R (ES h fun o ρ1 v F1 H1 s1 R1 ro ns hp => putO_ok R1 s1 ro ns hp)
end
@[simp ↓] theorem wp_sKidPut {i n : Nat} {me : ME} {ρ : Rho} {QF : Flow → Rho → Prop} {X : Ex → Rho → Prop} : wp (sKidPut i n me ρ) QF X = wp (me ρ) (fun o ρ1 => wp (kidPutP i n o ρ1) QF X) X := by
  unfold sKidPut
  rw [wp_bind]
theorem ds_setLcTW {X : Cx} {W : WX} {pos spos py : Pos} {i : Nat} {y : Str} {elt tg iter : Expr} {ifs : List Expr} {scope : Scope} (own : List (Str × Nat)) {mi : MI} {mg : MG} {mt : MT} {me : ME} (hc : X.calm = true) (hN : X.N.Nodup) (hy : X.N[i]? = some y) (hyl : X.env.scope.names.lookup y = some .local)
    (hsw : swapsWith (.ListComp elt [⟨tg, iter, ifs, 0⟩] scope pos) (some (.Name y py)) spos.line X.env = pure true) (hi : DI X W tg iter mi) (ok : blkC X.N X.env.scope scope own = true) {ts : List Nat}
    (pgn : ∀ j ∈ ts, j ∈ own.map (·.2))
    (hg : ∀ (s : Shared) (H : Hp) (C : Addr) (cl : List (Str × Addr)) (fp : List Addr), DG (X.blk s H scope (compEnvC scope cl C X.env) fp) tg ts mg)
    (ht : ∀ (s : Shared) (H : Hp) (C : Addr) (cl : List (Str × Addr)) (fp : List Addr), DTs (X.blk s H scope (compEnvC scope cl C X.env) fp) W0 ifs mt)
    (he : ∀ (s : Shared) (H : Hp) (C : Addr) (cl : List (Str × Addr)) (fp : List Addr), DE (X.blk s H scope (compEnvC scope cl C X.env) fp) W0 elt me)
    (hs : ∀ x, foldedSetIterable iter X.env x = pure x := by intro _; rfl) : DS X W (.Assign [.Name y py] (.ListComp elt [⟨tg, iter, ifs, 0⟩] scope pos) spos) (sSet i (eCompT (own.map (·.2)) mi mg mt me)) :=
  ds_setLcT own hc hN hy hyl hsw hi (blkOk_by ok) pgn (hg X.s_0 X.H_0 0 [] []).1 hg ht he hs
def putDs (kvs more : List (Key × V)) : List (Key × V) := more.foldl (fun acc p => putK acc p.1 p.2) kvs
theorem putDs_le : ∀ (more kvs : List (Key × V)), (putDs kvs more).length ≤ kvs.length + more.length
  | [], _ => Nat.le_refl _
  | p :: more, kvs => by
    have h1 := putDs_le more (putK kvs p.1 p.2)
    have h2 := length_putK kvs p.1 p.2
    show (putDs (putK kvs p.1 p.2) more).length ≤ _
    rw [List.length_cons]
    omega
theorem KV.putDs {kvs : List (Key × V)} {vs : List (Key × Value)} {more : List (Key × V)} {vs2 : List (Key × Value)} (r2 : KV more vs2) : ∀ {kvs : List (Key × V)} {vs : List (Key × Value)}, KV kvs vs → KV (Dl.putDs kvs more) (merged vs vs2) := by
  unfold KV at r2
  induction r2 with
  | nil => intro kvs vs r; exact r
  | @cons p q ps qs h t ih =>
    intro kvs vs r
    obtain ⟨h1, h2⟩ := h
    have := ih (r.put p.1 h2)
    show KV (Dl.putDs (putK kvs p.1 p.2) ps) (merged (stored vs q.1 q.2) qs)
    rw [← h1]
    exact this
def rDUpd : V → List V → Hp → VK → Prop := fun x vs H Q => ∃ (a b : Addr) (kvs more : List (Key × V)), x = .ref a ∧ vs = [.ref b] ∧ a ≠ b ∧ H a = some (.dK kvs) ∧ Rd H b (.dK more) ∧ kvs.length + more.length ≤ sizeLine ∧ Q .non (upd H a (.dK (putDs kvs more)))
theorem mtd_update {X : Cx} : MtR X "dict.update" rDUpd := by
  intro pins s σ H x vs v us Q I rx rv h
  obtain ⟨a, b, kvs, more, rfl, rfl, hab, e, eb, hz, q⟩ := h
  obtain rfl : v = Value.ref a := rx
  obtain ⟨u, rfl, ru⟩ := rv.one
  obtain rfl : u = Value.ref b := ru
  obtain ⟨z, hd, ws, rel, dd⟩ := dk_of I.hok e
  obtain ⟨z2, hd2, ws2, rel2, dd2⟩ := dk_rd I.hok eb
  refine call_meetsIn PySem.F.slot_dict_update dd.typeIs PySem.F.entry_dict_update (PySem.F.args_dict_update_2 _ _) (meets_dict_update (mixKind X.prog X.w) a b hab hd2) ⟨ws, ws2, dd, dd2, by rw [← rel.length, ← rel2.length]; exact hz, fun h' dd' _ hs => ⟨.non, _, ?_, rfl, q⟩⟩
  have he : ∃ q, h'.get? a = some q := let ⟨q, _, _, hq, _⟩ := dd'; ⟨q, hq⟩
  exact d_write (t' := s.toks) I (by rw [e]; exact True.intro) hs he (dk_new (Nat.le_trans (putDs_le more kvs) hz) hd (KV.putDs (kvs := kvs) (vs := ws) rel2 rel) dd')
def dputs (ps qs : List (D × D)) : List (D × D) := qs.foldl (fun acc p => match keyOf p.1 with
  | some κ => dput acc κ p.2
  | none => acc) ps
def mDUpd : D → List D → Option (D × D)
  | .dict ps, [.dict qs] => if ps.length + qs.length ≤ sizeLine then some (.dict (dputs ps qs), .none) else none
  | _, _ => none
theorem RpD.putDs {K : PySem.W.Frag} {F : Hp} : ∀ {more : List (Key × V)} {qs : List (D × D)} {kvs : List (Key × V)} {ps : List (D × D)}, RpD K F more qs → RpD K F kvs ps → RpD K F (Dl.putDs kvs more) (dputs ps qs)
  | [], [], _, _, _, r => r
  | [], _ :: _, _, _, r, _ => by cases r
  | _ :: _, [], _, _, r, _ => by cases r
  | (k, v) :: more, (c, d) :: qs, kvs, ps, r2, r => by
    obtain ⟨e, h, r'⟩ := r2.key
    subst e
    have := RpD.putDs r' (r.put (k := k) h)
    show RpD K F (Dl.putDs (putK kvs k v) more) (dputs (match keyOf (keyD k) with
      | some κ => dput ps κ d
      | none => ps) qs)
    rw [keyOf_D]
    exact this
theorem mut_dupd {K} : MutS K rDUpd mDUpd := by
  intro F H a vs d ds d' x Q s f ow rp hf k
  unfold mDUpd at hf
  split at hf
  · split at hf
    · rename_i hz
      cases hf
      obtain ⟨kvs, hh, r⟩ := ow
      cases rp with
      | cons r1 rn =>
        cases rn
        cases r1 with
        | @dct b more _ g r2 =>
          refine ⟨a, b, kvs, more, rfl, rfl, ?_, hh, s.dct g, by rw [r.length, r2.length]; exact hz, k _ _ ⟨_, upd_same, RpD.putDs r2 r⟩ .non⟩
          rintro rfl
          rcases g with g | ⟨_, g⟩ <;> (rw [f] at g; cases g)
    · cases hf
  · cases hf
section
variable {X : Cx} {W : WX} {name x : Str} {apos cpos xp : Pos} {id : String} {r : V → List V → Hp → VK → Prop} {f : D → List D → Option (D × D)} {i : Nat} {e : Expr} {es : List Expr} {ma : MA}
theorem de_mutD (slot : PySem.Slot "dict" name id) (hty : typeOf (.builtin id) = pure (.type "method_descriptor")) (hm : MtR X id r) (hs : MutS X.K r f) (hp : PE X (.Name x xp) (tVar i)) (ha : DA X W (e :: es) ma)
    (hbase : attributeBase (.Name x xp) name X.env (eval (.Name x xp) X.env) = eval (.Name x xp) X.env := by rfl)
    (hfew : ((backTo cpos (starEach (e :: es) X.env)).all (fun x => !x.1) && (backToKw cpos (keywordEach [] X.env)).all (fun x => x.1.isSome)
      && decide ((e :: es).length + ([] : List Keyword).length + (if ([] : List Keyword).isEmpty then 0 else 1) < 30)) = true := by rfl)
    (hline : (apos.endLine == cpos.line) = true := by rfl) (hst : starEach (e :: es) X.env = (false, eval e X.env) :: starEach es X.env := by rfl) (hplain : (backTo cpos (starEach es X.env)).any (·.1) = false := by rfl) :
    DE X W (.Call (.Attribute (.Name x xp) name apos) (e :: es) [] cpos) (eMutD i f ma) := by
  obtain ⟨t, pa, q⟩ := ha
  refine ⟨_, pe_bm PySem.F.plainAttrs_dict slot hty hm hp pa hbase hfew hline hst hplain, fun F σ H ρ Q R h => ?_⟩
  unfold eMutD at h
  split at h
  · rename_i hl
    obtain ⟨a, hv, kvs, hd⟩ := isDct_ty R hl
    exact ⟨.ref a, hv, .inr (.inr (.inl ⟨rfl, .inl ⟨kvs, hd⟩⟩)), q F σ H ρ _ R (mut_post hs hv h)⟩
  · exact False.elim h
end
def sRevK (i : Nat) : MS := fun ρ => match ρ[i]? with
  | some (.obj (.lst ts)) => .ok .nx (ρ.set i (.obj (.lst ts.reverse)))
  | _ => .fail
section
variable {K : PySem.W.Frag} {F H : Hp}
theorem fpL_rev : ∀ {vs : List V} {ts : List T}, TAtL K F H vs ts → TAtL K F H vs.reverse ts.reverse ∧ (fpL H vs.reverse ts.reverse).Perm (fpL H vs ts)
  | [], [], h => ⟨h, List.Perm.refl _⟩
  | [], _ :: _, h => by unfold TAtL at h; exact h.elim
  | _ :: _, [], h => by unfold TAtL at h; exact h.elim
  | v :: vs, t :: ts, h => by
    rw [TAtL] at h
    obtain ⟨h1, h2⟩ := h
    obtain ⟨i1, i2⟩ := fpL_rev h2
    have hl := tatL_len i1
    have e1 : fpL H [v] [t] = fpT H v t := by rw [fpL, show fpL H [] [] = [] by unfold fpL; rfl, List.append_nil]
    rw [List.reverse_cons, List.reverse_cons]
    refine ⟨(tatL_app hl).mpr ⟨i1, by rw [TAtL]; exact ⟨h1, by unfold TAtL; trivial⟩⟩, ?_⟩
    rw [fpL_app hl, e1, fpL]
    exact List.perm_append_comm.trans (List.Perm.append_left _ i2)
end
section
variable {X : Cx} {W : WX} {pos xp yp sp : Pos} {x y : Str} {i j : Nat}
theorem ds_revK {pos' p1 p2 p3 : Pos} {k : Nat} (hN : X.N.Nodup) (hi : X.N[i]? = some x) (hx : Loc X.env.scope x) (hp : PE X (.Name x xp) (tVar i)) (hs : swapsWith (.Subscript (.Name x xp) (.Slice none none (some (.UnaryOp .USub (.Constant (.int 1) k p1) p2)) p3) sp) (some (.Name x pos')) pos.line X.env = pure false := by rfl)
    (hf : X.fn x = true ∨ X.env.scope.names.lookup x = some .local := by first | exact .inl rfl | exact .inr rfl | assumption) : DS X W (.Assign [.Name x pos'] (.Subscript (.Name x xp) (.Slice none none (some (.UnaryOp .USub (.Constant (.int 1) k p1) p2)) p3) sp) pos) (sRevK i) := by
  refine ⟨_, ps_set hN hi hx (pe_revL hp) hs hf, fun F σ H ρ Z R h => ?_⟩
  unfold sRevK at h
  cases e : ρ[i]? with
  | none => rw [e] at h; exact False.elim h
  | some s =>
    rw [e] at h
    cases s <;> try (exact False.elim h)
    rename_i t
    cases t <;> try (exact False.elim h)
    rename_i ts
    dsimp only at h
    obtain ⟨v, hv, ta, nd⟩ := R.obj i _ _ e rfl
    rw [TAt] at ta
    obtain ⟨a, rfl, fa, ha, hk⟩ := ta
    generalize hvs : kidsV H (.ref a) = vs at *
    have efp : fpT H (.ref a) (.lst ts) = a :: fpL H vs ts := by rw [fpT, hvs]; rfl
    have mi : ∀ c ∈ fpT H (.ref a) (.lst ts), Mine H σ ρ i c := fun c hc => ⟨_, _, e, hv, hc⟩
    rw [efp] at nd
    obtain ⟨n1, n2⟩ := List.nodup_cons.mp nd
    refine ⟨.ref a, hv, a, vs, rfl, SqL.of ha, fun p hpn => ?_⟩
    obtain ⟨R1, s1⟩ := set_un R (i := i) (by unfold free; rw [e])
    obtain ⟨fp, gr, _⟩ := upd_fresh (K := X.K) (o := .lst vs.reverse) R1.sub hpn trivial
    have R2 := gr.rel R1
    have st2 : StepS F H σ ρ F (upd H p (.lst vs.reverse)) σ (ρ.set i .un) := s1.trans (gr.step R1).s
    obtain ⟨t1, t2⟩ := fpL_rev hk
    have hpa : ∀ c ∈ fpL H vs ts, c ≠ p := fun c hc z => by
      obtain ⟨_, o, ho, _⟩ := fps_some hk c hc
      rw [z, hpn] at ho; cases ho
    obtain ⟨q1, q2⟩ := TAtL.stay (Ext.refl F) (H' := upd H p (.lst vs.reverse)) t1 fun c hc => ⟨upd_ne (hpa c (t2.mem_iff.mp hc)), id⟩
    have kv : kidsV (upd H p (.lst vs.reverse)) (.ref p) = vs.reverse := by show kidsO (upd H p (.lst vs.reverse) p) = _; rw [upd_same]; rfl
    have ef' : fpT (upd H p (.lst vs.reverse)) (.ref p) (.lst ts.reverse) = p :: fpL H vs.reverse ts.reverse := by rw [fpT, kv, q1]; rfl
    have ro : RO X.K F (upd H p (.lst vs.reverse)) σ (ρ.set i .un) (.ref p) (.nob (.lst ts.reverse)) := by
      refine ⟨?_, ?_, ?_⟩
      · rw [TAt]
        exact ⟨p, rfl, fp, by rw [kv]; exact upd_same, by rw [kv]; exact q2⟩
      · rw [ef']
        refine List.nodup_cons.mpr ⟨fun z => hpa p (t2.mem_iff.mp z) rfl, t2.nodup_iff.mpr n2⟩
      · rw [ef']
        intro c hc hown
        have ho := (R1.owns (gr.same R1) c).mp hown
        rcases List.mem_cons.mp hc with z | z
        · subst z
          exact not_ownG R1 gr hpn hown
        · obtain ⟨k, m⟩ := ho
          obtain ⟨hk', m⟩ := mine_un m
          exact hk' (R.sep k i c m (mi c (by rw [efp]; exact List.mem_cons_of_mem _ (t2.mem_iff.mp z))))
    have ns : NewSep (upd H p (.lst vs.reverse)) F H σ ρ (.ref p) (.nob (.lst ts.reverse)) := fun _ c hc u hu _ _ => by
      have hc : c ∈ fpT (upd H p (.lst vs.reverse)) (.ref p) (.lst ts.reverse) := hc
      rw [ef'] at hc
      rcases List.mem_cons.mp hc with z | z
      · rw [z, hpn] at hu; cases hu
      · exact ⟨i, mi c (by rw [efp]; exact List.mem_cons_of_mem _ (t2.mem_iff.mp z))⟩
    have il := (List.getElem?_eq_some_iff.mp e).1
    obtain ⟨R3, s3⟩ := set_new (i := i) (s0 := .obj (.lst ts.reverse)) R2 ro (.inr ⟨_, rfl, rfl⟩) (by unfold free; rw [List.getElem?_set_self il]) st2 ns
    rw [List.set_set] at R3 s3
    exact h _ F _ s3 R3
theorem ds_take {pos' : Pos} {e : Expr} {me : ME} (hN : X.N.Nodup) (hi : X.N[i]? = some x) (hx : Loc X.env.scope x) (hp : PE X (.Name y yp) (tVar j)) (he : DE X W e me) (hsl : PlainIx e := by intro _ _; rfl) (hs : swapsWith (.Subscript (.Name y yp) e sp) (some (.Name x pos')) pos.line X.env = pure false := by rfl)
    (hf : X.fn x = true ∨ X.env.scope.names.lookup x = some .local := by first | exact .inl rfl | exact .inr rfl | assumption) : DS X W (.Assign [.Name x pos'] (.Subscript (.Name y yp) e sp) pos) (sTake i j me) := by
  obtain ⟨t, pe, q⟩ := he
  refine ⟨_, ps_set hN hi hx (pe_ix ix_seq hp pe hsl) hs hf, fun F σ H ρ Z R h => ?_⟩
  unfold sTake at h
  cases ej : ρ[j]? with
  | none => rw [ej] at h; exact False.elim h
  | some s =>
    rw [ej] at h
    cases s <;> try (exact False.elim h)
    rename_i t0
    cases t0 <;> try (exact False.elim h)
    dsimp only at h
    obtain ⟨v, hv, _, _⟩ := R.obj j _ _ ej rfl
    refine ⟨v, hv, q F σ H ρ _ R (ES h fun o ρ1 w F1 H1 s1 R1 ro ns hq => ?_)⟩
    unfold takeP at hq
    cases ed : deref ρ1 o with
    | none => rw [ed] at hq; exact False.elim hq
    | some d0 =>
      have ck := ro.ct R1 ed
      cases e1 : ρ1[j]? with
      | none => rw [ed, e1] at hq; cases d0 <;> exact False.elim hq
      | some s =>
        rw [ed, e1] at hq
        cases d0 <;> try (exact False.elim hq)
        rename_i n
        cases s <;> try (exact False.elim hq)
        rename_i t1
        cases t1 <;> try (exact False.elim hq)
        rename_i ts
        dsimp only at hq
        split at hq
        · rename_i hc
          obtain ⟨h0, hij, hfr⟩ := hc
          cases eu : ts[n.toNat]? with
          | none => rw [eu] at hq; exact False.elim hq
          | some u =>
            rw [eu] at hq
            cases u <;> try (exact False.elim hq)
            rename_i d
            dsimp only at hq
            obtain ⟨v2, hv2, ta, nd⟩ := R1.obj j _ _ e1 rfl
            rw [hv] at hv2; cases hv2
            obtain ⟨a, vs, b, rfl, ha, hb, fb, ow, bm, _⟩ := lst_child ta nd eu
            have mb : Mine H1 σ ρ1 j b := ⟨_, _, e1, hv, bm⟩
            obtain ⟨R2, s2⟩ := set_un R1 (i := j) (by unfold free; rw [e1])
            have nob : ¬ Own H1 σ (ρ1.set j .un) b := fun ⟨k, m⟩ => by
              obtain ⟨hk, m⟩ := mine_un m
              exact hk (R1.sep k j b m mb)
            have ro2 : RO X.K F1 H1 σ (ρ1.set j .un) (.ref b) (.new d) := ⟨b, rfl, fb, ow, nob⟩
            have ns2 : NewSep H1 F H σ ρ (.ref b) (.new d) := fun _ c hc u hu nu f => Classical.byContradiction fun n => by
              have hc : c ∈ refsV (.ref b) := hc
              rw [mem_refs] at hc
              cases hc
              exact (s1.fr.keep _ u hu nu f n).2.2 ⟨j, mb⟩
            obtain ⟨R3, s3⟩ := set_new (i := i) (s0 := .own d) R2 ro2 (.inl ⟨_, rfl, rfl⟩) hfr (s1.s.trans s2) ns2
            refine .inl ⟨a, vs, n, .ref b, rfl, ck.int, SqL.of ha, ?_, hq _ F1 H1 s3 R3⟩
            rw [show n = (n.toNat : Int) by omega]
            exact Dl.atI_nat hb
        · exact False.elim hq
end
@[simp ↓] theorem wp_sTake {QF : Flow → Rho → Prop} {X : Ex → Rho → Prop} {ρ : Rho} (i j : Nat) (me : ME) : wp (sTake i j me ρ) QF X = (match ρ[j]? with
    | some (.obj (.lst _)) => wp (me ρ) (fun o ρ1 => wp (takeP i j o ρ1) QF X) X
    | _ => False) := by
  unfold sTake
  split
  · rw [wp_bind]
  · rfl
end Dl
local macro_rules | `(tactic| simp_arith [$ls,*]) => `(tactic| simp -dsimp -implicitDefEqProofs [Dl.T.odd, Dl.vI, Dl.vB, Dl.vS, Dl.run2, Dl.run1, Dl.deref, Dl.Slot.data?, Dl.Slot.tree?, Dl.T.toD, Dl.toDs, Dl.useO, Dl.useAll, Dl.boolOf, Dl.putO, Dl.free, Dl.outO, Dl.withAll, Dl.runN, Dl.derefs, Dl.mutO, Dl.isLst, Dl.isDct, Dl.putI, Dl.putD, Dl.setI, Dl.augO, Dl.getI, Dl.slotOf, Dl.slotsOf, Dl.lents, Dl.takeB, Dl.backS, Dl.useSel, Dl.back, Dl.gd, Dl.pyIx, L2.atI, L2.ixN, Dl.pyGet, Dl.pyMul, Dl.pyAdd, Dl.pyEq, Dl.pyNe, Dl.mulOk, Dl.powOk, Dl.pySlice, Dl.fLen, Dl.fList, Dl.fTuple, Dl.mAppend, Dl.mReverse, Dl.mClear, Dl.mExtend, Dl.mInsert, Dl.mkTup, Dl.mkLst, Dl.pyIsN, Dl.pyNotN, Dl.fNeg, Dl.pyRev, Dl.gN, Dl.gsNil, Dl.gsCons, Dl.gT, Dl.srcL, Dl.srcT, Dl.srcS, Dl.srcQ, Dl.srcR1, Dl.srcR2, Dl.hide, Dl.restore, PySem.sizeLine_eq, Dl.lockS, Dl.pyIs, Dl.fInt, Dl.dpopO, Dl.lstN, Dl.newsOf, Dl.viewR, Dl.viewS, Dl.treeS, Dl.scal, Dl.sRetT, Dl.srcE, Dl.getO, Dl.mDClear, Dl.fSortSet2, Dl.mExt, Dl.fListK, $ls,*])
local macro_rules | `(tactic| simp_arith) => `(tactic| simp -dsimp -implicitDefEqProofs [Dl.T.odd, Dl.vI, Dl.vB, Dl.vS, Dl.run2, Dl.run1, Dl.deref, Dl.Slot.data?, Dl.Slot.tree?, Dl.T.toD, Dl.toDs, Dl.useO, Dl.useAll, Dl.boolOf, Dl.putO, Dl.free, Dl.outO, Dl.withAll, Dl.runN, Dl.derefs, Dl.mutO, Dl.isLst, Dl.isDct, Dl.putI, Dl.putD, Dl.setI, Dl.augO, Dl.getI, Dl.slotOf, Dl.slotsOf, Dl.lents, Dl.takeB, Dl.backS, Dl.useSel, Dl.back, Dl.gd, Dl.pyIx, L2.atI, L2.ixN, Dl.pyGet, Dl.pyMul, Dl.pyAdd, Dl.pyEq, Dl.pyNe, Dl.mulOk, Dl.powOk, Dl.pySlice, Dl.fLen, Dl.fList, Dl.fTuple, Dl.mAppend, Dl.mReverse, Dl.mClear, Dl.mExtend, Dl.mInsert, Dl.mkTup, Dl.mkLst, Dl.pyIsN, Dl.pyNotN, Dl.fNeg, Dl.pyRev, Dl.gN, Dl.gsNil, Dl.gsCons, Dl.gT, Dl.srcL, Dl.srcT, Dl.srcS, Dl.srcQ, Dl.srcR1, Dl.srcR2, Dl.hide, Dl.restore, PySem.sizeLine_eq, Dl.lockS, Dl.pyIs, Dl.fInt, Dl.dpopO, Dl.lstN, Dl.newsOf, Dl.viewR, Dl.viewS, Dl.treeS, Dl.scal, Dl.sRetT, Dl.srcE, Dl.getO, Dl.mDClear, Dl.fSortSet2, Dl.mExt, Dl.fListK])
set_option maxRecDepth 100000
set_option maxHeartbeats 0
namespace G
open PySem PySem.Spec PyProof.Rows L2 Dl
set_option autoImplicit false
abbrev BL (K : PySem.W.Frag) (mg : Str → Option Value) (base : Heap) : Prop := TabsB K mg base ∧ (∀ x ∈ lf, (codeTab K x).isSome = true) ∧ FxOk K fx
noncomputable section
variable {P : Program} {w : World} {K : PySem.W.Frag} {mg : Str → Option Value} {base : Heap}
abbrev m_all_names_in : Nat → ME := Dl.mAllNames
theorem sc_all_names_in : FnScope ["rule", "names", "part"] ["rule"] (defScope s_all_names_in) := ⟨rfl, rfl, rfl, by decide +kernel, rfl, by decide +kernel, by decide +kernel⟩
theorem ok_all_names_in (T : Txt fa fn K mg) (B : BL K mg base) : ∀ n, Ok P w K mg base (0 + n) "all_names_in" ["rule"] (m_all_names_in n)
 | 0 => by
  obtain ⟨fd, F⟩ := T.d.def_ 0 (d := d_all_names_in) rfl
  have sc := sc_all_names_in
  exact ok_zero F (T.glo 0 "all_names_in" rfl) (F.bindsN fun _ _ _ _ _ _ us hl => match us, hl with | [_], _ => rfl)
 | n + 1 => by
  have ih := ok_all_names_in T B n
  obtain ⟨fd, F⟩ := T.d.def_ 0 (d := d_all_names_in) rfl
  have sc := sc_all_names_in

  refine ok_of (k := 0 + n) F (T.glo 0 "all_names_in" rfl) sc (F.bindsN fun _ _ _ _ _ _ us hl => match us, hl with | [_], _ => rfl) fun cdv A outer s H E hr => ?_
  have hu0 := hr.units0
  have hu1 := room1 hr
  have hu65 := room65 hr
  exact (dss_cons (ds_if (dt_cmp (op_eqD hr.units) snd_eq (de_sub hu1 (de_var (pv 0)) de_int) de_str rfl)
   (dss_one (ds_ret (de_lst (da_cons (de_sub hu1 (de_var (pv 0)) de_int) da_nil))))
     dss_nil)
   (dss_cons (ds_set sc.nd rfl (by first | exact Or.inl rfl | exact Or.inr rfl) (de_lst da_nil))
   (dss_cons (ds_for (passes_of rfl) rfl (di_seq (de_slice (de_var (pv 0)) (do_some de_int) do_none)) (dg_name (pg_name (i := 2) sc.nd rfl (by first | exact Or.inl rfl | exact Or.inr rfl)))
   (dss_one (ds_set sc.nd rfl (by first | exact Or.inl rfl | exact Or.inr rfl) (de_op op_addU snd_add (de_var (pv 1)) (de_callO (ps := ["rule"]) [true] ih hr rfl (takes_of rfl rfl rfl rfl) (da_cons (de_var (pv 2)) da_nil))))))
   (dss_one (ds_ret (de_var (pv 1)))))))
abbrev m_names_of : ME := Dl.mNamesOf
theorem sc_names_of : FnScope ["rule", "seen", "name"] ["rule"] (defScope s_names_of) := ⟨rfl, rfl, rfl, by decide +kernel, rfl, by decide +kernel, by decide +kernel⟩
theorem ok_names_of (T : Txt fa fn K mg) (B : BL K mg base) : Ok P w K mg base 8 "names_of" ["rule"] (m_names_of) := by
  obtain ⟨fd, F⟩ := T.d.def_ 1 (d := d_names_of) rfl
  have sc := sc_names_of
  have G_all_names_in : Ok P w K mg base 7 "all_names_in" ["rule"] (m_all_names_in 7) := (ok_all_names_in T B 7).mono (by decide)
  have gF_sorted := T.fre 16 "sorted" rfl
  refine ok_of (k := 7) F (T.glo 1 "names_of" rfl) sc (F.bindsN fun _ _ _ _ _ _ us hl => match us, hl with | [_], _ => rfl) fun cdv A outer s H E hr => ?_
  have hu0 := hr.units0
  have hu1 := room1 hr
  have hu65 := room65 hr
  exact (dss_cons (ds_set sc.nd rfl (by first | exact Or.inl rfl | exact Or.inr rfl) de_dict0)
   (dss_cons (ds_for (passes_of rfl) rfl (di_seq (de_callO (ps := ["rule"]) [true] G_all_names_in hr rfl (takes_of rfl rfl rfl rfl) (da_cons (de_var (pv 0)) da_nil))) (dg_name (pg_name (i := 2) sc.nd rfl (by first | exact Or.inl rfl | exact Or.inr rfl)))
   (dss_one (ds_putD hu1 (pv 1) (de_var (pv 2)) de_bl)))
   (dss_one (ds_ret (de_blt (call_sortU rfl) snd_sorted rfl gF_sorted (by decide +kernel) (da_cons (de_var (pv 1)) da_nil))))))
abbrev m_holds_under : Nat → ME := Dl.mHoldsUnder
theorem sc_holds_under : FnScope ["rule", "facts", "word", "one", "other"] ["rule", "facts"] (defScope s_holds_under) := ⟨rfl, rfl, rfl, by decide +kernel, rfl, by decide +kernel, by decide +kernel⟩
theorem ok_holds_under (T : Txt fa fn K mg) (B : BL K mg base) : ∀ n, Ok P w K mg base (0 + n) "holds_under" ["rule", "facts"] (m_holds_under n)
 | 0 => by
  obtain ⟨fd, F⟩ := T.d.def_ 2 (d := d_holds_under) rfl
  have sc := sc_holds_under
  exact ok_zero F (T.glo 2 "holds_under" rfl) (F.bindsN fun _ _ _ _ _ _ us hl => match us, hl with | [_, _], _ => rfl)
 | n + 1 => by
  have ih := ok_holds_under T B n
  obtain ⟨fd, F⟩ := T.d.def_ 2 (d := d_holds_under) rfl
  have sc := sc_holds_under

  refine ok_of (k := 0 + n) F (T.glo 2 "holds_under" rfl) sc (F.bindsN fun _ _ _ _ _ _ us hl => match us, hl with | [_, _], _ => rfl) fun cdv A outer s H E hr => ?_
  have hu0 := hr.units0
  have hu1 := room1 hr
  have hu65 := room65 hr
  exact (dss_cons (ds_set sc.nd rfl (by first | exact Or.inl rfl | exact Or.inr rfl) (de_sub hu1 (de_var (pv 0)) de_int))
   (dss_cons (ds_if (dt_cmp (op_eqD hr.units) snd_eq (de_var (pv 2)) de_str rfl)
   (dss_one (ds_ret de_bl))
     dss_nil)
   (dss_cons (ds_if (dt_cmp (op_eqD hr.units) snd_eq (de_var (pv 2)) de_str rfl)
   (dss_one (ds_ret de_bl))
     dss_nil)
   (dss_cons (ds_if (dt_cmp (op_eqD hr.units) snd_eq (de_var (pv 2)) de_str rfl)
   (dss_one (ds_ret (de_sub hu1 (de_var (pv 1)) (de_sub hu1 (de_var (pv 0)) de_int))))
     dss_nil)
   (dss_cons (ds_if (dt_cmp (op_eqD hr.units) snd_eq (de_var (pv 2)) de_str rfl)
   (dss_one (ds_ret (de_not (de_callO (ps := ["rule", "facts"]) [true, true] ih hr rfl (takes_of rfl rfl rfl rfl) (da_cons (de_sub hu1 (de_var (pv 0)) de_int) (da_cons (de_var (pv 1)) da_nil))))))
     dss_nil)
   (dss_cons (ds_set sc.nd rfl (by first | exact Or.inl rfl | exact Or.inr rfl) (de_callO (ps := ["rule", "facts"]) [true, true] ih hr rfl (takes_of rfl rfl rfl rfl) (da_cons (de_sub hu1 (de_var (pv 0)) de_int) (da_cons (de_var (pv 1)) da_nil))))
   (dss_cons (ds_set sc.nd rfl (by first | exact Or.inl rfl | exact Or.inr rfl) (de_callO (ps := ["rule", "facts"]) [true, true] ih hr rfl (takes_of rfl rfl rfl rfl) (da_cons (de_sub hu1 (de_var (pv 0)) de_int) (da_cons (de_var (pv 1)) da_nil))))
   (dss_cons (ds_if (dt_cmp (op_eqD hr.units) snd_eq (de_var (pv 2)) de_str rfl)
   (dss_one (ds_ret (de_and (de_var (pv 3)) (de_one (de_var (pv 4))))))
     dss_nil)
   (dss_cons (ds_if (dt_cmp (op_eqD hr.units) snd_eq (de_var (pv 2)) de_str rfl)
   (dss_one (ds_ret (de_or (de_var (pv 3)) (de_one (de_var (pv 4))))))
     dss_nil)
   (dss_cons (ds_if (dt_cmp (op_eqD hr.units) snd_eq (de_var (pv 2)) de_str rfl)
   (dss_one (ds_ret (de_or (de_var (pv 4)) (de_one (de_not (de_var (pv 3)))))))
     dss_nil)
   (dss_one (ds_ret (de_cmp (op_eqD hr.units) snd_eq (de_var (pv 3)) (de_var (pv 4)) rfl)))))))))))))
abbrev m_holds : ME := Dl.mHolds
theorem sc_holds : FnScope ["rule", "facts", "name"] ["rule", "facts"] (defScope s_holds) := ⟨rfl, rfl, rfl, by decide +kernel, rfl, by decide +kernel, by decide +kernel⟩
theorem ok_holds (T : Txt fa fn K mg) (B : BL K mg base) : Ok P w K mg base 9 "holds" ["rule", "facts"] (m_holds) := by
  obtain ⟨fd, F⟩ := T.d.def_ 3 (d := d_holds) rfl
  have sc := sc_holds
  have G_names_of : Ok P w K mg base 8 "names_of" ["rule"] (m_names_of) := (ok_names_of T B).mono (by decide)
  have G_holds_under : Ok P w K mg base 8 "holds_under" ["rule", "facts"] (m_holds_under 7) := (ok_holds_under T B 7).mono (by decide)
  refine ok_of (k := 8) F (T.glo 3 "holds" rfl) sc (F.bindsN fun _ _ _ _ _ _ us hl => match us, hl with | [_, _], _ => rfl) fun cdv A outer s H E hr => ?_
  have hu0 := hr.units0
  have hu1 := room1 hr
  have hu65 := room65 hr
  exact (dss_cons (ds_for (passes_of rfl) rfl (di_seq (de_callO (ps := ["rule"]) [true] G_names_of hr rfl (takes_of rfl rfl rfl rfl) (da_cons (de_var (pv 0)) da_nil))) (dg_name (pg_name (i := 2) sc.nd rfl (by first | exact Or.inl rfl | exact Or.inr rfl)))
   (dss_one (ds_if (dt_notIn hu65 (de_var (pv 2)) (de_var (pv 1)))
   (dss_one ds_never)
     dss_nil)))
   (dss_one (ds_ret (de_callO (ps := ["rule", "facts"]) [true, true] G_holds_under hr rfl (takes_of rfl rfl rfl rfl) (da_cons (de_var (pv 0)) (da_cons (de_var (pv 1)) da_nil))))))
theorem sc__law_hand : FnScope ["_law_script"] ["_law_script"] (defScope s__law_hand) := ⟨rfl, rfl, rfl, by decide +kernel, rfl, by decide +kernel, by decide +kernel⟩
abbrev m__law_next : ME := Dl.mNext
theorem sc__law_next : FnScope ["_law_hand_here"] ["_law_hand_here"] (defScope s__law_next) := ⟨rfl, rfl, rfl, by decide +kernel, rfl, by decide +kernel, by decide +kernel⟩
theorem ok__law_next (T : Txt fa fn K mg) (B : BL K mg base) : Ok P w K mg base 1 "_law_next" ["_law_hand_here"] (m__law_next) := by
  obtain ⟨fd, F⟩ := T.d.def_ 5 (d := d__law_next) rfl
  have sc := sc__law_next

  refine ok_of (k := 0) F (T.glo 5 "_law_next" rfl) sc (F.bindsN fun _ _ _ _ _ _ us hl => match us, hl with | [_], _ => rfl) fun cdv A outer s H E hr => ?_
  have hu0 := hr.units0
  have hu1 := room1 hr
  have hu65 := room65 hr
  exact (dss_cons (ds_put (pv 0) de_int (de_op op_mod snd_mod (de_op op_mulU snd_mul (de_sub hu1 (de_var (pv 0)) de_int) de_int) de_int))
   (dss_cons (ds_put (pv 0) de_int (de_op op_mod snd_mod (de_op op_mulU snd_mul (de_sub hu1 (de_var (pv 0)) de_int) de_int) de_int))
   (dss_one (ds_ret (de_op op_addU snd_add (de_sub hu1 (de_var (pv 0)) de_int) (de_sub hu1 (de_var (pv 0)) de_int))))))
abbrev m__law_take : ME := Dl.mTake
theorem sc__law_take : FnScope ["_law_hand_here", "_law_cell"] ["_law_hand_here"] (defScope s__law_take) := ⟨rfl, rfl, rfl, by decide +kernel, rfl, by decide +kernel, by decide +kernel⟩
theorem ok__law_take (T : Txt fa fn K mg) (B : BL K mg base) : Ok P w K mg base 2 "_law_take" ["_law_hand_here"] (m__law_take) := by
  obtain ⟨fd, F⟩ := T.d.def_ 6 (d := d__law_take) rfl
  have sc := sc__law_take
  have G__law_next : Ok P w K mg base 1 "_law_next" ["_law_hand_here"] (m__law_next) := (ok__law_next T B).mono (by decide)
  have gF_abs := T.fre 17 "abs" rfl
  have gF_len := T.fre 18 "len" rfl
  refine ok_of (k := 1) F (T.glo 6 "_law_take" rfl) sc (F.bindsN fun _ _ _ _ _ _ us hl => match us, hl with | [_], _ => rfl) fun cdv A outer s H E hr => ?_
  have hu0 := hr.units0
  have hu1 := room1 hr
  have hu65 := room65 hr
  exact (dss_cons (ds_set sc.nd rfl (by first | exact Or.inl rfl | exact Or.inr rfl) de_int)
   (dss_cons (ds_if (dt_cmp op_ltU snd_cop (de_sub hu1 (de_var (pv 0)) de_int) (de_blt call_lenU snd_len rfl gF_len (by decide +kernel) (da_cons (de_sub hu1 (de_var (pv 0)) de_int) da_nil)) rfl)
   (dss_one (ds_set sc.nd rfl (by first | exact Or.inl rfl | exact Or.inr rfl) (de_blt call_abs snd_abs rfl gF_abs (by decide +kernel) (da_cons (de_sub hu1 (de_sub hu1 (de_var (pv 0)) de_int) (de_sub hu1 (de_var (pv 0)) de_int)) da_nil))))
     dss_nil)
   (dss_cons (ds_aug ip_add (pv 0) de_int de_int)
   (dss_cons (ds_if (dt_cmp op_geU snd_cop (de_var (pv 1)) (de_op op_pow snd_pow de_int de_int) rfl)
   (dss_one (ds_put (pv 0) de_int (de_var (pv 1))))
   (dss_one (ds_put (pv 0) de_int de_int)))
   (dss_cons (ds_put (pv 0) de_int (de_op op_addU snd_add (de_op op_mod snd_mod (de_op op_addU snd_add (de_sub hu1 (de_var (pv 0)) de_int) (de_op op_mod snd_mod (de_var (pv 1)) de_int)) de_int) de_int))
   (dss_cons (ds_put (pv 0) de_int (de_op op_addU snd_add (de_op op_mod snd_mod (de_op op_addU snd_add (de_op op_mulU snd_mul (de_sub hu1 (de_var (pv 0)) de_int) de_int) (de_op op_mod snd_mod (de_var (pv 1)) de_int)) de_int) de_int))
   (dss_cons (ds_expr (de_callO (ps := ["_law_hand_here"]) [true] G__law_next hr rfl (takes_of rfl rfl rfl rfl) (da_cons (de_var (pv 0)) da_nil)))
   (dss_one (ds_expr (de_callO (ps := ["_law_hand_here"]) [true] G__law_next hr rfl (takes_of rfl rfl rfl rfl) (da_cons (de_var (pv 0)) da_nil)))))))))))
abbrev m__law_draw : ME := Dl.mDraw
theorem sc__law_draw : FnScope ["_law_hand_here", "_law_many", "_law_value", "_law_size", "_law_got"] ["_law_hand_here", "_law_many"] (defScope s__law_draw) := ⟨rfl, rfl, rfl, by decide +kernel, rfl, by decide +kernel, by decide +kernel⟩
theorem ok__law_draw (T : Txt fa fn K mg) (B : BL K mg base) : Ok P w K mg base 3 "_law_draw" ["_law_hand_here", "_law_many"] (m__law_draw) := by
  obtain ⟨fd, F⟩ := T.d.def_ 7 (d := d__law_draw) rfl
  have sc := sc__law_draw
  have G__law_next : Ok P w K mg base 2 "_law_next" ["_law_hand_here"] (m__law_next) := (ok__law_next T B).mono (by decide)
  have G__law_take : Ok P w K mg base 2 "_law_take" ["_law_hand_here"] (m__law_take) := (ok__law_take T B).mono (by decide)
  refine ok_of (k := 2) F (T.glo 7 "_law_draw" rfl) sc (F.bindsN fun _ _ _ _ _ _ us hl => match us, hl with | [_, _], _ => rfl) fun cdv A outer s H E hr => ?_
  have hu0 := hr.units0
  have hu1 := room1 hr
  have hu65 := room65 hr
  exact (dss_cons (ds_if (DW.t (dw_and (dt_cmp (op_eqD hr.units) snd_eq (de_sub hu1 (de_var (pv 0)) de_int) de_int rfl) (dw_and1 (dt_cmp (op_eqD hr.units) snd_eq (de_sub hu1 (de_var (pv 0)) de_int) de_int rfl))))
   (dss_one (ds_expr (de_callO (ps := ["_law_hand_here"]) [true] G__law_take hr rfl (takes_of rfl rfl rfl rfl) (da_cons (de_var (pv 0)) da_nil))))
     dss_nil)
   (dss_cons (ds_if (dt_cmp op_gtU snd_cop (de_sub hu1 (de_var (pv 0)) de_int) de_int rfl)
   (dss_cons (ds_set sc.nd rfl (by first | exact Or.inl rfl | exact Or.inr rfl) (de_op op_mod snd_mod (de_sub hu1 (de_var (pv 0)) de_int) (de_var (pv 1))))
   (dss_cons (ds_put (pv 0) de_int (de_op op_fdivW snd_div (de_sub hu1 (de_var (pv 0)) de_int) (de_var (pv 1))))
   (dss_one (ds_ret (de_var (pv 4))))))
     dss_nil)
   (dss_cons (ds_aug ip_sub (pv 0) de_int de_int)
   (dss_cons (ds_set sc.nd rfl (by first | exact Or.inl rfl | exact Or.inr rfl) (de_callO (ps := ["_law_hand_here"]) [true] G__law_next hr rfl (takes_of rfl rfl rfl rfl) (da_cons (de_var (pv 0)) da_nil)))
   (dss_cons (ds_set sc.nd rfl (by first | exact Or.inl rfl | exact Or.inr rfl) de_int)
   (dss_cons (ds_while 64 (passes_of rfl) (dt_cmp op_ltU snd_cop (de_var (pv 3)) (de_var (pv 1)) rfl)
   (dss_cons (ds_set sc.nd rfl (by first | exact Or.inl rfl | exact Or.inr rfl) (de_op op_addU snd_add (de_op op_mulU snd_mul (de_var (pv 2)) de_int) (de_callO (ps := ["_law_hand_here"]) [true] G__law_next hr rfl (takes_of rfl rfl rfl rfl) (da_cons (de_var (pv 0)) da_nil))))
   (dss_one (ds_set sc.nd rfl (by first | exact Or.inl rfl | exact Or.inr rfl) (de_op op_mulU snd_mul (de_var (pv 3)) de_int)))))
   (dss_one (ds_ret (de_op op_mod snd_mod (de_var (pv 2)) (de_var (pv 1)))))))))))
abbrev m__law_names : ME := Dl.mLawNames
theorem sc__law_names : FnScope ["_law_hand_here", "_law_many", "_law_letters", "_law_some", "_law_way", "_law_names_here", "_law_word", "_law_spot", "_law_start", "_law_k", "_law_at", "_law_sign", "_law_name", "_law_j", "_law_one"] ["_law_hand_here", "_law_many"] (defScope s__law_names) := ⟨rfl, rfl, rfl, by decide +kernel, rfl, by decide +kernel, by decide +kernel⟩
theorem ok__law_names (T : Txt fa fn K mg) (B : BL K mg base) : Ok P w K mg base 4 "_law_names" ["_law_hand_here", "_law_many"] (m__law_names) := by
  obtain ⟨fd, F⟩ := T.d.def_ 8 (d := d__law_names) rfl
  have sc := sc__law_names
  have G__law_draw : Ok P w K mg base 3 "_law_draw" ["_law_hand_here", "_law_many"] (m__law_draw) := (ok__law_draw T B).mono (by decide)
  have gF_range := T.fre 19 "range" rfl
  refine ok_of (k := 3) F (T.glo 8 "_law_names" rfl) sc (F.bindsN fun _ _ _ _ _ _ us hl => match us, hl with | [_, _], _ => rfl) fun cdv A outer s H E hr => ?_
  have hu0 := hr.units0
  have hu1 := room1 hr
  have hu65 := room65 hr
  exact (dss_cons (ds_set sc.nd rfl (by first | exact Or.inl rfl | exact Or.inr rfl) de_str)
   (dss_cons (ds_set sc.nd rfl (by first | exact Or.inl rfl | exact Or.inr rfl) (de_lst (da_cons de_str (da_cons de_str (da_cons de_str (da_cons de_str (da_cons de_str (da_cons de_str (da_cons de_str (da_cons de_str (da_cons de_str (da_cons de_str (da_cons de_str (da_cons de_str (da_cons de_str da_nil)))))))))))))))
   (dss_cons (ds_set sc.nd rfl (by first | exact Or.inl rfl | exact Or.inr rfl) (de_callO (ps := ["_law_hand_here", "_law_many"]) [true, true] G__law_draw hr rfl (takes_of rfl rfl rfl rfl) (da_cons (de_var (pv 0)) (da_cons de_int da_nil))))
   (dss_cons (ds_if (dt_cmp (op_eqD hr.units) snd_eq (de_var (pv 4)) de_int rfl)
   (dss_cons (ds_set sc.nd rfl (by first | exact Or.inl rfl | exact Or.inr rfl) (de_callO (ps := ["_law_hand_here", "_law_many"]) [true, true] G__law_draw hr rfl (takes_of rfl rfl rfl rfl) (da_cons (de_var (pv 0)) (da_cons de_int da_nil))))
   (dss_one (ds_ret (de_lcW [("_law_k", 9)] rfl sc.nd (di_range rfl gF_range (da_cons (de_var (pv 1)) da_nil)) (by kernel_rfl) (by decide) (fun _ _ _ _ _ => (dg_name (pg_name (i := 9) sc.nd rfl (by first | exact Or.inl rfl | exact Or.inr rfl)))) (fun _ _ _ _ _ => dts_nil) (fun _ _ _ _ _ => (de_sub hu1 (de_var (pv 3)) (de_op op_mod snd_mod (de_op op_addU snd_add (de_var (pv 10)) (de_op op_mulU snd_mul de_int (de_var (pv 9)))) de_int)))))))
     dss_nil)
   (dss_cons (ds_set sc.nd rfl (by first | exact Or.inl rfl | exact Or.inr rfl) (de_lst da_nil))
   (dss_cons (ds_if (dt_cmp (op_eqD hr.units) snd_eq (de_var (pv 4)) de_int rfl)
   (dss_cons (ds_for (passes_of rfl) rfl (di_range rfl gF_range (da_cons (de_var (pv 1)) da_nil)) (dg_name (pg_name (i := 9) sc.nd rfl (by first | exact Or.inl rfl | exact Or.inr rfl)))
   (dss_cons (ds_set sc.nd rfl (by first | exact Or.inl rfl | exact Or.inr rfl) (de_join de_str (de_lcW [("_law_j", 13)] rfl sc.nd (di_range rfl gF_range (da_cons (de_op op_addU snd_add de_int (de_callO (ps := ["_law_hand_here", "_law_many"]) [true, true] G__law_draw hr rfl (takes_of rfl rfl rfl rfl) (da_cons (de_var (pv 0)) (da_cons de_int da_nil)))) da_nil)) (by kernel_rfl) (by decide) (fun _ _ _ _ _ => (dg_name (pg_name (i := 13) sc.nd rfl (by first | exact Or.inl rfl | exact Or.inr rfl)))) (fun _ _ _ _ _ => dts_nil) (fun _ _ _ _ _ => (de_sub hu1 (de_var (pv 2)) (de_callO (ps := ["_law_hand_here", "_law_many"]) [true, true] G__law_draw hr rfl takes0 (da_cons (de_var (pv 0)) (da_cons de_int da_nil)))))) (hstr := fun _ _ _ h => by cases h; exact ⟨_, rfl⟩)))
   (dss_cons (ds_if (dt_in hu65 (de_var (pv 12)) (de_var (pv 5)))
   (dss_one (ds_set sc.nd rfl (by first | exact Or.inl rfl | exact Or.inr rfl) (de_sub hu1 (de_lock 3 (de_lcW [("_law_one", 14)] rfl sc.nd (di_list (de_var (pv 3))) (by kernel_rfl) (by decide) (fun _ _ _ _ _ => (dg_name (pg_name (i := 14) sc.nd rfl (by first | exact Or.inl rfl | exact Or.inr rfl)))) (fun _ _ _ _ _ => (dts_one (dt_notIn hu65 (de_var (pv 14)) (de_var (pv 5))))) (fun _ _ _ _ _ => (de_var (pv 14))))) de_int)))
     dss_nil)
   (dss_one (ds_expr (de_mut PySem.F.slot_list_append PySem.F.type_list_append mt_append mut_append (pv 5) (da_cons (de_var (pv 12)) da_nil)))))))
   (dss_one (ds_ret (de_var (pv 5)))))
     dss_nil)
   (dss_cons (ds_set sc.nd rfl (by first | exact Or.inl rfl | exact Or.inr rfl) (de_join de_str (de_lcW [("_law_k", 9)] rfl sc.nd (di_range rfl gF_range (da_cons de_int da_nil)) (by kernel_rfl) (by decide) (fun _ _ _ _ _ => (dg_name (pg_name (i := 9) sc.nd rfl (by first | exact Or.inl rfl | exact Or.inr rfl)))) (fun _ _ _ _ _ => dts_nil) (fun _ _ _ _ _ => (de_sub hu1 (de_var (pv 2)) (de_callO (ps := ["_law_hand_here", "_law_many"]) [true, true] G__law_draw hr rfl takes0 (da_cons (de_var (pv 0)) (da_cons de_int da_nil)))))) (hstr := fun _ _ _ h => by cases h; exact ⟨_, rfl⟩)))
   (dss_cons (ds_if (dt_cmp (op_eqD hr.units) snd_eq (de_var (pv 4)) de_int rfl)
   (dss_cons (ds_set sc.nd rfl (by first | exact Or.inl rfl | exact Or.inr rfl) (de_callO (ps := ["_law_hand_here", "_law_many"]) [true, true] G__law_draw hr rfl (takes_of rfl rfl rfl rfl) (da_cons (de_var (pv 0)) (da_cons de_int da_nil))))
   (dss_one (ds_ret (de_lcW [("_law_k", 9)] rfl sc.nd (di_range rfl gF_range (da_cons (de_var (pv 1)) da_nil)) (by kernel_rfl) (by decide) (fun _ _ _ _ _ => (dg_name (pg_name (i := 9) sc.nd rfl (by first | exact Or.inl rfl | exact Or.inr rfl)))) (fun _ _ _ _ _ => dts_nil) (fun _ _ _ _ _ => (de_slice (de_var (pv 6)) do_none (do_some (de_op op_addU snd_add (de_op op_mod snd_mod (de_op op_addU snd_add (de_var (pv 10)) (de_op op_mulU snd_mul de_int (de_var (pv 9)))) de_int) de_int))))))))
     dss_nil)
   (dss_cons (ds_set sc.nd rfl (by first | exact Or.inl rfl | exact Or.inr rfl) (de_callO (ps := ["_law_hand_here", "_law_many"]) [true, true] G__law_draw hr rfl (takes_of rfl rfl rfl rfl) (da_cons (de_var (pv 0)) (da_cons de_int da_nil))))
   (dss_cons (ds_set sc.nd rfl (by first | exact Or.inl rfl | exact Or.inr rfl) (de_callO (ps := ["_law_hand_here", "_law_many"]) [true, true] G__law_draw hr rfl (takes_of rfl rfl rfl rfl) (da_cons (de_var (pv 0)) (da_cons de_int da_nil))))
   (dss_cons (ds_for (passes_of rfl) rfl (di_range rfl gF_range (da_cons (de_var (pv 1)) da_nil)) (dg_name (pg_name (i := 9) sc.nd rfl (by first | exact Or.inl rfl | exact Or.inr rfl)))
   (dss_cons (ds_set sc.nd rfl (by first | exact Or.inl rfl | exact Or.inr rfl) (de_sub hu1 (de_var (pv 2)) (de_op op_mod snd_mod (de_op op_addU snd_add (de_var (pv 8)) (de_op op_mulU snd_mul de_int (de_var (pv 9)))) de_int)))
   (dss_cons (ds_set sc.nd rfl (by first | exact Or.inl rfl | exact Or.inr rfl) (de_op op_addU snd_add (de_op op_addU snd_add (de_slice (de_var (pv 6)) do_none (do_some (de_var (pv 7)))) (de_var (pv 11))) (de_slice (de_var (pv 6)) (do_some (de_op op_addU snd_add (de_var (pv 7)) de_int)) do_none)))
   (dss_one (ds_expr (de_mut PySem.F.slot_list_append PySem.F.type_list_append mt_append mut_append (pv 5) (da_cons (de_slice (de_var (pv 12)) do_none (do_some (de_op op_addU snd_add (de_op op_addU snd_add (de_var (pv 7)) de_int) (de_callO (ps := ["_law_hand_here", "_law_many"]) [true, true] G__law_draw hr rfl (takes_of rfl rfl rfl rfl) (da_cons (de_var (pv 0)) (da_cons (de_op op_sub snd_sub de_int (de_var (pv 7))) da_nil)))))) da_nil)))))))
   (dss_one (ds_ret (de_var (pv 5)))))))))))))))
abbrev m__law_rule : Nat → ME := Dl.mLawRule
theorem sc__law_rule : FnScope ["_law_hand_here", "_law_names_here", "_law_deep", "_law_way", "_law_one"] ["_law_hand_here", "_law_names_here", "_law_deep"] (defScope s__law_rule) := ⟨rfl, rfl, rfl, by decide +kernel, rfl, by decide +kernel, by decide +kernel⟩
theorem ok__law_rule (T : Txt fa fn K mg) (B : BL K mg base) : ∀ n, Ok P w K mg base (3 + n) "_law_rule" ["_law_hand_here", "_law_names_here", "_law_deep"] (m__law_rule n)
 | 0 => by
  obtain ⟨fd, F⟩ := T.d.def_ 9 (d := d__law_rule) rfl
  have sc := sc__law_rule
  exact ok_zero F (T.glo 9 "_law_rule" rfl) (F.bindsN fun _ _ _ _ _ _ us hl => match us, hl with | [_, _, _], _ => rfl)
 | n + 1 => by
  have ih := ok__law_rule T B n
  obtain ⟨fd, F⟩ := T.d.def_ 9 (d := d__law_rule) rfl
  have sc := sc__law_rule
  have G__law_draw : Ok P w K mg base (3 + n) "_law_draw" ["_law_hand_here", "_law_many"] (m__law_draw) := (ok__law_draw T B).mono (by omega)
  have gF_len := T.fre 18 "len" rfl
  refine ok_of (k := 3 + n) F (T.glo 9 "_law_rule" rfl) sc (F.bindsN fun _ _ _ _ _ _ us hl => match us, hl with | [_, _, _], _ => rfl) fun cdv A outer s H E hr => ?_
  have hu0 := hr.units0
  have hu1 := room1 hr
  have hu65 := room65 hr
  exact (dss_cons (ds_set sc.nd rfl (by first | exact Or.inl rfl | exact Or.inr rfl) (de_callO (ps := ["_law_hand_here", "_law_many"]) [true, true] G__law_draw hr rfl (takes_of rfl rfl rfl rfl) (da_cons (de_var (pv 0)) (da_cons de_int da_nil))))
   (dss_cons (ds_if (DW.t (dw_or (dt_cmp (op_eqD hr.units) snd_eq (de_var (pv 2)) de_int rfl) (dw_or1 (dt_cmp op_ltU snd_cop (de_var (pv 3)) de_int rfl))))
   (dss_cons (ds_if (DW.t (dw_or (dt_cmp (op_eqD hr.units) snd_eq (de_callO (ps := ["_law_hand_here", "_law_many"]) [true, true] G__law_draw hr rfl (takes_of rfl rfl rfl rfl) (da_cons (de_var (pv 0)) (da_cons de_int da_nil))) de_int rfl) (dw_or1 (dt_cmp (op_eqD hr.units) snd_eq (de_blt call_lenU snd_len rfl gF_len (by decide +kernel) (da_cons (de_var (pv 1)) da_nil)) de_int rfl))))
   (dss_one (ds_ret (de_sub hu1 (de_lst (da_cons (de_tup (da_cons de_str da_nil)) (da_cons (de_tup (da_cons de_str da_nil)) da_nil))) (de_callO (ps := ["_law_hand_here", "_law_many"]) [true, true] G__law_draw hr rfl (takes_of rfl rfl rfl rfl) (da_cons (de_var (pv 0)) (da_cons de_int da_nil))))))
     dss_nil)
   (dss_one (ds_ret (de_tup (da_cons de_str (da_cons (de_sub hu1 (de_var (pv 1)) (de_callO (ps := ["_law_hand_here", "_law_many"]) [true, true] G__law_draw hr rfl (takes_of rfl rfl rfl rfl) (da_cons (de_var (pv 0)) (da_cons (de_blt call_lenU snd_len rfl gF_len (by decide +kernel) (da_cons (de_var (pv 1)) da_nil)) da_nil)))) da_nil))))))
     dss_nil)
   (dss_cons (ds_set sc.nd rfl (by first | exact Or.inl rfl | exact Or.inr rfl) (de_callO (ps := ["_law_hand_here", "_law_names_here", "_law_deep"]) [true, true, true] ih hr rfl (takes_of rfl rfl rfl rfl) (da_cons (de_var (pv 0)) (da_cons (de_var (pv 1)) (da_cons (de_op op_sub snd_sub (de_var (pv 2)) de_int) da_nil)))))
   (dss_cons (ds_if (dt_cmp op_ltU snd_cop (de_var (pv 3)) de_int rfl)
   (dss_one (ds_ret (de_tup (da_cons de_str (da_cons (de_var (pv 4)) da_nil)))))
     dss_nil)
   (dss_one (ds_ret (de_tup (da_cons (de_sub hu1 (de_lst (da_cons de_str (da_cons de_str (da_cons de_str (da_cons de_str da_nil))))) (de_op op_sub snd_sub (de_var (pv 3)) de_int)) (da_cons (de_var (pv 4)) (da_cons (de_callO (ps := ["_law_hand_here", "_law_names_here", "_law_deep"]) [true, true, true] ih hr rfl (takes_of rfl rfl rfl rfl) (da_cons (de_var (pv 0)) (da_cons (de_var (pv 1)) (da_cons (de_op op_sub snd_sub (de_var (pv 2)) de_int) da_nil)))) da_nil))))))))))
abbrev m__law_holds : Nat → ME := Dl.mLawHolds
theorem sc__law_holds : FnScope ["_law_rule_here", "_law_facts", "_law_word", "_law_one", "_law_other"] ["_law_rule_here", "_law_facts"] (defScope s__law_holds) := ⟨rfl, rfl, rfl, by decide +kernel, rfl, by decide +kernel, by decide +kernel⟩
theorem ok__law_holds (T : Txt fa fn K mg) (B : BL K mg base) : ∀ n, Ok P w K mg base (0 + n) "_law_holds" ["_law_rule_here", "_law_facts"] (m__law_holds n)
 | 0 => by
  obtain ⟨fd, F⟩ := T.d.def_ 10 (d := d__law_holds) rfl
  have sc := sc__law_holds
  exact ok_zero F (T.glo 10 "_law_holds" rfl) (F.bindsN fun _ _ _ _ _ _ us hl => match us, hl with | [_, _], _ => rfl)
 | n + 1 => by
  have ih := ok__law_holds T B n
  obtain ⟨fd, F⟩ := T.d.def_ 10 (d := d__law_holds) rfl
  have sc := sc__law_holds

  refine ok_of (k := 0 + n) F (T.glo 10 "_law_holds" rfl) sc (F.bindsN fun _ _ _ _ _ _ us hl => match us, hl with | [_, _], _ => rfl) fun cdv A outer s H E hr => ?_
  have hu0 := hr.units0
  have hu1 := room1 hr
  have hu65 := room65 hr
  exact (dss_cons (ds_set sc.nd rfl (by first | exact Or.inl rfl | exact Or.inr rfl) (de_sub hu1 (de_var (pv 0)) de_int))
   (dss_cons (ds_if (DW.t (dw_or (dt_cmp (op_eqD hr.units) snd_eq (de_var (pv 2)) de_str rfl) (dw_or1 (dt_cmp (op_eqD hr.units) snd_eq (de_var (pv 2)) de_str rfl))))
   (dss_one (ds_ret (de_cmp (op_eqD hr.units) snd_eq (de_var (pv 2)) de_str rfl)))
     dss_nil)
   (dss_cons (ds_if (dt_cmp (op_eqD hr.units) snd_eq (de_var (pv 2)) de_str rfl)
   (dss_one (ds_ret (de_sub hu1 (de_var (pv 1)) (de_sub hu1 (de_var (pv 0)) de_int))))
     dss_nil)
   (dss_cons (ds_set sc.nd rfl (by first | exact Or.inl rfl | exact Or.inr rfl) (de_callO (ps := ["_law_rule_here", "_law_facts"]) [true, true] ih hr rfl (takes_of rfl rfl rfl rfl) (da_cons (de_sub hu1 (de_var (pv 0)) de_int) (da_cons (de_var (pv 1)) da_nil))))
   (dss_cons (ds_if (dt_cmp (op_eqD hr.units) snd_eq (de_var (pv 2)) de_str rfl)
   (dss_one (ds_ret (de_not (de_var (pv 3)))))
     dss_nil)
   (dss_cons (ds_set sc.nd rfl (by first | exact Or.inl rfl | exact Or.inr rfl) (de_callO (ps := ["_law_rule_here", "_law_facts"]) [true, true] ih hr rfl (takes_of rfl rfl rfl rfl) (da_cons (de_sub hu1 (de_var (pv 0)) de_int) (da_cons (de_var (pv 1)) da_nil))))
   (dss_cons (ds_if (dt_cmp (op_eqD hr.units) snd_eq (de_var (pv 2)) de_str rfl)
   (dss_one (ds_ret (de_and (de_var (pv 3)) (de_one (de_var (pv 4))))))
     dss_nil)
   (dss_cons (ds_if (dt_cmp (op_eqD hr.units) snd_eq (de_var (pv 2)) de_str rfl)
   (dss_one (ds_ret (de_or (de_var (pv 3)) (de_one (de_var (pv 4))))))
     dss_nil)
   (dss_cons (ds_if (dt_cmp (op_eqD hr.units) snd_eq (de_var (pv 2)) de_str rfl)
   (dss_one (ds_ret (de_or (de_not (de_var (pv 3))) (de_one (de_var (pv 4))))))
     dss_nil)
   (dss_one (ds_ret (de_cmp (op_eqD hr.units) snd_eq (de_var (pv 3)) (de_var (pv 4)) rfl))))))))))))
abbrev m__law_names_of : Nat → ME := Dl.mLawNamesOf
theorem sc__law_names_of : FnScope ["_law_rule_here", "_law_names_here", "_law_part", "_law_name"] ["_law_rule_here"] (defScope s__law_names_of) := ⟨rfl, rfl, rfl, by decide +kernel, rfl, by decide +kernel, by decide +kernel⟩
theorem ok__law_names_of (T : Txt fa fn K mg) (B : BL K mg base) : ∀ n, Ok P w K mg base (0 + n) "_law_names_of" ["_law_rule_here"] (m__law_names_of n)
 | 0 => by
  obtain ⟨fd, F⟩ := T.d.def_ 11 (d := d__law_names_of) rfl
  have sc := sc__law_names_of
  exact ok_zero F (T.glo 11 "_law_names_of" rfl) (F.bindsN fun _ _ _ _ _ _ us hl => match us, hl with | [_], _ => rfl)
 | n + 1 => by
  have ih := ok__law_names_of T B n
  obtain ⟨fd, F⟩ := T.d.def_ 11 (d := d__law_names_of) rfl
  have sc := sc__law_names_of
  have gF_sorted := T.fre 16 "sorted" rfl
  refine ok_of (k := 0 + n) F (T.glo 11 "_law_names_of" rfl) sc (F.bindsN fun _ _ _ _ _ _ us hl => match us, hl with | [_], _ => rfl) fun cdv A outer s H E hr => ?_
  have hu0 := hr.units0
  have hu1 := room1 hr
  have hu65 := room65 hr
  exact (dss_cons (ds_if (dt_cmp (op_eqD hr.units) snd_eq (de_sub hu1 (de_var (pv 0)) de_int) de_str rfl)
   (dss_one (ds_ret (de_lst (da_cons (de_sub hu1 (de_var (pv 0)) de_int) da_nil))))
     dss_nil)
   (dss_cons (ds_set sc.nd rfl (by first | exact Or.inl rfl | exact Or.inr rfl) (de_lst da_nil))
   (dss_cons (ds_for (passes_of rfl) rfl (di_seq (de_slice (de_var (pv 0)) (do_some de_int) do_none)) (dg_name (pg_name (i := 2) sc.nd rfl (by first | exact Or.inl rfl | exact Or.inr rfl)))
   (dss_one (ds_set sc.nd rfl (by first | exact Or.inl rfl | exact Or.inr rfl) (de_op op_addU snd_add (de_var (pv 1)) (de_lcW [("_law_name", 3)] rfl sc.nd (di_seq (de_callO (ps := ["_law_rule_here"]) [true] ih hr rfl (takes_of rfl rfl rfl rfl) (da_cons (de_var (pv 2)) da_nil))) (by kernel_rfl) (by decide) (fun _ _ _ _ _ => (dg_name (pg_name (i := 3) sc.nd rfl (by first | exact Or.inl rfl | exact Or.inr rfl)))) (fun _ _ _ _ _ => (dts_one (dt_notIn hu65 (de_var (pv 3)) (de_var (pv 1))))) (fun _ _ _ _ _ => (de_var (pv 3))))))))
   (dss_one (ds_ret (de_blt (call_sortU rfl) snd_sorted rfl gF_sorted (by decide +kernel) (da_cons (de_var (pv 1)) da_nil)))))))
def m__law_all_facts : ME := fnSem 1 7
   (sSeq (sSet 1 (eLstN (aCons (fun ρ => .ok (.new (.dict [])) ρ) aNil)))
   (sSeq (lkd 0 (sFor (iSeq (eVar 0)) (gN 2)
   (sSeq (sSet 3 (eLstN aNil))
   (sSeq (sForK 1 4
   (sFor (iTpl (eUse mkTup (aCons (eC (.bool false)) (aCons (eC (.bool true)) aNil)))) (gN 5)
   (sSeq (sSet 6 (eBlt fDict (aCons (eVar 4) aNil)))
   (sSeq (sPutD 6 (eVar 2) (eVar 5))
   (sAppMv 3 6)))))
   (sMv 1 3)))))
   (sRet (eVar 1))))
theorem sc__law_all_facts : FnScope ["_law_names_here", "_law_rows", "_law_name", "_law_more", "_law_row", "_law_truth", "_law_one"] ["_law_names_here"] (defScope s__law_all_facts) := ⟨rfl, rfl, rfl, by decide +kernel, rfl, by decide +kernel, by decide +kernel⟩
theorem ok__law_all_facts (T : Txt fa fn K mg) (B : BL K mg base) : Ok P w K mg base 1 "_law_all_facts" ["_law_names_here"] (m__law_all_facts) := by
  obtain ⟨fd, F⟩ := T.d.def_ 12 (d := d__law_all_facts) rfl
  have sc := sc__law_all_facts
  have gF_dict := T.fre 20 "dict" rfl
  refine ok_of (k := 0) F (T.glo 12 "_law_all_facts" rfl) sc (F.bindsN fun _ _ _ _ _ _ us hl => match us, hl with | [_], _ => rfl) fun cdv A outer s H E hr => ?_
  have hu0 := hr.units0
  have hu1 := room1 hr
  have hu65 := room65 hr
  exact (dss_cons (ds_set sc.nd rfl (by first | exact Or.inl rfl | exact Or.inr rfl) (de_lstN (da_cons de_dict0 da_nil)))
   (dss_cons (ds_lock 0 (ds_for (passes_of rfl) rfl (di_seq (de_var (pv 0))) (dg_name (pg_name (i := 2) sc.nd rfl (by first | exact Or.inl rfl | exact Or.inr rfl)))
   (dss_cons (ds_set sc.nd rfl (by first | exact Or.inl rfl | exact Or.inr rfl) (de_lstN da_nil))
   (dss_cons (ds_forK (passes_of rfl) rfl (pv 1) (pg_name (i := 4) sc.nd rfl (by first | exact Or.inl rfl | exact Or.inr rfl))
   (dss_one (ds_for (passes_of rfl) rfl (di_tup (de_tup (da_cons de_bl (da_cons de_bl da_nil)))) (dg_name (pg_name (i := 5) sc.nd rfl (by first | exact Or.inl rfl | exact Or.inr rfl)))
   (dss_cons (ds_set sc.nd rfl (by first | exact Or.inl rfl | exact Or.inr rfl) (de_blty call_dictD snd_dict rfl gF_dict (by decide +kernel) (da_cons (de_var (pv 4)) da_nil)))
   (dss_cons (ds_putD hu1 (pv 6) (de_var (pv 2)) (de_var (pv 5)))
   (dss_one (ds_appMv (pv 3) (pv 6) mt_append PySem.F.type_list_append PySem.F.slot_list_append)))))))
   (dss_one (ds_mv sc.nd rfl (by first | exact Or.inl rfl | exact Or.inr rfl) (pv 3)))))))
   (dss_one (ds_ret (de_var (pv 1))))))
def m__law_right : ME := fnSem 2 4
   (sSeq (sSet 2 (eBlt fDict (aCons (eVar 1) aNil)))
   (sSeq (sSet 3 (eCall 2 [true, true] m_holds (aCons (eVar 0) (aCons (eVar 1) aNil))))
   (sRet (eAnd (eOp1 (isD "bool") (eVar 3)) (eAnd (eOp2 pyEq (eVar 3) (eCall 2 [true, true] (m__law_holds 7) (aCons (eVar 0) (aCons (eVar 2) aNil)))) (eOp2 pyEqK (eVar 1) (eVar 2)))))))
theorem sc__law_right : FnScope ["_law_rule_here", "_law_facts", "_law_kept", "_law_found"] ["_law_rule_here", "_law_facts"] (defScope s__law_right) := ⟨rfl, rfl, rfl, by decide +kernel, rfl, by decide +kernel, by decide +kernel⟩
theorem ok__law_right (T : Txt fa fn K mg) (B : BL K mg base) : Ok P w K mg base 10 "_law_right" ["_law_rule_here", "_law_facts"] (m__law_right) := by
  obtain ⟨fd, F⟩ := T.d.def_ 13 (d := d__law_right) rfl
  have sc := sc__law_right
  have G_holds : Ok P w K mg base 9 "holds" ["rule", "facts"] (m_holds) := (ok_holds T B).mono (by decide)
  have G__law_holds : Ok P w K mg base 9 "_law_holds" ["_law_rule_here", "_law_facts"] (m__law_holds 7) := (ok__law_holds T B 7).mono (by decide)
  have gF_bool := T.fre 21 "bool" rfl
  have gF_dict := T.fre 20 "dict" rfl
  have gF_isinstance := T.fre 22 "isinstance" rfl
  refine ok_of (k := 9) F (T.glo 13 "_law_right" rfl) sc (F.bindsN fun _ _ _ _ _ _ us hl => match us, hl with | [_, _], _ => rfl) fun cdv A outer s H E hr => ?_
  have hu0 := hr.units0
  have hu1 := room1 hr
  have hu65 := room65 hr
  exact (dss_cons (ds_set sc.nd rfl (by first | exact Or.inl rfl | exact Or.inr rfl) (de_blty call_dictD snd_dict rfl gF_dict (by decide +kernel) (da_cons (de_var (pv 1)) da_nil)))
   (dss_cons (ds_set sc.nd rfl (by first | exact Or.inl rfl | exact Or.inr rfl) (de_callO (ps := ["rule", "facts"]) [true, true] G_holds hr rfl (takes_of rfl rfl rfl rfl) (da_cons (de_var (pv 0)) (da_cons (de_var (pv 1)) da_nil))))
   (dss_one (ds_ret (de_and (de_isi (de_var (pv 3)) rfl gF_isinstance rfl gF_bool (by decide +kernel)) (de_and (de_cmp (op_eqD hr.units) snd_eq (de_var (pv 3)) (de_callO (ps := ["_law_rule_here", "_law_facts"]) [true, true] G__law_holds hr rfl (takes_of rfl rfl rfl rfl) (da_cons (de_var (pv 0)) (da_cons (de_var (pv 2)) da_nil))) rfl) (de_one (de_cmp (op_eqK hu0) snd_eqK (de_var (pv 1)) (de_var (pv 2)) rfl))))))))
def m__law_behind : ME := fnSem 2 3
   (sSeq (sSet 2 (eBlt fDict (aCons (eVar 0) aNil)))
   (sSeq (sExp (eMutD 2 mDUpd (aCons (eVar 1) aNil)))
   (sRet (eVar 2))))
theorem sc__law_behind : FnScope ["_law_more", "_law_facts", "_law_found"] ["_law_more", "_law_facts"] (defScope s__law_behind) := ⟨rfl, rfl, rfl, by decide +kernel, rfl, by decide +kernel, by decide +kernel⟩
theorem ok__law_behind (T : Txt fa fn K mg) (B : BL K mg base) : Ok P w K mg base 1 "_law_behind" ["_law_more", "_law_facts"] (m__law_behind) := by
  obtain ⟨fd, F⟩ := T.d.def_ 14 (d := d__law_behind) rfl
  have sc := sc__law_behind
  have gF_dict := T.fre 20 "dict" rfl
  refine ok_of (k := 0) F (T.glo 14 "_law_behind" rfl) sc (F.bindsN fun _ _ _ _ _ _ us hl => match us, hl with | [_, _], _ => rfl) fun cdv A outer s H E hr => ?_
  have hu0 := hr.units0
  have hu1 := room1 hr
  have hu65 := room65 hr
  exact (dss_cons (ds_set sc.nd rfl (by first | exact Or.inl rfl | exact Or.inr rfl) (de_blty call_dictD snd_dict rfl gF_dict (by decide +kernel) (da_cons (de_var (pv 0)) da_nil)))
   (dss_cons (ds_expr (de_mutD PySem.F.slot_dict_update PySem.F.type_dict_update mtd_update mut_dupd (pv 2) (da_cons (de_var (pv 1)) da_nil)))
   (dss_one (ds_ret (de_var (pv 2))))))
def mb_law : MS :=
   (sSeq (sSet 2 (eCall 2 [true, true] m__law_names (aCons (eVar 1) (aCons (eC (.int 8)) aNil))))
   (sSeq (sSet 3 (eCall 3 [true, true, true] (m__law_rule 7) (aCons (eVar 1) (aCons (eSlice (eVar 2) oNone (oSome (eOp2 pyAdd (eC (.int 1)) (eCall 2 [true, true] m__law_draw (aCons (eVar 1) (aCons (eC (.int 5)) aNil)))))) (aCons (eOp2 pyAdd (eC (.int 1)) (eCall 2 [true, true] m__law_draw (aCons (eVar 1) (aCons (eC (.int 6)) aNil)))) aNil)))))
   (sSeq (sSet 4 (fun ρ => .ok (.new (.dict [])) ρ))
   (sSeq (sSet 5 (eSlice (eUse mkLst (aCons (eC (.str "far")) (aCons (eC (.str "near")) (aCons (eC (.str "low")) (aCons (eC (.str "high")) (aCons (eC (.str "left")) (aCons (eC (.str "right")) (aCons (eC (.str "east")) (aCons (eC (.str "west")) aNil))))))))) oNone (oSome (eCall 2 [true, true] m__law_draw (aCons (eVar 1) (aCons (eC (.int 9)) aNil))))))
   (sSeq (sFor (iLst (eOp2 pyAdd (eSlice (eVar 2) (oSome (eC (.int 5))) (oSome (eOp2 pyAdd (eC (.int 5)) (eCall 2 [true, true] m__law_draw (aCons (eVar 1) (aCons (eC (.int 4)) aNil)))))) (lkd 5 (eComp [11] (iLst (eVar 5)) (gN 11) (tVal (eOp2 (orf pyNotIn pyNotInK) (eVar 11) (eVar 2))) (eVar 11))))) (gN 6)
   (sPutD 4 (eVar 6) (eOp2 pyEq (eCall 2 [true, true] m__law_draw (aCons (eVar 1) (aCons (eC (.int 2)) aNil))) (eC (.int 1)))))
   (sSeq (sSet 7 (eCall 1 [true] m__law_all_facts (aCons (eCall 1 [true] (m__law_names_of 7) (aCons (eVar 3) aNil)) aNil)))
   (sSeq (sIf (tVal (eOp2 pyEq (eCall 2 [true, true] m__law_draw (aCons (eVar 1) (aCons (eC (.int 2)) aNil))) (eC (.int 1))))
   (sRevK 7)
   sNil)
   (sSeq (sIf (tVal (eOp2 pyEq (eCall 2 [true, true] m__law_draw (aCons (eVar 1) (aCons (eC (.int 2)) aNil))) (eC (.int 1))))
   (sSet 7 (eCompT [8] (iLst (eFz (eVar 7))) (gN 8) tTrue (eCall 2 [true, false] m__law_behind (aCons (eVar 4) (aCons (eVar 8) aNil)))))
   sNil)
   (sSeq (sForK 7 8
   (sSeq (sExp (eMutD 8 mDUpd (aCons (eVar 4) aNil)))
   (sIf (tNotM (tVal (eCall 2 [true, true] m__law_right (aCons (eVar 3) (aCons (eVar 8) aNil)))))
   (sRet (eC (.bool false)))
   sNil)))
   (sSeq (sSet 9 (eCall 1 [true] (m__law_names_of 7) (aCons (eVar 3) aNil)))
   (sSeq (sTake 8 7 (eCall 2 [true, true] m__law_draw (aCons (eVar 1) (aCons (eView (eBlt fLen (aCons (eVar 7) aNil))) aNil))))
   (sSeq (sFor (iRng (aCons (eBlt fMin2 (aCons (eC (.int 8)) (aCons (eOp2 pyMul (eC (.int 4)) (eBlt fLen (aCons (eVar 9) aNil))) aNil))) aNil)) (gN 10)
   (sSeq (sSet 6 (eOp2 pyAt (eVar 9) (eCall 2 [true, true] m__law_draw (aCons (eVar 1) (aCons (eBlt fLen (aCons (eVar 9) aNil)) aNil)))))
   (sSeq (sPutD 8 (eVar 6) (eNot (eOp2 pyAt (eVar 8) (eVar 6))))
   (sIf (tNotM (tVal (eCall 2 [true, true] m__law_right (aCons (eVar 3) (aCons (eVar 8) aNil)))))
   (sRet (eC (.bool false)))
   sNil))))
   (sRet (eC (.bool true)))))))))))))))
theorem sc_law : FnScope ["_law_script", "_law_hand_here", "_law_names_here", "_law_rule_here", "_law_more", "_law_far", "_law_name", "_law_rows", "_law_facts", "_law_own", "_law_k", "_law_one"] ["_law_script"] (defScope s_law) := ⟨rfl, rfl, rfl, by decide +kernel, rfl, by decide +kernel, by decide +kernel⟩
theorem ok_law (T : Txt fa fn K mg) (B : BL K mg base) {f : Addr} {fd : FuncData} (F : FunD K "law" "law" (defArgs s_law) (defBody s_law) (defScope s_law) [] [] f fd)
    (pure : ∀ (ns : List Int), ns.length ≤ 63 → ∃ ρ, mb_law (.un :: .own (handD ns) :: List.replicate 10 .un) = .ok (.rt (.val (.bool true))) ρ) : FnOk P w K mg base L2.CX0 12 f fd ["_law_script"] (Dl.spLaw K) := by
  obtain ⟨fdh, FH⟩ := T.d.def_ 4 (d := d__law_hand) rfl
  have gH := T.glo 4 "_law_hand" rfl
  have gl := T.fre 24 "list" rfl
  have sc := sc_law
  have bH : Binds K fdh ["_law_script"] [] := FH.bindsN fun _ _ _ _ _ _ us hl => match us, hl with | [_], _ => rfl
  have GH : FnOk P w K mg base L2.CX0 11 (He.ga K "_law_hand") fdh ["_law_script"] (spHand K) := (hand_ok FH sc__law_hand rfl rfl gl).mono (by decide)
  have G__law_names : Ok P w K mg base 11 "_law_names" ["_law_hand_here", "_law_many"] (m__law_names) := (ok__law_names T B).mono (by decide)
  have G__law_rule : Ok P w K mg base 11 "_law_rule" ["_law_hand_here", "_law_names_here", "_law_deep"] (m__law_rule 7) := (ok__law_rule T B 7).mono (by decide)
  have G__law_all_facts : Ok P w K mg base 11 "_law_all_facts" ["_law_names_here"] (m__law_all_facts) := (ok__law_all_facts T B).mono (by decide)
  have G__law_names_of : Ok P w K mg base 11 "_law_names_of" ["_law_rule_here"] (m__law_names_of 7) := (ok__law_names_of T B 7).mono (by decide)
  have G__law_draw : Ok P w K mg base 11 "_law_draw" ["_law_hand_here", "_law_many"] (m__law_draw) := (ok__law_draw T B).mono (by decide)
  have G__law_behind : Ok P w K mg base 11 "_law_behind" ["_law_more", "_law_facts"] (m__law_behind) := (ok__law_behind T B).mono (by decide)
  have G__law_right : Ok P w K mg base 11 "_law_right" ["_law_rule_here", "_law_facts"] (m__law_right) := (ok__law_right T B).mono (by decide)
  have gF_len := T.fre 18 "len" rfl
  have gF_min := T.fre 23 "min" rfl
  have gF_range := T.fre 19 "range" rfl
  refine law_ok (k := 11) (mb := mb_law) F sc rfl (by decide) (fun cdv A outer s H E hr => ?_) (fun cdv A outer s H E hr => ?_) pure
  · exact ps_set (i := 1) sc.nd rfl (by first | exact Or.inl rfl | exact Or.inr rfl) (pe_call GH hr rfl gH FH.kp bH .nil pass0 (pa_cons (pv 0) pa_nil))
  · have hu0 := hr.units0
    have hu1 := room1 hr
    have hu65 := room65 hr
    exact (dss_cons (ds_set sc.nd rfl (by first | exact Or.inl rfl | exact Or.inr rfl) (de_callO (ps := ["_law_hand_here", "_law_many"]) [true, true] G__law_names hr rfl takes0 (da_cons (de_var (pv 1)) (da_cons de_int da_nil))))
   (dss_cons (ds_set sc.nd rfl (by first | exact Or.inl rfl | exact Or.inr rfl) (de_callO (ps := ["_law_hand_here", "_law_names_here", "_law_deep"]) [true, true, true] G__law_rule hr rfl takes0 (da_cons (de_var (pv 1)) (da_cons (de_slice (de_var (pv 2)) do_none (do_some (de_op op_addU snd_add de_int (de_callO (ps := ["_law_hand_here", "_law_many"]) [true, true] G__law_draw hr rfl takes0 (da_cons (de_var (pv 1)) (da_cons de_int da_nil)))))) (da_cons (de_op op_addU snd_add de_int (de_callO (ps := ["_law_hand_here", "_law_many"]) [true, true] G__law_draw hr rfl takes0 (da_cons (de_var (pv 1)) (da_cons de_int da_nil)))) da_nil)))))
   (dss_cons (ds_set sc.nd rfl (by first | exact Or.inl rfl | exact Or.inr rfl) de_dict0)
   (dss_cons (ds_set sc.nd rfl (by first | exact Or.inl rfl | exact Or.inr rfl) (de_slice (de_lst (da_cons de_str (da_cons de_str (da_cons de_str (da_cons de_str (da_cons de_str (da_cons de_str (da_cons de_str (da_cons de_str da_nil))))))))) do_none (do_some (de_callO (ps := ["_law_hand_here", "_law_many"]) [true, true] G__law_draw hr rfl takes0 (da_cons (de_var (pv 1)) (da_cons de_int da_nil))))))
   (dss_cons (ds_for (passes_of rfl) rfl (di_list (de_op op_addU snd_add (de_slice (de_var (pv 2)) (do_some de_int) (do_some (de_op op_addU snd_add de_int (de_callO (ps := ["_law_hand_here", "_law_many"]) [true, true] G__law_draw hr rfl takes0 (da_cons (de_var (pv 1)) (da_cons de_int da_nil)))))) (de_lock 5 (de_lcW [("_law_one", 11)] rfl sc.nd (di_list (de_var (pv 5))) (by kernel_rfl) (by decide) (fun _ _ _ _ _ => (dg_name (pg_name (i := 11) sc.nd rfl (by first | exact Or.inl rfl | exact Or.inr rfl)))) (fun _ _ _ _ _ => (dts_one (dt_notIn hu65 (de_var (pv 11)) (de_var (pv 2))))) (fun _ _ _ _ _ => (de_var (pv 11))))))) (dg_name (pg_name (i := 6) sc.nd rfl (by first | exact Or.inl rfl | exact Or.inr rfl)))
   (dss_one (ds_putD hu1 (pv 4) (de_var (pv 6)) (de_cmp (op_eqD hr.units) snd_eq (de_callO (ps := ["_law_hand_here", "_law_many"]) [true, true] G__law_draw hr rfl takes0 (da_cons (de_var (pv 1)) (da_cons de_int da_nil))) de_int rfl))))
   (dss_cons (ds_set sc.nd rfl (by first | exact Or.inl rfl | exact Or.inr rfl) (de_callO (ps := ["_law_names_here"]) [true] G__law_all_facts hr rfl takes0 (da_cons (de_callO (ps := ["_law_rule_here"]) [true] G__law_names_of hr rfl takes0 (da_cons (de_var (pv 3)) da_nil)) da_nil)))
   (dss_cons (ds_if (dt_cmp (op_eqD hr.units) snd_eq (de_callO (ps := ["_law_hand_here", "_law_many"]) [true, true] G__law_draw hr rfl takes0 (da_cons (de_var (pv 1)) (da_cons de_int da_nil))) de_int rfl)
   (dss_one (ds_revK sc.nd rfl (by first | exact Or.inl rfl | exact Or.inr rfl) (pv 7)))
     dss_nil)
   (dss_cons (ds_if (dt_cmp (op_eqD hr.units) snd_eq (de_callO (ps := ["_law_hand_here", "_law_many"]) [true, true] G__law_draw hr rfl takes0 (da_cons (de_var (pv 1)) (da_cons de_int da_nil))) de_int rfl)
   (dss_one (ds_setLcTW [("_law_facts", 8)] rfl sc.nd (by first | rfl | kernel_rfl) (by first | rfl | kernel_rfl) (sw_true rfl (by first | rfl | kernel_rfl) rfl (by decide +kernel)) (di_list (de_fz (de_var (pv 7)))) (by kernel_rfl) (by decide) (fun _ _ _ _ _ => (dg_name (pg_name (i := 8) sc.nd rfl (by first | exact Or.inl rfl | exact Or.inr rfl)))) (fun _ _ _ _ _ => dts_nil) (fun _ _ _ _ _ => (de_callO (ps := ["_law_more", "_law_facts"]) [true, false] G__law_behind hr rfl takes0 (da_cons (de_var (pv 4)) (da_cons (de_var (pv 8)) da_nil))))))
     dss_nil)
   (dss_cons (ds_forK (passes_of rfl) rfl (pv 7) (pg_name (i := 8) sc.nd rfl (by first | exact Or.inl rfl | exact Or.inr rfl))
   (dss_cons (ds_expr (de_mutD PySem.F.slot_dict_update PySem.F.type_dict_update mtd_update mut_dupd (pv 8) (da_cons (de_var (pv 4)) da_nil)))
   (dss_one (ds_if (dt_not (dt_val (de_callO (ps := ["_law_rule_here", "_law_facts"]) [true, true] G__law_right hr rfl takes0 (da_cons (de_var (pv 3)) (da_cons (de_var (pv 8)) da_nil)))))
   (dss_one (ds_ret de_bl))
     dss_nil))))
   (dss_cons (ds_set sc.nd rfl (by first | exact Or.inl rfl | exact Or.inr rfl) (de_callO (ps := ["_law_rule_here"]) [true] G__law_names_of hr rfl takes0 (da_cons (de_var (pv 3)) da_nil)))
   (dss_cons (ds_take sc.nd rfl (by first | exact Or.inl rfl | exact Or.inr rfl) (pv 7) (de_callO (ps := ["_law_hand_here", "_law_many"]) [true, true] G__law_draw hr rfl takes0 (da_cons (de_var (pv 1)) (da_cons (de_view (de_blt call_lenU snd_len rfl gF_len (by decide +kernel) (da_cons (de_var (pv 7)) da_nil))) da_nil))))
   (dss_cons (ds_for (passes_of rfl) rfl (di_range rfl gF_range (da_cons (de_blt (call_min2 rfl) snd_min2 rfl gF_min (by decide +kernel) (da_cons de_int (da_cons (de_op op_mulU snd_mul de_int (de_blt call_lenU snd_len rfl gF_len (by decide +kernel) (da_cons (de_var (pv 9)) da_nil))) da_nil))) da_nil)) (dg_name (pg_name (i := 10) sc.nd rfl (by first | exact Or.inl rfl | exact Or.inr rfl)))
   (dss_cons (ds_set sc.nd rfl (by first | exact Or.inl rfl | exact Or.inr rfl) (de_sub hu1 (de_var (pv 9)) (de_callO (ps := ["_law_hand_here", "_law_many"]) [true, true] G__law_draw hr rfl takes0 (da_cons (de_var (pv 1)) (da_cons (de_blt call_lenU snd_len rfl gF_len (by decide +kernel) (da_cons (de_var (pv 9)) da_nil)) da_nil)))))
   (dss_cons (ds_putD hu1 (pv 8) (de_var (pv 6)) (de_not (de_sub hu1 (de_var (pv 8)) (de_var (pv 6)))))
   (dss_one (ds_if (dt_not (dt_val (de_callO (ps := ["_law_rule_here", "_law_facts"]) [true, true] G__law_right hr rfl takes0 (da_cons (de_var (pv 3)) (da_cons (de_var (pv 8)) da_nil)))))
   (dss_one (ds_ret de_bl))
     dss_nil)))))
   (dss_one (ds_ret de_bl))))))))))))))
end
def Pure : Prop := ∀ (ns : List Int), ns.length ≤ 63 → ∃ ρ, mb_law (.un :: .own (handD ns) :: List.replicate 10 .un) = .ok (.rt (.val (.bool true))) ρ
theorem facts {P : Program} {w : World} {K : PySem.W.Frag} {h : Heap} {mg : Str → Option Value} {f : Addr} (pure : Pure) (X : K.In h) (G : h.Ns mainGlobals mg) (hfa : mg ("law" : Str) = some (.ref f)) (c : He.SaysD fa fn K) :
    ∃ fd : FuncData, (∀ (s : Shared) (v : Value), BindsTo s fd ⟨[v], []⟩ [("_law_script", v)]) ∧ ∀ base : Heap, K.In base → base.Ns mainGlobals mg → BL K mg base → FnOk P w K mg base CX0 12 f fd ["_law_script"] (Dl.spLaw K) := by
  obtain ⟨fd, F⟩ := c.def_ 15 (d := d_law) rfl
  have T : Txt fa fn K mg := Txt.of X G c
  have e := hfa.symm.trans (T.glo 15 "law" rfl)
  cases e
  have b := FunD.bindsA (ps := ["_law_script"]) F fun _ _ _ _ _ _ us hl => match us, hl with | [_], _ => rfl
  exact ⟨fd, fun s v => b s [v] rfl, fun base _ _ B => ok_law T B F pure⟩
theorem holds (pure : Pure) : PySem.Challenge.rw_truceroll_k13_holds.Holds := by
  w_on; o_law
  refine HandSHeadRun.head_any (r := PySem.W.OpenLaw.row PySem.Challenge.rw_truceroll_k13_holds) (q := PySem.W.view (PySem.W.OpenLaw.row PySem.Challenge.rw_truceroll_k13_holds).prog [21]) (H := hk) (ob := ob) (M := 6000) (loose := loose) (d := HandSHeadRun.topDef (PySem.W.OpenLaw.row PySem.Challenge.rw_truceroll_k13_holds).prog 21) (kwd := []) ob_eq
    (by kernel_rfl) (fun s => by kernel_rfl) run (by kernel_rfl) (by kernel_rfl) (by kernel_rfl) (by rfl) (by first | assumption | decide +kernel) (by decide +kernel) ⟨rfl, rfl, rfl, rfl, rfl, by decide +kernel⟩ ?hw ?hc
  case hw => w_witness2
  case hc =>
    refine LamX.walk_ofTsE (l := PySem.Challenge.rw_truceroll_k13_holds) (n := 63) (k := 12) (x := "_law_script") (CX := fun _ => L2.CX0) rfl (by decide) (by kernel_rfl) ⟨rfl, by decide, by decide⟩ ?F (fun _ _ _ _ _ z => z)
    intro w mg fa h Y G hmg0
    obtain ⟨K, KX, c, TH, FX⟩ := Y
    have hmg : mg ("law" : PySem.Str) = some (.ref fa) := by
      have e : (HandSHeadRun.topDef (PySem.W.OpenLaw.row PySem.Challenge.rw_truceroll_k13_holds).prog 21).name = ("law" : PySem.Str) := by kernel_rfl
      rw [← e]
      exact hmg0
    obtain ⟨fd, hb, hF⟩ := facts (P := (PySem.Challenge.rw_truceroll_k13_holds).prog) (w := w) pure KX G hmg c
    exact ⟨K, KX, lawAt_of TH hb fun base hK hn hB => hF base hK hn ⟨hB, TH.is, FX⟩⟩
end G
set_option maxRecDepth 100000
set_option maxHeartbeats 400000
namespace G
open PySem PySem.Spec L2 Dl
set_option autoImplicit false
theorem wp_of {α : Type} {m : Rs α} {a : α} {ρ : Rho} {Q : α → Rho → Prop} {X : Ex → Rho → Prop} (h : m = .ok a ρ) : wp m Q X = Q a ρ := by rw [h]; rfl
def oF (f : Li) : T := .own (fD f)
theorem of_map (E : List Li) : (E.map fD).map T.own = E.map oF := by rw [List.map_map]; rfl
theorem app_eq {p0 p1 p2 p4 p5 : Dl.Slot} {ts : List T} {d : D} (h : ts.length < 16777216) : sAppMv 3 6 [p0, p1, p2, .obj (.lst ts), p4, p5, .own d] = .ok .nx [p0, p1, p2, .obj (.lst (ts ++ [.own d])), p4, p5, .un] := by
  unfold sAppMv
  dsimp only [List.getElem?_cons_succ, List.getElem?_cons_zero]
  rw [if_pos (by rw [sizeLine_eq]; exact h)]
  rfl
theorem mv_eq {p0 p2 p4 p5 p6 : Dl.Slot} {t1 t3 : T} : sMv 1 3 [p0, .obj t1, p2, .obj t3, p4, p5, p6] = .ok .nx [p0, .obj t3, p2, .un, p4, p5, p6] := rfl
def afB : MS := sFor (iTpl (eUse mkTup (aCons (eC (.bool false)) (aCons (eC (.bool true)) aNil)))) (gN 5)
   (sSeq (sSet 6 (eBlt fDict (aCons (eVar 4) aNil)))
   (sSeq (sPutD 6 (eVar 2) (eVar 5))
   (sAppMv 3 6)))
theorem inner_wp {p0 s4 s5 s6 : Dl.Slot} {n : Str} {rows : List Li} (hl : rows.length ≤ 4096) (hr : ∀ f ∈ rows, f.length ≤ 100) (f4 : frS s4 = true) (f5 : frS s5 = true) (f6 : frS s6 = true) {QF : Dl.Flow → Rho → Prop} {X : Ex → Rho → Prop}
    (hq : ∀ s4 s5 s6, frS s4 = true → frS s5 = true → frS s6 = true → QF .nx [p0, .obj (.lst (rows.map oF)), .dat (.str n), .obj (.lst ((ext rows n).map oF)), s4, s5, s6]) :
    wp (sForK 1 4 afB [p0, .obj (.lst (rows.map oF)), .dat (.str n), .obj (.lst []), s4, s5, s6]) QF X := by
  have e1 : ([p0, .obj (.lst (rows.map oF)), .dat (.str n), .obj (.lst []), s4, s5, s6] : Rho)[1]? = some (.obj (.lst ((rows.map fD).map .own))) := by rw [of_map]; rfl
  refine wp_sForK e1 (by decide) (fun pre done ρ => done = pre ∧ ∃ i s4 s5 s6, i ≤ rows.length ∧ frS s4 = true ∧ frS s5 = true ∧ frS s6 = true ∧ pre = (rows.take i).map fD ∧ ρ = [p0, .opa .gone, .dat (.str n), .obj (.lst ((ext (rows.take i) n).map oF)), s4, s5, s6]) ⟨rfl, 0, s4, s5, s6, Nat.zero_le _, f4, f5, f6, rfl, rfl⟩ (fun pre d rest done ρ hx hJ => ?_) fun done ρ hJ => ?_
  · obtain ⟨rfl, i, s4, s5, s6, hi, f4, f5, f6, hp, rfl⟩ := hJ
    have hpl : done.length = i := by rw [hp, List.length_map, List.length_take]; omega
    have hd : (rows.map fD)[i]? = some d := by rw [hx, List.getElem?_append_right (by omega), hpl, Nat.sub_self]; rfl
    rw [List.getElem?_map, Option.map_eq_some_iff] at hd
    obtain ⟨f, hf, rfl⟩ := hd
    have hfl := hr f (List.mem_of_getElem? hf)
    have hil := (List.getElem?_eq_some_iff.mp hf).1
    have hel : (ext (rows.take i) n).length ≤ 8192 := by rw [ext_len, List.length_take]; omega
    have het : ext (rows.take (i + 1)) n = ext (rows.take i) n ++ [putB f n false, putB f n true] := by
      rw [List.take_add_one, hf]
      unfold ext
      rw [List.flatMap_append]
      rfl
    have hpt : (rows.take i).map fD ++ [fD f] = (rows.take (i + 1)).map fD := by
      rw [List.take_add_one, hf]
      simp
    have hdc : fDict [fD f] = some (.new (.dict (tr f))) := rfl
    generalize ext (rows.take i) n = E at *
    simp only [frS, free, List.getElem?_cons_zero] at f4 f5 f6
    refine ⟨by simpa [free] using f4, by simp, ?_⟩
    have a1 : ∀ (E : List T) p0 p1 p2 p4 p5 d, E.length < 16777216 → sAppMv 3 6 [p0, p1, p2, .obj (.lst E), p4, p5, .own d] = .ok .nx [p0, p1, p2, .obj (.lst (E ++ [.own d])), p4, p5, .un] := fun E p0 p1 p2 p4 p5 d h => app_eq h
    have l1 : (E.map oF).length < 16777216 := by rw [List.length_map]; omega
    have l2 : (E.map oF ++ [T.own (.dict (tr (putB f n false)))]).length < 16777216 := by rw [List.length_append, List.length_map]; simp; omega
    have b1 := fun p0 p1 p2 p4 p5 d => a1 (E.map oF) p0 p1 p2 p4 p5 d l1
    have b2 := fun p0 p1 p2 p4 p5 d => a1 (E.map oF ++ [T.own (.dict (tr (putB f n false)))]) p0 p1 p2 p4 p5 d l2
    have fin : E.map oF ++ [T.own (.dict (tr (putB f n false)))] ++ [T.own (.dict (tr (putB f n true)))] = (ext (rows.take (i + 1)) n).map oF := by
      rw [het]; simp [oF, fD]
    unfold afB
    have st := fun b => @setK_tr f n b (show f.length < 16777216 by omega)
    unfold fD at hdc ⊢
    generalize hG1 : E.map oF = G1 at *
    clear a1 l1 l2
    simp_arith [f5, f6, hdc, st, wp_of (b1 _ _ _ _ _ _), wp_of (b2 _ _ _ _ _ _)]
    rw [← hp] at hpt
    exact ⟨i + 1, by omega, .un, rfl, .dat (.bool true), rfl, .un, rfl, by rw [← List.map_take]; exact hpt, by rw [List.append_assoc] at fin; exact fin, rfl, rfl, rfl⟩
  · obtain ⟨rfl, i, s4, s5, s6, hi, f4, f5, f6, hp, rfl⟩ := hJ
    have hli : rows.length = i := by
      have := congrArg List.length hp
      rw [List.length_map, List.length_map, List.length_take] at this
      omega
    subst hli
    rw [List.take_length]
    have := hq s4 s5 s6 f4 f5 f6
    unfold closeR
    rw [of_map]
    exact this
theorem all_facts_wp {ns : List Str} (hl : ns.length ≤ 8) {Q : Opd → Rho → Prop} {X : Ex → Rho → Prop}
    (hq : Q (.nob (.lst ((allF ns).map oF))) [.par (.list (ns.map .str))]) : wp (m__law_all_facts [.par (.list (ns.map .str))]) Q X := by
  have lp : ∀ {p0 s2 s3 s4 s5 s6 : Dl.Slot}, frS s2 = true → frS s3 = true → frS s4 = true → frS s5 = true → frS s6 = true → ∀ {QF : Dl.Flow → Rho → Prop} {X : Ex → Rho → Prop}, (∀ s2 s3 s4 s5 s6, QF .nx [p0, .obj (.lst ((allF ns).map oF)), s2, s3, s4, s5, s6]) →
      wp (sLoop (gN 2) (sSeq (sSet 3 (eLstN aNil)) (sSeq (sForK 1 4 afB) (sMv 1 3))) (ns.map .str) [p0, .obj (.lst [T.own (.dict [])]), s2, s3, s4, s5, s6]) QF X := by
    intro p0 s2 s3 s4 s5 s6 f2 f3 f4 f5 f6 QF X q
    generalize ns = ms at *
    obtain ⟨I, eI⟩ : ∃ I : List Str → Rho → Prop, I = fun pre ρ => ∃ s2 s3 s4 s5 s6, frS s2 = true ∧ frS s3 = true ∧ frS s4 = true ∧ frS s5 = true ∧ frS s6 = true ∧ ρ = [p0, .obj (.lst ((allF pre).map oF)), s2, s3, s4, s5, s6] := ⟨_, rfl⟩
    refine wp_forP (enc := PyData.str) (xs := ms) (I := I) (by rw [eI]; exact ⟨s2, s3, s4, s5, s6, f2, f3, f4, f5, f6, rfl⟩) (fun pre n post ρ hx hI => ?_) fun ρ hI => ?_
    · rw [eI] at hI
      obtain ⟨s2, s3, s4, s5, s6, f2, f3, f4, f5, f6, rfl⟩ := hI
      have hpl : pre.length ≤ 8 := by rw [hx] at hl; simp at hl; omega
      have h1 : (allF pre).length ≤ 4096 := by rw [allF_len]; exact Nat.le_trans (Nat.pow_le_pow_right (by decide) hpl) (by decide)
      have h2 : ∀ f ∈ allF pre, f.length ≤ 100 := fun f hf => Nat.le_trans (allF_short pre f hf) (by omega)
      have inn := fun s4 f4 QF X hq => @inner_wp p0 s4 s5 s6 n (allF pre) h1 h2 f4 f5 f6 QF X hq
      have en : eLstN aNil = fun ρ => .ok (.nob (.lst [])) ρ := rfl
      have fin : ∀ s4 s5 s6, frS s4 = true → frS s5 = true → frS s6 = true → I (pre ++ [n]) [p0, .obj (.lst ((ext (allF pre) n).map oF)), .dat (.str n), .un, s4, s5, s6] := fun s4 s5 s6 g4 g5 g6 => by
        rw [eI]
        exact ⟨_, _, s4, s5, s6, rfl, rfl, g4, g5, g6, by rw [allF_snoc]⟩
      generalize afB = B at *
      refine ⟨[p0, .obj (.lst ((allF pre).map oF)), .dat (.str n), s3, s4, s5, s6], ?_, ?_⟩
      · simp only [frS, free, List.getElem?_cons_zero] at f2
        simp_arith [f2]
      · have f4' := f4
        simp only [frS, free, List.getElem?_cons_zero] at f3
        generalize (allF pre).map oF = AF at *
        simp_arith [en, f3]
        refine inn _ f4' _ _ fun s4 s5 s6 g4 g5 g6 => ?_
        have fin := fin s4 s5 s6 g4 g5 g6
        simp_arith [wp_of mv_eq]
        exact fin
    · rw [eI] at hI
      obtain ⟨s2, s3, s4, s5, s6, f2, f3, f4, f5, f6, rfl⟩ := hI
      exact q s2 s3 s4 s5 s6
  have en : eLstN (aCons (fun ρ => .ok (.new (.dict [])) ρ) aNil) = fun ρ => .ok (.nob (.lst [T.own (.dict [])])) ρ := rfl
  unfold m__law_all_facts
  show wp (fnSem 1 7 (sSeq _ (sSeq (lkd 0 (sFor _ _ (sSeq _ (sSeq (sForK 1 4 afB) _)))) _)) _) Q X
  generalize afB = B at *
  generalize (allF ns).map oF = AF at *
  have lp2 := fun QF X q => @lp (.lck (.list (ns.map .str))) .un .un .un .un .un rfl rfl rfl rfl rfl QF X q
  clear lp
  simp_arith [en]
  refine lp2 _ _ fun s2 s3 s4 s5 s6 => ?_
  simp_arith
  exact hq
theorem eq_ints (a b : Int) : pyEq (.int a) (.int b) = some (.val (.bool (decide (a = b)))) := enc_int.pyEq (x := a) (y := b) (by decide) trivial trivial
def mergeB (fs gs : Li) : Li := gs.foldl (fun acc p => putB acc p.1 p.2) fs
theorem dputs_tr : ∀ (gs fs : Li), dputs (tr fs) (tr gs) = tr (mergeB fs gs)
  | [], _ => rfl
  | (s, b) :: gs, fs => by
    have e : tr ((s, b) :: gs) = (.str s, .bool b) :: tr gs := rfl
    have := dputs_tr gs (putB fs s b)
    rw [e]
    show dputs (match keyOf (PyData.str s) with
      | some κ => dput (tr fs) κ (PyData.bool b)
      | none => tr fs) (tr gs) = _
    have k : keyOf (PyData.str s) = some (.inr s) := rfl
    rw [k]
    dsimp only
    rw [dput_tr, this]
    rfl
theorem mergeB_len : ∀ (gs fs : Li), (mergeB fs gs).length ≤ fs.length + gs.length
  | [], _ => Nat.le_refl _
  | p :: gs, fs => by
    have h1 := mergeB_len gs (putB fs p.1 p.2)
    have h2 := putB_len fs p.1 p.2
    show (mergeB (putB fs p.1 p.2) gs).length ≤ _
    rw [List.length_cons]
    omega
theorem mergeB_nd : ∀ (gs : Li) {fs : Li}, (fs.map (·.1)).Nodup → ((mergeB fs gs).map (·.1)).Nodup
  | [], _, h => h
  | p :: gs, fs, h => mergeB_nd gs (putB_nd h)
theorem mergeB_keep : ∀ (gs : Li) {fs : Li} {n : Str}, (look fs n).isSome → (look (mergeB fs gs) n).isSome
  | [], _, _, h => h
  | p :: gs, fs, n, h => mergeB_keep gs (by
    rw [look_put]
    split
    · rfl
    · exact h)
theorem mergeB_new : ∀ (gs : Li) {fs : Li} {n : Str}, (look gs n).isSome → (look (mergeB fs gs) n).isSome
  | [], _, _, h => by cases h
  | p :: gs, fs, n, h => by
    by_cases e : p.1 = n
    · exact mergeB_keep gs (by rw [look_put, if_pos e.symm]; rfl)
    · refine mergeB_new gs ?_
      unfold look at h ⊢
      rw [List.find?_cons] at h
      simpa [e] using h
theorem upd_tr {fs gs : Li} (h : fs.length + gs.length ≤ 16777216) : mDUpd (.dict (tr fs)) [.dict (tr gs)] = some (.dict (tr (mergeB fs gs)), .none) := by
  unfold mDUpd
  dsimp only
  rw [if_pos (by rw [tr_len, tr_len, sizeLine_eq]; exact h), dputs_tr]
theorem Gf.upd {r : Ru} {n m : Nat} {f g : Li} (h : Gf r n f) (hg : g.length ≤ m) : Gf r (n + m) (mergeB f g) :=
  ⟨fun s hs => mergeB_keep g (h.has s hs), mergeB_nd g h.nd, by have := mergeB_len g f; have := h.len; omega⟩
theorem Gf.behind {r : Ru} {n m : Nat} {f g : Li} (h : Gf r n f) (hg : g.length ≤ m) (nd : (g.map (·.1)).Nodup) : Gf r (m + n) (mergeB g f) :=
  ⟨fun s hs => mergeB_new f (h.has s hs), mergeB_nd f nd, by have := mergeB_len f g; have := h.len; omega⟩
theorem Gf.put {r : Ru} {n : Nat} {f : Li} {s : Str} {b : Bool} (h : Gf r n f) : Gf r (n + 1) (putB f s b) :=
  ⟨fun t ht => by
    rw [look_put]
    split
    · rfl
    · exact h.has t ht, putB_nd h.nd, by have := putB_len f s b; have := h.len; omega⟩
theorem allF_good {r : Ru} : ∀ f ∈ allF (canon r.names), Gf r (canon r.names).length f := fun f hf => by
  have h1 := allF_ind (P := fun ns f => (∀ n ∈ ns, (look f n).isSome) ∧ (f.map (·.1)).Nodup) ⟨by simp, .nil⟩ (fun ns n f b h => ⟨fun s hs => by
    rw [look_put]
    split
    · rfl
    · rename_i hne
      rcases List.mem_append.mp hs with z | z
      · exact h.1 s z
      · exact absurd (List.mem_singleton.mp z) hne, putB_nd h.2⟩) (canon r.names) f hf
  exact ⟨fun s hs => h1.1 s (canon_mem.mpr hs), h1.2, allF_short _ f hf⟩
theorem right_wp {r : Ru} {f : Li} {n : Nat} (hr : r.dep ≤ 6) (g : Gf r n f) {Q : Opd → Rho → Prop} {X : Ex → Rho → Prop} (h : Q (.val (.bool true)) [.dat r.toD, .par (.dict (tr f))]) : wp (m__law_right [.dat r.toD, .par (.dict (tr f))]) Q X := by
  unfold m__law_right
  have e1 := holds_eq (s := .par (.dict (tr f))) (.inr (.inl rfl)) hr g.has
  have e2 := law_holds_eq (fs := f) 7 r (s := .par (.dict (tr f))) (.inr (.inl rfl)) (by omega) g.has
  have dt := dict_tr f
  have eq := eq_tr g.nd
  generalize r.toD = R at *
  generalize r.val (ev f) = b at *
  have ib := isD_b b
  have eb : pyEq (.bool b) (.bool b) = some (.val (.bool true)) := by cases b <;> rfl
  generalize tr f = TF at *
  generalize PyData.bool b = B at *
  simp -dsimp -implicitDefEqProofs [Dl.T.odd, Dl.vI, Dl.vB, Dl.vS, Dl.run2, Dl.run1, Dl.deref, Dl.Slot.data?, Dl.Slot.tree?, Dl.T.toD, Dl.toDs, Dl.useO, Dl.useAll, Dl.boolOf, Dl.putO, Dl.free, Dl.outO, Dl.withAll, Dl.runN, Dl.derefs, Dl.mutO, Dl.isLst, Dl.isDct, Dl.putI, Dl.putD, Dl.setI, Dl.augO, Dl.getI, Dl.slotOf, Dl.slotsOf, Dl.lents, Dl.takeB, Dl.backS, Dl.useSel, Dl.back, Dl.gd, Dl.pyIx, atI, ixN, Dl.pyGet, Dl.pyMul, Dl.pyAdd, Dl.pyNe, Dl.mulOk, Dl.powOk, Dl.pySlice, Dl.fLen, Dl.fList, Dl.fTuple, Dl.mAppend, Dl.mReverse, Dl.mClear, Dl.mExtend, Dl.mInsert, Dl.mkTup, Dl.mkLst, Dl.pyIsN, Dl.pyNotN, Dl.fNeg, Dl.pyRev, Dl.gN, Dl.gsNil, Dl.gsCons, Dl.gT, Dl.srcL, Dl.srcT, Dl.srcS, Dl.srcQ, Dl.srcR1, Dl.srcR2, Dl.hide, Dl.restore, sizeLine_eq, Dl.lockS, Dl.pyIs, Dl.fInt, Dl.dpopO, Dl.lstN, Dl.newsOf, Dl.viewR, Dl.viewS, Dl.treeS, Dl.scal, Dl.sRetT, Dl.srcE, Dl.getO, Dl.mDClear, Dl.fSortSet2, Dl.mExt, Dl.fListK, dt, e1, e2, ib, eb, eq]
  exact h
theorem behind_wp {f g : Li} (hl : g.length + f.length ≤ 16777216) {Q : Opd → Rho → Prop} {X : Ex → Rho → Prop} (h : Q (.new (.dict (tr (mergeB g f)))) [.par (.dict (tr g)), .dat (.dict (tr f))]) : wp (m__law_behind [.par (.dict (tr g)), .dat (.dict (tr f))]) Q X := by
  unfold m__law_behind
  have dt := dict_tr g
  have up := upd_tr hl
  generalize tr (mergeB g f) = TM at *
  generalize tr f = TF at *
  generalize tr g = TG at *
  simp_arith [dt, up, isDct, mutO]
  exact h
noncomputable def mT13 : MS :=
   (sRet (eC (.bool true)))
noncomputable def mT12 : MS :=
   (sSeq (sFor (iRng (aCons (eBlt fMin2 (aCons (eC (.int 8)) (aCons (eOp2 pyMul (eC (.int 4)) (eBlt fLen (aCons (eVar 9) aNil))) aNil))) aNil)) (gN 10)
   (sSeq (sSet 6 (eOp2 pyAt (eVar 9) (eCall 2 [true, true] m__law_draw (aCons (eVar 1) (aCons (eBlt fLen (aCons (eVar 9) aNil)) aNil)))))
   (sSeq (sPutD 8 (eVar 6) (eNot (eOp2 pyAt (eVar 8) (eVar 6))))
   (sIf (tNotM (tVal (eCall 2 [true, true] m__law_right (aCons (eVar 3) (aCons (eVar 8) aNil)))))
   (sRet (eC (.bool false)))
   sNil)))) mT13)
noncomputable def mT11 : MS :=
   (sSeq (sTake 8 7 (eCall 2 [true, true] m__law_draw (aCons (eVar 1) (aCons (eView (eBlt fLen (aCons (eVar 7) aNil))) aNil)))) mT12)
noncomputable def mT10 : MS :=
   (sSeq (sSet 9 (eCall 1 [true] (m__law_names_of 7) (aCons (eVar 3) aNil))) mT11)
noncomputable def mT9 : MS :=
   (sSeq (sForK 7 8
   (sSeq (sExp (eMutD 8 mDUpd (aCons (eVar 4) aNil)))
   (sIf (tNotM (tVal (eCall 2 [true, true] m__law_right (aCons (eVar 3) (aCons (eVar 8) aNil)))))
   (sRet (eC (.bool false)))
   sNil))) mT10)
noncomputable def mT8 : MS :=
   (sSeq (sIf (tVal (eOp2 pyEq (eCall 2 [true, true] m__law_draw (aCons (eVar 1) (aCons (eC (.int 2)) aNil))) (eC (.int 1))))
   (sSet 7 (eCompT [8] (iLst (eFz (eVar 7))) (gN 8) tTrue (eCall 2 [true, false] m__law_behind (aCons (eVar 4) (aCons (eVar 8) aNil)))))
   sNil) mT9)
noncomputable def mT7 : MS :=
   (sSeq (sIf (tVal (eOp2 pyEq (eCall 2 [true, true] m__law_draw (aCons (eVar 1) (aCons (eC (.int 2)) aNil))) (eC (.int 1))))
   (sRevK 7)
   sNil) mT8)
noncomputable def mT6 : MS :=
   (sSeq (sSet 7 (eCall 1 [true] m__law_all_facts (aCons (eCall 1 [true] (m__law_names_of 7) (aCons (eVar 3) aNil)) aNil))) mT7)
noncomputable def mT5 : MS :=
   (sSeq (sFor (iLst (eOp2 pyAdd (eSlice (eVar 2) (oSome (eC (.int 5))) (oSome (eOp2 pyAdd (eC (.int 5)) (eCall 2 [true, true] m__law_draw (aCons (eVar 1) (aCons (eC (.int 4)) aNil)))))) (lkd 5 (eComp [11] (iLst (eVar 5)) (gN 11) (tVal (eOp2 (orf pyNotIn pyNotInK) (eVar 11) (eVar 2))) (eVar 11))))) (gN 6)
   (sPutD 4 (eVar 6) (eOp2 pyEq (eCall 2 [true, true] m__law_draw (aCons (eVar 1) (aCons (eC (.int 2)) aNil))) (eC (.int 1))))) mT6)
noncomputable def mT4 : MS :=
   (sSeq (sSet 5 (eSlice (eUse mkLst (aCons (eC (.str "far")) (aCons (eC (.str "near")) (aCons (eC (.str "low")) (aCons (eC (.str "high")) (aCons (eC (.str "left")) (aCons (eC (.str "right")) (aCons (eC (.str "east")) (aCons (eC (.str "west")) aNil))))))))) oNone (oSome (eCall 2 [true, true] m__law_draw (aCons (eVar 1) (aCons (eC (.int 9)) aNil)))))) mT5)
noncomputable def mT3 : MS :=
   (sSeq (sSet 4 (fun ρ => .ok (.new (.dict [])) ρ)) mT4)
noncomputable def mT2 : MS :=
   (sSeq (sSet 3 (eCall 3 [true, true, true] (m__law_rule 7) (aCons (eVar 1) (aCons (eSlice (eVar 2) oNone (oSome (eOp2 pyAdd (eC (.int 1)) (eCall 2 [true, true] m__law_draw (aCons (eVar 1) (aCons (eC (.int 5)) aNil)))))) (aCons (eOp2 pyAdd (eC (.int 1)) (eCall 2 [true, true] m__law_draw (aCons (eVar 1) (aCons (eC (.int 6)) aNil)))) aNil))))) mT3)
noncomputable def mT1 : MS :=
   (sSeq (sSet 2 (eCall 2 [true, true] m__law_names (aCons (eVar 1) (aCons (eC (.int 8)) aNil)))) mT2)
theorem mb_cut : mb_law = mT1 := rfl
abbrev QT : Dl.Flow → Rho → Prop := kf (fun _ => False) (fun f _ => f = .rt (.val (.bool true)))
def oneB : MS := (sSeq (sSet 6 (eOp2 pyAt (eVar 9) (eCall 2 [true, true] m__law_draw (aCons (eVar 1) (aCons (eBlt fLen (aCons (eVar 9) aNil)) aNil)))))
   (sSeq (sPutD 8 (eVar 6) (eNot (eOp2 pyAt (eVar 8) (eVar 6))))
   (sIf (tNotM (tVal (eCall 2 [true, true] m__law_right (aCons (eVar 3) (aCons (eVar 8) aNil)))))
   (sRet (eC (.bool false)))
   sNil)))
theorem t12 {d S : D} {s4 s5 s6 : Dl.Slot} {r : Ru} {f : Li} (hd : Hand d) (hr : r.dep ≤ 6) (hc : (canon r.names).length ≤ 5) (g : Gf r 600 f) (f6 : frS s6 = true) :
    wp (mT12 [.un, .own d, .own S, .dat r.toD, s4, s5, s6, .un, .own (.dict (tr f)), .own (.list ((canon r.names).map .str)), .un, .un]) QT NoX := by
  obtain ⟨N, hN, hmin⟩ : ∃ N : Nat, (N ≤ 8 ∧ (0 < N → canon r.names ≠ [])) ∧ fMin2 [.int 8, .int (4 * ((canon r.names).length : Int))] = some (.val (.int (N : Int))) := by
    unfold fMin2
    dsimp only
    split
    · rename_i h
      refine ⟨4 * (canon r.names).length, ⟨by omega, fun h e => by rw [e] at h; simp at h⟩, ?_⟩
      rw [Int.natCast_mul]; rfl
    · rename_i h
      exact ⟨8, ⟨by omega, fun _ e => by rw [e] at h; simp at h⟩, rfl⟩
  have ml : pyMul (.int 4) (.int ((canon r.names).length : Int)) = some (.val (.int (4 * ((canon r.names).length : Int)))) := by
    generalize (canon r.names).length = n at *
    have : n = 0 ∨ n = 1 ∨ n = 2 ∨ n = 3 ∨ n = 4 ∨ n = 5 := by omega
    rcases this with rfl | rfl | rfl | rfl | rfl | rfl <;> rfl
  have ll : fLen [.list ((canon r.names).map PyData.str)] = some (.val (.int ((canon r.names).length : Int))) := by simp [fLen]
  have lp : ∀ {NF : Rho → Prop} {O : Dl.Flow → Rho → Prop} {X : Ex → Rho → Prop}, (∀ ρ, NF ρ) → wp (sLoop (gN 10) oneB ((List.range N).map fun i => PyData.int (i : Nat)) [.un, .own d, .own S, .dat r.toD, s4, s5, s6, .un, .own (.dict (tr f)), .own (.list ((canon r.names).map .str)), .un, .un]) (kf NF O) X := by
    intro NF O X q
    obtain ⟨I, eI⟩ : ∃ I : Nat → Rho → Prop, I = fun i ρ => ∃ (d : D) (f : Li) (s6 s10 : Dl.Slot), Hand d ∧ Gf r (600 + i) f ∧ frS s6 = true ∧ frS s10 = true ∧ ρ = [.un, .own d, .own S, .dat r.toD, s4, s5, s6, .un, .own (.dict (tr f)), .own (.list ((canon r.names).map .str)), s10, .un] := ⟨_, rfl⟩
    refine wp_for I (by rw [eI]; exact ⟨d, f, s6, .un, hd, g, f6, rfl, rfl⟩) (fun j x ρ hx hI => ?_) fun ρ _ => q ρ
    rw [eI] at hI
    obtain ⟨d, f, s6, s10, hd, g, f6, f10, rfl⟩ := hI
    obtain ⟨rfl, hj⟩ := range_at hx
    have hne := hN.2 (by omega)
    have hpos : 0 < (canon r.names).length := List.length_pos_iff.mpr hne
    simp only [frS, free, List.getElem?_cons_zero] at f6 f10
    refine ⟨[.un, .own d, .own S, .dat r.toD, s4, s5, s6, .un, .own (.dict (tr f)), .own (.list ((canon r.names).map .str)), .dat (.int (j : Nat)), .un], by simp_arith [f10], ?_⟩
    have go : ∀ (k : Int) (d : D), Hand d → 0 ≤ k → k < (canon r.names).length → ∃ (m : Str) (c : Bool), pyAt (.list ((canon r.names).map .str)) (.int k) = some (.val (.str m)) ∧ pyAt (.dict (tr f)) (.str m) = some (.val (.bool c)) ∧ setK (.dict (tr f)) (.str m) (.bool (!c)) = some (.dict (tr (putB f m (!c)))) ∧ Gf r (600 + (j + 1)) (putB f m (!c)) := fun k d hd k0 k1 => by
      obtain ⟨m, hm⟩ : ∃ m, (canon r.names)[k.toNat]? = some m := ⟨_, List.getElem?_eq_getElem (by omega)⟩
      obtain ⟨c, hc⟩ := Option.isSome_iff_exists.mp (g.has m (canon_mem.mp (List.mem_of_getElem? hm)))
      exact ⟨m, c, at_enc (f := PyData.str) k0 hm, at_tr hc, setK_tr (by have := g.len; omega), g.put⟩
    have rw_ := fun (f : Li) (n : Nat) (g : Gf r n f) (Q : Opd → Rho → Prop) (X : Ex → Rho → Prop) h => @right_wp r f n hr g Q X h
    unfold oneB
    generalize m__law_right = RM at *
    generalize hC : (canon r.names).map PyData.str = C at *
    generalize hn : (canon r.names).length = n at *
    generalize hR : r.toD = R at *
    simp -dsimp -implicitDefEqProofs [Dl.T.odd, Dl.vI, Dl.vB, Dl.vS, Dl.run2, Dl.run1, Dl.deref, Dl.Slot.data?, Dl.Slot.tree?, Dl.T.toD, Dl.toDs, Dl.useO, Dl.useAll, Dl.boolOf, Dl.putO, Dl.free, Dl.outO, Dl.withAll, Dl.runN, Dl.derefs, Dl.mutO, Dl.isLst, Dl.isDct, Dl.putI, Dl.putD, Dl.setI, Dl.augO, Dl.getI, Dl.slotOf, Dl.slotsOf, Dl.lents, Dl.takeB, Dl.backS, Dl.useSel, Dl.back, Dl.gd, Dl.pyIx, atI, ixN, Dl.pyGet, Dl.pyMul, Dl.pyAdd, Dl.pyEq, Dl.pyNe, Dl.mulOk, Dl.powOk, Dl.pySlice, Dl.fList, Dl.fTuple, Dl.mAppend, Dl.mReverse, Dl.mClear, Dl.mExtend, Dl.mInsert, Dl.mkTup, Dl.mkLst, Dl.pyIsN, Dl.pyNotN, Dl.fNeg, Dl.pyRev, Dl.gN, Dl.gsNil, Dl.gsCons, Dl.gT, Dl.srcL, Dl.srcT, Dl.srcS, Dl.srcQ, Dl.srcR1, Dl.srcR2, Dl.hide, Dl.restore, sizeLine_eq, Dl.lockS, Dl.pyIs, Dl.fInt, Dl.dpopO, Dl.lstN, Dl.newsOf, Dl.viewR, Dl.viewS, Dl.treeS, Dl.scal, Dl.sRetT, Dl.srcE, Dl.getO, Dl.mDClear, Dl.fSortSet2, Dl.mExt, Dl.fListK, ll]
    refine wp_draw (n := ((n : Nat) : Int)) hd (by omega) (Int.le_trans (show (n : Int) ≤ 9000 by omega) (by decide)) fun k d hd k0 k1 => ?_
    obtain ⟨m, c, h1, h2, h3, h4⟩ := go k d hd k0 k1
    have rr := rw_ _ _ h4
    generalize hT2 : tr (putB f m (!c)) = T2 at *
    generalize tr f = T1 at *
    generalize hc2 : (!c) = c2 at *
    have nb : ∀ ρ, eNot (fun ρ => .ok (.val (.bool c)) ρ) ρ = .ok (.val (.bool c2)) ρ := fun ρ => by rw [← hc2]; rfl
    simp_arith [h1, h2, h3, hc2, f6, isDct, -pyAt_list]
    refine rr _ _ ?_
    simp_arith
    rw [eI]
    exact ⟨d, _, _, _, hd, h4, rfl, rfl, by rw [hT2]⟩
  unfold mT12 mT13
  show wp (sSeq (sFor _ _ oneB) _ _) _ _
  generalize oneB = B at *
  generalize (canon r.names).map PyData.str = C at *
  generalize (canon r.names).length = n at *
  generalize r.toD = R at *
  simp -dsimp -implicitDefEqProofs [Dl.T.odd, Dl.vI, Dl.vB, Dl.vS, Dl.run2, Dl.run1, Dl.deref, Dl.Slot.data?, Dl.Slot.tree?, Dl.T.toD, Dl.toDs, Dl.useO, Dl.useAll, Dl.boolOf, Dl.putO, Dl.free, Dl.outO, Dl.withAll, Dl.runN, Dl.derefs, Dl.mutO, Dl.isLst, Dl.isDct, Dl.putI, Dl.putD, Dl.setI, Dl.augO, Dl.getI, Dl.slotOf, Dl.slotsOf, Dl.lents, Dl.takeB, Dl.backS, Dl.useSel, Dl.back, Dl.gd, Dl.pyIx, atI, ixN, Dl.pyGet, Dl.pyAdd, Dl.pyEq, Dl.pyNe, Dl.mulOk, Dl.powOk, Dl.pySlice, Dl.fList, Dl.fTuple, Dl.mAppend, Dl.mReverse, Dl.mClear, Dl.mExtend, Dl.mInsert, Dl.mkTup, Dl.mkLst, Dl.pyIsN, Dl.pyNotN, Dl.fNeg, Dl.pyRev, Dl.gN, Dl.gsNil, Dl.gsCons, Dl.gT, Dl.srcL, Dl.srcT, Dl.srcS, Dl.srcQ, Dl.srcR1, Dl.srcR2, Dl.hide, Dl.restore, sizeLine_eq, Dl.lockS, Dl.pyIs, Dl.fInt, Dl.dpopO, Dl.lstN, Dl.newsOf, Dl.viewR, Dl.viewS, Dl.treeS, Dl.scal, Dl.sRetT, Dl.srcE, Dl.getO, Dl.mDClear, Dl.fSortSet2, Dl.mExt, Dl.fListK, ll, ml, hmin]
  exact ⟨by omega, lp fun ρ => by simp_arith⟩
theorem toDs_of : ∀ (L : List Li), toDs (L.map oF) = some (L.map fD)
  | [] => rfl
  | f :: L => by
    rw [List.map_cons, List.map_cons]
    show toDs (T.own (fD f) :: L.map oF) = _
    unfold toDs
    rw [toDs_of L]
    rfl
theorem toD_of (L : List Li) : T.toD (.lst (L.map oF)) = some (.list (L.map fD)) := by
  unfold T.toD
  rw [toDs_of]
  rfl
theorem len_view {p0 p2 p3 p4 p5 p6 p8 p9 p10 p11 : Dl.Slot} {d : D} {rows : List Li} (h : rows.length ≤ 16777216) : eView (eBlt fLen (aCons (eVar 7) aNil)) [p0, .own d, p2, p3, p4, p5, p6, .obj (.lst (rows.map oF)), p8, p9, p10, p11] = .ok (.val (.int (rows.length : Nat))) [p0, .own d, p2, p3, p4, p5, p6, .obj (.lst (rows.map oF)), p8, p9, p10, p11] := by
  have tv : treeS (.lst (rows.map oF)) = .dat (.list (rows.map fD)) := by unfold treeS; rw [toD_of]
  have vw : viewR [p0, .own d, p2, p3, p4, p5, p6, .obj (.lst (rows.map oF)), p8, p9, p10, p11] = [viewS p0, .dat d, viewS p2, viewS p3, viewS p4, viewS p5, viewS p6, treeS (.lst (rows.map oF)), viewS p8, viewS p9, viewS p10, viewS p11] := rfl
  have ll : fLen [.list (rows.map fD)] = some (.val (.int (rows.length : Nat))) := by simp [fLen]
  have e : wp (eBlt fLen (aCons (eVar 7) aNil) [viewS p0, .dat d, viewS p2, viewS p3, viewS p4, viewS p5, viewS p6, .dat (.list (rows.map fD)), viewS p8, viewS p9, viewS p10, viewS p11]) (fun o _ => o = .val (.int (rows.length : Nat))) NoX := by
    generalize rows.map fD = L at *
    simp -dsimp -implicitDefEqProofs [Dl.T.odd, Dl.vI, Dl.vB, Dl.vS, Dl.run2, Dl.run1, Dl.deref, Dl.Slot.data?, Dl.Slot.tree?, Dl.T.toD, Dl.toDs, Dl.useO, Dl.useAll, Dl.boolOf, Dl.putO, Dl.free, Dl.outO, Dl.withAll, Dl.runN, Dl.derefs, Dl.mutO, Dl.isLst, Dl.isDct, Dl.putI, Dl.putD, Dl.setI, Dl.augO, Dl.getI, Dl.slotOf, Dl.slotsOf, Dl.lents, Dl.takeB, Dl.backS, Dl.useSel, Dl.back, Dl.gd, Dl.pyIx, atI, ixN, Dl.pyGet, Dl.pyMul, Dl.pyAdd, Dl.pyEq, Dl.pyNe, Dl.mulOk, Dl.powOk, Dl.pySlice, Dl.fList, Dl.fTuple, Dl.mAppend, Dl.mReverse, Dl.mClear, Dl.mExtend, Dl.mInsert, Dl.mkTup, Dl.mkLst, Dl.pyIsN, Dl.pyNotN, Dl.fNeg, Dl.pyRev, Dl.gN, Dl.gsNil, Dl.gsCons, Dl.gT, Dl.srcL, Dl.srcT, Dl.srcS, Dl.srcQ, Dl.srcR1, Dl.srcR2, Dl.hide, Dl.restore, sizeLine_eq, Dl.lockS, Dl.pyIs, Dl.fInt, Dl.dpopO, Dl.lstN, Dl.newsOf, Dl.viewR, Dl.viewS, Dl.treeS, Dl.scal, Dl.sRetT, Dl.srcE, Dl.getO, Dl.mDClear, Dl.fSortSet2, Dl.mExt, Dl.fListK, ll]
  obtain ⟨o, ρ1, e1, e2⟩ := wp_out e
  unfold eView
  rw [vw, tv, e1, e2]
  rfl
theorem t11 {d S : D} {s4 s5 s6 : Dl.Slot} {r : Ru} {rows : List Li} (hd : Hand d) (hr : r.dep ≤ 6) (hc : (canon r.names).length ≤ 5) (g : ∀ f ∈ rows, Gf r 600 f) (h0 : rows ≠ []) (hl : rows.length ≤ 64) (f6 : frS s6 = true) :
    wp (mT11 [.un, .own d, .own S, .dat r.toD, s4, s5, s6, .obj (.lst (rows.map oF)), .un, .own (.list ((canon r.names).map .str)), .un, .un]) QT NoX := by
  have tl := fun d f (hd : Hand d) (g : Gf r 600 f) => @t12 d S s4 s5 s6 r f hd hr hc g f6
  have lv := fun (d : D) => @len_view .un (.own S) (.dat r.toD) s4 s5 s6 .un (.own (.list ((canon r.names).map .str))) .un .un d rows (by omega)
  have hpos : 0 < rows.length := List.length_pos_iff.mpr h0
  have tk : ∀ (k : Int) (d : D), 0 ≤ k → k < rows.length → ∃ f, Gf r 600 f ∧ takeP 8 7 (.val (.int k)) [.un, .own d, .own S, .dat r.toD, s4, s5, s6, .obj (.lst (rows.map oF)), .un, .own (.list ((canon r.names).map .str)), .un, .un] = .ok .nx [.un, .own d, .own S, .dat r.toD, s4, s5, s6, .un, .own (.dict (tr f)), .own (.list ((canon r.names).map .str)), .un, .un] := fun k d k0 k1 => by
    obtain ⟨f, hf⟩ : ∃ f, rows[k.toNat]? = some f := ⟨_, List.getElem?_eq_getElem (by omega)⟩
    refine ⟨f, g f (List.mem_of_getElem? hf), ?_⟩
    have e : (rows.map oF)[k.toNat]? = some (.own (.dict (tr f))) := by rw [List.getElem?_map, hf]; rfl
    show (if 0 ≤ k ∧ (8 : Nat) ≠ 7 ∧ _ then _ else _) = _
    rw [if_pos ⟨k0, by decide, rfl⟩, e]
    rfl
  unfold mT11
  generalize mT12 = TL at *
  generalize rows.map oF = OF at *
  generalize (canon r.names).map PyData.str = C at *
  generalize r.toD = R at *
  simp_arith [lv]
  refine wp_draw (n := ((rows.length : Nat) : Int)) hd (by omega) (Int.le_trans (show (rows.length : Int) ≤ 9000 by omega) (by decide)) fun k d hd k0 k1 => ?_
  obtain ⟨f, gf, e⟩ := tk k d k0 k1
  simp_arith [wp_of e]
  exact tl d f hd gf
def eachB : MS := (sSeq (sExp (eMutD 8 mDUpd (aCons (eVar 4) aNil)))
   (sIf (tNotM (tVal (eCall 2 [true, true] m__law_right (aCons (eVar 3) (aCons (eVar 8) aNil)))))
   (sRet (eC (.bool false)))
   sNil))
theorem t9 {d S F : D} {s6 : Dl.Slot} {r : Ru} {rows : List Li} {more : Li} (hd : Hand d) (hr : r.dep ≤ 6) (hnm : ∀ s ∈ r.names, Nm s) (hc : (canon r.names).length ≤ 5) (g : ∀ f ∈ rows, Gf r 500 f) (h0 : rows ≠ []) (hl : rows.length ≤ 64) (hm : more.length ≤ 100) (f6 : frS s6 = true) :
    wp (mT9 [.un, .own d, .own S, .dat r.toD, .own (.dict (tr more)), .own F, s6, .obj (.lst (rows.map oF)), .un, .un, .un, .un]) QT NoX := by
  have tl := fun s4 (rs : List Li) (g : ∀ f ∈ rs, Gf r 600 f) (h0 : rs ≠ []) (hl : rs.length ≤ 64) => @t11 d S s4 (.own F) s6 r rs hd hr hc g h0 hl f6
  have fk : ∀ {NF : Rho → Prop} {O : Dl.Flow → Rho → Prop} {X : Ex → Rho → Prop}, (∀ s4 (rs : List Li), (∀ f ∈ rs, Gf r 600 f) → rs.length = rows.length → NF [.un, .own d, .own S, .dat r.toD, s4, .own F, s6, .obj (.lst (rs.map oF)), .un, .un, .un, .un]) → wp (sForK 7 8 eachB [.un, .own d, .own S, .dat r.toD, .own (.dict (tr more)), .own F, s6, .obj (.lst (rows.map oF)), .un, .un, .un, .un]) (kf NF O) X := by
    intro NF O X q
    refine wp_sForK (ds := rows.map fD) (by rw [of_map]; rfl) (by decide) (fun pre done ρ => ∃ (rs : List Li) (s4 : Dl.Slot), done = rs.map fD ∧ rs.length = pre.length ∧ (∀ f ∈ rs, Gf r 600 f) ∧ (s4 = .own (.dict (tr more)) ∨ s4 = .dat (.dict (tr more))) ∧ ρ = [.un, .own d, .own S, .dat r.toD, s4, .own F, s6, .opa .gone, .un, .un, .un, .un]) ⟨[], _, rfl, rfl, by simp, .inl rfl, rfl⟩ (fun pre x rest done ρ hx hJ => ?_) fun done ρ hJ => ?_
    · obtain ⟨rs, s4, rfl, hl1, hg, h4, rfl⟩ := hJ
      have hmm : x ∈ rows.map fD := by rw [hx]; simp
      obtain ⟨f, hf, rfl⟩ := List.mem_map.mp hmm
      have gf := g f hf
      have gu := gf.upd (m := 100) hm
      have up := @upd_tr f more (by have := gf.len; omega)
      have rr := fun Q X h => @right_wp r (mergeB f more) (500 + 100) hr gu Q X h
      refine ⟨rfl, by simp, ?_⟩
      have fin : ∃ d', (Dl.Slot.par (.dict (tr (mergeB f more)))) = .par d' ∧ (∃ (rs' : List Li), rs.map fD ++ [d'] = rs'.map fD ∧ rs'.length = (pre ++ [fD f]).length ∧ (∀ f ∈ rs', Gf r 600 f)) := ⟨_, rfl, rs ++ [mergeB f more], by rw [List.map_append]; rfl, by simp [hl1], fun h hh => by
        rcases List.mem_append.mp hh with z | z
        · exact hg h z
        · rw [List.mem_singleton.mp z]; exact gu⟩
      obtain ⟨d', e', rs', e1, e2, e3⟩ := fin
      unfold eachB
      generalize m__law_right = RM at *
      generalize tr (mergeB f more) = TU at *
      unfold fD
      generalize tr f = TF at *
      generalize tr more = TM at *
      generalize r.toD = R at *
      rcases h4 with rfl | rfl
      · simp_arith [up, isDct, mutO]
        refine rr _ _ ?_
        simp_arith
        cases e'
        exact ⟨rs', e1, by rw [e2]; simp, e3⟩
      · simp_arith [up, isDct, mutO]
        refine rr _ _ ?_
        simp_arith
        cases e'
        exact ⟨rs', e1, by rw [e2]; simp, e3⟩
    · obtain ⟨rs, s4, rfl, hl1, hg, h4, rfl⟩ := hJ
      have := q s4 rs hg (by rw [hl1, List.length_map])
      unfold closeR
      rw [of_map]
      exact this
  have en := law_names_of_eq 7 r (by omega) hr hnm
  have ne : ∀ rs : List Li, rs.length = rows.length → rs ≠ [] := fun rs h e => by
    rw [e] at h
    exact h0 (List.length_eq_zero_iff.mp h.symm)
  unfold mT9 mT10
  show wp (sSeq (sForK 7 8 eachB) _ _) _ _
  generalize eachB = B at *
  generalize mT11 = TL at *
  generalize (canon r.names).map PyData.str = C at *
  generalize r.toD = R at *
  generalize rows.map oF = OF at *
  simp_arith
  refine fk fun s4 rs h1 h2 => ?_
  have tl := tl s4 rs h1 (ne rs h2) (by omega)
  generalize rs.map oF = OR at *
  simp_arith [en]
  exact tl
theorem wp_eCompT {vs : List Nat} {mi : MI} {mg : MG} {mt : MT} {me : ME} {ρ : Rho} {QO : Opd → Rho → Prop} {X : Ex → Rho → Prop} : wp (eCompT vs mi mg mt me ρ) QO X = wp (mi ρ) (fun s ρ1 => wp (compT vs mg mt me s.ds [] ρ1) QO X) X := by
  unfold eCompT
  rw [wp_bind]
theorem wp_compT1 {vs : List Nat} {mg : MG} {me : ME} {d : D} {ds : List D} {acc : List T} {ρ ρ2 : Rho} {QO : Opd → Rho → Prop} {X : Ex → Rho → Prop} (hm : mg d (hide vs ρ) = some ρ2) (ha : acc.length < 16777216)
    (h : wp (me ρ2) (fun o ρ4 => ∃ t, treeN o = some t ∧ wp (compT vs mg tTrue me ds (acc ++ [t]) (restore vs ρ ρ4)) QO X) NoX) : wp (compT vs mg tTrue me (d :: ds) acc ρ) QO X := by
  unfold compT
  rw [hm]
  show wp ((noEx (me ρ2)).bind _) QO X
  cases e : me ρ2 with
  | fail => rw [e] at h; exact h.elim
  | ex x ρ' => rw [e] at h; exact h.elim
  | ok o ρ4 =>
    rw [e] at h
    obtain ⟨t, h1, h2⟩ := h
    show wp (match treeN o with
      | some x => if acc.length < sizeLine then compT vs mg tTrue me ds (acc ++ [x]) (restore vs ρ ρ4) else .fail
      | none => .fail) QO X
    rw [h1]
    dsimp only
    rw [if_pos (by rw [sizeLine_eq]; exact ha)]
    exact h2
def behE : ME := (eCall 2 [true, false] m__law_behind (aCons (eVar 4) (aCons (eVar 8) aNil)))
theorem comp_wp {d S F L : D} {R : D} {s6 : Dl.Slot} {more : Li} (hm : more.length ≤ 100) {QO : Opd → Rho → Prop} {X : Ex → Rho → Prop} : ∀ (fs done : List Li), (∀ f ∈ fs, f.length ≤ 400) → done.length + fs.length ≤ 64 →
    QO (.nob (.lst ((done ++ fs.map (mergeB more)).map oF))) [.un, .own d, .own S, .dat R, .own (.dict (tr more)), .own F, s6, .dat L, .un, .un, .un, .un] →
    wp (compT [8] (gN 8) tTrue behE (fs.map fD) (done.map oF) [.un, .own d, .own S, .dat R, .own (.dict (tr more)), .own F, s6, .dat L, .un, .un, .un, .un]) QO X
  | [], done, _, _, h => by
    rw [List.map_nil, List.append_nil] at h
    exact h
  | f :: fs, done, hf, hl, h => by
    rw [List.length_cons] at hl
    have ih := comp_wp hm (d := d) (S := S) (F := F) (L := L) (R := R) (s6 := s6) (QO := QO) (X := X) fs (done ++ [mergeB more f]) (fun g hg => hf g (List.mem_cons_of_mem _ hg)) (by rw [List.length_append]; simp; omega) (by rw [List.append_assoc]; exact h)
    have bw := fun Q X h => @behind_wp f more (by have := hf f List.mem_cons_self; omega) Q X h
    rw [List.map_cons]
    refine wp_compT1 (ρ2 := [.un, .own d, .own S, .dat R, .own (.dict (tr more)), .own F, s6, .dat L, .dat (fD f), .un, .un, .un]) rfl (by rw [List.length_map]; omega) ?_
    have e : done.map oF ++ [oF (mergeB more f)] = (done ++ [mergeB more f]).map oF := by rw [List.map_append]; rfl
    rw [← e] at ih
    unfold oF at e ih ⊢
    unfold fD at e ih ⊢
    have key : wp (behE [.un, .own d, .own S, .dat R, .own (.dict (tr more)), .own F, s6, .dat L, .dat (.dict (tr f)), .un, .un, .un]) (fun o ρ4 => o = .new (.dict (tr (mergeB more f))) ∧ ρ4 = [.un, .own d, .own S, .dat R, .own (.dict (tr more)), .own F, s6, .dat L, .dat (.dict (tr f)), .un, .un, .un]) NoX := by
      unfold behE
      generalize m__law_behind = BM at *
      generalize tr (mergeB more f) = TU at *
      generalize tr f = TF at *
      generalize tr more = TM at *
      simp_arith
      refine bw _ _ ?_
      simp_arith
    obtain ⟨o, ρ4, e1, rfl, rfl⟩ := wp_out key
    rw [wp_of e1]
    exact ⟨_, rfl, ih⟩
theorem t8 {d S F : D} {s6 : Dl.Slot} {r : Ru} {rows : List Li} {more : Li} (hd : Hand d) (hr : r.dep ≤ 6) (hnm : ∀ s ∈ r.names, Nm s) (hc : (canon r.names).length ≤ 5) (g : ∀ f ∈ rows, Gf r 10 f) (h0 : rows ≠ []) (hl : rows.length ≤ 64) (hm : more.length ≤ 100) (nd : (more.map (·.1)).Nodup) (f6 : frS s6 = true) :
    wp (mT8 [.un, .own d, .own S, .dat r.toD, .own (.dict (tr more)), .own F, s6, .obj (.lst (rows.map oF)), .un, .un, .un, .un]) QT NoX := by
  have tl := fun d (rows : List Li) (hd : Hand d) g h0 hl => @t9 d S F s6 r rows more hd hr hnm hc g h0 hl hm f6
  have t1 := fun d (hd : Hand d) => tl d rows hd (fun f hf => (g f hf).mono (by omega)) h0 hl
  have t2 := fun d (hd : Hand d) => tl d (rows.map (mergeB more)) hd (fun f hf => by
    obtain ⟨q, hq, rfl⟩ := List.mem_map.mp hf
    exact ((g q hq).behind hm nd).mono (by omega)) (by simpa using h0) (by rw [List.length_map]; exact hl)
  have cw := fun (d L : D) (QO : Opd → Rho → Prop) (X : Ex → Rho → Prop) h => @comp_wp d S F L r.toD s6 more hm QO X rows [] (fun f hf => by have := (g f hf).len; omega) (by simpa using hl) h
  rw [List.map_nil, List.nil_append] at cw
  have fz : ∀ d, eFz (eVar 7) [.un, .own d, .own S, .dat r.toD, .own (.dict (tr more)), .own F, s6, .obj (.lst (rows.map oF)), .un, .un, .un, .un] = .ok (.val (.list (rows.map fD))) [.un, .own d, .own S, .dat r.toD, .own (.dict (tr more)), .own F, s6, .dat (.list (rows.map fD)), .un, .un, .un, .un] := fun d => by
    show (match (T.toD (.lst (rows.map oF))).map (fun x => (x, ([.un, .own d, .own S, .dat r.toD, .own (.dict (tr more)), .own F, s6, .obj (.lst (rows.map oF)), .un, .un, .un, .un] : Rho).set 7 (.dat x))) with
      | some (d, ρ2) => Rs.ok (Opd.val d) ρ2
      | none => .fail) = _
    rw [toD_of]
    rfl
  clear tl g
  unfold mT8
  show wp (sSeq (sIf _ (sSet 7 (eCompT [8] _ _ _ behE)) _) _ _) _ _
  generalize behE = BE at *
  generalize mT9 = TL at *
  generalize r.toD = R at *
  generalize rows.map oF = OF at *
  generalize rows.map fD = RD at *
  generalize (rows.map (mergeB more)).map oF = OB at *
  generalize tr more = TM at *
  simp_arith
  refine wp_draw hd (by decide) (by decide) fun k d hd k0 k1 => ?_
  have e1 := eq_ints k 1
  by_cases z : k = 1
  · rw [decide_eq_true z] at e1
    simp -dsimp -implicitDefEqProofs [Dl.T.odd, Dl.vI, Dl.vB, Dl.vS, Dl.run2, Dl.run1, Dl.deref, Dl.Slot.data?, Dl.Slot.tree?, Dl.T.toD, Dl.toDs, Dl.useO, Dl.useAll, Dl.boolOf, Dl.putO, Dl.free, Dl.outO, Dl.withAll, Dl.runN, Dl.derefs, Dl.mutO, Dl.isLst, Dl.isDct, Dl.putI, Dl.putD, Dl.setI, Dl.augO, Dl.getI, Dl.slotOf, Dl.slotsOf, Dl.lents, Dl.takeB, Dl.backS, Dl.useSel, Dl.back, Dl.gd, Dl.pyIx, atI, ixN, Dl.pyGet, Dl.pyMul, Dl.pyAdd, Dl.pyNe, Dl.mulOk, Dl.powOk, Dl.pySlice, Dl.fLen, Dl.fList, Dl.fTuple, Dl.mAppend, Dl.mReverse, Dl.mClear, Dl.mExtend, Dl.mInsert, Dl.mkTup, Dl.mkLst, Dl.pyIsN, Dl.pyNotN, Dl.fNeg, Dl.pyRev, Dl.gN, Dl.gsNil, Dl.gsCons, Dl.gT, Dl.srcL, Dl.srcT, Dl.srcS, Dl.srcQ, Dl.srcR1, Dl.srcR2, Dl.hide, Dl.restore, sizeLine_eq, Dl.lockS, Dl.pyIs, Dl.fInt, Dl.dpopO, Dl.lstN, Dl.newsOf, Dl.viewR, Dl.viewS, Dl.treeS, Dl.scal, Dl.sRetT, Dl.srcE, Dl.getO, Dl.mDClear, Dl.fSortSet2, Dl.mExt, Dl.fListK, e1, wp_eCompT, wp_of (fz _)]
    refine cw _ _ _ _ ?_
    simp_arith
    exact t2 d hd
  · rw [decide_eq_false z] at e1
    simp -dsimp -implicitDefEqProofs [Dl.T.odd, Dl.vI, Dl.vB, Dl.vS, Dl.run2, Dl.run1, Dl.deref, Dl.Slot.data?, Dl.Slot.tree?, Dl.T.toD, Dl.toDs, Dl.useO, Dl.useAll, Dl.boolOf, Dl.putO, Dl.free, Dl.outO, Dl.withAll, Dl.runN, Dl.derefs, Dl.mutO, Dl.isLst, Dl.isDct, Dl.putI, Dl.putD, Dl.setI, Dl.augO, Dl.getI, Dl.slotOf, Dl.slotsOf, Dl.lents, Dl.takeB, Dl.backS, Dl.useSel, Dl.back, Dl.gd, Dl.pyIx, atI, ixN, Dl.pyGet, Dl.pyMul, Dl.pyAdd, Dl.pyNe, Dl.mulOk, Dl.powOk, Dl.pySlice, Dl.fLen, Dl.fList, Dl.fTuple, Dl.mAppend, Dl.mReverse, Dl.mClear, Dl.mExtend, Dl.mInsert, Dl.mkTup, Dl.mkLst, Dl.pyIsN, Dl.pyNotN, Dl.fNeg, Dl.pyRev, Dl.gN, Dl.gsNil, Dl.gsCons, Dl.gT, Dl.srcL, Dl.srcT, Dl.srcS, Dl.srcQ, Dl.srcR1, Dl.srcR2, Dl.hide, Dl.restore, sizeLine_eq, Dl.lockS, Dl.pyIs, Dl.fInt, Dl.dpopO, Dl.lstN, Dl.newsOf, Dl.viewR, Dl.viewS, Dl.treeS, Dl.scal, Dl.sRetT, Dl.srcE, Dl.getO, Dl.mDClear, Dl.fSortSet2, Dl.mExt, Dl.fListK, e1]
    exact t1 d hd
theorem t7 {d S F : D} {s6 : Dl.Slot} {r : Ru} {rows : List Li} {more : Li} (hd : Hand d) (hr : r.dep ≤ 6) (hnm : ∀ s ∈ r.names, Nm s) (hc : (canon r.names).length ≤ 5) (g : ∀ f ∈ rows, Gf r 10 f) (h0 : rows ≠ []) (hl : rows.length ≤ 64) (hm : more.length ≤ 100) (nd : (more.map (·.1)).Nodup) (f6 : frS s6 = true) :
    wp (mT7 [.un, .own d, .own S, .dat r.toD, .own (.dict (tr more)), .own F, s6, .obj (.lst (rows.map oF)), .un, .un, .un, .un]) QT NoX := by
  have t1 := fun d (hd : Hand d) => @t8 d S F s6 r rows more hd hr hnm hc g h0 hl hm nd f6
  have t2 := fun d (hd : Hand d) => @t8 d S F s6 r rows.reverse more hd hr hnm hc (fun f hf => g f (List.mem_reverse.mp hf)) (by simpa using h0) (by rw [List.length_reverse]; exact hl) hm nd f6
  rw [List.map_reverse] at t2
  have rv : ∀ d, sRevK 7 [.un, .own d, .own S, .dat r.toD, .own (.dict (tr more)), .own F, s6, .obj (.lst (rows.map oF)), .un, .un, .un, .un] = .ok .nx [.un, .own d, .own S, .dat r.toD, .own (.dict (tr more)), .own F, s6, .obj (.lst (rows.map oF).reverse), .un, .un, .un, .un] := fun d => rfl
  unfold mT7
  generalize mT8 = TL at *
  generalize r.toD = R at *
  generalize rows.map oF = OF at *
  generalize tr more = TM at *
  simp_arith
  refine wp_draw hd (by decide) (by decide) fun k d hd k0 k1 => ?_
  have e1 := eq_ints k 1
  by_cases z : k = 1
  · rw [decide_eq_true z] at e1
    simp -dsimp -implicitDefEqProofs [Dl.T.odd, Dl.vI, Dl.vB, Dl.vS, Dl.run2, Dl.run1, Dl.deref, Dl.Slot.data?, Dl.Slot.tree?, Dl.T.toD, Dl.toDs, Dl.useO, Dl.useAll, Dl.boolOf, Dl.putO, Dl.free, Dl.outO, Dl.withAll, Dl.runN, Dl.derefs, Dl.mutO, Dl.isLst, Dl.isDct, Dl.putI, Dl.putD, Dl.setI, Dl.augO, Dl.getI, Dl.slotOf, Dl.slotsOf, Dl.lents, Dl.takeB, Dl.backS, Dl.useSel, Dl.back, Dl.gd, Dl.pyIx, atI, ixN, Dl.pyGet, Dl.pyMul, Dl.pyAdd, Dl.pyNe, Dl.mulOk, Dl.powOk, Dl.pySlice, Dl.fLen, Dl.fList, Dl.fTuple, Dl.mAppend, Dl.mReverse, Dl.mClear, Dl.mExtend, Dl.mInsert, Dl.mkTup, Dl.mkLst, Dl.pyIsN, Dl.pyNotN, Dl.fNeg, Dl.pyRev, Dl.gN, Dl.gsNil, Dl.gsCons, Dl.gT, Dl.srcL, Dl.srcT, Dl.srcS, Dl.srcQ, Dl.srcR1, Dl.srcR2, Dl.hide, Dl.restore, sizeLine_eq, Dl.lockS, Dl.pyIs, Dl.fInt, Dl.dpopO, Dl.lstN, Dl.newsOf, Dl.viewR, Dl.viewS, Dl.treeS, Dl.scal, Dl.sRetT, Dl.srcE, Dl.getO, Dl.mDClear, Dl.fSortSet2, Dl.mExt, Dl.fListK, e1, wp_of (rv _)]
    exact t2 d hd
  · rw [decide_eq_false z] at e1
    simp -dsimp -implicitDefEqProofs [Dl.T.odd, Dl.vI, Dl.vB, Dl.vS, Dl.run2, Dl.run1, Dl.deref, Dl.Slot.data?, Dl.Slot.tree?, Dl.T.toD, Dl.toDs, Dl.useO, Dl.useAll, Dl.boolOf, Dl.putO, Dl.free, Dl.outO, Dl.withAll, Dl.runN, Dl.derefs, Dl.mutO, Dl.isLst, Dl.isDct, Dl.putI, Dl.putD, Dl.setI, Dl.augO, Dl.getI, Dl.slotOf, Dl.slotsOf, Dl.lents, Dl.takeB, Dl.backS, Dl.useSel, Dl.back, Dl.gd, Dl.pyIx, atI, ixN, Dl.pyGet, Dl.pyMul, Dl.pyAdd, Dl.pyNe, Dl.mulOk, Dl.powOk, Dl.pySlice, Dl.fLen, Dl.fList, Dl.fTuple, Dl.mAppend, Dl.mReverse, Dl.mClear, Dl.mExtend, Dl.mInsert, Dl.mkTup, Dl.mkLst, Dl.pyIsN, Dl.pyNotN, Dl.fNeg, Dl.pyRev, Dl.gN, Dl.gsNil, Dl.gsCons, Dl.gT, Dl.srcL, Dl.srcT, Dl.srcS, Dl.srcQ, Dl.srcR1, Dl.srcR2, Dl.hide, Dl.restore, sizeLine_eq, Dl.lockS, Dl.pyIs, Dl.fInt, Dl.dpopO, Dl.lstN, Dl.newsOf, Dl.viewR, Dl.viewS, Dl.treeS, Dl.scal, Dl.sRetT, Dl.srcE, Dl.getO, Dl.mDClear, Dl.fSortSet2, Dl.mExt, Dl.fListK, e1]
    exact t1 d hd
theorem t6 {d S F : D} {s6 : Dl.Slot} {r : Ru} {more : Li} (hd : Hand d) (hr : r.dep ≤ 6) (hnm : ∀ s ∈ r.names, Nm s) (hc : (canon r.names).length ≤ 5) (hm : more.length ≤ 100) (nd : (more.map (·.1)).Nodup) (f6 : frS s6 = true) :
    wp (mT6 [.un, .own d, .own S, .dat r.toD, .own (.dict (tr more)), .own F, s6, .un, .un, .un, .un, .un]) QT NoX := by
  have en := law_names_of_eq 7 r (by omega) hr hnm
  have hal : (allF (canon r.names)).length ≤ 64 := by rw [allF_len]; exact Nat.le_trans (Nat.pow_le_pow_right (by decide) hc) (by decide)
  have tl := @t7 d S F s6 r (allF (canon r.names)) more hd hr hnm hc (fun f hf => (allF_good f hf).mono (by omega)) (by
    intro e
    have := allF_len (canon r.names)
    rw [e] at this
    have := Nat.pow_pos (n := (canon r.names).length) (show 0 < 2 by decide)
    simp at *
    omega) hal hm nd f6
  have af := fun (Q : Opd → Rho → Prop) (X : Ex → Rho → Prop) h => @all_facts_wp (canon r.names) (by omega) Q X h
  unfold mT6
  generalize mT7 = TL at *
  generalize (allF (canon r.names)).map oF = OF at *
  generalize (canon r.names).map PyData.str = C at *
  generalize r.toD = R at *
  generalize tr more = TM at *
  generalize m__law_all_facts = AF at *
  simp_arith [en]
  refine af _ _ ?_
  simp_arith
  exact tl
def far8 : List Str := ["far", "near", "low", "high", "left", "right", "east", "west"]
theorem far_nm : ∀ s ∈ far8, Nm s := fun s hs => by
  have : ∀ s ∈ far8, okC s.cps.toList ∧ s.cps.toList.length ≤ 64 := by unfold okC far8; decide +kernel
  exact ⟨(this s hs).1, (this s hs).2⟩
theorem nin_str {n : Str} {ss : List Str} (hn : Nm n) (h : ∀ s ∈ ss, Nm s) : orf pyNotIn pyNotInK (.str n) (.list (ss.map .str)) = some (.val (.bool (!decide (n ∈ ss)))) := by
  have hin := enc_str.hasL (x := n) (xs := ss) (by decide) hn h
  unfold orf pyNotIn
  rw [hin]
  exact congrArg (fun z => some (Opd.val (PyData.bool (!z)))) (decide_eq_decide.mpr Iff.rfl)
def putE : MS := (sPutD 4 (eVar 6) (eOp2 pyEq (eCall 2 [true, true] m__law_draw (aCons (eVar 1) (aCons (eC (.int 2)) aNil))) (eC (.int 1))))
theorem t5_loop {S R : D} {s5 : Dl.Slot} {QF : Dl.Flow → Rho → Prop} {X : Ex → Rho → Prop} :
    ∀ (ns : List Str) (fs : Li) (d : D) (s6 : Dl.Slot), Hand d → frS s6 = true → fs.length + ns.length ≤ 100 → (fs.map (·.1)).Nodup →
    (∀ fs' d s6, Hand d → frS s6 = true → (fs'.map (·.1)).Nodup → fs'.length ≤ 100 → QF .nx [.un, .own d, .own S, .dat R, .own (.dict (tr fs')), s5, s6, .un, .un, .un, .un, .un]) →
    wp (sLoop (gN 6) putE (ns.map .str) [.un, .own d, .own S, .dat R, .own (.dict (tr fs)), s5, s6, .un, .un, .un, .un, .un]) QF X
  | [], fs, d, s6, hd, f6, hl, nd, h => h fs d s6 hd f6 nd (by omega)
  | x :: ns, fs, d, s6, hd, f6, hl, nd, h => by
    simp only [frS, free, List.getElem?_cons_zero] at f6
    rw [List.length_cons] at hl
    have go : ∀ (b : Bool) (d : D), Hand d → setK (.dict (tr fs)) (.str x) (.bool b) = some (.dict (tr (putB fs x b))) ∧ wp (sLoop (gN 6) putE (ns.map .str) [.un, .own d, .own S, .dat R, .own (.dict (tr (putB fs x b))), s5, .dat (.str x), .un, .un, .un, .un, .un]) QF X := fun b d hd => by
      refine ⟨setK_tr (by omega), ?_⟩
      exact t5_loop ns (putB fs x b) d (.dat (.str x)) hd rfl (by have := putB_len fs x b; omega) (putB_nd nd) h
    have e1 := fun k => eq_ints k 1
    rw [List.map_cons]
    unfold putE at go ⊢
    have body : wp (sPutD 4 (eVar 6) (eOp2 pyEq (eCall 2 [true, true] m__law_draw (aCons (eVar 1) (aCons (eC (.int 2)) aNil))) (eC (.int 1))) [.un, .own d, .own S, .dat R, .own (.dict (tr fs)), s5, .dat (.str x), .un, .un, .un, .un, .un]) (fun f ρ => f = .nx ∧ ∃ b d, Hand d ∧ ρ = [.un, .own d, .own S, .dat R, .own (.dict (tr (putB fs x b))), s5, .dat (.str x), .un, .un, .un, .un, .un]) NoX := by
      simp_arith
      refine wp_draw hd (by decide) (by decide) fun k d hd k0 k1 => ?_
      obtain ⟨h1, _⟩ := go (decide (k = 1)) d hd
      simp -dsimp -implicitDefEqProofs [Dl.T.odd, Dl.vI, Dl.vB, Dl.vS, Dl.run2, Dl.run1, Dl.deref, Dl.Slot.data?, Dl.Slot.tree?, Dl.T.toD, Dl.toDs, Dl.useO, Dl.useAll, Dl.boolOf, Dl.putO, Dl.free, Dl.outO, Dl.withAll, Dl.runN, Dl.derefs, Dl.mutO, Dl.isLst, Dl.isDct, Dl.putI, Dl.putD, Dl.setI, Dl.augO, Dl.getI, Dl.slotOf, Dl.slotsOf, Dl.lents, Dl.takeB, Dl.backS, Dl.useSel, Dl.back, Dl.gd, Dl.pyIx, atI, ixN, Dl.pyGet, Dl.pyMul, Dl.pyAdd, Dl.pyNe, Dl.mulOk, Dl.powOk, Dl.pySlice, Dl.fLen, Dl.fList, Dl.fTuple, Dl.mAppend, Dl.mReverse, Dl.mClear, Dl.mExtend, Dl.mInsert, Dl.mkTup, Dl.mkLst, Dl.pyIsN, Dl.pyNotN, Dl.fNeg, Dl.pyRev, Dl.gN, Dl.gsNil, Dl.gsCons, Dl.gT, Dl.srcL, Dl.srcT, Dl.srcS, Dl.srcQ, Dl.srcR1, Dl.srcR2, Dl.hide, Dl.restore, sizeLine_eq, Dl.lockS, Dl.pyIs, Dl.fInt, Dl.dpopO, Dl.lstN, Dl.newsOf, Dl.viewR, Dl.viewS, Dl.treeS, Dl.scal, Dl.sRetT, Dl.srcE, Dl.getO, Dl.mDClear, Dl.fSortSet2, Dl.mExt, Dl.fListK, e1, h1, isDct]
      cases hb : decide (k = 1) with
      | false => exact .inl ⟨d, hd, rfl, rfl⟩
      | true => exact .inr ⟨d, hd, rfl, rfl⟩
    generalize (sPutD 4 (eVar 6) (eOp2 pyEq (eCall 2 [true, true] m__law_draw (aCons (eVar 1) (aCons (eC (.int 2)) aNil))) (eC (.int 1)))) = BD at *
    obtain ⟨f, ρ1, e, rfl, b, d1, hd1, rfl⟩ := wp_out body
    have be : ∀ Q X, wp (BD [.un, .own d, .own S, .dat R, .own (.dict (tr fs)), s5, .dat (.str x), .un, .un, .un, .un, .un]) Q X = Q .nx [.un, .own d1, .own S, .dat R, .own (.dict (tr (putB fs x b))), s5, .dat (.str x), .un, .un, .un, .un, .un] := fun Q X => wp_of e
    have gg := (go b d1 hd1).2
    simp_arith [f6, be]
    exact gg
theorem t5 {d : D} {r : Ru} {ss F : List Str} (hd : Hand d) (hss : ∀ s ∈ ss, Nm s) (hl : ss.length ≤ 20) (hF : ∀ s ∈ F, Nm s) (hFl : F.length ≤ 8) (hr : r.dep ≤ 6) (hnm : ∀ s ∈ r.names, Nm s) (hc : (canon r.names).length ≤ 5) :
    wp (mT5 [.un, .own d, .own (.list (ss.map .str)), .dat r.toD, .own (.dict (tr [])), .own (.list (F.map .str)), .un, .un, .un, .un, .un, .un]) QT NoX := by
  have tl := fun d more s6 hd hm nd f6 => @t6 d (.list (ss.map .str)) (.list (F.map .str)) s6 r more hd hr hnm hc hm nd f6
  have lp := fun QF X ns d s6 h1 h2 h3 h4 => @t5_loop (.list (ss.map .str)) r.toD (.own (.list (F.map .str))) QF X ns [] d s6 h1 h2 h3 .nil h4
  have ni := fun n (h : Nm n) => nin_str h hss
  have cm := fun lo hi => cut_map PyData.str ss lo hi
  have ccl := fun lo hi => cut_le ss lo hi
  unfold mT5
  show wp (sSeq (sFor _ _ putE) _ _) _ _
  generalize putE = PE at *
  generalize mT6 = TL at *
  generalize hS : ss.map PyData.str = S at *
  generalize r.toD = R at *
  simp_arith
  refine wp_draw hd (by decide) (by decide) fun q d hd q0 q1 => ?_
  have hz := ccl (some 5) (some (5 + q))
  have hz2 := cm (some 5) (some (5 + q))
  generalize cutD ss (some 5) (some (5 + q)) = Z at *
  simp_arith [hz2]
  refine wp_pcomp (enc := PyData.str) (xs := F) (fun s => !decide (s ∈ ss)) PyData.str (by omega) (fun s hs => ⟨_, rfl, ?_, fun z => ?_, ?_⟩) ?_
  · have := ni s (hF s hs)
    simp_arith [this]
  · simp_arith
  · rfl
  · have gl : (F.filter fun s => !decide (s ∈ ss)).length ≤ 8 := Nat.le_trans (List.length_filter_le _ _) hFl
    generalize (F.filter fun s => !decide (s ∈ ss)) = G at *
    simp_arith [show Z.length + G.length ≤ 16777216 by omega]
    rw [← List.map_append]
    refine lp _ _ _ _ _ hd rfl (by simp only [List.length_append, List.length_nil]; omega) fun more d s6 hd f6 nd hm => ?_
    exact tl d more s6 hd hm nd f6
theorem pure : Pure := by
  intro ns hl
  have hd : Hand (handD ns) := ⟨ns, 0, 0, 0, 20011, 40009, rfl, by decide⟩
  generalize handD ns = d at *
  have this : wp (mb_law [.un, .own d, .un, .un, .un, .un, .un, .un, .un, .un, .un, .un]) QT NoX := by
    rw [mb_cut]
    unfold mT1 mT2
    have t5 := fun (d : D) (r : Ru) (ss F : List Str) hd hss hl hF hFl hr hnm hc => @t5 d r ss F hd hss hl hF hFl hr hnm hc
    have t3 : ∀ (d : D) (r : Ru) (ss : List Str), Hand d → (∀ s ∈ ss, Nm s) → ss.length ≤ 20 → r.dep ≤ 6 → (∀ s ∈ r.names, Nm s) → (canon r.names).length ≤ 5 → wp (mT3 [.un, .own d, .own (.list (ss.map .str)), .dat r.toD, .un, .un, .un, .un, .un, .un, .un, .un]) QT NoX := by
      intro d r ss hd hss hl hr hnm hc
      have t5 := fun d F hd h1 h2 => t5 d r ss F hd hss hl h1 h2 hr hnm hc
      unfold mT3 mT4
      generalize mT5 = TL at *
      have e8 : ([.str "far", .str "near", .str "low", .str "high", .str "left", .str "right", .str "east", .str "west"] : List D) = far8.map .str := rfl
      have e0 : tr [] = [] := rfl
      rw [e0] at t5
      generalize ss.map PyData.str = S at *
      generalize r.toD = R at *
      simp_arith
      refine wp_draw hd (by decide) (by decide) fun k d hd k0 k1 => ?_
      simp_arith
      rw [e8]
      rw [cut_map]
      exact t5 d _ hd (fun s hs => far_nm s (cut_mem hs)) (cut_le far8 none (some k))
    generalize mT3 = TL at *
    clear t5
    simp_arith
    refine law_names (n := 8) hd (by decide) (by decide) fun ss d hd hn hg hs => ?_
    have hss : ss.length ≤ 8 := by omega
    have cm := fun lo hi => cut_map PyData.str ss lo hi
    have t3 := fun d r hd => t3 d r ss hd hn (by omega)
    generalize hS : ss.map PyData.str = S at *
    simp_arith
    refine wp_draw hd (by decide) (by decide) fun k d hd k0 k1 => ?_
    have cl : (cutD ss none (some (1 + k))).length ≤ 5 := by
      unfold cutD HT.sIx
      dsimp only
      rw [if_neg (by omega), List.length_take, List.length_drop]
      omega
    have lr := fun n deep d Q X h1 h2 hd h => @law_rule n deep d (cutD ss none (some (1 + k))) Q X h1 h2 hd (by omega) h
    have cs : ∀ s ∈ cutD ss none (some (1 + k)), s ∈ ss := fun s h => cut_mem h
    have cm := cm none (some (1 + k))
    generalize cutD ss none (some (1 + k)) = so at *
    rw [← cm] at lr
    simp_arith
    refine wp_draw hd (by decide) (by decide) fun v d hd v0 v1 => ?_
    simp_arith
    refine lr 7 (1 + v) d _ _ (by omega) (by omega) hd fun r d hd hdep hmem => ?_
    have t := t3 d r hd (by omega) (fun s h => hn s (cs s (hmem s h))) (Nat.le_trans ((canon_nodup _).length_le_of_subset fun s h => hmem s (canon_mem.mp h)) cl)
    generalize r.toD = R at *
    simp_arith
    exact t
  obtain ⟨f, ρ, e, h⟩ := wp_out this
  cases f with
  | nx => exact h.elim
  | bk => cases h
  | ct => cases h
  | rt o =>
    have h : Dl.Flow.rt o = .rt (.val (.bool true)) := h
    exact ⟨ρ, by rw [← h]; exact e⟩
end G
theorem PySem.Challenge.cw_truceroll_k13_holds_holds : PySem.Challenge.rw_truceroll_k13_holds.Holds := by
  exact G.holds G.pure
