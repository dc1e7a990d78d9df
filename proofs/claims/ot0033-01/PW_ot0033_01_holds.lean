import PyProof.Rows.All
import Wide.All
import OpenK.AllK
import Wide.FinOn
import KE.KNestM
import PyProof.P3Eq
import PyProof.P3In
import KE.KSortTup
import KE.KDictSum
import KE.KSort
import PyProof.DictRoads
import KE.KAssignIn
import KE.KUnpack
import KE.KNest
import PyProof.DictDisplay
import PyProof.Draws
import PyProof.EnumFor
import KE.KDictOf
import PyProof.AttrMissHeap
import KE.KItem
import PyProof.Rows.TupMore
import PyProof.Rows.ListMul
import Lean
import PySem.Challenge.RW_ot0033_01
set_option Elab.async false
set_option bootstrap.genMatcherCode false
set_option linter.all false
set_option compiler.extract_closed false
set_option genSizeOf false
set_option genSizeOfSpec false
set_option genInjectivity false
open PySem PySem.W PyProof.Rows
set_option Elab.async false
universe u
namespace Mine
theorem grab {r : OpenRow} {α : Sort u} (h : r.Holds) (_ : α) : r.Holds := h
end Mine
section
local macro_rules | `(tactic| o_head $H) => `(tactic| exact Mine.grab (by assumption) $H)
set_option maxRecDepth 100000 in
set_option maxHeartbeats 8000000 in
theorem Mine.kk (h : PySem.Challenge.rw_ot0033_01.row.Holds) : PySem.Challenge.rw_ot0033_01.row.Holds := by k_head
end
namespace Mine
noncomputable def kAs : List Addr := [2, 3, 15, 17, 18, 20, 21, 22, 29, 30, 32, 33, 35, 36, 37, 38, 39, 40, 43, 45, 46, 48, 49, 50, 52, 53, 55, 56, 57, 60, 61, 62, 65, 66, 67, 69, 70, 72, 73, 74, 76, 77, 79, 80, 81, 84, 85, 93, 94, 96, 97, 99, 100, 101, 103, 104, 106, 107, 108, 110, 111, 113, 114, 115, 117, 118, 120, 121, 122, 124, 125, 127, 128, 129, 131, 132, 134, 135, 136, 137, 139, 140, 142, 143, 144, 145, 146, 147, 148, 151, 153, 154, 156, 157, 158, 160, 161, 163, 164, 165, 167, 168, 170, 171, 179, 181, 182, 184, 185, 186, 188, 189, 191, 192, 193, 195, 196, 198, 199, 200, 201, 203, 204, 206, 207, 208, 210, 211, 213, 214, 215, 216, 217, 218, 219, 222, 224, 225, 227, 228, 229, 231, 232, 234, 235, 243, 246, 247, 248, 250, 251, 253, 254, 255, 257, 258, 260, 261, 262, 263, 264, 265, 266, 269, 272, 273, 281, 283, 284, 286, 287, 288, 290, 291, 293, 294, 295, 297, 298, 300, 301, 302, 304, 305, 307, 308, 309, 311, 312, 314, 315, 316, 318, 319, 321, 322, 323, 325, 326, 328, 329, 330, 333, 334, 335, 337, 338, 340, 341, 342, 343, 344, 345, 346, 349, 351, 352, 354, 355, 356, 359, 360, 361, 364, 365, 366, 368, 369, 371, 372, 380, 382, 383, 385, 386, 387, 388, 389, 390, 391, 401, 402, 404, 405, 407, 408, 409, 411, 412, 414, 415, 416, 417, 418, 419, 420, 423, 425, 426, 428, 429, 430, 432, 433, 435, 436, 437, 439, 440, 442, 443, 444, 445, 447, 448, 450, 451, 452, 454, 455, 457, 458, 459, 461, 462, 464, 465, 466, 468, 469, 471, 472, 473, 476, 477, 478, 481, 482, 483, 485, 486, 488, 489, 490, 493, 494, 495, 497, 498, 500, 501, 502, 505, 506]
noncomputable def kHk : Hook := kmHook kk.heap_1 kAs (fun _ => by kernel_rfl) [82, 68]
end Mine
set_option maxRecDepth 100000
set_option autoImplicit false
local macro_rules | `(tactic| omega) => `(tactic| with_reducible_and_instances first | exact Nat.le_of_ble_eq_true rfl | (refine Nat.le_trans ?_ (by assumption); exact Nat.le_of_ble_eq_true rfl) | (apply Nat.le_trans; (focus (repeat' (first | exact Nat.le_refl 0 | exact Nat.le_refl 1 | exact Nat.le_refl 2 | exact Nat.le_refl 3 | assumption | apply Nat.add_le_add | apply Nat.mul_le_mul))); exact Nat.le_of_ble_eq_true rfl) | fail)
namespace Mine
open PySem PySem.W PyProof.Rows PySem.Calls
inductive AV where
  | none
  | bool (b : Bool)
  | int (i : Int)
  | str (s : Str)
  | tup (l : List AV)
  | obj (a : Addr) (o : Obj)
  | raw (v : Value)
  | meth (f : Addr) (self : AV)
  | clo (a : Addr) (name qual : Str) (params : Arguments) (body : List Stmt) (scope : Scope) (clos : List (Str × Addr))
noncomputable abbrev Frz := Addr → Option Obj
noncomputable def Ext (Φ Φ' : Frz) : Prop := ∀ a o, Φ a = some o → Φ' a = some o
theorem Ext.refl (Φ : Frz) : Ext Φ Φ := fun _ _ e => e
theorem Ext.trans {Φ₁ Φ₂ Φ₃ : Frz} (h : Ext Φ₁ Φ₂) (k : Ext Φ₂ Φ₃) : Ext Φ₁ Φ₃ := fun a o e => k a o (h a o e)
noncomputable abbrev tupO (vs : List Value) : Obj := { cls := .type "tuple", data := .seq vs.toArray }
noncomputable def CloRep (Φ : Frz) (a : Addr) (name qual : Str) (params : Arguments) (body : List Stmt) (scope : Scope) (clos : List (Str × Addr)) : Prop :=
  ∃ doc pm c' ctv oc vs t, Φ a = some { cls := .type "function", data := .func (fnX name qual params body scope clos .none .none doc pm none (.ref c') ctv) } ∧ Φ c' = some oc ∧ oc.data = .fields vs ∧ vs[1]? = some (.str qual t)
theorem CloRep.ext {Φ Φ' : Frz} (h : Ext Φ Φ') {a : Addr} {name qual : Str} {params : Arguments} {body : List Stmt} {scope : Scope} {clos : List (Str × Addr)} (k : CloRep Φ a name qual params body scope clos) : CloRep Φ' a name qual params body scope clos :=
  let ⟨doc, pm, c', ctv, oc, vs, t, e, e1, r⟩ := k; ⟨doc, pm, c', ctv, oc, vs, t, h _ _ e, h _ _ e1, r⟩
mutual
noncomputable def VRep (Φ : Frz) : AV → Value → Prop
  | .none, v => v = .none
  | .bool b, v => v = .bool b
  | .int i, v => ∃ t, v = .int i t
  | .str s, v => ∃ t, v = .str s t
  | .tup l, v => ∃ a vs, v = .ref a ∧ Φ a = some (tupO vs) ∧ VReps Φ l vs
  | .obj a o, v => v = .ref a ∧ Φ a = some o
  | .raw w, v => v = w
  | .clo a name qual params body scope clos, v => v = .ref a ∧ CloRep Φ a name qual params body scope clos
  | .meth f x, v => ∃ p w, v = .ref p ∧ Φ p = some (methodObj (.ref f) w) ∧ VRep Φ x w
noncomputable def VReps (Φ : Frz) : List AV → List Value → Prop
  | [], vs => vs = []
  | x :: r, vs => ∃ v vr, vs = v :: vr ∧ VRep Φ x v ∧ VReps Φ r vr
end
mutual
theorem VRep.ext {Φ Φ' : Frz} (h : Ext Φ Φ') : ∀ {x : AV} {v : Value}, VRep Φ x v → VRep Φ' x v
  | .none, _, r => r
  | .bool _, _, r => r
  | .int _, _, r => r
  | .str _, _, r => r
  | .tup _, _, ⟨a, vs, e, e1, e2⟩ => ⟨a, vs, e, h _ _ e1, VReps.ext h e2⟩
  | .obj _ _, _, ⟨e, e1⟩ => ⟨e, h _ _ e1⟩
  | .raw _, _, r => r
  | .clo .., _, ⟨e, e1⟩ => ⟨e, e1.ext h⟩
  | .meth _ _, _, ⟨p, w, e, e1, e2⟩ => ⟨p, w, e, h _ _ e1, VRep.ext h e2⟩
theorem VReps.ext {Φ Φ' : Frz} (h : Ext Φ Φ') : ∀ {x : List AV} {v : List Value}, VReps Φ x v → VReps Φ' x v
  | [], _, r => r
  | _ :: _, _, ⟨v, vr, e, e1, e2⟩ => ⟨v, vr, e, VRep.ext h e1, VReps.ext h e2⟩
end
theorem VReps.length {Φ : Frz} : ∀ {x : List AV} {v : List Value}, VReps Φ x v → v.length = x.length
  | [], _, r => by rw [show _ = [] from r]; rfl
  | _ :: _, _, ⟨v, vr, e, _, e2⟩ => by rw [e]; simp [VReps.length e2]
theorem VReps.get {Φ : Frz} : ∀ {x : List AV} {v : List Value} {i : Nat} {a : AV}, VReps Φ x v → x[i]? = some a → ∃ w, v[i]? = some w ∧ VRep Φ a w
  | [], _, _, _, _, h => by simp at h
  | y :: _, _, 0, _, ⟨v, vr, e, e1, _⟩, h => by
      simp only [List.getElem?_cons_zero, Option.some.injEq] at h; subst h; rw [e]; exact ⟨v, rfl, e1⟩
  | _ :: _, _, i + 1, _, ⟨v, vr, e, _, e2⟩, h => by
      rw [e]; simp only [List.getElem?_cons_succ] at h ⊢; exact VReps.get e2 h
theorem VReps.append {Φ : Frz} : ∀ {x y : List AV} {v w : List Value}, VReps Φ x v → VReps Φ y w → VReps Φ (x ++ y) (v ++ w)
  | [], _, _, _, r, k => by rw [show _ = [] from r]; exact k
  | _ :: _, _, _, _, ⟨v, vr, e, e1, e2⟩, k => by rw [e]; exact ⟨v, _, rfl, e1, VReps.append e2 k⟩
theorem VReps.snoc {Φ : Frz} {x : List AV} {v : List Value} {a : AV} {b : Value} (r : VReps Φ x v) (k : VRep Φ a b) : VReps Φ (x ++ [a]) (v ++ [b]) :=
  r.append ⟨b, [], rfl, k, rfl⟩
set_option genInjectivity true in
inductive AK where
  | int (i : Int)
  | str (s : Str)
  deriving DecidableEq
noncomputable def AK.av : AK → AV
  | .int i => .int i
  | .str s => .str s
inductive AObj where
  | list (l : List AV)
  | dict (es : List (AK × AV))
  | tdict (es : List (List AK × AV))
  | cell (v : Option AV)
  | ns (m : List (Str × AV))
  | attrs (m : List (Str × AV))
  | listIter (l : Addr) (i : Nat)
  | tupIter (l : List AV)
  | rangeIter (x left step : Int)
  | enumIter (it : Addr) (i : Nat)
  | keyIter (l : List AV)
  | raw (o : Obj)
  | tab (pos : Pos) (qual : Str)
noncomputable abbrev Sig := List (Addr × AObj)
noncomputable abbrev Loc := List (Str × AV)
noncomputable def isAK : AK → Value → Bool
  | .int i, v => v.isInt i
  | .str s, v => Value.isStrOf s v
end Mine
set_option maxRecDepth 100000
set_option autoImplicit false
namespace Mine
open PySem PySem.W PyProof.Rows PySem.Calls PySem.SeqAt
noncomputable def AK.is : AK → Value → Bool
  | .int i, v => Value.isInt i v
  | .str x, v => Value.isStrOf x v
theorem AK.is_shape {k : AK} {v : Value} (h : k.is v = true) : ∃ t, v = (match k with | .int i => .int i t | .str x => .str x t) := by
  cases k with
  | int i => exact Value.isInt_shape h
  | str x => exact Value.isStrOf_shape h
noncomputable def AK.hash (w : World) : AK → Int
  | .int i => hashInt i
  | .str x => hashStr w x
theorem AK.inj (v : Value) (a b : AK) (ha : a.is v = true) (hb : b.is v = true) : a = b := by
  cases a with
  | int i =>
    obtain ⟨t, rfl⟩ := AK.is_shape ha
    cases b with
    | int j => obtain ⟨u, hu⟩ := AK.is_shape hb; injection hu with h; rw [h]
    | str j => obtain ⟨u, hu⟩ := AK.is_shape hb; cases hu
  | str i =>
    obtain ⟨t, rfl⟩ := AK.is_shape ha
    cases b with
    | int j => obtain ⟨u, hu⟩ := AK.is_shape hb; cases hu
    | str j => obtain ⟨u, hu⟩ := AK.is_shape hb; injection hu with h; rw [h]
noncomputable def mixKind (prog : Program) (w : World) : KeyKind prog w AK where
  is := AK.is
  hash := AK.hash w
  inj := AK.inj
  byValue := fun k v h => by cases k <;> obtain ⟨t, rfl⟩ := AK.is_shape h <;> rfl
  pyHash := fun {A E s k v Q} hv h => by
    cases k with
    | int i => obtain ⟨t, rfl⟩ := AK.is_shape hv; exact wpAny_pyHash_int h
    | str x => obtain ⟨t, rfl⟩ := AK.is_shape hv; exact wpAny_pyHash_str h
  eqBool := fun {A E s a b u v Q} hu hv h => by
    cases a with
    | int i =>
      obtain ⟨t, rfl⟩ := AK.is_shape hu
      cases b with
      | int j =>
        obtain ⟨r, rfl⟩ := AK.is_shape hv
        refine wpAny_eqBool_int ?_
        have : decide (AK.int i = AK.int j) = (i == j) := by by_cases e : i = j <;> simp [e]
        rw [← this]; exact h
      | str j => obtain ⟨r, rfl⟩ := AK.is_shape hv; exact EqAt.int_str (A := A) (s := s) _ _ _ _ prog w E Q (by simpa using h)
    | str i =>
      obtain ⟨t, rfl⟩ := AK.is_shape hu
      cases b with
      | int j => obtain ⟨r, rfl⟩ := AK.is_shape hv; exact EqAt.str_int (A := A) (s := s) _ _ _ _ prog w E Q (by simpa using h)
      | str j =>
        obtain ⟨r, rfl⟩ := AK.is_shape hv
        refine wpAny_eqBool_str ?_
        have : decide (AK.str i = AK.str j) = decide (i = j) := by by_cases e : i = j <;> simp [e]
        rw [← this]; exact h
  «strs» := fun k x t v h => by
    cases k with
    | int i => obtain ⟨u, hu⟩ := AK.is_shape h; cases hu
    | str y =>
      obtain ⟨u, hu⟩ := AK.is_shape h
      injection hu with hx
      subst hx
      cases v <;> rfl
structure Gd where
  prog : Program
  w : World
  B : Heap
  K : Frag
  X : K.In B
  p : Program
  loose : List Str
  mg : Str → Option Value
  mb : Str → Option Value
  T : TopRead p loose mg mb B
  bmain : ∃ bm o, mg "__builtins__" = some (.ref bm) ∧ bm ≠ builtinsNs ∧ B.get? bm = some o ∧ o.cls = .type "module" ∧ o.dict = some builtinsNs ∧ o.data = .plain
  os : OsState
section
variable (G : Gd)
noncomputable def TKey (Φ : Frz) (ks : List AK) (a : Addr) : Prop := ∃ items, Φ a = some (tupO items) ∧ ItemsAre (mixKind G.prog G.w) ks items
noncomputable def KVRep (Φ : Frz) : List (AK × AV) → List (AK × Value) → Prop
  | [], kvs => kvs = []
  | (k, x) :: r, kvs => ∃ v vr, kvs = (k, v) :: vr ∧ VRep Φ x v ∧ KVRep Φ r vr
noncomputable def TKVRep (Φ : Frz) : List (List AK × AV) → List (List AK × Addr × Value) → Prop
  | [], kvs => kvs = []
  | (k, x) :: r, kvs => ∃ a v vr, kvs = (k, a, v) :: vr ∧ TKey G Φ k a ∧ VRep Φ x v ∧ TKVRep Φ r vr
noncomputable def CellRep (Φ : Frz) : Option AV → Option Value → Prop
  | some x, cv => ∃ y, cv = some y ∧ VRep Φ x y
  | none, cv => cv = none
noncomputable def AttRep (Φ : Frz) : List (Str × AV) → List DictEntry → Prop
  | [], es => es = []
  | (k, x) :: r, es => ∃ e er, es = e :: er ∧ (∃ t, e.key = .str k t) ∧ VRep Φ x e.val ∧ AttRep Φ r er
noncomputable def KeysLeft (Φ : Frz) (l : List AV) (o : Obj) (i ep : Nat) : Prop := ∃ es, o.data = .dict es ep ∧ VReps Φ l ((es.toList.map (·.key)).drop i) ∧ i ≤ es.size
theorem KeysLeft.ext {Φ Φ' : Frz} (h : Ext Φ Φ') {l : List AV} {o : Obj} {i ep : Nat} (k : KeysLeft Φ l o i ep) : KeysLeft Φ' l o i ep := let ⟨es, e, r, z⟩ := k; ⟨es, e, r.ext h, z⟩
noncomputable def ARep (Φ : Frz) (h : Heap) (a : Addr) : AObj → Prop
  | .list l => ∃ items, h.PlainList a items ∧ VReps Φ l items.toList
  | .dict es => ∃ kvs, h.DictOf (mixKind G.prog G.w) a kvs ∧ KVRep Φ es kvs
  | .tdict es => ∃ xs o es' ep, h.get? a = some o ∧ o.ExactDict ∧ o.data = .dict es' ep ∧ es'.toList = xs.map (entryOfKey (tupleKind (mixKind G.prog G.w))) ∧ (xs.map (·.1)).Nodup ∧ TKVRep G Φ es xs
  | .cell v => ∃ o cv, h.get? a = some o ∧ o.data = .cell cv ∧ CellRep Φ v cv
  | .ns m => ∃ mm, h.Ns a mm ∧ ∀ x av, m.lookup x = some av → ∃ v, mm x = some v ∧ VRep Φ av v
  | .attrs m => ∃ es k, h.get? a = some (dictOf es k) ∧ AttRep Φ m es
  | .listIter l i => h.IsListIter a l i
  | .tupIter l => ∃ t i items, h.IsTupleIter a t i ∧ Φ t = some (tupO items) ∧ i ≤ items.length ∧ VReps Φ l (items.drop i)
  | .rangeIter x left step => IsRangeIter h a x left step
  | .enumIter it i => ∃ old, IsEnum h a it i old
  | .keyIter l => ∃ (d i ep : Nat) (o : Obj), h.IsKeyIter a d i (l.length + i) ep ∧ Φ d = some o ∧ o.cls = .type "dict" ∧ KeysLeft Φ l o i ep
  | .raw o => h.get? a = some o
  | .tab pos qual => ∃ ps, h.get? a = some (tabObj ps) ∧ (ps = #[] ∨ ∃ c' oc vs t, ps = #[rawInt pos.line, rawInt pos.col, .ref c'] ∧ Φ c' = some oc ∧ oc.data = .fields vs ∧ vs[1]? = some (.str qual t))
theorem KVRep.ext {Φ Φ' : Frz} (h : Ext Φ Φ') : ∀ {es : List (AK × AV)} {kvs : List (AK × Value)}, KVRep Φ es kvs → KVRep Φ' es kvs
  | [], _, r => r
  | _ :: _, _, ⟨v, vr, e, e1, e2⟩ => ⟨v, vr, e, e1.ext h, KVRep.ext h e2⟩
theorem TKey.ext {Φ Φ' : Frz} (h : Ext Φ Φ') {ks : List AK} {a : Addr} (k : TKey G Φ ks a) : TKey G Φ' ks a := let ⟨i, e, r⟩ := k; ⟨i, h _ _ e, r⟩
theorem TKVRep.ext {Φ Φ' : Frz} (h : Ext Φ Φ') : ∀ {es : List (List AK × AV)} {kvs : List (List AK × Addr × Value)}, TKVRep G Φ es kvs → TKVRep G Φ' es kvs
  | [], _, r => r
  | _ :: _, _, ⟨a, v, vr, e, e0, e1, e2⟩ => ⟨a, v, vr, e, e0.ext G h, e1.ext h, TKVRep.ext h e2⟩
theorem CellRep.ext {Φ Φ' : Frz} (h : Ext Φ Φ') : ∀ {v : Option AV} {cv : Option Value}, CellRep Φ v cv → CellRep Φ' v cv
  | some _, _, ⟨y, e, r⟩ => ⟨y, e, r.ext h⟩
  | none, _, r => r
theorem AttRep.ext {Φ Φ' : Frz} (h : Ext Φ Φ') : ∀ {m : List (Str × AV)} {es : List DictEntry}, AttRep Φ m es → AttRep Φ' m es
  | [], _, r => r
  | _ :: _, _, ⟨e, er, e1, e2, e3, e4⟩ => ⟨e, er, e1, e2, e3.ext h, AttRep.ext h e4⟩
theorem ARep.move {Φ Φ' : Frz} {h h' : Heap} {a : Addr} (x : Ext Φ Φ') (k : ∀ o, h.get? a = some o → h'.get? a = some o) : ∀ {ao : AObj}, ARep G Φ h a ao → ARep G Φ' h' a ao
  | .list _, ⟨items, ⟨o, e⟩, r2⟩ => ⟨items, ⟨o, k _ e⟩, r2.ext x⟩
  | .dict _, ⟨kvs, ⟨o, es, ep, e, r⟩, r2⟩ => ⟨kvs, ⟨o, es, ep, k _ e, r⟩, r2.ext x⟩
  | .tdict _, ⟨xs, o, es, ep, e, r1, r2, r3, r4, r5⟩ => ⟨xs, o, es, ep, k _ e, r1, r2, r3, r4, r5.ext G x⟩
  | .cell _, ⟨o, cv, e, r, r2⟩ => ⟨o, cv, k _ e, r, r2.ext x⟩
  | .ns _, ⟨mm, ⟨o, es, ep, e, r⟩, r2⟩ => ⟨mm, ⟨o, es, ep, k _ e, r⟩, fun y av q => let ⟨v, a1, a2⟩ := r2 y av q; ⟨v, a1, a2.ext x⟩⟩
  | .attrs _, ⟨es, i, e, r⟩ => ⟨es, i, k _ e, r.ext x⟩
  | .listIter _ _, ⟨o, e, r⟩ => ⟨o, k _ e, r⟩
  | .tupIter _, ⟨t, i, items, ⟨o, e, r⟩, r1, r2, r3⟩ => ⟨t, i, items, ⟨o, k _ e, r⟩, x _ _ r1, r2, r3.ext x⟩
  | .rangeIter _ _ _, r => by
      unfold ARep IsRangeIter at *; exact k _ r
  | .enumIter _ _, ⟨old, e⟩ => ⟨old, k _ e⟩
  | .keyIter _, ⟨d, i, ep, o, ⟨oi, e, er⟩, e1, e2, r⟩ => ⟨d, i, ep, o, ⟨oi, k _ e, er⟩, x _ _ e1, e2, r.ext x⟩
  | .raw _, e => k _ e
  | .tab _ _, ⟨ps, e, r⟩ => ⟨ps, k _ e, r.imp id fun ⟨c', oc, vs, t, r1, r2, r3⟩ => ⟨c', oc, vs, t, r1, x _ _ r2, r3⟩⟩
theorem ARep.ex {Φ : Frz} {h : Heap} {a : Addr} : ∀ {ao : AObj}, ARep G Φ h a ao → ∃ o, h.get? a = some o
  | .list _, ⟨_, ⟨_, e⟩, _⟩ => ⟨_, e⟩
  | .dict _, ⟨_, ⟨o, _, _, e, _⟩, _⟩ => ⟨o, e⟩
  | .tdict _, ⟨_, o, _, _, e, _⟩ => ⟨o, e⟩
  | .cell _, ⟨o, _, e, _⟩ => ⟨o, e⟩
  | .ns _, ⟨_, ⟨o, _, _, e, _⟩, _⟩ => ⟨o, e⟩
  | .attrs _, ⟨_, _, e, _⟩ => ⟨_, e⟩
  | .listIter _ _, ⟨o, e, _⟩ => ⟨o, e⟩
  | .tupIter _, ⟨_, _, _, ⟨o, e, _⟩, _⟩ => ⟨o, e⟩
  | .rangeIter _ _ _, r => ⟨_, by unfold ARep IsRangeIter at r; exact r⟩
  | .enumIter _ _, ⟨_, e⟩ => ⟨_, e⟩
  | .keyIter _, ⟨_, _, _, _, ⟨o, e, _⟩, _⟩ => ⟨o, e⟩
  | .raw _, e => ⟨_, e⟩
  | .tab _ _, ⟨_, e, _⟩ => ⟨_, e⟩
structure St (σ : Sig) (Φ : Frz) (s : Shared) : Prop where
  base : ∀ a o, G.B.get? a = some o → Φ a = some o
  frz : ∀ a o, Φ a = some o → s.heap.get? a = some o
  own : ∀ p ∈ σ, ARep G Φ s.heap p.1 p.2 ∧ Φ p.1 = none
  nd : (σ.map (·.1)).Nodup
  big : ∀ p ∈ σ, mainGlobals < p.1
  gens : s.gens = #[]
  os : s.os = G.os
variable {G}
variable {σ σ' : Sig} {Φ Φ' : Frz} {s : Shared}
theorem St.lt (h : St G σ Φ s) : ∀ p ∈ σ, p.1 < s.heap.objs.size := fun p hp => let ⟨_, e⟩ := (h.own p hp).1.ex; Heap.lt_size e
theorem St.perm (h : St G σ Φ s) (p : σ.Perm σ') : St G σ' Φ s :=
  ⟨h.base, h.frz, fun q hq => h.own q (p.mem_iff.mpr hq), (p.map (·.1)).nodup_iff.mp h.nd, fun q hq => h.big q (p.mem_iff.mpr hq), h.gens, h.os⟩
theorem St.sub (h : St G σ Φ s) (p : σ'.Sublist σ) : St G σ' Φ s :=
  ⟨h.base, h.frz, fun q hq => h.own q (p.subset hq), (p.map (·.1)).nodup h.nd, fun q hq => h.big q (p.subset hq), h.gens, h.os⟩
theorem St.keeps {s' : Shared} (h : St G σ Φ s) (k : ∀ b o, s.heap.get? b = some o → s'.heap.get? b = some o) (g : s'.gens = s.gens) (os : s'.os = s.os) : St G σ Φ s' :=
  ⟨h.base, fun a o e => k _ _ (h.frz a o e), fun p hp => ⟨(h.own p hp).1.move G (.refl _) fun o e => k _ _ e, (h.own p hp).2⟩, h.nd, h.big, g.trans h.gens, os.trans h.os⟩
theorem St.toks (h : St G σ Φ s) (t : Nat) : St G σ Φ { s with toks := t } := h.keeps (fun _ _ e => e) rfl rfl
theorem St.baseK (h : St G σ Φ s) : ∀ b o, G.B.get? b = some o → s.heap.get? b = some o := fun b o e => h.frz _ _ (h.base _ _ e)
theorem St.lowSize (h : St G σ Φ s) : mainGlobals < s.heap.objs.size := (G.T.g.keeps h.baseK).lt
theorem St.none_size (h : St G σ Φ s) : Φ s.heap.objs.size = none := by
  cases q : Φ s.heap.objs.size with
  | none => rfl
  | some o => exact absurd (Heap.lt_size (h.frz _ _ q)) (Nat.lt_irrefl _)
theorem St.notin_size (h : St G σ Φ s) : s.heap.objs.size ∉ σ.map (·.1) := fun q => by
  obtain ⟨p, hp, e⟩ := List.mem_map.mp q
  exact absurd (h.lt p hp) (by rw [e]; exact Nat.lt_irrefl _)
theorem St.newOwn (h : St G σ Φ s) {s' : Shared} {ao : AObj} (k : ∀ b o, s.heap.get? b = some o → s'.heap.get? b = some o)
    (r : ARep G Φ s'.heap s.heap.objs.size ao) (g : s'.gens = s.gens) (os : s'.os = s.os) : St G ((s.heap.objs.size, ao) :: σ) Φ s' := by
  have h' := h.keeps k g os
  refine ⟨h'.base, h'.frz, fun p hp => ?_, List.nodup_cons.mpr ⟨h.notin_size, h.nd⟩, fun p hp => (List.mem_cons.mp hp).elim (fun e => e ▸ h.lowSize) (h.big p), h'.gens, h'.os⟩
  · rcases List.mem_cons.mp hp with rfl | hp
    · exact ⟨r, h.none_size⟩
    · exact h'.own p hp
noncomputable def frzAt (Φ : Frz) (a : Addr) (o : Obj) : Frz := fun b => if b = a then some o else Φ b
theorem frzAt_self (Φ : Frz) (a : Addr) (o : Obj) : frzAt Φ a o a = some o := if_pos rfl
theorem frzAt_ext {Φ : Frz} {a : Addr} {o : Obj} (h : Φ a = none) : Ext Φ (frzAt Φ a o) := fun b ob e => by
  unfold frzAt
  by_cases q : b = a
  · rw [q, h] at e; cases e
  · rw [if_neg q]; exact e
theorem St.newFrz (h : St G σ Φ s) {s' : Shared} {o : Obj} {a : Addr} (k : ∀ b o, s.heap.get? b = some o → s'.heap.get? b = some o)
    (hn : s.heap.objs.size ≤ a) (r : s'.heap.get? a = some o) (g : s'.gens = s.gens) (os : s'.os = s.os) : Ext Φ (frzAt Φ a o) ∧ frzAt Φ a o a = some o ∧ St G σ (frzAt Φ a o) s' := by
  have h' := h.keeps k g os
  have hna : Φ a = none := by
    cases q : Φ a with
    | none => rfl
    | some o => exact absurd (Heap.lt_size (h.frz _ _ q)) (Nat.not_lt.mpr hn)
  have x : Ext Φ (frzAt Φ a o) := frzAt_ext hna
  refine ⟨x, frzAt_self .., ⟨fun b ob e => x _ _ (h.base b ob e), fun b ob e => ?_, fun p hp => ⟨(h'.own p hp).1.move G x fun _ e => e, ?_⟩, h'.nd, h'.big, h'.gens, h'.os⟩⟩
  · unfold frzAt at e
    by_cases q : b = a
    · rw [if_pos q] at e; cases e; rw [q]; exact r
    · rw [if_neg q] at e; exact h'.frz _ _ e
  · unfold frzAt
    rw [if_neg (Nat.ne_of_lt (Nat.lt_of_lt_of_le (h.lt p hp) hn))]
    exact (h'.own p hp).2
theorem St.updHead {a : Addr} {ao ao' : AObj} (h : St G ((a, ao) :: σ) Φ s) {s' : Shared} (k : Heap.ExtBut a s.heap s'.heap)
    (r : ARep G Φ s'.heap a ao') (g : s'.gens = s.gens) (os : s'.os = s.os) : St G ((a, ao') :: σ) Φ s' := by
  have hn : Φ a = none := (h.own (a, ao) (.head _)).2
  have nd := List.nodup_cons.mp h.nd
  refine ⟨h.base, fun b o e => k b o (fun q => ?_) (h.frz b o e), fun p hp => ?_, h.nd, fun p hp => (List.mem_cons.mp hp).elim (fun e => e ▸ h.big (a, ao) (.head _)) fun q => h.big p (.tail _ q), g.trans h.gens, os.trans h.os⟩
  · rw [q, hn] at e; cases e
  · rcases List.mem_cons.mp hp with rfl | hp
    · exact ⟨r, hn⟩
    · have := h.own p (.tail _ hp)
      exact ⟨this.1.move G (.refl _) fun o e => k _ _ (fun q => nd.1 (List.mem_map.mpr ⟨p, hp, q⟩)) e, this.2⟩
theorem St.dropHead {a : Addr} {ao : AObj} (h : St G ((a, ao) :: σ) Φ s) {s' : Shared} (k : Heap.ExtBut a s.heap s'.heap) (g : s'.gens = s.gens) (os : s'.os = s.os) : St G σ Φ s' := by
  have hn : Φ a = none := (h.own (a, ao) (.head _)).2
  have nd := List.nodup_cons.mp h.nd
  refine ⟨h.base, fun b o e => k b o (fun q => ?_) (h.frz b o e), fun p hp => ?_, nd.2, fun p hp => h.big p (.tail _ hp), g.trans h.gens, os.trans h.os⟩
  · rw [q, hn] at e; cases e
  · have := h.own p (.tail _ hp)
    exact ⟨this.1.move G (.refl _) fun o e => k _ _ (fun q => nd.1 (List.mem_map.mpr ⟨p, hp, q⟩)) e, this.2⟩
theorem St.freezeHead {a : Addr} {ao : AObj} {o : Obj} (h : St G ((a, ao) :: σ) Φ s) (e : s.heap.get? a = some o) : Ext Φ (frzAt Φ a o) ∧ frzAt Φ a o a = some o ∧ St G σ (frzAt Φ a o) s := by
  have hn : Φ a = none := (h.own (a, ao) (.head _)).2
  have x : Ext Φ (frzAt Φ a o) := frzAt_ext hn
  have nd := List.nodup_cons.mp h.nd
  refine ⟨x, frzAt_self .., ⟨fun b ob e => x _ _ (h.base b ob e), fun b ob q => ?_, fun p hp => ?_, nd.2, fun p hp => h.big p (.tail _ hp), h.gens, h.os⟩⟩
  · unfold frzAt at q
    by_cases qq : b = a
    · rw [if_pos qq] at q; cases q; rw [qq]; exact e
    · rw [if_neg qq] at q; exact h.frz _ _ q
  · have := h.own p (.tail _ hp)
    refine ⟨this.1.move G x fun _ e => e, ?_⟩
    unfold frzAt
    rw [if_neg (fun q => nd.1 (List.mem_map.mpr ⟨p, hp, q⟩))]
    exact this.2
theorem St.head {a : Addr} {ao : AObj} (h : St G ((a, ao) :: σ) Φ s) : ARep G Φ s.heap a ao := (h.own (a, ao) (.head _)).1
theorem St.mem {a : Addr} {ao : AObj} (h : St G σ Φ s) (m : (a, ao) ∈ σ) : ARep G Φ s.heap a ao := (h.own (a, ao) m).1
theorem St.top (h : St G σ Φ s) : TopRead G.p G.loose G.mg G.mb s.heap := G.T.keeps h.baseK
theorem St.lim (h : St G σ Φ s) : s.heap.NoLimit := h.top.nolimit
theorem St.inK (h : St G σ Φ s) : G.K.In s.heap := fun a o e => h.baseK a o (G.X a o e)
inductive At : Addr → AObj → Sig → Sig → Prop
  | here (a : Addr) (o : AObj) (r : Sig) : At a o r ((a, o) :: r)
  | there {a : Addr} {o : AObj} {p : Addr × AObj} {r r' : Sig} : At a o r r' → At a o (p :: r) (p :: r')
theorem At.perm {a : Addr} {o : AObj} {r σ : Sig} (h : At a o r σ) : σ.Perm ((a, o) :: r) := by
  induction h with
  | here => exact .refl _
  | there _ ih => exact (ih.cons _).trans (.swap ..)
theorem At.mem {a : Addr} {o : AObj} {r σ : Sig} (h : At a o r σ) : (a, o) ∈ σ := h.perm.mem_iff.mpr (.head _)
inductive Upd : Addr → AObj → AObj → Sig → Sig → Prop
  | here (a : Addr) (o o' : AObj) (r : Sig) : Upd a o o' ((a, o) :: r) ((a, o') :: r)
  | there {a : Addr} {o o' : AObj} {p : Addr × AObj} {r r' : Sig} : Upd a o o' r r' → Upd a o o' (p :: r) (p :: r')
theorem Upd.at {a : Addr} {o o' : AObj} {σ σ' : Sig} (h : Upd a o o' σ σ') : ∃ r, σ.Perm ((a, o) :: r) ∧ σ'.Perm ((a, o') :: r) := by
  induction h with
  | here => exact ⟨_, .refl _, .refl _⟩
  | there _ ih => obtain ⟨r, h1, h2⟩ := ih; exact ⟨_ :: r, (h1.cons _).trans (.swap ..), (h2.cons _).trans (.swap ..)⟩
end
end Mine
set_option maxRecDepth 100000
set_option autoImplicit false
namespace Mine
open PySem PySem.W PyProof.Rows PySem.Calls PySem.SeqAt
structure Rm (A : Around) (n : Nat) : Prop where
  d : A.depth + n ≤ 900
  u : A.units + 8 * n ≤ 9000
  h : A.handled = none
theorem Rm.le {A : Around} {n k : Nat} (h : Rm A n) (hk : k ≤ n) : Rm A k := ⟨Nat.le_trans (Nat.add_le_add_left hk _) h.d, Nat.le_trans (Nat.add_le_add_left (Nat.mul_le_mul_left _ hk) _) h.u, h.h⟩
theorem Rm.deeper {A : Around} {n : Nat} {env : Env} (h : Rm A (n + 1)) : Rm (A.deeper env) n :=
  ⟨by have := h.d; show A.depth + 1 + n ≤ 900; omega, by have := h.u; show A.units + 3 + 8 * n ≤ 9000; omega, h.h⟩
theorem Rm.depth {A : Around} {n : Nat} (h : Rm A n) : A.depth < recursionLimit := by have := h.d; show _ < 1000; omega
theorem Rm.room {A : Around} {n : Nat} (h : Rm A n) : A.units + 400 < cLine := by have := h.u; show _ < 9900; omega
noncomputable abbrev NoE : Value → Shared → Prop := fun _ _ => False
section
variable (G : Gd)
inductive P {α β : Type} (rep : Frz → β → α → Prop) (R : Sig) (Φ : Frz) (Q : β → Sig → Prop) (v : α) (s : Shared) : Prop
  | mk (Φ' : Frz) (b : β) (σ : Sig) (x : Ext Φ Φ') (r : rep Φ' b v) (t : St G (σ ++ R) Φ' s) (q : Q b σ) : P rep R Φ Q v s
noncomputable def W {α β : Type} (n : Nat) (K : Sig) (C : Frz → Prop) (σ : Sig) (rep : Frz → β → α → Prop) (t : Sem α) (Q : β → Sig → Prop) : Prop :=
  ∀ A Φ s F, Rm A n → C Φ → St G (σ ++ (K ++ F)) Φ s → wpAny (model G.prog G.w) A t (P G rep (K ++ F) Φ Q) NoE s
noncomputable def Tt : Frz → Prop := fun _ => True
theorem tt {Φ : Frz} : Tt Φ := trivial
noncomputable def BRep : Frz → Bool → Bool → Prop := fun _ b v => b = v
noncomputable def URep : Frz → Unit → Unit → Prop := fun _ _ _ => True
noncomputable def WE (n : Nat) (env : Env) (K σ : Sig) (e : Expr) (Q : AV → Sig → Prop) : Prop := W G n K Tt σ VRep (eval e env) Q
noncomputable def WEs (n : Nat) (env : Env) (K : Sig) : List Expr → Sig → (List AV → Sig → Prop) → Prop
  | [], σ, Q => Q [] σ
  | e :: r, σ, Q => WE G n env K σ e fun a σ₁ => WEs n env K r σ₁ fun l σ₂ => Q (a :: l) σ₂
noncomputable def WB (n : Nat) (env : Env) (K σ : Sig) (e : Expr) (Q : Bool → Sig → Prop) : Prop := W G n K Tt σ BRep (isTrue e env (eval e env)) Q
noncomputable def W1 (n : Nat) (t : Value → Sem Value) (a : AV) (σ : Sig) (Q : AV → Sig → Prop) : Prop := ∀ v, W G n [] (fun Φ => VRep Φ a v) σ VRep (t v) Q
noncomputable def W2 (n : Nat) (t : Value → Value → Sem Value) (a b : AV) (σ : Sig) (Q : AV → Sig → Prop) : Prop := ∀ v w, W G n [] (fun Φ => VRep Φ a v ∧ VRep Φ b w) σ VRep (t v w) Q
noncomputable def W3 (n : Nat) (t : Value → Value → Value → Sem Unit) (a b c : AV) (σ : Sig) (Q : Sig → Prop) : Prop :=
  ∀ u v w, W G n [] (fun Φ => VRep Φ a u ∧ VRep Φ b v ∧ VRep Φ c w) σ URep (t u v w) (fun _ => Q)
noncomputable def WT (n : Nat) (a : AV) (σ : Sig) (Q : Bool → Sig → Prop) : Prop := ∀ v, W G n [] (fun Φ => VRep Φ a v) σ BRep (truthy v) Q
inductive AFl where
  | next | brk | cont
  | ret (v : AV)
noncomputable def FRep (Φ : Frz) : AFl → Flow → Prop
  | .next, f => f = .next
  | .brk, f => f = .brk
  | .cont, f => f = .cont
  | .ret x, f => ∃ v, f = .ret v ∧ VRep Φ x v
inductive PS (L : Addr) (F : Sig) (Φ : Frz) (Q : AFl → Loc → Sig → Prop) (f : Flow) (s : Shared) : Prop
  | mk (Φ' : Frz) (fl : AFl) (m : Loc) (σ : Sig) (x : Ext Φ Φ') (r : FRep Φ' fl f) (t : St G (σ ++ ((L, .ns m) :: F)) Φ' s) (q : Q fl m σ) : PS L F Φ Q f s
inductive PA (L : Addr) (F : Sig) (Φ : Frz) (Q : Loc → Sig → Prop) (s : Shared) : Prop
  | mk (Φ' : Frz) (m : Loc) (σ : Sig) (x : Ext Φ Φ') (t : St G (σ ++ ((L, .ns m) :: F)) Φ' s) (q : Q m σ) : PA L F Φ Q s
noncomputable def WT1 (n : Nat) (L : Addr) (m : Loc) (σ : Sig) (t : Sem Flow) (Q : AFl → Loc → Sig → Prop) : Prop :=
  ∀ A Φ s F, Rm A n → St G (σ ++ ((L, .ns m) :: F)) Φ s → wpAny (model G.prog G.w) A t (PS G L F Φ Q) NoE s
noncomputable def WS (n : Nat) (env : Env) (m : Loc) (σ : Sig) (ss : List Stmt) (Q : AFl → Loc → Sig → Prop) : Prop := WT1 G n env.locals m σ (execs ss env) Q
noncomputable def WS1 (n : Nat) (env : Env) (m : Loc) (σ : Sig) (st : Stmt) (Q : AFl → Loc → Sig → Prop) : Prop := WT1 G n env.locals m σ (exec st env) Q
noncomputable def WA (n : Nat) (env : Env) (m : Loc) (σ : Sig) (e : Expr) (a : AV) (Q : Loc → Sig → Prop) : Prop :=
  ∀ v A Φ s F, Rm A n → VRep Φ a v → St G (σ ++ ((env.locals, .ns m) :: F)) Φ s → wpAny (model G.prog G.w) A (assign e env v)
    (fun _ s' => PA G env.locals F Φ Q s') NoE s
noncomputable def WCd (n : Nat) (f : AV) (args : List AV) (σ : Sig) (Q : AV → Sig → Prop) : Prop :=
  ∀ fv vs A Φ s F, Rm A n → VRep Φ f fv → VReps Φ args vs → St G (σ ++ F) Φ s → codeAny (model G.prog G.w) A (.call fv ⟨vs, []⟩) (fun r s' => ∃ v, r = .ok (.ret v) ∧ P G VRep F Φ Q v s') s
noncomputable def HasNs (F : Sig) : Prop := ∃ L m, (L, AObj.ns m) ∈ F
noncomputable def WC (n : Nat) (f : AV) (args : List AV) (σ : Sig) (Q : AV → Sig → Prop) : Prop :=
  ∀ fv vs A Φ s F, Rm A n → HasNs F → VRep Φ f fv → VReps Φ args vs → St G (σ ++ F) Φ s → wpAny (model G.prog G.w) A (PySem.call fv vs) (P G VRep F Φ Q) NoE s
end
section
variable {G : Gd} {n : Nat} {env : Env} {K σ : Sig}
theorem P.up {α β : Type} {rep : Frz → β → α → Prop} {R : Sig} {Φ Φ₁ : Frz} {Q : β → Sig → Prop} {v : α} {s : Shared} (x : Ext Φ Φ₁) (h : P G rep R Φ₁ Q v s) : P G rep R Φ Q v s :=
  let ⟨Φ', b, σ, e, r1, r2, r3⟩ := h; ⟨Φ', b, σ, x.trans e, r1, r2, r3⟩
theorem PS.up {L : Addr} {F : Sig} {Φ Φ₁ : Frz} {Q : AFl → Loc → Sig → Prop} {f : Flow} {s : Shared} (x : Ext Φ Φ₁) (h : PS G L F Φ₁ Q f s) : PS G L F Φ Q f s :=
  let ⟨Φ', b, m, σ, e, r1, r2, r3⟩ := h; ⟨Φ', b, m, σ, x.trans e, r1, r2, r3⟩
theorem WC.of {f : AV} {args : List AV} {Q : AV → Sig → Prop} (h : WCd G n f args σ Q) : WC G n f args σ Q := fun fv vs A Φ s F hr _ r1 r2 hs =>
  wpAny_call (codeAny_mono (h fv vs A Φ s F hr r1 r2 hs) fun r s' hq => by obtain ⟨v, rfl, hp⟩ := hq; exact hp)
theorem HasNs.app {K F : Sig} (h : HasNs K) : HasNs (K ++ F) := let ⟨L, m, e⟩ := h; ⟨L, m, List.mem_append_left _ e⟩
theorem HasNs.hd {L : Addr} {m : Loc} {F : Sig} : HasNs ((L, .ns m) :: F) := ⟨L, m, .head _⟩
theorem noE {E : Value → Shared → Prop} : ∀ e s, NoE e s → E e s := fun _ _ h => h.elim
theorem W.go {α β : Type} {C : Frz → Prop} {rep : Frz → β → α → Prop} {t : Sem α} {Q : β → Sig → Prop} (h : W G n K C σ rep t Q) {A : Around} {Φ : Frz} {s : Shared} {F : Sig}
    {R : α → Shared → Prop} {E : Value → Shared → Prop} (hr : Rm A n) (hc : C Φ) (hs : St G (σ ++ (K ++ F)) Φ s)
    (k : ∀ v s' Φ' b σ', Ext Φ Φ' → rep Φ' b v → St G (σ' ++ (K ++ F)) Φ' s' → Q b σ' → R v s') : wpAny (model G.prog G.w) A t R E s :=
  wpAny_mono (h A Φ s F hr hc hs) (fun v s' ⟨Φ', b, σ', a1, a2, a3, a4⟩ => k v s' Φ' b σ' a1 a2 a3 a4) noE
theorem W.mono {α β : Type} {C : Frz → Prop} {rep : Frz → β → α → Prop} {t : Sem α} {Q Q' : β → Sig → Prop} (h : W G n K C σ rep t Q) (k : ∀ b σ', Q b σ' → Q' b σ') : W G n K C σ rep t Q' :=
  fun A Φ s F hr hc hs => h.go hr hc hs fun v s' Φ' b σ' a1 a2 a3 a4 => ⟨Φ', b, σ', a1, a2, a3, k _ _ a4⟩
theorem WE.const_int {i : Int} {k : Nat} {pos : Pos} {Q : AV → Sig → Prop} (h : Q (.int i) σ) : WE G n env K σ (.Constant (.int i) k pos) Q :=
  fun A Φ s F hr hc hs => wpAny_Constant_int ⟨Φ, .int i, σ, .refl _, ⟨_, rfl⟩, hs.toks _, h⟩
theorem WE.const_str {x : Str} {k : Nat} {pos : Pos} {Q : AV → Sig → Prop} (h : Q (.str x) σ) : WE G n env K σ (.Constant (.str x) k pos) Q :=
  fun A Φ s F hr hc hs => Constant_str ⟨Φ, .str x, σ, .refl _, ⟨_, rfl⟩, hs.toks _, h⟩
theorem WE.const_bool {b : Bool} {k : Nat} {pos : Pos} {Q : AV → Sig → Prop} (h : Q (.bool b) σ) : WE G n env K σ (.Constant (.bool b) k pos) Q :=
  fun A Φ s F hr hc hs => wpAny_pure ⟨Φ, .bool b, σ, .refl _, rfl, hs, h⟩
theorem WE.const_none {k : Nat} {pos : Pos} {Q : AV → Sig → Prop} (h : Q .none σ) : WE G n env K σ (.Constant .none k pos) Q :=
  fun A Φ s F hr hc hs => wpAny_pure ⟨Φ, .none, σ, .refl _, rfl, hs, h⟩
theorem WE.local {x : Str} {pos : Pos} {m : Loc} {a : AV} {K' : Sig} {Q : AV → Sig → Prop} (hm : m.lookup x = some a) (h : Q a σ)
    (hl : env.kindOf x = some .local) (hk : env.scope.kind = .function) (hd : (x == ("__debug__" : Str)) = false) : WE G n env ((env.locals, .ns m) :: K') σ (.Name x pos) Q :=
  fun A Φ s F hr hc hs => by
    obtain ⟨mm, hn, hv⟩ := hs.mem (a := env.locals) (ao := .ns m) (List.mem_append_right _ (.head _))
    obtain ⟨v, e, r⟩ := hv x a hm
    exact wpAny_Name (wpAny_loadName_local hk hl hn e ⟨Φ, a, σ, .refl _, r, hs, h⟩) hd
theorem WE.cell {x : Str} {pos : Pos} {c : Addr} {a : AV} {Q : AV → Sig → Prop} (hc : env.cells.lookup x = some c) (hm : (c, .cell (some a)) ∈ σ) (h : Q a σ)
    (hl : env.kindOf x = some .cell) (hk : env.scope.kind = .function) (hd : (x == ("__debug__" : Str)) = false) : WE G n env K σ (.Name x pos) Q :=
  fun A Φ s F hr hcc hs => by
    obtain ⟨o, cv, e, e1, y, e2, r⟩ := hs.mem (a := c) (ao := .cell (some a)) (List.mem_append_left _ hm)
    exact wpAny_Name (wpAny_loadName_cell hk hl hc ⟨o, e, e2 ▸ e1⟩ ⟨Φ, a, σ, .refl _, r, hs, h⟩) hd
theorem WE.free {x : Str} {pos : Pos} {c : Addr} {a : AV} {Q : AV → Sig → Prop} (hc : env.cells.lookup x = some c) (hm : (c, .cell (some a)) ∈ σ) (h : Q a σ)
    (hl : env.kindOf x = some .free) (hk : env.scope.kind = .function) (hd : (x == ("__debug__" : Str)) = false) (hn : (x == ("__classdict__" : Str)) = false) : WE G n env K σ (.Name x pos) Q :=
  fun A Φ s F hr hcc hs => by
    obtain ⟨o, cv, e, e1, y, e2, r⟩ := hs.mem (a := c) (ao := .cell (some a)) (List.mem_append_left _ hm)
    exact wpAny_Name (wpAny_loadName_free hk hl hc ⟨o, e, e2 ▸ e1⟩ ⟨Φ, a, σ, .refl _, r, hs, h⟩ hn) hd
theorem WE.global {x : Str} {pos : Pos} {v : Value} {Q : AV → Sig → Prop} (e : nsIn G.K mainGlobals x = some (some v)) (h : Q (.raw v) σ)
    (hg : env.globals = mainGlobals) (hl : env.kindOf x = some .globalImplicit) (hk : env.scope.kind = .function) (hd : (x == ("__debug__" : Str)) = false) : WE G n env K σ (.Name x pos) Q :=
  fun A Φ s F hr hc hs => Name_function_global hk hl (loadGlobal_global (by rw [hg]; exact hs.top.g) (mg_of G.X G.T.g e) ⟨Φ, .raw v, σ, .refl _, rfl, hs, h⟩) hd
theorem WE.builtin {x : Str} {pos : Pos} {v : Value} {Q : AV → Sig → Prop} (e : nsIn G.K mainGlobals x = some none) (hv : bootBuiltins x = some v) (hn : x ≠ "__name__") (h : Q (.raw v) σ)
    (hg : env.globals = mainGlobals) (hb : env.builtins = builtinsNs) (hl : env.kindOf x = some .globalImplicit) (hk : env.scope.kind = .function) (hd : (x == ("__debug__" : Str)) = false) : WE G n env K σ (.Name x pos) Q :=
  fun A Φ s F hr hc hs => Name_function_global hk hl (loadGlobal_builtin (by rw [hg]; exact hs.top.g) (mg_none_of G.X G.T.g e) (by rw [hb]; exact hs.top.b) ((G.T.builtins x hn).trans hv) ⟨Φ, .raw v, σ, .refl _, rfl, hs, h⟩) hd
theorem WE.globalV {x : Str} {pos : Pos} {v : Value} {a : AV} {Q : AV → Sig → Prop} (e : nsIn G.K mainGlobals x = some (some v)) (r : ∀ Φ, (∀ b o, G.B.get? b = some o → Φ b = some o) → VRep Φ a v) (h : Q a σ)
    (hg : env.globals = mainGlobals) (hl : env.kindOf x = some .globalImplicit) (hk : env.scope.kind = .function) (hd : (x == ("__debug__" : Str)) = false) : WE G n env K σ (.Name x pos) Q :=
  fun A Φ s F hr hc hs => Name_function_global hk hl (loadGlobal_global (by rw [hg]; exact hs.top.g) (mg_of G.X G.T.g e) ⟨Φ, a, σ, .refl _, r Φ hs.base, hs, h⟩) hd
theorem WE.binop {l r : Expr} {op : Operator} {pos : Pos} {Q : AV → Sig → Prop} (h : WE G n env K σ l fun a σ₁ => WE G n env K σ₁ r fun b σ₂ => W2 G n (binaryOp op) a b σ₂ Q) :
    WE G n env K σ (.BinOp l op r pos) Q := fun A Φ s F hr hc hs =>
  wpAny_BinOp (h.go hr tt hs fun v s1 Φ1 a σ1 x1 r1 h1 q1 => q1.go hr tt h1 fun w s2 Φ2 b σ2 x2 r2 h2 q2 =>
    (q2 v w).go hr (F := K ++ F) ⟨r1.ext x2, r2⟩ h2 fun u s3 Φ3 c σ3 x3 r3 h3 q3 => ⟨Φ3, c, σ3, (x1.trans x2).trans x3, r3, h3, q3⟩)
theorem WE.compare {l r : Expr} {op : CmpOp} {pos : Pos} {Q : AV → Sig → Prop} (h : WE G n env K σ l fun a σ₁ => WE G n env K σ₁ r fun b σ₂ => W2 G n (compareOp op) a b σ₂ Q)
    (hm : behindInMarks op r = false) : WE G n env K σ (.Compare l [op] [r] pos) Q := fun A Φ s F hr hc hs =>
  wpAny_Compare1 (hm := hm) (h.go hr tt hs fun v s1 Φ1 a σ1 x1 r1 h1 q1 => q1.go hr tt h1 fun w s2 Φ2 b σ2 x2 r2 h2 q2 =>
    (q2 v w).go hr (F := K ++ F) ⟨r1.ext x2, r2⟩ h2 fun u s3 Φ3 c σ3 x3 r3 h3 q3 => ⟨Φ3, c, σ3, (x1.trans x2).trans x3, r3, h3, q3⟩)
noncomputable def KB (Q : Bool → Sig → Prop) (c : AV) (σ : Sig) : Prop := ∃ k, c = .bool k ∧ Q k σ
theorem WB.compare {l r : Expr} {op : CmpOp} {pos : Pos} {Q : Bool → Sig → Prop} (h : WE G n env K σ l fun a σ₁ => WE G n env K σ₁ r fun b σ₂ => W2 G n (compareOp op) a b σ₂ (KB Q))
    (hm : behindInMarks op r = false) : WB G n env K σ (.Compare l [op] [r] pos) Q := fun A Φ s F hr hc hs =>
  wpAny_isTrue_Compare1 (hm := hm) (h.go hr tt hs fun v s1 Φ1 a σ1 x1 r1 h1 q1 => q1.go hr tt h1 fun w s2 Φ2 b σ2 x2 r2 h2 q2 =>
    (q2 v w).go hr (F := K ++ F) ⟨r1.ext x2, r2⟩ h2 fun u s3 Φ3 c σ3 x3 r3 h3 q3 => by
      obtain ⟨k, rfl, q⟩ := q3
      rw [show u = .bool k from r3]
      exact wpAny_truthy_bool ⟨Φ3, k, σ3, (x1.trans x2).trans x3, rfl, h3, q⟩)
noncomputable def WAnd (G : Gd) (n : Nat) (env : Env) (K σ : Sig) (es : List Expr) (Q : Bool → Sig → Prop) : Prop := W G n K Tt σ BRep (allTrue .And es env) Q
noncomputable def WOr (G : Gd) (n : Nat) (env : Env) (K σ : Sig) (es : List Expr) (Q : Bool → Sig → Prop) : Prop := W G n K Tt σ BRep (allTrue .Or es env) Q
theorem WB.and {es : List Expr} {pos : Pos} {Q : Bool → Sig → Prop} (h : WAnd G n env K σ es Q) : WB G n env K σ (.BoolOp .And es pos) Q := fun A Φ s F hr hc hs => wpAny_isTrue_BoolOp (h A Φ s F hr hc hs)
theorem WB.or {es : List Expr} {pos : Pos} {Q : Bool → Sig → Prop} (h : WOr G n env K σ es Q) : WB G n env K σ (.BoolOp .Or es pos) Q := fun A Φ s F hr hc hs => wpAny_isTrue_BoolOp (h A Φ s F hr hc hs)
theorem WAnd.nil {Q : Bool → Sig → Prop} (h : Q true σ) : WAnd G n env K σ [] Q := fun A Φ s F hr hc hs => wpAny_allTrue_And_nil ⟨Φ, true, σ, .refl _, rfl, hs, h⟩
theorem WOr.nil {Q : Bool → Sig → Prop} (h : Q false σ) : WOr G n env K σ [] Q := fun A Φ s F hr hc hs => wpAny_allTrue_Or_nil ⟨Φ, false, σ, .refl _, rfl, hs, h⟩
theorem WAnd.cons {x : Expr} {rest : List Expr} {Q : Bool → Sig → Prop} (h : WB G n env K σ x fun b σ₁ => if b then WAnd G n env K σ₁ rest Q else Q false σ₁) : WAnd G n env K σ (x :: rest) Q := fun A Φ s F hr hc hs =>
  wpAny_allTrue_And_cons (h.go hr tt hs fun v s1 Φ1 a σ1 x1 r1 h1 q1 => by
    cases r1; cases v
    · exact ⟨Φ1, false, σ1, x1, rfl, h1, q1⟩
    · exact W.go q1 hr tt h1 fun v s2 Φ2 b σ2 x2 r2 h2 q2 => ⟨Φ2, b, σ2, x1.trans x2, r2, h2, q2⟩)
theorem WOr.cons {x : Expr} {rest : List Expr} {Q : Bool → Sig → Prop} (h : WB G n env K σ x fun b σ₁ => if b then Q true σ₁ else WOr G n env K σ₁ rest Q) : WOr G n env K σ (x :: rest) Q := fun A Φ s F hr hc hs =>
  wpAny_allTrue_Or_cons (h.go hr tt hs fun v s1 Φ1 a σ1 x1 r1 h1 q1 => by
    cases r1; cases v
    · exact W.go q1 hr tt h1 fun v s2 Φ2 b σ2 x2 r2 h2 q2 => ⟨Φ2, b, σ2, x1.trans x2, r2, h2, q2⟩
    · exact ⟨Φ1, true, σ1, x1, rfl, h1, q1⟩)
end
end Mine
set_option maxRecDepth 100000
set_option autoImplicit false
namespace Mine
open PySem PySem.W PyProof.Rows PySem.Calls PySem.SeqAt
section
variable {M : Model} {A : Around} {E : Value → Shared → Prop} {s : Shared}
theorem callWith_any {pos : Pos} {f : Value} {first : List Value} {args : List (Bool × Sem Value)} {Q : Value → Shared → Prop} (hplain : args.any (·.1) = false)
    (hev : wpAny M A (evalArgs f true args []) (fun a s₁ => a.kw = [] ∧ (∃ kp, ∀ R : Keeper → Shared → Prop, R kp s₁ → wpAny M A (keeperOf f) R E s₁) ∧ wpAny M A (call f (first ++ a.pos) []) Q E s₁) E s) :
    wpAny M A (callWith pos f first args []) Q E s := by
  unfold callWith
  refine wpAny_bind (wpAny_holding (wpAny_mono hev (fun x s₁ h₁ => wpAny_bind (wpAny_standAt ?_)) fun _ _ x => x))
  obtain ⟨hkw, ⟨kp, hk⟩, hc⟩ := h₁
  have tail : ∀ {t : Sem Value}, wpAny M A t Q E s₁ → wpAny M A (t >>= fun r => holding [r] point >>= fun _ => pure r) Q E s₁ :=
    fun ht => wpAny_bind (wpAny_mono ht (fun r s₂ hr => wpAny_bind (wpAny_holding (wpAny_point (wpAny_pure hr)))) fun _ _ x => x)
  simp -iota only [hplain, List.any_nil, Bool.or_false, hkw]
  refine wpAny_bind (m := keeperOf f) (hk _ ?_)
  cases kp
  · dsimp only
    split
    · exact tail hc
    · exact tail (by unfold callMarked; exact wpAny_keep hc)
  · dsimp only
    split
    · exact tail hc
    · exact tail (by unfold callMarked; exact wpAny_keep hc)
  · exact tail hc
  · exact tail (wpAny_operating hc)
end
section
variable {G : Gd} {n : Nat} {env : Env} {K σ : Sig}
theorem WEs.spl {Q : List AV → Sig → Prop} {pos : Pos} : ∀ {es : List Expr} {σ : Sig}, WEs G n env K es σ Q → W G n K Tt σ VReps (spliced (backTo pos (es.map fun e => (false, eval e env)))) Q
  | [], σ, h => fun A Φ s F hr hc hs => spliced_nil ⟨Φ, [], σ, .refl _, rfl, hs, h⟩
  | e :: r, σ, h => fun A Φ s F hr hc hs => spliced_cons ((show WE G n env K σ e _ from h).go hr tt hs fun v s1 Φ1 a σ1 x1 r1 h1 q1 =>
      (WEs.spl (es := r) q1).go hr tt h1 fun vs s2 Φ2 l σ2 x2 r2 h2 q2 => ⟨Φ2, a :: l, σ2, x1.trans x2, ⟨v, vs, rfl, r1.ext x2, r2⟩, h2, q2⟩)
theorem backTo_plain {pos : Pos} : ∀ {es : List Expr} {env : Env}, (backTo pos (es.map fun e => (false, eval e env))).any (·.1) = false
  | [], _ => rfl
  | _ :: r, env => backTo_plain (es := r)
noncomputable def TupK (Q : AV → Sig → Prop) (l : List AV) (σ : Sig) : Prop := Q (.tup l) σ ∧ l.length ≤ sizeLine
noncomputable def ListK (Q : AV → Sig → Prop) (l : List AV) (σ : Sig) : Prop := (∀ a, Q (.raw (.ref a)) ((a, .list l) :: σ)) ∧ l.length ≤ sizeLine
theorem WE.tuple {es : List Expr} {k : Nat} {pos : Pos} {Q : AV → Sig → Prop} (h : WEs G n env K es σ (TupK Q))
    (hst : starEach es env = es.map fun e => (false, eval e env)) : WE G n env K σ (.Tuple es k pos) Q := fun A Φ s F hr hc hs => by
  refine Tuple_ ?_
  rw [hst]
  refine h.spl.go hr tt hs fun vs s1 Φ1 l σ1 x1 r1 h1 q1 => ?_
  refine wpAny_newObj_type ?_ (by show vs.toArray.size ≤ sizeLine; rw [List.size_toArray, r1.length]; exact q1.2)
  obtain ⟨x2, e2, h2⟩ := h1.newFrz (s' := { s1 with heap := s1.heap.push (tupO vs) }) (a := s1.heap.objs.size) (o := tupO vs) (fun b o e => Heap.get?_push_of_some _ e) (Nat.le_refl _) (Heap.get?_push_size _ rfl) rfl rfl
  exact ⟨_, .tup l, σ1, x1.trans x2, ⟨_, vs, rfl, e2, r1.ext x2⟩, h2, q1.1⟩
theorem WE.list {es : List Expr} {pos : Pos} {Q : AV → Sig → Prop} (h : WEs G n env K es σ (ListK Q))
    (hst : starEach es env = es.map fun e => (false, eval e env)) : WE G n env K σ (.List es pos) Q := fun A Φ s F hr hc hs => by
  refine List_ ?_
  rw [hst]
  refine h.spl.go hr tt hs fun vs s1 Φ1 l σ1 x1 r1 h1 q1 => ?_
  refine wpAny_newObj_type ?_ (by show vs.toArray.size ≤ sizeLine; rw [List.size_toArray, r1.length]; exact q1.2)
  have h2 := h1.newOwn (s' := { s1 with heap := s1.heap.push { cls := .type "list", data := .seq vs.toArray } }) (ao := .list l) (fun b o e => Heap.get?_push_of_some _ e)
    ⟨vs.toArray, ⟨0, Heap.get?_push_size _ rfl⟩, r1⟩ rfl rfl
  exact ⟨_, .raw (.ref s1.heap.objs.size), (s1.heap.objs.size, .list l) :: σ1, x1, rfl, h2, q1.1 _⟩
theorem WE.sub {value slice : Expr} {pos : Pos} {Q : AV → Sig → Prop} (h : WE G n env K σ value fun a σ₁ => WE G n env K σ₁ slice fun b σ₂ => W2 G n (subscriptTail value slice) a b σ₂ Q) :
    WE G n env K σ (.Subscript value slice pos) Q := fun A Φ s F hr hc hs => by
  rw [arm_eval_Subscript]
  refine wpAny_bind (h.go hr hc hs fun v s1 Φ1 a σ1 x1 r1 h1 q1 => wpAny_bind (wpAny_holding (q1.go hr tt h1 fun w s2 Φ2 b σ2 x2 r2 h2 q2 => wpAny_bind (wpAny_standAt ?_))))
  exact (q2 v w).go hr (F := K ++ F) ⟨r1.ext x2, r2⟩ h2 fun u s3 Φ3 c σ3 x3 r3 h3 q3 => ⟨Φ3, c, σ3, (x1.trans x2).trans x3, r3, h3, q3⟩
theorem WE.attr {value : Expr} {attr : Str} {pos : Pos} {Q : AV → Sig → Prop} (h : WE G n env K σ value fun a σ₁ => W1 G n (fun o => getAttr o attr true) a σ₁ Q)
    (hb : attributeBase value attr env (eval value env) = eval value env) : WE G n env K σ (.Attribute value attr pos) Q := fun A Φ s F hr hc hs => by
  rw [arm_eval_Attribute, hb]
  refine wpAny_bind (h.go hr hc hs fun v s1 Φ1 a σ1 x1 r1 h1 q1 => wpAny_bind (wpAny_standAt (wpAny_bind (wpAny_holding ?_))))
  exact (q1 v).go hr (F := K ++ F) r1 h1 fun u s3 Φ3 c σ3 x3 r3 h3 q3 => wpAny_bind (wpAny_letTemporaryGo (wpAny_pure ⟨Φ3, c, σ3, x1.trans x3, r3, h3, q3⟩))
theorem WE.ifexp {test body orelse : Expr} {pos : Pos} {Q : AV → Sig → Prop} (h : WB G n env K σ test fun b σ₁ => if b then WE G n env K σ₁ body Q else WE G n env K σ₁ orelse Q) :
    WE G n env K σ (.IfExp test body orelse pos) Q := fun A Φ s F hr hc hs =>
  wpAny_IfExp (h.go hr hc hs fun v s1 Φ1 a σ1 x1 r1 h1 q1 => by
    cases r1; cases v
    · exact W.go (show WE G n env K σ1 orelse Q from q1) hr tt h1 fun u s3 Φ3 c σ3 x3 r3 h3 q3 => ⟨Φ3, c, σ3, x1.trans x3, r3, h3, q3⟩
    · exact W.go (show WE G n env K σ1 body Q from q1) hr tt h1 fun u s3 Φ3 c σ3 x3 r3 h3 q3 => ⟨Φ3, c, σ3, x1.trans x3, r3, h3, q3⟩)
theorem WE.or2 {x y : Expr} {pos : Pos} {Q : AV → Sig → Prop} (h : WE G n env K σ x fun a σ₁ => WT G n a σ₁ fun t σ₂ => if t then Q a σ₂ else WE G n env K σ₂ y Q) :
    WE G n env K σ (.BoolOp .Or [x, y] pos) Q := fun A Φ s F hr hc hs =>
  wpAny_Or2 (h.go hr hc hs fun v s1 Φ1 a σ1 x1 r1 h1 q1 => (q1 v).go hr (F := K ++ F) r1 h1 fun t s2 Φ2 b σ2 x2 r2 h2 q2 => by
    cases r2; cases t
    · exact W.go (show WE G n env K σ2 y Q from q2) hr tt h2 fun u s3 Φ3 c σ3 x3 r3 h3 q3 => ⟨Φ3, c, σ3, (x1.trans x2).trans x3, r3, h3, q3⟩
    · exact ⟨Φ2, a, σ2, x1.trans x2, r1.ext x2, h2, q2⟩)
theorem WE.unary {x : Expr} {op : UnaryOp} {pos : Pos} {Q : AV → Sig → Prop} (h : WE G n env K σ x fun a σ₁ => W1 G n (unaryOp op) a σ₁ Q) :
    WE G n env K σ (.UnaryOp op x pos) Q := fun A Φ s F hr hc hs =>
  wpAny_UnaryOp (h.go hr hc hs fun v s1 Φ1 a σ1 x1 r1 h1 q1 => (q1 v).go hr (F := K ++ F) r1 h1 fun u s3 Φ3 c σ3 x3 r3 h3 q3 => ⟨Φ3, c, σ3, x1.trans x3, r3, h3, q3⟩)
theorem WB.value {e : Expr} {Q : Bool → Sig → Prop} (h : WE G n env K σ e fun a σ₁ => WT G n a σ₁ Q)
    (he : isTrue e env (eval e env) = (do let v ← eval e env; standAt e.pos; holding [v] (truthy v))) : WB G n env K σ e Q := fun A Φ s F hr hc hs =>
  wpAny_isTrue_value (h.go hr hc hs fun v s1 Φ1 a σ1 x1 r1 h1 q1 => (q1 v).go hr (F := K ++ F) r1 h1 fun t s2 Φ2 b σ2 x2 r2 h2 q2 => ⟨Φ2, b, σ2, x1.trans x2, r2, h2, q2⟩) he
noncomputable def WK (G : Gd) (f : AV) : Prop := ∀ (M : Model) (A : Around) (E : Value → Shared → Prop) Φ s σ fv, VRep Φ f fv → St G σ Φ s → ∃ kp, ∀ R : Keeper → Shared → Prop, R kp s → wpAny M A (keeperOf fv) R E s
noncomputable def WCall (G : Gd) (n : Nat) (f : AV) (args : List AV) (σ : Sig) (Q : AV → Sig → Prop) : Prop := WK G f ∧ WC G n f args σ Q
theorem WEs.args {f : Value} {pos : Pos} {Q : List AV → Sig → Prop} {es : List Expr} {σ : Sig} (h : WEs G n env K es σ Q) {A : Around} {Φ : Frz} {s : Shared} {F : Sig} {E : Value → Shared → Prop}
    {R : Args → Shared → Prop} (hr : Rm A n) (hs : St G (σ ++ (K ++ F)) Φ s) (k : ∀ vs s' Φ' l σ', Ext Φ Φ' → VReps Φ' l vs → St G (σ' ++ (K ++ F)) Φ' s' → Q l σ' → R ⟨vs, []⟩ s') :
    wpAny (model G.prog G.w) A (evalArgs f true (backTo pos (es.map fun e => (false, eval e env))) []) R E s := by
  cases es with
  | nil => exact evalArgs_nil3 (k [] s Φ [] σ (.refl _) rfl hs h)
  | cons e r => exact evalArgs_plain (h.spl.go hr tt hs fun v s1 Φ1 a σ1 x1 r1 h1 q1 => k v s1 Φ1 a σ1 x1 r1 h1 q1)
noncomputable def isAtt : Expr → Bool
  | .Attribute .. => true
  | _ => false
theorem arm_call {func : Expr} {args : List Expr} {pos : Pos} (hf : isAtt func = false) : eval (.Call func args [] pos) env =
    (do callWith pos (← eval func env) [] (backTo pos (starEach args env)) (backToKw pos (keywordEach [] env))) := by
  cases func <;> first | rfl | cases hf
theorem WE.call {func : Expr} {args : List Expr} {pos : Pos} {Q : AV → Sig → Prop} (h : WE G n env K σ func fun f σ₁ => WEs G n env K args σ₁ fun l σ₂ => WCall G n f l σ₂ Q)
    (hst : starEach args env = args.map fun e => (false, eval e env)) (hf : isAtt func = false) (hK : HasNs K) : WE G n env K σ (.Call func args [] pos) Q := fun A Φ s F hr hc hs => by
  rw [arm_call hf, hst]
  refine wpAny_bind (h.go hr hc hs fun f s1 Φ1 a σ1 x1 r1 h1 q1 => ?_)
  refine callWith_any (args := backTo pos (args.map fun e => (false, eval e env))) backTo_plain (q1.args hr h1 fun vs s2 Φ2 l σ2 x2 r2 h2 q2 => ⟨rfl, q2.1 _ _ _ _ _ _ f (r1.ext x2) h2, ?_⟩)
  exact wpAny_mono (q2.2 f vs A Φ2 s2 (K ++ F) hr hK.app (r1.ext x2) r2 h2) (fun v s3 hp => (hp.up x2).up x1) noE
noncomputable def WM (G : Gd) (n : Nat) (name : Str) (a : AV) (σ : Sig) (Q : AV → List AV → Sig → Prop) : Prop :=
  ∀ v pl A Φ s F, Rm A n → VRep Φ a v → St G (σ ++ F) Φ s → (∀ R : Bool → Shared → Prop, (∀ b, R b s) → wpAny (model G.prog G.w) A pl R NoE s) →
    wpAny (model G.prog G.w) A (getMethod v name pl) (fun r s' => ∃ Φ' f first σ', Ext Φ Φ' ∧ VRep Φ' f r.1 ∧ VReps Φ' first r.2 ∧ St G (σ' ++ F) Φ' s' ∧ Q f first σ') NoE s
end
end Mine
set_option maxRecDepth 100000
set_option autoImplicit false
namespace Mine
open PySem PySem.W PyProof.Rows PySem.Calls PySem.SeqAt
section
variable {G : Gd} {n : Nat} {env : Env} {K σ : Sig}
theorem importBound_bool {o : Expr} {s : Shared} {σ : Sig} {Φ : Frz} (hs : St G σ Φ s) (hg : env.globals = mainGlobals) {A : Around} {R : Bool → Shared → Prop} (h : ∀ b, R b s) :
    wpAny (model G.prog G.w) A (do return (← importBound o env).getD true) R NoE s := by
  refine wpAny_bind ?_
  cases o with
  | Name id p =>
    refine wpAny_bind (wpAny_askSetting (wpAny_bind (wpAny_nsGet (by rw [hg]; exact hs.top.g) ?_)))
    split <;> exact wpAny_pure (wpAny_pure (h _))
  | _ => exact wpAny_pure (wpAny_pure (h _))
theorem WE.mcall {o : Expr} {name : Str} {apos pos : Pos} {args : List Expr} {Q : AV → Sig → Prop}
    (h : WE G n env K σ o fun a σ₁ => WM G n name a σ₁ fun f first σ₂ => WEs G n env K args σ₂ fun l σ₃ => WCall G n f (first ++ l) σ₃ Q)
    (hb : attributeBase o name env (eval o env) = eval o env) (hst : starEach args env = args.map fun e => (false, eval e env)) (hlen : args.length < 30) (hline : (apos.endLine == pos.line) = true)
    (hg : env.globals = mainGlobals) (hK : HasNs K) : WE G n env K σ (.Call (.Attribute o name apos) args [] pos) Q := fun A Φ s F hr hc hs => by
  rw [arm_eval_Call, hb, hst]
  refine wpAny_bind (h.go hr hc hs fun ov s1 Φ1 a σ1 x1 r1 h1 q1 => wpAny_bind (wpAny_standAt ?_))
  have hform : methodCallForm (args.length + ([] : List Keyword).length) (backTo pos (args.map fun e => (false, eval e env))) (backToKw pos (keywordEach [] env)) = true := by
    unfold methodCallForm
    have e1 : (backTo pos (args.map fun e => (false, eval e env))).all (!·.1) = true := by
      rw [List.all_eq_not_any_not]; simp only [Bool.not_not]
      rw [backTo_plain]; rfl
    rw [e1]
    show (true && true && decide (args.length + 0 + 0 < 30)) = true
    simp [hlen]
  have hpos : methodCallPos true o env apos pos = pure pos := by unfold methodCallPos; simp [hline]
  unfold methodCall
  rw [hform]
  refine wpAny_bind (wpAny_holding ?_)
  refine wpAny_mono (q1 ov _ A Φ1 s1 (K ++ F) hr r1 h1 fun R k => importBound_bool h1 hg k) (fun r s2 q2 => ?_) noE
  obtain ⟨Φ2, f, first, σ2, x2, rf, rfirst, h2, q2⟩ := q2
  obtain ⟨fv, fst⟩ := r
  refine wpAny_bind (wpAny_of_eq hpos ?_)
  refine callWith_any (args := backTo pos (args.map fun e => (false, eval e env))) backTo_plain (q2.args hr h2 fun vs s3 Φ3 l σ3 x3 r3 h3 q3 => ⟨rfl, q3.1 _ _ _ _ _ _ fv (rf.ext x3) h3, ?_⟩)
  exact wpAny_mono (q3.2 fv (fst ++ vs) A Φ3 s3 (K ++ F) hr hK.app (rf.ext x3) ((rfirst.ext x3).append r3) h3) (fun v s4 hp => (hp.up x3).up (x1.trans x2)) noE
theorem WT1.go {L : Addr} {m : Loc} {t : Sem Flow} {Q : AFl → Loc → Sig → Prop} (h : WT1 G n L m σ t Q) {A : Around} {Φ : Frz} {s : Shared} {F : Sig} {R : Flow → Shared → Prop} {E : Value → Shared → Prop}
    (hr : Rm A n) (hs : St G (σ ++ ((L, .ns m) :: F)) Φ s)
    (k : ∀ f s' Φ' fl m' σ', Ext Φ Φ' → FRep Φ' fl f → St G (σ' ++ ((L, .ns m') :: F)) Φ' s' → Q fl m' σ' → R f s') : wpAny (model G.prog G.w) A t R E s :=
  wpAny_mono (h A Φ s F hr hs) (fun f s' ⟨Φ', fl, m', σ', a1, a2, a3, a4⟩ => k f s' Φ' fl m' σ' a1 a2 a3 a4) noE
theorem WT1.mono {L : Addr} {m : Loc} {t : Sem Flow} {Q Q' : AFl → Loc → Sig → Prop} (h : WT1 G n L m σ t Q) (k : ∀ fl m' σ', Q fl m' σ' → Q' fl m' σ') : WT1 G n L m σ t Q' :=
  fun A Φ s F hr hs => h.go hr hs fun f s' Φ' fl m' σ' a1 a2 a3 a4 => ⟨Φ', fl, m', σ', a1, a2, a3, k _ _ _ a4⟩
theorem WS.nil {m : Loc} {Q : AFl → Loc → Sig → Prop} (h : Q .next m σ) : WS G n env m σ [] Q := fun A Φ s F hr hs => wpAny_execs_nil ⟨Φ, .next, m, σ, .refl _, rfl, hs, h⟩
theorem WS.cons {m : Loc} {st : Stmt} {rest : List Stmt} {Q : AFl → Loc → Sig → Prop} (h : WS1 G n env m σ st fun fl m₁ σ₁ => match fl with | .next => WS G n env m₁ σ₁ rest Q | fl => Q fl m₁ σ₁) :
    WS G n env m σ (st :: rest) Q := fun A Φ s F hr hs => by
  rw [arm_execs_cons]
  refine wpAny_bind (h.go hr hs fun f s1 Φ1 fl m1 σ1 x1 r1 h1 q1 => ?_)
  cases fl with
  | next =>
    cases r1
    exact WT1.go (show WS G n env m1 σ1 rest Q from q1) hr h1 fun f s2 Φ2 fl m2 σ2 x2 r2 h2 q2 => ⟨Φ2, fl, m2, σ2, x1.trans x2, r2, h2, q2⟩
  | brk => cases r1; exact wpAny_pure ⟨Φ1, .brk, m1, σ1, x1, rfl, h1, q1⟩
  | cont => cases r1; exact wpAny_pure ⟨Φ1, .cont, m1, σ1, x1, rfl, h1, q1⟩
  | ret x => obtain ⟨v, rfl, r⟩ := r1; exact wpAny_pure ⟨Φ1, .ret x, m1, σ1, x1, ⟨v, rfl, r⟩, h1, q1⟩
noncomputable abbrev WEF (G : Gd) (n : Nat) (env : Env) (m : Loc) (σ : Sig) (e : Expr) (Q : AV → Sig → Prop) : Prop := WE G n env [(env.locals, .ns m)] σ e Q
noncomputable abbrev WBF (G : Gd) (n : Nat) (env : Env) (m : Loc) (σ : Sig) (e : Expr) (Q : Bool → Sig → Prop) : Prop := WB G n env [(env.locals, .ns m)] σ e Q
theorem WS1.ret {m : Loc} {e : Expr} {pos : Pos} {Q : AFl → Loc → Sig → Prop} (h : WEF G n env m σ e fun a σ₁ => Q (.ret a) m σ₁) : WS1 G n env m σ (.Return (some e) pos) Q := fun A Φ s F hr hs =>
  wpAny_Return_some (W.go h hr tt hs fun v s1 Φ1 a σ1 x1 r1 h1 q1 => ⟨Φ1, .ret a, m, σ1, x1, ⟨v, rfl, r1⟩, h1, q1⟩)
theorem WS1.ite {m : Loc} {test : Expr} {body orelse : List Stmt} {pos : Pos} {Q : AFl → Loc → Sig → Prop} (h : WBF G n env m σ test fun b σ₁ => if b then WS G n env m σ₁ body Q else WS G n env m σ₁ orelse Q) :
    WS1 G n env m σ (.If test body orelse pos) Q := fun A Φ s F hr hs =>
  wpAny_If (W.go h hr tt hs fun v s1 Φ1 a σ1 x1 r1 h1 q1 => by
    cases r1; cases v
    · exact WT1.go (show WS G n env m σ1 orelse Q from q1) hr h1 fun f s2 Φ2 fl m2 σ2 x2 r2 h2 q2 => ⟨Φ2, fl, m2, σ2, x1.trans x2, r2, h2, q2⟩
    · exact WT1.go (show WS G n env m σ1 body Q from q1) hr h1 fun f s2 Φ2 fl m2 σ2 x2 r2 h2 q2 => ⟨Φ2, fl, m2, σ2, x1.trans x2, r2, h2, q2⟩)
theorem exec_Expr_drop (e : Expr) (pos : Pos) (hi : interactive env = false) (hs : swapsWith e none pos.line env = pure false) :
    exec (.Expr e pos) env = (do standAt pos; let v ← eval e env; dropValue e pos v) := exec_Expr env e pos hi hs
theorem WS1.expr {m : Loc} {e : Expr} {pos : Pos} {Q : AFl → Loc → Sig → Prop} (h : WEF G n env m σ e fun _ σ₁ => Q .next m σ₁) (hi : interactive env = false)
    (hsw : swapsWith e none pos.line env = pure false) : WS1 G n env m σ (.Expr e pos) Q := fun A Φ s F hr hs => by
  rw [exec_Expr_drop e pos hi hsw]
  refine wpAny_bind (wpAny_standAt (wpAny_bind (W.go h hr tt hs fun v s1 Φ1 a σ1 x1 r1 h1 q1 => ?_)))
  have fin : PS G env.locals F Φ Q .next s1 := ⟨Φ1, .next, m, σ1, x1, rfl, h1, q1⟩
  unfold dropValue
  split
  · exact wpAny_pure fin
  · exact wpAny_bind (wpAny_standAt (wpAny_bind (wpAny_runValue (codeAny_builtin entry_let_go (show wpAny _ _ (PySem.ret .none) _ _ s1 from wpAny_pure (wpAny_pure fin))))))
  · exact wpAny_pure fin
theorem St.setNs {L : Addr} {m : Loc} {F : Sig} {Φ : Frz} {s : Shared} {x : Str} {v : Value} {a : AV} (hs : St G (σ ++ ((L, .ns m) :: F)) Φ s) (r : VRep Φ a v) {h' : Heap} {tk : Nat}
    {mm : Str → Option Value} (hm : ∀ y av, m.lookup y = some av → ∃ v, mm y = some v ∧ VRep Φ av v)
    (hn : h'.Ns L (fun y => if y = x then some v else mm y)) (hb : Heap.SameBut L s.heap h') : St G (σ ++ ((L, .ns ((x, a) :: m)) :: F)) Φ { s with heap := h', toks := tk } := by
  have p : ∀ m' : Loc, (σ ++ ((L, AObj.ns m') :: F)).Perm ((L, .ns m') :: (σ ++ F)) := fun m' => List.perm_middle
  refine ((hs.perm (p m)).updHead (s' := { s with heap := h', toks := tk }) (ao' := .ns ((x, a) :: m)) hb.extBut ?_ rfl rfl).perm (p _).symm
  refine ⟨_, hn, fun y av e => ?_⟩
  rw [List.lookup_cons] at e
  by_cases q : y = x
  · subst q
    rw [show (y == y) = true from beq_self_eq_true y] at e
    cases e
    exact ⟨v, if_pos rfl, r⟩
  · rw [show (y == x) = false from beq_eq_false_iff_ne.mpr q] at e
    obtain ⟨w, e1, e2⟩ := hm y av e
    exact ⟨w, by rw [if_neg q]; exact e1, e2⟩
theorem WA.name {m : Loc} {x : Str} {pos : Pos} {a : AV} {Q : Loc → Sig → Prop} (h : Q ((x, a) :: m) σ) (hl : env.kindOf x = some .local) (hk : env.scope.kind = .function) : WA G n env m σ (.Name x pos) a Q :=
  fun v A Φ s F hr r hs => by
  rw [arm_assign_Name]
  obtain ⟨mm, hn, hv⟩ := hs.mem (a := env.locals) (ao := .ns m) (List.mem_append_right _ (.head _))
  refine wpAny_bind (wpAny_standAt (wpAny_bindName (wpAny_storeName_local hl hn (fun h' hn' hb => ?_) (by rw [hk]; rfl))))
  exact ⟨Φ, _, σ, .refl _, hs.setNs r hv hn' hb, h⟩
theorem WA.cell {m : Loc} {x : Str} {pos : Pos} {a : AV} {c : Addr} {o : Option AV} {σ' : Sig} {Q : Loc → Sig → Prop} (hc : env.cells.lookup x = some c) (U : Upd c (.cell o) (.cell (some a)) σ σ')
    (h : Q m σ') (hl : env.kindOf x = some .cell) (hk : env.scope.kind = .function) : WA G n env m σ (.Name x pos) a Q :=
  fun v A Φ s F hr r hs => by
  rw [arm_assign_Name]
  obtain ⟨rest, p1, p2⟩ := U.at
  have hs1 := hs.perm (p1.append_right _)
  obtain ⟨oo, cv, e, e1, e2⟩ := hs1.head
  refine wpAny_bind (wpAny_standAt (wpAny_bindName (wpAny_storeName_cell hk hl hc ⟨oo, e, e1⟩ fun h' hv hb => ?_)))
  obtain ⟨o', ho', hd'⟩ := hv
  refine ⟨Φ, m, σ', .refl _, (hs1.updHead (s' := { s with heap := h' }) (ao' := .cell (some a)) hb.extBut ⟨o', _, ho', hd', v, rfl, r⟩ rfl rfl).perm (p2.append_right _).symm, h⟩
noncomputable def isSt : Expr → Bool
  | .Starred .. => true
  | _ => false
theorem WS1.assign {m : Loc} {t value : Expr} {pos : Pos} {Q : AFl → Loc → Sig → Prop} (h : WEF G n env m σ value fun a σ₁ => WA G n env m σ₁ t a fun m₁ σ₂ => Q .next m₁ σ₂)
    (hsw : swapsWith value (some t) pos.line env = pure false) (hst : swappedStores [t] value env = pure none) (ht : isSt t = false) : WS1 G n env m σ (.Assign [t] value pos) Q := fun A Φ s F hr hs => by
  rw [arm_exec_Assign]
  refine wpAny_bind (wpAny_standAt (wpAny_bind (wpAny_of_eq (show swapsWithSole [t] value pos.line env = pure false from hsw) ?_)))
  rw [if_neg Bool.false_ne_true]
  refine wpAny_bind (W.go h hr tt hs fun v s1 Φ1 a σ1 x1 r1 h1 q1 => wpAny_bind (wpAny_of_eq hst ?_))
  have ea : (assignEach [t] env).map (·.2) = [PySem.assign t env] := by
    cases t <;> first | rfl | cases ht
  unfold assignStores
  rw [ea]
  show wpAny _ _ (PySem.assign t env v >>= _) _ _ _
  refine wpAny_bind (wpAny_mono (q1 v A Φ1 s1 F hr r1 h1) (fun _ s2 q2 => ?_) noE)
  obtain ⟨Φ2, m2, σ2, x2, h2, q2⟩ := q2
  exact wpAny_pure ⟨Φ2, .next, m2, σ2, x1.trans x2, rfl, h2, q2⟩
end
end Mine
set_option maxRecDepth 100000
set_option autoImplicit false
namespace Mine
open PySem PySem.W PyProof.Rows PySem.Calls PySem.SeqAt
section
variable {G : Gd} {n : Nat} {env : Env} {K σ : Sig} {Φ : Frz} {s : Shared}
theorem St.newOwns (h : St G σ Φ s) {s' : Shared} {news : Sig} (k : ∀ b o, s.heap.get? b = some o → s'.heap.get? b = some o)
    (hn : ∀ p ∈ news, s.heap.objs.size ≤ p.1 ∧ ARep G Φ s'.heap p.1 p.2) (nd : (news.map (·.1)).Nodup) (g : s'.gens = s.gens) (os : s'.os = s.os) : St G (news ++ σ) Φ s' := by
  have h' := h.keeps k g os
  refine ⟨h'.base, h'.frz, fun p hp => ?_, ?_, fun p hp => (List.mem_append.mp hp).elim (fun q => Nat.lt_of_lt_of_le h.lowSize (hn p q).1) (h.big p), h'.gens, h'.os⟩
  · rcases List.mem_append.mp hp with hp | hp
    · refine ⟨(hn p hp).2, ?_⟩
      cases q : Φ p.1 with
      | none => rfl
      | some o => exact absurd (Heap.lt_size (h.frz _ _ q)) (Nat.not_lt.mpr (hn p hp).1)
    · exact h'.own p hp
  · rw [List.map_append, List.nodup_append]
    refine ⟨nd, h.nd, fun a ha b hb e => ?_⟩
    obtain ⟨p, hp, rfl⟩ := List.mem_map.mp ha
    obtain ⟨q, hq, rfl⟩ := List.mem_map.mp hb
    have h1 := h.lt q hq
    have h2 := (hn p hp).1
    have e' : p.1 = q.1 := e
    exact absurd h1 (by rw [← e']; exact Nat.not_lt.mpr h2)
noncomputable def BindRep (Φ : Frz) : Loc → List (Str × Value) → Prop
  | [], bs => bs = []
  | (x, a) :: r, bs => ∃ v br, bs = (x, v) :: br ∧ VRep Φ a v ∧ BindRep Φ r br
theorem BindRep.names {Φ : Frz} : ∀ {m : Loc} {bs : List (Str × Value)}, BindRep Φ m bs → bs.map (·.1) = m.map (·.1)
  | [], _, h => by rw [show _ = [] from h]; rfl
  | _ :: _, _, ⟨v, br, e, _, h⟩ => by rw [e]; simp [BindRep.names h]
theorem BindRep.mem {Φ : Frz} {x : Str} {a : AV} : ∀ {m : Loc} {bs : List (Str × Value)}, BindRep Φ m bs → (x, a) ∈ m → ∃ v, (x, v) ∈ bs ∧ VRep Φ a v
  | _ :: _, _, ⟨v, br, e, r, h⟩, hm => by
    rw [e]
    rcases List.mem_cons.mp hm with q | hm
    · cases q; exact ⟨v, .head _, r⟩
    · obtain ⟨w, h1, h2⟩ := BindRep.mem h hm; exact ⟨w, .tail _ h1, h2⟩
theorem bindL_not {k : Str → Option NameKind} {x : Str} : ∀ {bs : List (Str × Value)} {f : Str → Option Value}, x ∉ bs.map (·.1) → bindL k bs f x = f x
  | [], _, _ => rfl
  | (y, v) :: r, f, h => by
    rw [List.map_cons, List.mem_cons, not_or] at h
    unfold bindL
    rw [bindL_not h.2]
    split
    · exact if_neg h.1
    · rfl
theorem bindC_not {k : Str → Option NameKind} {x : Str} : ∀ {bs : List (Str × Value)} {f : Str → Option Value}, x ∉ bs.map (·.1) → bindC k bs f x = f x
  | [], _, _ => rfl
  | (y, v) :: r, f, h => by
    rw [List.map_cons, List.mem_cons, not_or] at h
    unfold bindC
    rw [bindC_not h.2]
    split
    · rfl
    · exact if_neg h.1
theorem bindL_mem {k : Str → Option NameKind} {x : Str} {v : Value} (hk : k x = some .local) : ∀ {bs : List (Str × Value)} {f : Str → Option Value}, (bs.map (·.1)).Nodup → (x, v) ∈ bs → bindL k bs f x = some v
  | (y, w) :: r, f, nd, hm => by
    rw [List.map_cons, List.nodup_cons] at nd
    unfold bindL
    rcases List.mem_cons.mp hm with q | hm
    · cases q
      rw [bindL_not nd.1, if_pos hk]; exact if_pos rfl
    · exact bindL_mem hk nd.2 hm
theorem bindC_mem {k : Str → Option NameKind} {x : Str} {v : Value} (hk : k x ≠ some .local) : ∀ {bs : List (Str × Value)} {f : Str → Option Value}, (bs.map (·.1)).Nodup → (x, v) ∈ bs → bindC k bs f x = some v
  | (y, w) :: r, f, nd, hm => by
    rw [List.map_cons, List.nodup_cons] at nd
    unfold bindC
    rcases List.mem_cons.mp hm with q | hm
    · cases q
      rw [bindC_not nd.1, if_neg hk]; exact if_pos rfl
    · exact bindC_mem hk nd.2 hm
noncomputable def HB (G : Gd) (fd : FuncData) (args : List AV) (m : Loc) : Prop :=
  ∀ vs Φ s, VReps Φ args vs → (∀ b o, G.B.get? b = some o → Φ b = some o) → G.K.In s.heap → ∃ binds, BindsTo s fd ⟨vs, []⟩ binds ∧ BindRep Φ m binds
noncomputable def retOf : AFl → AV
  | .ret a => a
  | _ => .none
noncomputable def Fin (Q : AV → Sig → Prop) (fl : AFl) (_ : Loc) (σ : Sig) : Prop := ∃ S R, σ.Perm (S ++ R) ∧ Q (retOf fl) S
noncomputable def flowVal (f : Flow) : Value := match f with | .ret v => v | _ => .none
theorem FRep.val {Φ : Frz} {fl : AFl} {f : Flow} (h : FRep Φ fl f) : VRep Φ (retOf fl) (flowVal f) := by
  cases fl with
  | next => cases h; rfl
  | brk => cases h; rfl
  | cont => cases h; rfl
  | ret a => obtain ⟨v, rfl, r⟩ := h; exact r
noncomputable def cellSig (m : Loc) (cl : List (Str × Addr)) : Sig := cl.map fun p => (p.2, AObj.cell (m.lookup p.1))
theorem lookup_of_mem_nodup' {α : Type} : ∀ {l : List (Str × α)} {n : Str} {c : α}, (l.map (·.1)).Nodup → (n, c) ∈ l → l.lookup n = some c
  | (k, v) :: r, n, c, nd, hm => by
    rw [List.map_cons, List.nodup_cons] at nd
    rw [List.lookup_cons]
    rcases List.mem_cons.mp hm with q | hm
    · cases q; rw [beq_self_eq_true]
    · have : n ≠ k := fun e => nd.1 (e ▸ List.mem_map.mpr ⟨_, hm, rfl⟩)
      rw [show (n == k) = false from beq_eq_false_iff_ne.mpr this]
      exact lookup_of_mem_nodup' nd.2 hm
theorem WCd.def {fa : Addr} {oc : Value} {od : Option Addr} {osl : Array (Option Value)} {name qual : Str} {params : Arguments} {body : List Stmt} {scope : Scope} {dV kV doc pm cdv ct : Value} {an : Option Addr}
    {args : List AV} (m mL : Loc) (cl : Addr → List (Str × Addr)) (σ0 : Addr → Sig) {Q : AV → Sig → Prop}
    (ho : G.K.lookup fa = some ⟨oc, od, .func (fnX name qual params body scope [] dV kV doc pm an cdv ct), osl⟩) (hcd : codeIn G.K cdv qual = true)
    (hb : HB G (fnX name qual params body scope [] dV kV doc pm an cdv ct) args m)
    (hmL : m.filter (fun p => decide (scope.names.lookup p.1 = some .local)) = mL)
    (hkind : (m.all fun p => decide (scope.names.lookup p.1 = some .local) || (decide (scope.names.lookup p.1 = some .cell) && ((cellsFrom 0 scope.names []).lookup p.1).isSome)) = true)
    (hnd : (m.map (·.1)).Nodup) (hcn : ((cellsFrom 0 scope.names []).map (·.1)).Nodup) (hcl : ((cellsFrom 0 scope.names []).all fun p => !decide (scope.names.lookup p.1 = some .local)) = true)
    (hcl0 : ∀ L, cellsFrom (L + 1) scope.names [] = cl L) (hσ0 : ∀ L, cellSig m (cl L) ++ σ = σ0 L)
    (h : ∀ L, WS G n (envX qual scope L fa cdv (cl L)) mL (σ0 L) body (Fin Q))
    (hco : scope.isCoroutine = false := by rfl) (hgen : scope.isGenerator = false := by rfl) (hk : scope.kind = .function := by rfl) : WCd G (n + 1) (.raw (.ref fa)) args σ Q := by
  replace h : ∀ L, WS G n (envX qual scope L fa cdv (cellsFrom (L + 1) scope.names [])) mL (cellSig m (cellsFrom (L + 1) scope.names []) ++ σ) body (Fin Q) := fun L => by
    rw [hcl0 L, hσ0 L]; exact h L
  rintro _ vs A Φ s F hr rfl rv hs
  obtain ⟨binds, hbt, hbr⟩ := hb vs Φ s rv hs.base hs.inK
  have hnames := hbr.names
  have ndb : (binds.map (·.1)).Nodup := by rw [hnames]; exact hnd
  have cns : ∀ L, (cellsFrom L scope.names []).map (·.1) = (cellsFrom 0 scope.names []).map (·.1) := fun L => cellsFrom_names scope.names L 0 [] [] rfl
  have hk' : ∀ x ∈ binds, scope.names.lookup x.1 = some .local ∨ (scope.names.lookup x.1 = some .cell ∧ ((cellsFrom (s.heap.objs.size + 1) scope.names []).lookup x.1).isSome = true) := by
    intro x hx
    have hx' : x.1 ∈ m.map (·.1) := hnames ▸ List.mem_map.mpr ⟨x, hx, rfl⟩
    obtain ⟨p, hp, e⟩ := List.mem_map.mp hx'
    have := List.all_eq_true.mp hkind p hp
    rw [e] at this
    simp only [Bool.or_eq_true, decide_eq_true_eq, Bool.and_eq_true] at this
    rcases this with q | ⟨q1, q2⟩
    · exact .inl q
    · refine .inr ⟨q1, ?_⟩
      obtain ⟨c, hc⟩ := Option.isSome_iff_exists.mp q2
      have hm : x.1 ∈ (cellsFrom (s.heap.objs.size + 1) scope.names []).map (·.1) := by
        rw [cns]; exact List.mem_map.mpr ⟨_, mem_of_lookup hc, rfl⟩
      obtain ⟨p', hp', e'⟩ := List.mem_map.mp hm
      have nd' : ((cellsFrom (s.heap.objs.size + 1) scope.names []).map (·.1)).Nodup := by rw [cns]; exact hcn
      rw [lookup_of_mem_nodup' (n := x.1) (c := p'.2) nd' (by rw [← e']; exact hp')]; rfl
  refine codeAny_call_function hr.depth (hs.inK _ _ ho) rfl hco hgen rfl (codeRec_of hs.inK hcd) (hbt _ _ _ _ ?_)
  refine wpAny_newFunctionEnv_cells hk hk' fun env' he s' x => ?_
  subst he
  have hkeep := x.toInCall.keep
  refine ⟨hs.lim.keeps hkeep, codeAny_func ?_⟩
  obtain ⟨h₁, tk, rfl, _⟩ := x.done
  have hko : ∀ y, (envX qual scope s.heap.objs.size fa cdv (cellsFrom (s.heap.objs.size + 1) scope.names [])).kindOf y = scope.names.lookup y := fun _ => rfl
  have hL : s.heap.objs.size < h₁.objs.size := x.toInCall.ns.lt
  have nd' : ((cellsFrom (s.heap.objs.size + 1) scope.names []).map (·.1)).Nodup := by rw [cns]; exact hcn
  have st1 : St G ((cellSig m (cellsFrom (s.heap.objs.size + 1) scope.names []) ++ [(s.heap.objs.size, .ns mL)]) ++ (σ ++ F)) Φ { s with heap := h₁, toks := tk } := by
    refine hs.newOwns hkeep (fun p hp => ?_) ?_ rfl rfl
    · rcases List.mem_append.mp hp with hp | hp
      · obtain ⟨q, hq, rfl⟩ := List.mem_map.mp hp
        obtain ⟨y, c⟩ := q
        have hlk := lookup_of_mem_nodup' nd' hq
        have hc := x.cell y c hlk
        have hlt := x.above y c hq
        refine ⟨Nat.le_of_lt hlt, ?_⟩
        obtain ⟨o, e1, e2⟩ := hc
        refine ⟨o, _, e1, e2, ?_⟩
        have hy0 : y ∈ (cellsFrom 0 scope.names []).map (·.1) := by rw [← cns (s.heap.objs.size + 1)]; exact List.mem_map.mpr ⟨_, hq, rfl⟩
        have hnl : scope.names.lookup y ≠ some .local := by
          obtain ⟨q, hq', e⟩ := List.mem_map.mp hy0
          have := List.all_eq_true.mp hcl q hq'
          rw [e] at this
          simpa using this
        show CellRep Φ (m.lookup y) _
        cases hl : m.lookup y with
        | none =>
          show bindC _ binds _ y = none
          have : y ∉ binds.map (·.1) := by
            rw [hnames]
            intro hm
            obtain ⟨q, hq', e⟩ := List.mem_map.mp hm
            have := lookup_of_mem_nodup' hnd (n := y) (c := q.2) (by rw [← e]; exact hq')
            rw [hl] at this; cases this
          rw [bindC_not this]
        | some a =>
          obtain ⟨v, hv, r⟩ := hbr.mem (mem_of_lookup hl)
          exact ⟨v, bindC_mem (show _ ≠ _ from hnl) ndb hv, r⟩
      · rw [List.mem_singleton] at hp
        subst hp
        refine ⟨Nat.le_refl _, ⟨_, x.toInCall.ns, fun y av e => ?_⟩⟩
        rw [← hmL] at e
        have hm := mem_of_lookup e
        obtain ⟨hm1, hm2⟩ := List.mem_filter.mp hm
        obtain ⟨v, hv, r⟩ := hbr.mem hm1
        exact ⟨v, bindL_mem (show _ = _ from of_decide_eq_true hm2) ndb hv, r⟩
    · have e1 : (cellSig m (cellsFrom (s.heap.objs.size + 1) scope.names []) ++ [(s.heap.objs.size, AObj.ns mL)]).map (·.1) = (cellsFrom (s.heap.objs.size + 1) scope.names []).map (·.2) ++ [s.heap.objs.size] := by
        simp [cellSig]
      rw [e1, List.nodup_append]
      refine ⟨?_, by simp, ?_⟩
      · exact List.pairwise_map.mpr x.apart
      · intro a ha b hb e
        obtain ⟨q, hq, rfl⟩ := List.mem_map.mp ha
        rw [List.mem_singleton] at hb
        have := x.above q.1 q.2 hq
        have e2 : (newEnv scope s.heap.objs.size mainGlobals (cellsFrom (s.heap.objs.size + 1) scope.names []) (qual ++ ".<locals>.") (some fa) cdv none builtinsNs).locals = s.heap.objs.size := rfl
        rw [e2] at this
        exact absurd (show q.2 = s.heap.objs.size from e.trans hb) (Nat.ne_of_gt this)
  have st2 : St G ((cellSig m (cellsFrom (s.heap.objs.size + 1) scope.names []) ++ σ) ++ ((s.heap.objs.size, .ns mL) :: F)) Φ { s with heap := h₁, toks := tk } := st1.perm (by
    rw [List.append_assoc, List.append_assoc]
    refine List.Perm.append_left _ ?_
    show ((s.heap.objs.size, AObj.ns mL) :: (σ ++ F)).Perm _
    exact List.perm_middle.symm)
  refine wpAny_mono ((h s.heap.objs.size) (A.deeper _) Φ _ F hr.deeper st2) (fun f s' hp => ?_) noE
  obtain ⟨Φ', fl, m', σ', x', rf, h', S, R, p, q⟩ := hp
  refine ⟨_, rfl, Φ', retOf fl, S, x', rf.val, ?_, q⟩
  refine (h'.perm (σ' := (S ++ F) ++ (R ++ [(s.heap.objs.size, .ns m')])) ?_).sub (List.sublist_append_left _ _)
  refine (p.append_right _).trans ?_
  rw [List.append_assoc, List.append_assoc]
  refine List.Perm.append_left _ ?_
  show (R ++ ([(s.heap.objs.size, AObj.ns m')] ++ F)).Perm _
  rw [← List.append_assoc]
  exact List.perm_append_comm
end
end Mine
set_option maxRecDepth 100000
set_option autoImplicit false
namespace Mine
open PySem PySem.W PyProof.Rows PySem.Calls PySem.SeqAt
mutual
noncomputable def AV.py : AV → PyData
  | .none => .none
  | .bool b => .bool b
  | .int i => .int i
  | .str s => .str s
  | .tup l => .tuple (AV.pys l)
  | .obj _ _ => .none
  | .raw _ => .none
  | .meth _ _ => .none
  | .clo .. => .none
noncomputable def AV.pys : List AV → List PyData
  | [] => []
  | x :: r => x.py :: AV.pys r
end
mutual
noncomputable def AV.isD : AV → Bool
  | .none | .bool _ | .int _ => true
  | .str s => PyData.strOk s
  | .tup l => AV.areD l
  | .obj _ _ | .raw _ | .meth _ _ | .clo .. => false
noncomputable def AV.areD : List AV → Bool
  | [] => true
  | x :: r => x.isD && AV.areD r
end
mutual
theorem VRep.reads' {Φ : Frz} {h : Heap} (hf : ∀ a o, Φ a = some o → h.get? a = some o) : ∀ (x : AV), x.isD = true → ∀ v, VRep Φ x v → ∃ as, Reads h v x.py as
  | .none, _, _, r => by
    rw [show _ = Value.none from r]; exact ⟨_, Reads.none⟩
  | .bool b, _, _, r => by
    rw [show _ = Value.bool b from r]; exact ⟨_, Reads.bool b⟩
  | .int i, _, _, r => by
    obtain ⟨t, e⟩ := r
    rw [e]; exact ⟨_, Reads.int i t⟩
  | .str x, _, _, r => by
    obtain ⟨t, e⟩ := r
    rw [e]; exact ⟨_, Reads.str x t⟩
  | .tup l, d, _, r => by
    obtain ⟨a, vs, e, e1, e2⟩ := r
    rw [e]
    obtain ⟨as, r⟩ := VReps.reads' hf l d vs e2
    exact ⟨as, Reads.tuple (hf _ _ e1) rfl rfl (by simpa using r)⟩
  | .obj _ _, d, _, _ => by cases d
  | .raw _, d, _, _ => by cases d
  | .meth _ _, d, _, _ => by cases d
  | .clo .., d, _, _ => by cases d
theorem VReps.reads' {Φ : Frz} {h : Heap} (hf : ∀ a o, Φ a = some o → h.get? a = some o) : ∀ (x : List AV), AV.areD x = true → ∀ v, VReps Φ x v → ∃ as, ReadsAll h v (AV.pys x) as
  | [], _, _, r => by
    rw [show _ = [] from r]; exact ⟨_, ReadsAll.nil⟩
  | y :: r, d, _, q => by
    obtain ⟨v, vr, e, e1, e2⟩ := q
    rw [e]
    obtain ⟨d1, d2⟩ := Bool.and_eq_true_iff.mp (show (y.isD && AV.areD r) = true from d)
    obtain ⟨as, h1⟩ := VRep.reads' hf y d1 v e1
    obtain ⟨bs, h2⟩ := VReps.reads' hf r d2 vr e2
    exact ⟨_, ReadsAll.cons h1 h2⟩
end
theorem VRep.reads {Φ : Frz} {h : Heap} (hf : ∀ a o, Φ a = some o → h.get? a = some o) {x : AV} {v : Value} (d : x.isD = true) (r : VRep Φ x v) : ∃ as, Reads h v x.py as := VRep.reads' hf x d v r
theorem VReps.reads {Φ : Frz} {h : Heap} (hf : ∀ a o, Φ a = some o → h.get? a = some o) {x : List AV} {v : List Value} (d : AV.areD x = true) (r : VReps Φ x v) : ∃ as, ReadsAll h v (AV.pys x) as := VReps.reads' hf x d v r
mutual
theorem AV.canLay : ∀ (x : AV), x.isD = true → x.py.canLay0 = true
  | .none, _ => rfl
  | .bool _, _ => rfl
  | .int _, _ => rfl
  | .str _, h => h
  | .obj _ _, h => by cases h
  | .raw _, h => by cases h
  | .meth _ _, h => by cases h
  | .clo .., h => by cases h
  | .tup l, h => AV.canLays l h
theorem AV.canLays : ∀ (x : List AV), AV.areD x = true → PyData.canLayAll0 (AV.pys x) = true
  | [], _ => rfl
  | x :: r, d => by
    obtain ⟨d1, d2⟩ := Bool.and_eq_true_iff.mp (show (x.isD && AV.areD r) = true from d)
    show (x.py.canLay0 && PyData.canLayAll0 (AV.pys r)) = true
    rw [AV.canLay x d1, AV.canLays r d2]; rfl
end
inductive Dat (σ : Sig) : AV → PyData → Prop
  | av {x : AV} : x.isD = true → Dat σ x x.py
  | list {a : Addr} {l : List AV} : (a, .list l) ∈ σ → AV.areD l = true → Dat σ (.raw (.ref a)) (.list (AV.pys l))
theorem Dat.canLay {σ : Sig} {x : AV} {d : PyData} (h : Dat σ x d) : d.canLay0 = true := by
  cases h with
  | av h => exact AV.canLay _ h
  | list _ h => exact AV.canLays _ h
section
variable {G : Gd} {n : Nat} {σ : Sig}
theorem Dat.reads {F : Sig} {Φ : Frz} {s : Shared} {x : AV} {d : PyData} {v : Value} (h : Dat σ x d) (hs : St G (σ ++ F) Φ s) (r : VRep Φ x v) : ∃ as, Reads s.heap v d as := by
  cases h with
  | av hd => exact r.reads hs.frz hd
  | list hm hd =>
    rw [show v = .ref _ from r]
    obtain ⟨items, ⟨k, e⟩, r2⟩ := hs.mem (List.mem_append_left _ hm)
    obtain ⟨as, h2⟩ := r2.reads hs.frz hd
    exact ⟨_, .list e rfl rfl h2⟩
theorem W2.eq {a b : AV} {da db : PyData} {Q : AV → Sig → Prop} (ha : Dat σ a da) (hb : Dat σ b db) (hd : min da.depth db.depth ≤ 300) (h : Q (.bool (PyData.eqv da db)) σ) : W2 G n (compareOp .Eq) a b σ Q :=
  fun v w A Φ s F hr ⟨ra, rb⟩ hs => by
    obtain ⟨as, h1⟩ := ha.reads hs ra
    obtain ⟨bs, h2⟩ := hb.reads hs rb
    have := hr.room
    exact compareEq_reads h1 h2 ha.canLay hb.canLay (by omega) ⟨Φ, AV.bool _, σ, .refl _, rfl, hs, h⟩
theorem W2.ne {a b : AV} {da db : PyData} {Q : AV → Sig → Prop} (ha : Dat σ a da) (hb : Dat σ b db) (hd : min da.depth db.depth ≤ 300) (h : Q (.bool (!PyData.eqv da db)) σ) : W2 G n (compareOp .NotEq) a b σ Q :=
  fun v w A Φ s F hr ⟨ra, rb⟩ hs => by
    obtain ⟨as, h1⟩ := ha.reads hs ra
    obtain ⟨bs, h2⟩ := hb.reads hs rb
    have := hr.room
    exact compareNe_reads h1 h2 ha.canLay hb.canLay (by omega) ⟨Φ, AV.bool _, σ, .refl _, rfl, hs, h⟩
section
variable {i j : Int} {Q : AV → Sig → Prop}
theorem W2.add (h : Q (.int (i + j)) σ) : W2 G n (binaryOp .Add) (.int i) (.int j) σ Q := fun v w A Φ s F hr ⟨⟨t, e⟩, ⟨u, e'⟩⟩ hs => by
  subst e; subst e'; exact add_int ⟨Φ, AV.int _, σ, .refl _, ⟨_, rfl⟩, hs.toks _, h⟩
theorem W2.sub (h : Q (.int (i - j)) σ) : W2 G n (binaryOp .Sub) (.int i) (.int j) σ Q := fun v w A Φ s F hr ⟨⟨t, e⟩, ⟨u, e'⟩⟩ hs => by
  subst e; subst e'; exact sub_int ⟨Φ, AV.int _, σ, .refl _, ⟨_, rfl⟩, hs.toks _, h⟩
theorem W2.mul (hm : IntMulOk i j) (h : Q (.int (i * j)) σ) : W2 G n (binaryOp .Mult) (.int i) (.int j) σ Q := fun v w A Φ s F hr ⟨⟨t, e⟩, ⟨u, e'⟩⟩ hs => by
  subst e; subst e'; exact mul_int ⟨Φ, AV.int _, σ, .refl _, ⟨_, rfl⟩, hs.toks _, h⟩ hm
theorem W2.mod (hj : j ≠ 0) (h : Q (.int (i.fmod j)) σ) : W2 G n (binaryOp .Mod) (.int i) (.int j) σ Q := fun v w A Φ s F hr ⟨⟨t, e⟩, ⟨u, e'⟩⟩ hs => by
  subst e; subst e'; exact PyProof.Rows.mod_int hj ⟨Φ, AV.int _, σ, .refl _, ⟨_, rfl⟩, hs.toks _, h⟩
theorem W2.fdiv (hj : j ≠ 0) (hj' : j.natAbs < 1073741824) (h : Q (.int (i.fdiv j)) σ) : W2 G n (binaryOp .FloorDiv) (.int i) (.int j) σ Q := fun v w A Φ s F hr ⟨⟨t, e⟩, ⟨u, e'⟩⟩ hs => by
  subst e; subst e'; exact floordiv_int hj ⟨Φ, AV.int _, σ, .refl _, ⟨_, rfl⟩, hs.toks _, h⟩ (.inl (PyProof.noPylong_small hj'))
theorem W2.lt (h : Q (.bool (decide (i < j))) σ) : W2 G n (compareOp .Lt) (.int i) (.int j) σ Q := fun v w A Φ s F hr ⟨⟨t, e⟩, ⟨u, e'⟩⟩ hs => by
  subst e; subst e'; exact lt_int ⟨Φ, AV.bool _, σ, .refl _, rfl, hs, h⟩
theorem W2.gt (h : Q (.bool (decide (j < i))) σ) : W2 G n (compareOp .Gt) (.int i) (.int j) σ Q := fun v w A Φ s F hr ⟨⟨t, e⟩, ⟨u, e'⟩⟩ hs => by
  subst e; subst e'; exact gt_int ⟨Φ, AV.bool _, σ, .refl _, rfl, hs, h⟩
theorem W2.le (h : Q (.bool (decide (i ≤ j))) σ) : W2 G n (compareOp .LtE) (.int i) (.int j) σ Q := fun v w A Φ s F hr ⟨⟨t, e⟩, ⟨u, e'⟩⟩ hs => by
  subst e; subst e'; exact le_int ⟨Φ, AV.bool _, σ, .refl _, rfl, hs, h⟩
theorem W2.ge (h : Q (.bool (decide (j ≤ i))) σ) : W2 G n (compareOp .GtE) (.int i) (.int j) σ Q := fun v w A Φ s F hr ⟨⟨t, e⟩, ⟨u, e'⟩⟩ hs => by
  subst e; subst e'; exact ge_int ⟨Φ, AV.bool _, σ, .refl _, rfl, hs, h⟩
theorem W1.neg (h : Q (.int (-i)) σ) : W1 G n (unaryOp .USub) (.int i) σ Q := fun v A Φ s F hr ⟨t, e⟩ hs => by
  subst e; exact neg_int ⟨Φ, AV.int _, σ, .refl _, ⟨_, rfl⟩, hs.toks _, h⟩
theorem W2.pow (hj : 0 ≤ j) (hsz : (Builtin.Int.intBits i : Int) * j ≤ 2 ^ 27) (h : Q (.int (i ^ j.toNat)) σ) : W2 G n (binaryOp .Pow) (.int i) (.int j) σ Q := fun v w A Φ s F hr ⟨⟨t, e⟩, ⟨u, e'⟩⟩ hs => by
  subst e; subst e'; exact pow_int hj hsz ⟨Φ, AV.int _, σ, .refl _, ⟨_, rfl⟩, hs.toks _, h⟩
theorem WT.bool {b : Bool} {Q : Bool → Sig → Prop} (h : Q b σ) : WT G n (.bool b) σ Q := fun v A Φ s F hr e hs => by
  rw [show v = .bool b from e]; exact wpAny_truthy_bool ⟨Φ, b, σ, .refl _, rfl, hs, h⟩
end
theorem W2.isNone {a : AV} {Q : AV → Sig → Prop} (ha : match a with | .obj _ _ => False | .raw _ => False | .meth _ _ => False | .clo .. => False | _ => True) (h : Q (.bool (match a with | .none => true | _ => false)) σ) : W2 G n (compareOp .Is) a .none σ Q :=
  fun v w A Φ s F hr ⟨ra, rb⟩ hs => by
    rw [show w = Value.none from rb]
    cases a with
    | none => rw [show v = Value.none from ra]; exact wpAny_is_self rfl ⟨Φ, AV.bool _, σ, .refl _, rfl, hs, h⟩
    | bool b => rw [show v = Value.bool b from ra]; exact wpAny_is_other rfl (fun e => nomatch e) ⟨Φ, AV.bool _, σ, .refl _, rfl, hs, h⟩
    | int i => obtain ⟨t, rfl⟩ := ra; exact wpAny_is_other rfl (fun e => nomatch e) ⟨Φ, AV.bool _, σ, .refl _, rfl, hs, h⟩
    | str i => obtain ⟨t, rfl⟩ := ra; exact wpAny_is_other rfl (fun e => nomatch e) ⟨Φ, AV.bool _, σ, .refl _, rfl, hs, h⟩
    | tup l => obtain ⟨a, vs, rfl, _⟩ := ra; exact wpAny_is_other rfl (fun e => nomatch e) ⟨Φ, AV.bool _, σ, .refl _, rfl, hs, h⟩
    | obj _ _ => exact ha.elim
    | raw _ => exact ha.elim
    | meth _ _ => exact ha.elim
    | clo => exact ha.elim
theorem seqIndex_nn {k : Int} {n : Nat} (h0 : 0 ≤ k) (h : k < n) : seqIndex? k n = some k.toNat := by
  have h1 : ¬ k < 0 := by omega
  simp [seqIndex?, h1, h0, h]
noncomputable def plainSlice (slice : Expr) : Prop := ∀ o i, subscripted slice false o i = operate [o, i] (getItem o i)
theorem W2.item_tup {value slice : Expr} {l : List AV} {k : Int} {x : AV} {Q : AV → Sig → Prop} (h0 : 0 ≤ k) (hk : k < 2 ^ 63) (hx : l[k.toNat]? = some x) (h : Q x σ)
    (hp : plainSlice slice) : W2 G n (subscriptTail value slice) (.tup l) (.int k) σ Q := fun v w A Φ s F hr ⟨⟨a, vs, e, e1, e2⟩, ⟨u, e'⟩⟩ hs => by
  subst e; subst e'
  obtain ⟨y, hy, ry⟩ := e2.get hx
  have hlt : k.toNat < vs.length := (List.getElem?_eq_some_iff.mp hy).1
  exact item_tupleT (j := k.toNat) ⟨_, hs.frz _ _ e1, rfl, 0, rfl⟩ (by omega) hk (seqIndex_nn h0 (by omega)) hy ⟨Φ, x, σ, .refl _, ry, hs, h⟩ (hp _ _)
theorem W2.item_list {value slice : Expr} {a : Addr} {l : List AV} {k : Int} {x : AV} {Q : AV → Sig → Prop} (hm : (a, .list l) ∈ σ) (h0 : 0 ≤ k) (hk : k < 2 ^ 63) (hx : l[k.toNat]? = some x) (h : Q x σ)
    (hp : plainSlice slice) : W2 G n (subscriptTail value slice) (.raw (.ref a)) (.int k) σ Q := fun v w A Φ s F hr ⟨e, ⟨u, e'⟩⟩ hs => by
  subst e'; rw [show v = Value.ref a from e]
  obtain ⟨items, hl, r2⟩ := hs.mem (List.mem_append_left _ hm)
  replace hl := hl.isList
  obtain ⟨y, hy, ry⟩ := r2.get hx
  refine tail_any hl.typeIs slot_list_getitem.lookup (wpAny_getItem_list hl h0 hk (by rw [← Array.getElem?_toList]; exact hy) ⟨Φ, x, σ, .refl _, ry, hs, h⟩) (hp _ _)
end
end Mine
set_option maxRecDepth 100000
set_option autoImplicit false
namespace Mine
open PySem PySem.W PyProof.Rows PySem.Calls PySem.SeqAt
section
variable {G : Gd} {n : Nat} {env : Env} {K σ : Sig}
theorem BindRep.zip {Φ : Frz} : ∀ {names : List Str} {args : List AV} {vs : List Value}, VReps Φ args vs → args.length ≤ names.length → BindRep Φ (names.zip args) (names.zip vs)
  | _, [], _, r, _ => by rw [show _ = [] from r]; simp [BindRep]
  | [], _ :: _, _, _, h => by simp at h
  | x :: names, a :: args, _, ⟨v, vr, e, r1, r2⟩, h => by
    rw [e]; exact ⟨v, _, rfl, r1, BindRep.zip r2 (by simpa using h)⟩
theorem len0 {α : Type} {motive : List α → Prop} (h : motive []) (l : List α) (e : l.length = 0) : motive l := by
  cases l with
  | nil => exact h
  | cons a r => exact absurd e (Nat.succ_ne_zero _)
theorem lenS {α : Type} {n : Nat} {motive : List α → Prop} (h : ∀ a r, r.length = n → motive (a :: r)) (l : List α) (e : l.length = n + 1) : motive l := by
  cases l with
  | nil => exact absurd e.symm (Nat.succ_ne_zero _)
  | cons a r => exact h a r (Nat.succ.inj e)
theorem len1 {α : Type} {motive : List α → Prop} (h : ∀ a0, motive [a0]) : ∀ l : List α, l.length = 1 → motive l := lenS fun a => len0 (motive := fun r => motive (a :: r)) (h a)
theorem len2 {α : Type} {motive : List α → Prop} (h : ∀ a0 a1, motive [a0, a1]) : ∀ l : List α, l.length = 2 → motive l := lenS fun a => len1 (motive := fun r => motive (a :: r)) (h a)
theorem len3 {α : Type} {motive : List α → Prop} (h : ∀ a0 a1 a2, motive [a0, a1, a2]) : ∀ l : List α, l.length = 3 → motive l := lenS fun a => len2 (motive := fun r => motive (a :: r)) (h a)
theorem len4 {α : Type} {motive : List α → Prop} (h : ∀ a0 a1 a2 a3, motive [a0, a1, a2, a3]) : ∀ l : List α, l.length = 4 → motive l := lenS fun a => len3 (motive := fun r => motive (a :: r)) (h a)
theorem len5 {α : Type} {motive : List α → Prop} (h : ∀ a0 a1 a2 a3 a4, motive [a0, a1, a2, a3, a4]) : ∀ l : List α, l.length = 5 → motive l := lenS fun a => len4 (motive := fun r => motive (a :: r)) (h a)
theorem len6 {α : Type} {motive : List α → Prop} (h : ∀ a0 a1 a2 a3 a4 a5, motive [a0, a1, a2, a3, a4, a5]) : ∀ l : List α, l.length = 6 → motive l := lenS fun a => len5 (motive := fun r => motive (a :: r)) (h a)
theorem len7 {α : Type} {motive : List α → Prop} (h : ∀ a0 a1 a2 a3 a4 a5 a6, motive [a0, a1, a2, a3, a4, a5, a6]) : ∀ l : List α, l.length = 7 → motive l := lenS fun a => len6 (motive := fun r => motive (a :: r)) (h a)
theorem len8 {α : Type} {motive : List α → Prop} (h : ∀ a0 a1 a2 a3 a4 a5 a6 a7, motive [a0, a1, a2, a3, a4, a5, a6, a7]) : ∀ l : List α, l.length = 8 → motive l := lenS fun a => len7 (motive := fun r => motive (a :: r)) (h a)
theorem len9 {α : Type} {motive : List α → Prop} (h : ∀ a0 a1 a2 a3 a4 a5 a6 a7 a8, motive [a0, a1, a2, a3, a4, a5, a6, a7, a8]) : ∀ l : List α, l.length = 9 → motive l := lenS fun a => len8 (motive := fun r => motive (a :: r)) (h a)
theorem HB.plain {fd : FuncData} {names : List Str} {args : List AV} (hn : ∀ vs : List Value, vs.length = names.length → bindArgs fd ⟨vs, []⟩ = pure (names.zip vs)) (hl : args.length = names.length) {m : Loc} (hm : names.zip args = m) :
    HB G fd args m := fun vs Φ s r _ _ => ⟨_, .of_eq (hn vs (by rw [r.length, hl])), hm ▸ BindRep.zip r (Nat.le_of_eq hl)⟩
theorem WK.fn {fa : Addr} {oc : Value} {od : Option Addr} {osl : Array (Option Value)} {fd : FuncData} (ho : G.K.lookup fa = some ⟨oc, od, .func fd, osl⟩) : WK G (.raw (.ref fa)) := fun M A E Φ s σ fv r hs => by
  rw [show fv = .ref fa from r]
  refine ⟨.frame, fun R h => ?_⟩
  unfold keeperOf
  exact wpAny_bind (wpAny_load (hs.inK _ _ ho) (wpAny_pure h))
noncomputable def Seq (G : Gd) (n : Nat) (env : Env) (rest : List Stmt) (Q : AFl → Loc → Sig → Prop) (fl : AFl) (m : Loc) (σ : Sig) : Prop :=
  match fl with
  | .next => WS G n env m σ rest Q
  | fl => Q fl m σ
theorem Seq.next {m : Loc} {rest : List Stmt} {Q : AFl → Loc → Sig → Prop} (h : WS G n env m σ rest Q) : Seq G n env rest Q .next m σ := h
theorem Seq.ret {m : Loc} {rest : List Stmt} {a : AV} {Q : AFl → Loc → Sig → Prop} (h : Q (.ret a) m σ) : Seq G n env rest Q (.ret a) m σ := h
theorem WS.seq {m : Loc} {st : Stmt} {rest : List Stmt} {Q : AFl → Loc → Sig → Prop} (h : WS1 G n env m σ st (Seq G n env rest Q)) : WS G n env m σ (st :: rest) Q :=
  WS.cons (WT1.mono h fun fl m' σ' q => by cases fl <;> exact q)
theorem WS.ret {m : Loc} {e : Expr} {pos : Pos} {rest : List Stmt} {Q : AFl → Loc → Sig → Prop} (h : WEF G n env m σ e fun a σ₁ => Q (.ret a) m σ₁) : WS G n env m σ (.Return (some e) pos :: rest) Q :=
  WS.seq (WS1.ret h)
theorem WS.ite {m : Loc} {test : Expr} {body orelse rest : List Stmt} {pos : Pos} {Q : AFl → Loc → Sig → Prop}
    (h : WBF G n env m σ test fun b σ₁ => if b then WS G n env m σ₁ body (Seq G n env rest Q) else WS G n env m σ₁ orelse (Seq G n env rest Q)) : WS G n env m σ (.If test body orelse pos :: rest) Q := WS.seq (WS1.ite h)
theorem WS.ite0 {m : Loc} {test : Expr} {body rest : List Stmt} {pos : Pos} {Q : AFl → Loc → Sig → Prop}
    (h : WBF G n env m σ test fun b σ₁ => if b then WS G n env m σ₁ body (Seq G n env rest Q) else WS G n env m σ₁ rest Q) : WS G n env m σ (.If test body [] pos :: rest) Q :=
  WS.ite (W.mono h fun b σ₁ q => by cases b <;> first | exact q | exact WS.nil q)
theorem WS.assign {m : Loc} {t value : Expr} {pos : Pos} {rest : List Stmt} {Q : AFl → Loc → Sig → Prop} (h : WEF G n env m σ value fun a σ₁ => WA G n env m σ₁ t a fun m₁ σ₂ => WS G n env m₁ σ₂ rest Q)
    (hsw : swapsWith value (some t) pos.line env = pure false) (hst : swappedStores [t] value env = pure none) (ht : isSt t = false) : WS G n env m σ (.Assign [t] value pos :: rest) Q :=
  WS.seq (WS1.assign h hsw hst ht)
theorem WS.expr {m : Loc} {e : Expr} {pos : Pos} {rest : List Stmt} {Q : AFl → Loc → Sig → Prop} (h : WEF G n env m σ e fun _ σ₁ => WS G n env m σ₁ rest Q) (hi : interactive env = false)
    (hsw : swapsWith e none pos.line env = pure false) : WS G n env m σ (.Expr e pos :: rest) Q := WS.seq (WS1.expr h hi hsw)
theorem ite_t {b : Bool} {X Y : Prop} (hb : b = true) (h : X) : if b = true then X else Y := by rw [if_pos hb]; exact h
theorem ite_f {b : Bool} {X Y : Prop} (hb : b = false) (h : Y) : if b = true then X else Y := by rw [if_neg (by rw [hb]; exact Bool.false_ne_true)]; exact h
theorem kbool {b : Bool} {Q : Bool → Sig → Prop} (h : Q b σ) : KB Q (.bool b) σ := ⟨b, rfl, h⟩
theorem Fin.of {Q : AV → Sig → Prop} {fl : AFl} {m : Loc} (h : Q (retOf fl) σ) : Fin Q fl m σ := ⟨σ, [], by rw [List.append_nil], h⟩
theorem Fin.ret {Q : AV → Sig → Prop} {a : AV} {m : Loc} (h : Q a σ) : Fin Q (.ret a) m σ := Fin.of h
theorem WEs.nil_ {Q : List AV → Sig → Prop} (h : Q [] σ) : WEs G n env K [] σ Q := h
theorem WEs.cons_ {e : Expr} {r : List Expr} {Q : List AV → Sig → Prop} (h : WE G n env K σ e fun a σ₁ => WEs G n env K r σ₁ fun l σ₂ => Q (a :: l) σ₂) : WEs G n env K (e :: r) σ Q := h
end
end Mine
set_option maxRecDepth 100000
set_option autoImplicit false
namespace Mine
open PySem PySem.W PyProof.Rows PySem.Calls PySem.SeqAt
noncomputable def isTupT : Expr → Bool
  | .Tuple .. => true
  | .List .. => true
  | _ => false
noncomputable def WN (G : Gd) (n : Nat) (it : Addr) (target : Expr) (σ : Sig) (Qe : Sig → Prop) (Qi : AV → Sig → Prop) : Prop :=
  ∀ A Φ s F, Rm A n → St G (σ ++ F) Φ s → wpAny (model G.prog G.w) A (pyNext (.ref it))
    (fun r s' => match r with
      | none => ∃ Φ' σ', Ext Φ Φ' ∧ St G (σ' ++ F) Φ' s' ∧ Qe σ'
      | some v => wpAny (model G.prog G.w) A (letOwnedTupleGo target (.ref it) v) (fun _ s'' => P G VRep F Φ Qi v s'') NoE s') NoE s
section
variable {G : Gd} {n : Nat} {env : Env} {K σ σ' : Sig} {it l : Addr} {i : Nat} {target : Expr} {Qe : Sig → Prop} {Qi : AV → Sig → Prop}
theorem ownGo_of {T : String} {vs : Array Value} {v : Value} {A : Around} {s : Shared} {Q : Unit → Shared → Prop} {M : Model} {E : Value → Shared → Prop} {o : Obj} (ho : s.heap.get? it = some o) (hc : o.cls = .type T) (hd : o.data = .fields vs)
    (hT : ["enumerate", "zip", "dict_itemiterator", "dict_reverseitemiterator", "odict_iterator", "itertools.zip_longest", "itertools.pairwise"].contains T = false) (h : Q () s) :
    wpAny M A (letOwnedTupleGo target (.ref it) v) Q E s := by
  unfold letOwnedTupleGo
  cases target <;> first
    | exact wpAny_pure h
    | (cases v <;> first
        | exact wpAny_pure h
        | (refine wpAny_bind (wpAny_load ho ?_)
           rw [hc, hd]
           dsimp only
           rw [if_neg (by rw [hT]; simp)]
           exact wpAny_pure h))
theorem Upd.two {a : Addr} {o o' : AObj} (h : Upd a o o' σ σ') {F : Sig} : ∃ r, (σ ++ F).Perm ((a, o) :: r) ∧ (σ' ++ F).Perm ((a, o') :: r) := by
  obtain ⟨r, p1, p2⟩ := h.at
  exact ⟨r ++ F, p1.append_right _, p2.append_right _⟩
theorem WN.list_item {xs : List AV} {x : AV} (hx : xs[i]? = some x) (U : Upd it (.listIter l i) (.listIter l (i + 1)) σ σ') (hm : (l, .list xs) ∈ σ) (h : Qi x σ') : WN G n it target σ Qe Qi := fun A Φ s F hr hs => by
  obtain ⟨r, p1, p2⟩ := U.two (F := F)
  have hs1 := hs.perm p1
  obtain ⟨items, hl, rl⟩ := hs.mem (List.mem_append_left _ hm)
  replace hl := hl.isList
  obtain ⟨y, hy, ry⟩ := rl.get hx
  refine wpAny_pyNext_list_item hs1.head hl (by rw [← Array.getElem?_toList]; exact hy) fun h' hit hsb => ?_
  obtain ⟨o, e1, e2, e3⟩ := id hit
  refine ownGo_of e1 e2 e3 (by decide) ⟨Φ, x, σ', .refl _, ry, ?_, h⟩
  exact (hs1.updHead (s' := { s with heap := h' }) (ao' := .listIter l (i + 1)) hsb.extBut hit rfl rfl).perm p2.symm
theorem WN.list_end {xs : List AV} (hx : xs.length ≤ i) (U : At it (.listIter l i) σ' σ) (hm : (l, .list xs) ∈ σ) (h : Qe σ') : WN G n it target σ Qe Qi := fun A Φ s F hr hs => by
  have hs1 := hs.perm (U.perm.append_right _)
  obtain ⟨items, hl, rl⟩ := hs.mem (List.mem_append_left _ hm)
  replace hl := hl.isList
  refine wpAny_pyNext_list_end hr.h hs1.head hl (by rw [← Array.getElem?_toList, List.getElem?_eq_none]; rw [rl.length]; exact hx) fun h' he => ?_
  exact ⟨Φ, σ', .refl _, hs1.dropHead (s' := { s with heap := h' }) he rfl rfl, h⟩
theorem WN.tup_item {x : AV} {xs : List AV} (U : Upd it (.tupIter (x :: xs)) (.tupIter xs) σ σ') (h : Qi x σ') : WN G n it target σ Qe Qi := fun A Φ s F hr hs => by
  obtain ⟨r, p1, p2⟩ := U.two (F := F)
  have hs1 := hs.perm p1
  obtain ⟨t, j, items, hit, ht, hj, rl⟩ := hs1.head
  obtain ⟨v, vr, e, rv, rr⟩ := rl
  have hjx : items.toArray[j]? = some v := by
    rw [List.getElem?_toArray]
    have := List.getElem?_drop (xs := items) (i := j) (j := 0)
    rw [e] at this; simpa using this.symm
  have hlt : j < items.length := by simpa using (Array.getElem?_eq_some_iff.mp hjx).1
  refine wpAny_pyNext_tuple_item hit ⟨_, hs.frz _ _ ht, rfl, 0, rfl⟩ hjx fun h' hit' hsb => ?_
  obtain ⟨o, e1, e2, e3⟩ := id hit'
  refine ownGo_of e1 e2 e3 (by decide) ⟨Φ, x, σ', .refl _, rv, ?_, h⟩
  refine (hs1.updHead (s' := { s with heap := h' }) (ao' := .tupIter xs) hsb.extBut ⟨t, j + 1, items, hit', ht, hlt, ?_⟩ rfl rfl).perm p2.symm
  have : items.drop (j + 1) = vr := by rw [← List.drop_drop, e]; rfl
  rw [this]; exact rr
theorem WN.tup_end (U : At it (.tupIter []) σ' σ) (h : Qe σ') : WN G n it target σ Qe Qi := fun A Φ s F hr hs => by
  have hs1 := hs.perm (U.perm.append_right _)
  obtain ⟨t, j, items, hit, ht, hj, rl⟩ := hs1.head
  have e : items.drop j = [] := rl
  refine wpAny_pyNext_tuple_end hr.h hit ⟨_, hs.frz _ _ ht, rfl, 0, rfl⟩ (by rw [List.getElem?_toArray, List.getElem?_eq_none]; simpa using e) fun h' he => ?_
  exact ⟨Φ, σ', .refl _, hs1.dropHead (s' := { s with heap := h' }) he rfl rfl, h⟩
theorem WN.range_item {x left step : Int} (hl : 0 < left) (U : Upd it (.rangeIter x left step) (.rangeIter (x + step) (left - 1) step) σ σ') (h : Qi (.int x) σ') : WN G n it target σ Qe Qi := fun A Φ s F hr hs => by
  obtain ⟨r, p1, p2⟩ := U.two (F := F)
  have hs1 := hs.perm p1
  have hh : IsRangeIter s.heap it x left step := hs1.head
  refine wpAny_pyNext_range_item hh hl fun h' hit hsb => ?_
  refine ownGo_of (o := { cls := .type "range_iterator", dict := none, data := .fields #[rawInt (x + step), rawInt (left - 1), rawInt step], slots := #[] }) hit rfl rfl (by decide) ⟨Φ, .int x, σ', .refl _, ⟨_, rfl⟩, ?_, h⟩
  exact (hs1.updHead (s' := { s with heap := h', toks := s.toks + 1 }) (ao' := .rangeIter (x + step) (left - 1) step) hsb.extBut hit rfl rfl).perm p2.symm
theorem WN.range_end {x left step : Int} (hl : left ≤ 0) (U : At it (.rangeIter x left step) σ' σ) (h : Qe σ') : WN G n it target σ Qe Qi := fun A Φ s F hr hs => by
  have hs1 := hs.perm (U.perm.append_right _)
  have hh : IsRangeIter s.heap it x left step := hs1.head
  refine wpAny_pyNext_range_end hr.h hh hl fun h' he => ?_
  exact ⟨Φ, σ', .refl _, hs1.dropHead (s' := { s with heap := h' }) he rfl rfl, h⟩
theorem W1.iter_list {xs : List AV} {Q : AV → Sig → Prop} (hm : (l, .list xs) ∈ σ) (h : ∀ it, Q (.raw (.ref it)) ((it, .listIter l 0) :: σ)) : W1 G n pyIter (.raw (.ref l)) σ Q := fun v A Φ s F hr e hs => by
  rw [show v = .ref l from e]
  obtain ⟨items, hl, rl⟩ := hs.mem (List.mem_append_left _ hm)
  replace hl := hl.isList
  refine wpAny_pyIter_list hl ⟨Φ, .raw (.ref s.heap.objs.size), _, .refl _, rfl, ?_, h _⟩
  exact hs.newOwn (fun b o e => Heap.get?_push_of_some _ e) ⟨_, Heap.get?_push_size _ rfl, rfl, rfl⟩ rfl rfl
theorem W1.iter_tup {xs : List AV} {Q : AV → Sig → Prop} (h : ∀ it, Q (.raw (.ref it)) ((it, .tupIter xs) :: σ)) : W1 G n pyIter (.tup xs) σ Q := fun v A Φ s F hr e hs => by
  obtain ⟨a, vs, rfl, e1, e2⟩ := e
  refine wpAny_pyIter_tuple ⟨_, hs.frz _ _ e1, rfl, 0, rfl⟩ ⟨Φ, .raw (.ref s.heap.objs.size), _, .refl _, rfl, ?_, h _⟩
  exact hs.newOwn (fun b o e => Heap.get?_push_of_some _ e) ⟨a, 0, vs, ⟨_, Heap.get?_push_size _ rfl, rfl, rfl⟩, e1, Nat.zero_le _, e2⟩ rfl rfl
noncomputable abbrev rangeO (a b : Int) (t u v : Tok) : Obj := { cls := .type "range", dict := none, data := .fields #[.int a t, .int b u, .int 1 v], slots := #[] }
noncomputable def SelfIt (G : Gd) (n : Nat) (it : Addr) (σ : Sig) : Prop := ∀ A Φ s F (Q : Value → Shared → Prop) (E : Value → Shared → Prop), Rm A n → St G (σ ++ F) Φ s → Q (.ref it) s → wpAny (model G.prog G.w) A (pyIter (.ref it)) Q E s
theorem SelfIt.list (hm : (it, .listIter l i) ∈ σ) : SelfIt G n it σ := fun A Φ s F Q E hr hs h => wpAny_pyIter_listiter (hs.mem (List.mem_append_left _ hm)) h
theorem SelfIt.tup {xs : List AV} (hm : (it, .tupIter xs) ∈ σ) : SelfIt G n it σ := fun A Φ s F Q E hr hs h => by
  obtain ⟨t, j, items, hit, _⟩ := hs.mem (List.mem_append_left _ hm)
  exact wpAny_pyIter_tupleiter hit h
theorem SelfIt.range {x left step : Int} (hm : (it, .rangeIter x left step) ∈ σ) : SelfIt G n it σ := fun A Φ s F Q E hr hs h => by
  have hh : IsRangeIter s.heap it x left step := hs.mem (List.mem_append_left _ hm)
  exact wpAny_pyIter_rangeiter hh h
theorem SelfIt.enum {e : Addr} (hm : (it, .enumIter e i) ∈ σ) : SelfIt G n it σ := fun A Φ s F Q E hr hs h => by
  obtain ⟨old, hit⟩ := hs.mem (List.mem_append_left _ hm)
  exact wpAny_pyIter_enum hit h
theorem SelfIt.key {xs : List AV} (hm : (it, .keyIter xs) ∈ σ) : SelfIt G n it σ := fun A Φ s F Q E hr hs h => by
  obtain ⟨d, j, ep, o, hit, _⟩ := hs.mem (List.mem_append_left _ hm)
  exact wpAny_pyIter_keyiter hit h
noncomputable def WF (G : Gd) (n : Nat) (env : Env) (target : Expr) (it : Addr) (body : List Stmt) (m : Loc) (σ : Sig) (Q : AFl → Loc → Sig → Prop) : Prop :=
  ∀ A Φ s F, Rm A n → St G (σ ++ ((env.locals, .ns m) :: F)) Φ s → codeAny (model G.prog G.w) A (.forLoop target (.ref it) body [] env) (fun r s' => ∃ f, r = .ok f ∧ PS G env.locals F Φ Q f s') s
noncomputable def Turn (G : Gd) (n : Nat) (env : Env) (target : Expr) (it : Addr) (body : List Stmt) (Q : AFl → Loc → Sig → Prop) (fl : AFl) (m : Loc) (σ : Sig) : Prop :=
  match fl with
  | .next => WF G n env target it body m σ Q
  | .cont => WF G n env target it body m σ Q
  | .brk => Q .next m σ
  | .ret a => Q (.ret a) m σ
theorem WF.turn {body : List Stmt} {m : Loc} {Q : AFl → Loc → Sig → Prop}
    (h : WN G n it target σ (fun σ₁ => Q .next m σ₁) fun x σ₁ => WA G n env m σ₁ target x fun m₁ σ₂ => WS G n env m₁ σ₂ body (Turn G n env target it body Q)) :
    WF G n env target it body m σ Q := fun A Φ s F hr hs => by
  refine codeAny_of_tree ?_
  show wpAny _ A ((forTurn target (.ref it) body [] env).onRaise (fun x => do noteFrame x env; theTreesLotGoes x)) _ _ s
  refine wpAny_noted ?_
  simp -iota only [forTurn]
  refine wpAny_bind (wpAny_standAt (wpAny_bind (wpAny_onRaise (wpAny_mono (h A Φ s _ hr hs) (fun r s1 h1 => ?_) noE))))
  cases r with
  | none =>
    obtain ⟨Φ1, σ1, x1, st1, q1⟩ := h1
    refine wpAny_pure (And.intro rfl (codeAny_block (wpAny_execs_nil ⟨_, rfl, ?_⟩)))
    exact ⟨Φ1, .next, m, σ1, x1, rfl, st1, q1⟩
  | some v =>
    refine wpAny_bind (wpAny_mono h1 (fun _ s2 h2 => ?_) noE)
    obtain ⟨Φ1, x, σ1, x1, rx, st1, q1⟩ := h2
    refine wpAny_bind (wpAny_mono (q1 v A Φ1 s2 F hr rx st1) (fun _ s3 h3 => ?_) noE)
    obtain ⟨Φ2, m2, σ2, x2, st2, q2⟩ := h3
    refine wpAny_bind (WT1.go q2 hr st2 fun f s4 Φ3 fl m3 σ3 x3 rf st3 q3 => ?_)
    cases fl with
    | next =>
      cases rf
      refine wpAny_pure (And.intro rfl (codeAny_mono ((show WF G n env target it body m3 σ3 Q from q3) A Φ3 s4 F hr st3) fun r s5 hq => ?_))
      obtain ⟨f, rfl, hp⟩ := hq
      exact ⟨f, rfl, hp.up ((x1.trans x2).trans x3)⟩
    | cont =>
      cases rf
      refine wpAny_pure (And.intro rfl (codeAny_mono ((show WF G n env target it body m3 σ3 Q from q3) A Φ3 s4 F hr st3) fun r s5 hq => ?_))
      obtain ⟨f, rfl, hp⟩ := hq
      exact ⟨f, rfl, hp.up ((x1.trans x2).trans x3)⟩
    | brk => cases rf; exact wpAny_pure ⟨_, rfl, Φ3, .next, m3, σ3, (x1.trans x2).trans x3, rfl, st3, q3⟩
    | ret a => obtain ⟨w, rfl, rw'⟩ := rf; exact wpAny_pure ⟨_, rfl, Φ3, .ret a, m3, σ3, (x1.trans x2).trans x3, ⟨w, rfl, rw'⟩, st3, q3⟩
theorem WF.pre {body : List Stmt} {m m' : Loc} {R : Sig} {Q : AFl → Loc → Sig → Prop} (h : WF G n env target it body m' σ' Q) (p : σ.Perm (σ' ++ R)) (hm : ∀ x a, m'.lookup x = some a → m.lookup x = some a) : WF G n env target it body m σ Q := fun A Φ s F hr hs => by
  refine h A Φ s F hr ?_
  have h1 := ((hs.perm (σ' := σ' ++ (R ++ ((env.locals, .ns m) :: F))) (by rw [← List.append_assoc σ' R]; exact p.append_right _)).sub (List.Sublist.append_left (List.sublist_append_right _ _) _))
  have p2 : ∀ m' : Loc, (σ' ++ ((env.locals, AObj.ns m') :: F)).Perm ((env.locals, .ns m') :: (σ' ++ F)) := fun m' => List.perm_middle
  refine ((h1.perm (p2 m)).updHead (s' := s) (ao' := .ns m') (Heap.ExtBut.refl _ _) ?_ rfl rfl).perm (p2 m').symm
  obtain ⟨mm, hn, hv⟩ := (h1.perm (p2 m)).head
  exact ⟨mm, hn, fun y a e => hv y a (hm y a e)⟩
theorem WS1.for {m : Loc} {iter : Expr} {body : List Stmt} {pos : Pos} {Q : AFl → Loc → Sig → Prop}
    (h : WEF G n env m σ iter fun a σ₁ => W1 G n pyIter a σ₁ fun b σ₂ => ∃ it, b = .raw (.ref it) ∧ WF G n env target it body m σ₂ Q)
    (hs : ∀ x, foldedSetIterable iter env x = pure x) : WS1 G n env m σ (.For target iter body [] pos) Q := fun A Φ s F hr hst => by
  refine wpAny_For ?_ hs
  refine W.go h hr tt hst fun v s1 Φ1 a σ1 x1 r1 h1 q1 => (q1 v).go hr (F := (env.locals, .ns m) :: F) r1 h1 fun w s2 Φ2 b σ2 x2 r2 h2 q2 => ?_
  obtain ⟨it, rfl, q2⟩ := q2
  rw [show w = .ref it from r2]
  refine codeAny_mono (q2 A Φ2 s2 F hr h2) fun r s3 hq => ?_
  obtain ⟨f, rfl, hp⟩ := hq
  exact hp.up (x1.trans x2)
theorem WS.for {m : Loc} {iter : Expr} {body rest : List Stmt} {pos : Pos} {Q : AFl → Loc → Sig → Prop}
    (h : WEF G n env m σ iter fun a σ₁ => W1 G n pyIter a σ₁ fun b σ₂ => ∃ it, b = .raw (.ref it) ∧ WF G n env target it body m σ₂ (Seq G n env rest Q))
    (hs : ∀ x, foldedSetIterable iter env x = pure x) : WS G n env m σ (.For target iter body [] pos :: rest) Q := WS.seq (WS1.for h hs)
end
end Mine
set_option maxRecDepth 100000
set_option autoImplicit false
namespace Mine
open PySem PySem.W PyProof.Rows PySem.Calls PySem.SeqAt
noncomputable abbrev ifsLoop (ifs : List Expr) (env : Env) (b : Bool) : Sem Bool :=
  forIn ifs b fun c r => if r = true then do let ok ← isTrue c env (eval c env); pure (ForInStep.yield ok) else pure (ForInStep.yield r)
theorem turn1_eq (elt target iter : Expr) (ifs : List Expr) (scope : Scope) (pos : Pos) (it acc : Value) (env : Env) :
    compTurn (.ListComp elt [⟨target, iter, ifs, 0⟩] scope pos) 0 it acc env = (standAt iter.pos >>= fun _ => pyNext it >>= fun r => match r with
      | none => pure (.done .next)
      | some v => letOwnedTupleGo target it v >>= fun _ => assign target env v >>= fun _ => ifsLoop ifs env true >>= fun ok =>
        if ok = true then (eval elt env >>= fun x => call (.builtin "list.append") [acc, x] >>= fun _ => pure ()) >>= fun _ => again (.compLoop (.ListComp elt [⟨target, iter, ifs, 0⟩] scope pos) 0 it acc env)
        else again (.compLoop (.ListComp elt [⟨target, iter, ifs, 0⟩] scope pos) 0 it acc env)) := by rfl
theorem turn2b_eq (elt target iter : Expr) (ifs : List Expr) (g0 : Comprehension) (scope : Scope) (pos : Pos) (it acc : Value) (env : Env) :
    compTurn (.ListComp elt [g0, ⟨target, iter, ifs, 0⟩] scope pos) 1 it acc env = (standAt iter.pos >>= fun _ => pyNext it >>= fun r => match r with
      | none => pure (.done .next)
      | some v => letOwnedTupleGo target it v >>= fun _ => assign target env v >>= fun _ => ifsLoop ifs env true >>= fun ok =>
        if ok = true then (eval elt env >>= fun x => call (.builtin "list.append") [acc, x] >>= fun _ => pure ()) >>= fun _ => again (.compLoop (.ListComp elt [g0, ⟨target, iter, ifs, 0⟩] scope pos) 1 it acc env)
        else again (.compLoop (.ListComp elt [g0, ⟨target, iter, ifs, 0⟩] scope pos) 1 it acc env)) := by rfl
theorem turn2a_eq (elt target iter : Expr) (ifs : List Expr) (t' i' : Expr) (f' : List Expr) (scope : Scope) (pos : Pos) (it acc : Value) (env : Env) :
    compTurn (.ListComp elt [⟨target, iter, ifs, 0⟩, ⟨t', i', f', 0⟩] scope pos) 0 it acc env = (standAt iter.pos >>= fun _ => pyNext it >>= fun r => match r with
      | none => pure (.done .next)
      | some v => letOwnedTupleGo target it v >>= fun _ => assign target env v >>= fun _ => ifsLoop ifs env true >>= fun ok =>
        if ok = true then eval i' env >>= fun x => standAt i'.pos >>= fun _ => foldedSetIterable i' env x >>= fun x => holding [x] (pyIter x) >>= fun it' =>
            runOwn (.compStart (.ListComp elt [⟨target, iter, ifs, 0⟩, ⟨t', i', f', 0⟩] scope pos) 1 it' acc env) env >>= fun _ => again (.compLoop (.ListComp elt [⟨target, iter, ifs, 0⟩, ⟨t', i', f', 0⟩] scope pos) 0 it acc env)
        else again (.compLoop (.ListComp elt [⟨target, iter, ifs, 0⟩, ⟨t', i', f', 0⟩] scope pos) 0 it acc env)) := by rfl
noncomputable def WIfs (G : Gd) (n : Nat) (env : Env) (m : Loc) : List Expr → Sig → (Bool → Sig → Prop) → Prop
  | [], σ, Q => Q true σ
  | c :: r, σ, Q => WBF G n env m σ c fun b σ₁ => if b then WIfs G n env m r σ₁ Q else Q false σ₁
noncomputable def WCL (G : Gd) (n : Nat) (e : Expr) (depth : Nat) (it acc : Addr) (env : Env) (m : Loc) (σ : Sig) (Q : Loc → Sig → Prop) : Prop :=
  ∀ A Φ s F, Rm A n → St G (σ ++ ((env.locals, .ns m) :: F)) Φ s → codeAny (model G.prog G.w) A (.compLoop e depth (.ref it) (.ref acc) env)
    (fun r s' => r = .ok .next ∧ PA G env.locals F Φ Q s') s
section
variable {G : Gd} {n : Nat} {env : Env} {K σ σ' : Sig} {it acc : Addr} {target iter elt : Expr} {ifs : List Expr} {scope : Scope} {pos : Pos} {m : Loc}
theorem ifs_false {A : Around} {s : Shared} {Q : Bool → Shared → Prop} {E : Value → Shared → Prop} {M : Model} (h : Q false s) : ∀ ifs, wpAny M A (ifsLoop ifs env false) Q E s
  | [] => wpAny_pure h
  | c :: r => by
    unfold ifsLoop
    rw [List.forIn_cons, if_neg Bool.false_ne_true]
    exact wpAny_bind (wpAny_pure (ifs_false h r))
theorem WIfs.run {Q : Bool → Sig → Prop} : ∀ {ifs : List Expr} {σ : Sig}, WIfs G n env m ifs σ Q → W G n [(env.locals, .ns m)] Tt σ BRep (ifsLoop ifs env true) Q
  | [], σ, h => fun A Φ s F hr hc hs => wpAny_pure ⟨Φ, true, σ, .refl _, rfl, hs, h⟩
  | c :: r, σ, h => fun A Φ s F hr hc hs => by
    unfold ifsLoop
    rw [List.forIn_cons, if_pos rfl]
    refine wpAny_bind (wpAny_bind (W.go (show WBF G n env m σ c _ from h) hr tt hs fun v s1 Φ1 b σ1 x1 r1 h1 q1 => wpAny_pure ?_))
    cases r1
    cases v
    · exact ifs_false ⟨Φ1, false, σ1, x1, rfl, h1, q1⟩ r
    · exact (WIfs.run (ifs := r) q1).go hr tt h1 fun v s2 Φ2 b σ2 x2 r2 h2 q2 => ⟨Φ2, b, σ2, x1.trans x2, r2, h2, q2⟩
noncomputable def Emit (G : Gd) (n : Nat) (env : Env) (m : Loc) (σ : Sig) (acc : Addr) (elt : Expr) (k : Sig → Prop) : Prop :=
  WEF G n env m σ elt fun x σ₁ => ∃ l σ₂, Upd acc (.list l) (.list (l ++ [x])) σ₁ σ₂ ∧ l.length ≤ sizeLine ∧ k σ₂
theorem Emit.run {k : Sig → Prop} (h : Emit G n env m σ acc elt k) {A : Around} {Φ : Frz} {s : Shared} {F : Sig} {R : Unit → Shared → Prop} {E : Value → Shared → Prop} (hr : Rm A n) (hs : St G (σ ++ ((env.locals, .ns m) :: F)) Φ s)
    (kk : ∀ s' Φ' σ', Ext Φ Φ' → St G (σ' ++ ((env.locals, .ns m) :: F)) Φ' s' → k σ' → R () s') :
    wpAny (model G.prog G.w) A (eval elt env >>= fun x => call (.builtin "list.append") [.ref acc, x] >>= fun _ => pure ()) R E s := by
  refine wpAny_bind (W.go h hr tt hs fun v s1 Φ1 x σ1 x1 r1 h1 q1 => ?_)
  obtain ⟨l, σ2, U, hl, q⟩ := q1
  obtain ⟨r, p1, p2⟩ := U.two (F := (env.locals, .ns m) :: F)
  have hs1 := St.perm (σ' := (acc, .list l) :: r) h1 p1
  obtain ⟨items, hL, rl⟩ := hs1.head
  have hlen := rl.length
  refine wpAny_bind (wpAny_list_append_plain hL (fun h' hl' hsb => wpAny_pure (kk _ Φ1 σ2 x1 ?_ q)) (by rw [← Array.length_toList, hlen]; exact hl))
  refine (hs1.updHead (s' := { s1 with heap := h' }) (ao' := .list (l ++ [x])) hsb.extBut ⟨_, hl', ?_⟩ rfl rfl).perm p2.symm
  rw [Array.toList_push]; exact rl.snoc r1
theorem again_run {e : Expr} {depth : Nat} {Q : Loc → Sig → Prop} {A : Around} {Φ Φ₁ : Frz} {s : Shared} {F : Sig} (x : Ext Φ Φ₁) (h : WCL G n e depth it acc env m σ Q) (hr : Rm A n) (hs : St G (σ ++ ((env.locals, .ns m) :: F)) Φ₁ s)
    (hq : (Code.compLoop e depth (.ref it) (.ref acc) env).quiet = true) {E : Value → Shared → Prop} :
    wpAny (model G.prog G.w) A (again (.compLoop e depth (.ref it) (.ref acc) env)) (fun fin s' => match fin with
      | .done f => Except.ok f = (.ok .next : Result) ∧ PA G env.locals F Φ Q s'
      | .again c' => c'.quiet = true ∧ codeAny (model G.prog G.w) A c' (fun r s' => r = .ok .next ∧ PA G env.locals F Φ Q s') s') E s :=
  wpAny_pure (a := Fin.again _) (And.intro hq (codeAny_mono (h A Φ₁ s F hr hs) fun r s' ⟨e, Φ', m', σ', x', st, q⟩ => ⟨e, Φ', m', σ', x.trans x', st, q⟩))
noncomputable def CTurn (G : Gd) (n : Nat) (e : Expr) (depth : Nat) (it acc : Addr) (env : Env) (target elt : Expr) (ifs : List Expr) (m : Loc) (σ : Sig) (Q : Loc → Sig → Prop) : Prop :=
  WN G n it target σ (fun σ₁ => Q m σ₁) fun x σ₁ => WA G n env m σ₁ target x fun m₁ σ₂ => WIfs G n env m₁ ifs σ₂ fun b σ₃ =>
    if b then Emit G n env m₁ σ₃ acc elt fun σ₄ => WCL G n e depth it acc env m₁ σ₄ Q else WCL G n e depth it acc env m₁ σ₃ Q
theorem WCL.turn_core {e : Expr} {depth : Nat} {Q : Loc → Sig → Prop} (hq : (Code.compLoop e depth (.ref it) (.ref acc) env).quiet = true) {p : Pos}
    (hden : (denote table (.compLoop e depth (.ref it) (.ref acc) env)) = (compTurn e depth (.ref it) (.ref acc) env).onRaise (fun x => do noteFrame x env; theTreesLotGoes x))
    (hw : (Code.compLoop e depth (.ref it) (.ref acc) env).weight = 0) (hu : (Code.compLoop e depth (.ref it) (.ref acc) env).cUnits = 0)
    (ht : compTurn e depth (.ref it) (.ref acc) env = (standAt p >>= fun _ => pyNext (.ref it) >>= fun r => match r with
      | none => pure (.done .next)
      | some v => letOwnedTupleGo target (.ref it) v >>= fun _ => assign target env v >>= fun _ => ifsLoop ifs env true >>= fun ok =>
        if ok = true then (eval elt env >>= fun x => call (.builtin "list.append") [.ref acc, x] >>= fun _ => pure ()) >>= fun _ => again (.compLoop e depth (.ref it) (.ref acc) env)
        else again (.compLoop e depth (.ref it) (.ref acc) env)))
    (h : CTurn G n e depth it acc env target elt ifs m σ Q) : WCL G n e depth it acc env m σ Q := fun A Φ s F hr hs => by
  refine codeAny_of_tree ?_
  rw [Around.under_of_weight hw hu]
  show wpAny _ A (denote table (.compLoop e depth (.ref it) (.ref acc) env)) _ _ s
  rw [hden]
  refine wpAny_noted ?_
  rw [ht]
  refine wpAny_bind (wpAny_standAt (wpAny_bind (wpAny_mono (h A Φ s _ hr hs) (fun r s1 h1 => ?_) noE)))
  cases r with
  | none =>
    obtain ⟨Φ1, σ1, x1, st1, q1⟩ := h1
    exact wpAny_pure ⟨rfl, Φ1, m, σ1, x1, st1, q1⟩
  | some v =>
    refine wpAny_bind (wpAny_mono h1 (fun _ s2 h2 => ?_) noE)
    obtain ⟨Φ1, x, σ1, x1, rx, st1, q1⟩ := h2
    refine wpAny_bind (wpAny_mono (q1 v A Φ1 s2 F hr rx st1) (fun _ s3 h3 => ?_) noE)
    obtain ⟨Φ2, m2, σ2, x2, st2, q2⟩ := h3
    refine wpAny_bind (q2.run.go hr tt st2 fun ok s4 Φ3 b σ3 x3 rb st3 q3 => ?_)
    cases rb
    cases ok
    · rw [if_neg Bool.false_ne_true]
      exact again_run ((x1.trans x2).trans x3) q3 hr st3 hq
    · rw [if_pos rfl]
      refine wpAny_bind (Emit.run q3 hr st3 fun s5 Φ4 σ4 x4 st4 q4 => ?_)
      exact again_run (((x1.trans x2).trans x3).trans x4) q4 hr st4 hq
theorem WCL.turn1 {Q : Loc → Sig → Prop} (h : CTurn G n (.ListComp elt [⟨target, iter, ifs, 0⟩] scope pos) 0 it acc env target elt ifs m σ Q) :
    WCL G n (.ListComp elt [⟨target, iter, ifs, 0⟩] scope pos) 0 it acc env m σ Q := WCL.turn_core rfl rfl rfl rfl (turn1_eq ..) h
theorem WCL.turn2b {g0 : Comprehension} {Q : Loc → Sig → Prop} (h : CTurn G n (.ListComp elt [g0, ⟨target, iter, ifs, 0⟩] scope pos) 1 it acc env target elt ifs m σ Q) :
    WCL G n (.ListComp elt [g0, ⟨target, iter, ifs, 0⟩] scope pos) 1 it acc env m σ Q := WCL.turn_core rfl rfl rfl rfl (turn2b_eq ..) h
noncomputable def WCS (G : Gd) (n : Nat) (e : Expr) (depth : Nat) (it acc : Addr) (env : Env) (m : Loc) (σ : Sig) (Q : Loc → Sig → Prop) : Prop := SelfIt G n it σ ∧ WCL G n e depth it acc env m σ Q
theorem compStart_run {g : Comprehension} {e : Expr} {depth : Nat} {Q : Loc → Sig → Prop} (hg : (clausesOf e)[depth]? = some g) (ha : (g.is_async != 0) = false)
    (hden : (denote table (.compStart e depth (.ref it) (.ref acc) env)) = (compStart e depth (.ref it) (.ref acc) env).onRaise (fun x => do noteFrame x env; standAt theWindowsPlace))
    (hw : (Code.compStart e depth (.ref it) (.ref acc) env).weight = 0) (hu : (Code.compStart e depth (.ref it) (.ref acc) env).cUnits = 0)
    (hq : (Code.compLoop e depth (.ref it) (.ref acc) env).quiet = true)
    (h : WCS G n e depth it acc env m σ Q) {A : Around} {Φ : Frz} {s : Shared} {F : Sig} (hr : Rm A n) (hs : St G (σ ++ ((env.locals, .ns m) :: F)) Φ s) :
    codeAny (model G.prog G.w) A (.compStart e depth (.ref it) (.ref acc) env) (fun r s' => r = .ok .next ∧ PA G env.locals F Φ Q s') s := by
  refine codeAny_of_tree ?_
  rw [Around.under_of_weight hw hu]
  show wpAny _ A (denote table (.compStart e depth (.ref it) (.ref acc) env)) _ _ s
  rw [hden]
  refine wpAny_notedAt ?_
  unfold compStart
  rw [hg]
  simp only [Option.elim, ha, Bool.false_eq_true, if_false]
  refine wpAny_bind (wpAny_askSetting ?_)
  split
  · exact again_run (.refl _) h.2 hr hs hq
  · refine wpAny_bind (wpAny_rule (wpAny_bind (wpAny_standAt (wpAny_bind (h.1 A Φ s _ _ _ hr hs (again_run (.refl _) h.2 hr hs hq))))))
end
end Mine
set_option maxRecDepth 100000
set_option autoImplicit false
namespace Mine
open PySem PySem.W PyProof.Rows PySem.Calls PySem.SeqAt
section
variable {G : Gd} {n : Nat} {env : Env} {K σ σ' : Sig} {it acc : Addr} {target iter elt : Expr} {ifs : List Expr} {scope : Scope} {pos : Pos} {m : Loc}
noncomputable def CTurn2 (G : Gd) (n : Nat) (e : Expr) (it acc : Addr) (env : Env) (target i' : Expr) (ifs : List Expr) (m : Loc) (σ : Sig) (Q : Loc → Sig → Prop) : Prop :=
  WN G n it target σ (fun σ₁ => Q m σ₁) fun x σ₁ => WA G n env m σ₁ target x fun m₁ σ₂ => WIfs G n env m₁ ifs σ₂ fun b σ₃ =>
    if b then WEF G n env m₁ σ₃ i' fun a σ₄ => W1 G n pyIter a σ₄ fun bb σ₅ => ∃ it', bb = .raw (.ref it') ∧ WCS G n e 1 it' acc env m₁ σ₅ fun m₂ σ₆ => WCL G n e 0 it acc env m₂ σ₆ Q
    else WCL G n e 0 it acc env m₁ σ₃ Q
theorem WCL.turn2a {t' i' : Expr} {f' : List Expr} {Q : Loc → Sig → Prop}
    (h : CTurn2 G n (.ListComp elt [⟨target, iter, ifs, 0⟩, ⟨t', i', f', 0⟩] scope pos) it acc env target i' ifs m σ Q) (hfold : ∀ x, foldedSetIterable i' env x = pure x) :
    WCL G n (.ListComp elt [⟨target, iter, ifs, 0⟩, ⟨t', i', f', 0⟩] scope pos) 0 it acc env m σ Q := fun A Φ s F hr hs => by
  refine codeAny_of_tree ?_
  show wpAny _ A ((compTurn (.ListComp elt [⟨target, iter, ifs, 0⟩, ⟨t', i', f', 0⟩] scope pos) 0 (.ref it) (.ref acc) env).onRaise (fun x => do noteFrame x env; theTreesLotGoes x)) _ _ s
  refine wpAny_noted ?_
  rw [turn2a_eq]
  refine wpAny_bind (wpAny_standAt (wpAny_bind (wpAny_mono (h A Φ s _ hr hs) (fun r s1 h1 => ?_) noE)))
  cases r with
  | none =>
    obtain ⟨Φ1, σ1, x1, st1, q1⟩ := h1
    exact wpAny_pure ⟨rfl, Φ1, m, σ1, x1, st1, q1⟩
  | some v =>
    refine wpAny_bind (wpAny_mono h1 (fun _ s2 h2 => ?_) noE)
    obtain ⟨Φ1, x, σ1, x1, rx, st1, q1⟩ := h2
    refine wpAny_bind (wpAny_mono (q1 v A Φ1 s2 F hr rx st1) (fun _ s3 h3 => ?_) noE)
    obtain ⟨Φ2, m2, σ2, x2, st2, q2⟩ := h3
    refine wpAny_bind (q2.run.go hr tt st2 fun ok s4 Φ3 b σ3 x3 rb st3 q3 => ?_)
    cases rb
    cases ok
    · rw [if_neg Bool.false_ne_true]
      exact again_run ((x1.trans x2).trans x3) q3 hr st3 rfl
    · rw [if_pos rfl]
      refine wpAny_bind (W.go (show WEF G n env m2 σ3 i' _ from q3) hr tt st3 fun y s5 Φ4 a σ4 x4 r4 st4 q4 => ?_)
      refine wpAny_bind (wpAny_standAt (wpAny_bind (wpAny_of_eq (hfold y) (wpAny_bind (wpAny_holding ((q4 y).go hr (F := (env.locals, .ns m2) :: F) r4 st4 fun w s6 Φ5 bb σ5 x5 r5 st5 q5 => ?_))))))
      obtain ⟨it', rfl, q5⟩ := q5
      rw [show w = .ref it' from r5]
      refine wpAny_bind (wpAny_runOwn (codeAny_mono (compStart_run (g := ⟨t', i', f', 0⟩) rfl rfl rfl rfl rfl rfl q5 hr st5) fun r s7 hq => ?_))
      obtain ⟨rfl, Φ6, m6, σ6, x6, st6, q6⟩ := hq
      exact again_run (((((x1.trans x2).trans x3).trans x4).trans x5).trans x6) q6 hr st6 rfl
theorem comp_core {e : Expr} {g : Comprehension} {gs : List Comprehension} {cl : List (Str × Addr)} {newAcc : Sem Value} {use : Option (Value → Sem Unit)} {A : Around} {Φ : Frz} {s : Shared} {F : Sig} {R : Value → Shared → Prop}
    {ao : AObj} {Q : Addr → Sig → Prop}
    (hcl : clausesOf e = g :: gs) (hfold : ∀ x, foldedSetIterable g.iter env x = pure x) (hclos : closureFor scope env = pure cl)
    (hkind : scope.kind = .function) (hnames : (scope.names.all fun x => !decide (x.2 = .local) || decide (scope.names.lookup x.1 = some .local)) = true) (hcell : (scope.names.all fun x => !decide (x.2 = .cell)) = true)
    (ha : (g.is_async != 0) = false)
    (hden : ∀ it acc C, (denote table (.compStart e 0 (.ref it) (.ref acc) (compEnvC scope cl C env))) = (compStart e 0 (.ref it) (.ref acc) (compEnvC scope cl C env)).onRaise (fun x => do noteFrame x (compEnvC scope cl C env); standAt theWindowsPlace))
    (hw : ∀ it acc C, (Code.compStart e 0 (.ref it) (.ref acc) (compEnvC scope cl C env)).weight = 0) (hu : ∀ it acc C, (Code.compStart e 0 (.ref it) (.ref acc) (compEnvC scope cl C env)).cUnits = 0)
    (hq : ∀ it acc C, (Code.compLoop e 0 (.ref it) (.ref acc) (compEnvC scope cl C env)).quiet = true)
    (hacc : ∀ (s : Shared) (R : Value → Shared → Prop) (σ : Sig) (Φ : Frz), St G σ Φ s → (∀ s', St G ((s.heap.objs.size, ao) :: σ) Φ s' → R (.ref s.heap.objs.size) s') → wpAny (model G.prog G.w) A newAcc R NoE s)
    (h : WE G n env K σ g.iter fun a σ₁ => W1 G n pyIter a σ₁ fun b σ₂ => ∃ it, b = .raw (.ref it) ∧ ∀ acc C, WCS G n e 0 it acc (compEnvC scope cl C env) [] ((acc, ao) :: σ₂) fun _ σ₃ => Q acc σ₃)
    (hr : Rm A n) (hs : St G (σ ++ (K ++ F)) Φ s)
    (hR : ∀ acc C s' Φ' σ' m', Ext Φ Φ' → St G (σ' ++ ((C, .ns m') :: (K ++ F))) Φ' s' → Q acc σ' → compPost (model G.prog G.w) A NoE use R (.ref acc) C (.ok .next) s') :
    wpAny (model G.prog G.w) A (comprehension e scope env pos newAcc false (eval g.iter env) use) R NoE s := by
  refine wpAny_comprehension_free hcl hfold hclos hkind (fun x hx hl => ?_) ?_
  · have := List.all_eq_true.mp hnames x hx
    simpa [hl] using this
  refine h.go hr tt hs fun v s1 Φ1 a σ1 x1 r1 h1 q1 => (q1 v).go hr (F := K ++ F) r1 h1 fun w s2 Φ2 b σ2 x2 r2 h2 q2 => ?_
  obtain ⟨it, rfl, q2⟩ := q2
  rw [show w = .ref it from r2]
  refine hacc s2 _ _ _ h2 fun s3 h3 => ?_
  refine wpAny_newFunctionEnv (fun x hx => ?_) (by intro x hx; cases hx) (fun h₁ hns hsb => ?_) hkind
  · have := List.all_eq_true.mp hcell x hx
    simpa using this
  have keep : ∀ b o, s3.heap.get? b = some o → h₁.get? b = some o := fun b o e => hsb.extBut b o (Nat.ne_of_lt (Heap.lt_size e)) (Heap.get?_push_of_some _ e)
  have h4 : St G ((s3.heap.objs.size, .ns []) :: ((s2.heap.objs.size, ao) :: (σ2 ++ (K ++ F)))) Φ2 { s3 with heap := h₁, toks := s3.toks + ([] : List (Str × Value)).length } :=
    h3.newOwn keep ⟨_, hns, fun x a e => by cases e⟩ rfl rfl
  have h5 : St G (((s2.heap.objs.size, ao) :: σ2) ++ ((s3.heap.objs.size, .ns []) :: (K ++ F))) Φ2 { s3 with heap := h₁, toks := s3.toks + ([] : List (Str × Value)).length } := h4.perm (by
    refine List.Perm.trans ?_ List.perm_middle.symm
    rfl)
  refine codeAny_mono (compStart_run (g := g) (by rw [hcl]; rfl) ha (hden _ _ _) (hw _ _ _) (hu _ _ _) (hq _ _ _) (q2 s2.heap.objs.size s3.heap.objs.size) hr h5) fun r s6 hp => ?_
  obtain ⟨rfl, Φ6, m6, σ6, x6, st6, q6⟩ := hp
  exact hR _ _ _ _ _ _ ((x1.trans x2).trans x6) st6 q6
theorem newList_acc {A : Around} (s : Shared) (R : Value → Shared → Prop) (σ : Sig) (Φ : Frz) (hs : St G σ Φ s) (k : ∀ s', St G ((s.heap.objs.size, .list []) :: σ) Φ s' → R (.ref s.heap.objs.size) s') :
    wpAny (model G.prog G.w) A (newList []) R NoE s :=
  wpAny_newObj_type (k _ (hs.newOwn (fun b o e => Heap.get?_push_of_some _ e) ⟨#[], ⟨0, Heap.get?_push_size _ rfl⟩, rfl⟩ rfl rfl)) (by size_fits)
theorem newDict_acc {A : Around} (s : Shared) (R : Value → Shared → Prop) (σ : Sig) (Φ : Frz) (hs : St G σ Φ s) (k : ∀ s', St G ((s.heap.objs.size, .dict []) :: σ) Φ s' → R (.ref s.heap.objs.size) s') :
    wpAny (model G.prog G.w) A newDict R NoE s :=
  wpAny_newObj_type (k _ (hs.newOwn (fun b o e => Heap.get?_push_of_some _ e) ⟨[], Heap.DictOf.new _, rfl⟩ rfl rfl)) (by size_fits)
theorem WE.listcomp {gs : List Comprehension} {cl : List (Str × Addr)} {Q : AV → Sig → Prop} (hclos : closureFor scope env = pure cl)
    (h : WE G n env K σ iter fun a σ₁ => W1 G n pyIter a σ₁ fun b σ₂ => ∃ it, b = .raw (.ref it) ∧ ∀ acc C, WCS G n (.ListComp elt (⟨target, iter, ifs, 0⟩ :: gs) scope pos) 0 it acc (compEnvC scope cl C env) [] ((acc, .list []) :: σ₂) fun _ σ₃ => Q (.raw (.ref acc)) σ₃)
    (hfold : ∀ x, foldedSetIterable iter env x = pure x) (hkind : scope.kind = .function)
    (hnames : (scope.names.all fun x => !decide (x.2 = .local) || decide (scope.names.lookup x.1 = some .local)) = true) (hcell : (scope.names.all fun x => !decide (x.2 = .cell)) = true) :
    WE G n env K σ (.ListComp elt (⟨target, iter, ifs, 0⟩ :: gs) scope pos) Q := fun A Φ s F hr hc hs => by
  show wpAny _ A (comprehension (.ListComp elt (⟨target, iter, ifs, 0⟩ :: gs) scope pos) scope env _ (newList []) false (eval iter env) none) _ _ s
  refine comp_core (g := ⟨target, iter, ifs, 0⟩) (gs := gs) (Q := fun acc σ' => Q (.raw (.ref acc)) σ') rfl hfold hclos hkind hnames hcell rfl (fun _ _ _ => rfl) (fun _ _ _ => rfl) (fun _ _ _ => rfl) (fun _ _ _ => rfl) newList_acc h hr hs ?_
  intro acc C s' Φ' σ' m' x st q
  have st1 := st.perm List.perm_middle
  obtain ⟨mm, hn, _⟩ := st1.head
  exact ⟨mm, hn, fun h' hsb => ⟨Φ', .raw (.ref acc), σ', x, rfl, st1.dropHead (s' := { s' with heap := h' }) hsb.extBut rfl rfl, q⟩⟩
theorem WS.assignComp {gs : List Comprehension} {cl : List (Str × Addr)} {x : Str} {px apos : Pos} {rest : List Stmt} {Q : AFl → Loc → Sig → Prop} (hclos : closureFor scope env = pure cl)
    (h : WEF G n env m σ iter fun a σ₁ => W1 G n pyIter a σ₁ fun b σ₂ => ∃ it, b = .raw (.ref it) ∧ ∀ acc C, WCS G n (.ListComp elt (⟨target, iter, ifs, 0⟩ :: gs) scope pos) 0 it acc (compEnvC scope cl C env) [] ((acc, .list []) :: σ₂) fun _ σ₃ =>
      WA G n env m σ₃ (.Name x px) (.raw (.ref acc)) fun m₁ σ₄ => WS G n env m₁ σ₄ rest Q)
    (hfold : ∀ x, foldedSetIterable iter env x = pure x) (hkind : scope.kind = .function)
    (hnames : (scope.names.all fun x => !decide (x.2 = .local) || decide (scope.names.lookup x.1 = some .local)) = true) (hcell : (scope.names.all fun x => !decide (x.2 = .cell)) = true)
    (hsw : swapsWith (.ListComp elt (⟨target, iter, ifs, 0⟩ :: gs) scope pos) (some (.Name x px)) apos.line env = pure true) :
    WS G n env m σ (.Assign [.Name x px] (.ListComp elt (⟨target, iter, ifs, 0⟩ :: gs) scope pos) apos :: rest) Q := by
  refine WS.seq fun A Φ s F hr hs => ?_
  rw [exec_Assign_Name_used _ _ _ _ hsw]
  refine wpAny_bind (wpAny_standAt (wpAny_bind ?_))
  show wpAny _ A (do let _ ← comprehension (.ListComp elt (⟨target, iter, ifs, 0⟩ :: gs) scope pos) scope env _ (newList []) false (eval iter env) (some (PySem.assign (.Name x px) env))) _ _ s
  refine wpAny_bind ?_
  refine comp_core (K := [(env.locals, .ns m)]) (F := F) (g := ⟨target, iter, ifs, 0⟩) (gs := gs) (Q := fun acc σ' => WA G n env m σ' (.Name x px) (.raw (.ref acc)) fun m₁ σ₄ => WS G n env m₁ σ₄ rest Q) rfl hfold hclos hkind hnames hcell rfl (fun _ _ _ => rfl) (fun _ _ _ => rfl) (fun _ _ _ => rfl) (fun _ _ _ => rfl) newList_acc h hr hs ?_
  intro acc C s' Φ' σ' m' xx st q
  have st1 : St G (σ' ++ ((env.locals, .ns m) :: ((C, .ns m') :: F))) Φ' s' := st.perm (List.Perm.append_left _ (List.Perm.swap ..))
  refine wpAny_mono (q (.ref acc) A Φ' s' _ hr rfl st1) (fun _ s2 h2 => ?_) noE
  obtain ⟨Φ2, m2, σ2, x2, st2, q2⟩ := h2
  have st3 : St G ((C, .ns m') :: (σ2 ++ ((env.locals, .ns m2) :: F))) Φ2 s2 := st2.perm (by
    refine (List.Perm.append_left _ (List.Perm.swap ..)).trans List.perm_middle)
  obtain ⟨mm, hn, _⟩ := st3.head
  refine ⟨mm, hn, fun h' hsb => wpAny_pure (wpAny_pure ⟨Φ2, .next, m2, σ2, xx.trans x2, rfl, st3.dropHead (s' := { s2 with heap := h' }) hsb.extBut rfl rfl, q2⟩)⟩
end
end Mine
set_option maxRecDepth 100000
set_option autoImplicit false
namespace Mine
open PySem PySem.W PyProof.Rows PySem.Calls PySem.SeqAt Builtin Builtin.ObjectAttr
noncomputable def AV.hand : AV → Bool
  | .raw (.builtin _) => false
  | _ => true
theorem AV.handed {Φ : Frz} {x : AV} {v : Value} (h : x.hand = true) (r : VRep Φ x v) : handedIn v = true := by
  cases x with
  | none => rw [show v = Value.none from r]; rfl
  | bool b => rw [show v = Value.bool b from r]; rfl
  | int i => obtain ⟨t, rfl⟩ := r; rfl
  | str i => obtain ⟨t, rfl⟩ := r; rfl
  | tup l => obtain ⟨a, vs, rfl, _⟩ := r; rfl
  | obj a o => obtain ⟨rfl, _⟩ := r; rfl
  | meth f x => obtain ⟨a, w, rfl, _⟩ := r; rfl
  | clo => obtain ⟨rfl, _⟩ := r; rfl
  | raw w => rw [show v = w from r]; cases w <;> first | rfl | cases h
noncomputable def putA (k : Str) (x : AV) : Loc → Loc
  | [] => [(k, x)]
  | (j, y) :: r => if j == k then (j, x) :: r else (j, y) :: putA k x r
section
variable {Φ : Frz}
theorem AttRep.get {x : Str} {a : AV} : ∀ {m : Loc} {es : List DictEntry}, AttRep Φ m es → m.lookup x = some a → ∃ v, getL x es = some (some v) ∧ VRep Φ a v
  | (k, y) :: r, _, ⟨e, er, rfl, ⟨t, hk⟩, hv, hr⟩, hl => by
    rw [List.lookup_cons] at hl
    have hs : e.key.isStr x = (k == x) := by rw [hk]; rfl
    cases hb : x == k with
    | true =>
      rw [hb] at hl; cases hl
      refine ⟨e.val, ?_, hv⟩
      unfold getL
      rw [List.find?_cons, hs, show (k == x) = true from by rw [beq_iff_eq.mp hb]; exact beq_self_eq_true k]
    | false =>
      rw [hb] at hl
      obtain ⟨v, h1, h2⟩ := AttRep.get hr hl
      refine ⟨v, ?_, h2⟩
      have hkx : (k == x) = false := beq_eq_false_iff_ne.mpr fun q => by rw [q, beq_self_eq_true] at hb; cases hb
      have hrk : e.refKey = false := by unfold DictEntry.refKey; rw [hk]
      unfold getL at h1 ⊢
      rw [List.find?_cons, hs, hkx, List.any_cons, hrk, Bool.false_or]
      exact h1
theorem AttRep.miss {x : Str} : ∀ {m : Loc} {es : List DictEntry}, AttRep Φ m es → m.lookup x = none → getL x es = some none
  | [], es, h, _ => by rw [show es = [] from h]; rfl
  | (k, y) :: r, _, ⟨e, er, rfl, ⟨t, hk⟩, hv, hr⟩, hl => by
    rw [List.lookup_cons] at hl
    have hs : e.key.isStr x = (k == x) := by rw [hk]; rfl
    cases hb : x == k with
    | true => rw [hb] at hl; cases hl
    | false =>
      rw [hb] at hl
      have hkx : (k == x) = false := beq_eq_false_iff_ne.mpr fun q => by rw [q, beq_self_eq_true] at hb; cases hb
      have hrk : e.refKey = false := by unfold DictEntry.refKey; rw [hk]
      have h1 := AttRep.miss hr hl
      unfold getL at h1 ⊢
      rw [List.find?_cons, hs, hkx, List.any_cons, hrk, Bool.false_or]
      exact h1
theorem AttRep.put {x : Str} {a : AV} {v : Value} {t : Tok} {hsh : Int} (ra : VRep Φ a v) : ∀ {m : Loc} {es : List DictEntry}, AttRep Φ m es → AttRep Φ (putA x a m) (putL x hsh (.str x t) v es)
  | [], es, h => by rw [show es = [] from h]; exact ⟨_, _, rfl, ⟨t, rfl⟩, ra, rfl⟩
  | (k, y) :: r, _, ⟨e, er, rfl, ⟨u, hk⟩, hv, hr⟩ => by
    have hs : e.key.isStr x = (k == x) := by rw [hk]; rfl
    unfold putA putL
    rw [hs]
    cases hb : k == x with
    | true => exact ⟨_, _, rfl, ⟨u, hk⟩, ra, hr⟩
    | false => exact ⟨_, _, rfl, ⟨u, hk⟩, hv, AttRep.put ra hr⟩
theorem AttRep.len : ∀ {m : Loc} {es : List DictEntry}, AttRep Φ m es → es.length = m.length
  | [], es, h => by rw [show es = [] from h]; rfl
  | (k, y) :: r, _, ⟨e, er, rfl, _, _, hr⟩ => by simp [AttRep.len hr]
end
noncomputable def GetOk (K : Frag) (C : Addr) (name : Str) : Bool := plainGet K C name && hasDictIn K C && (match findIn K (.ref C) name with | some attr => noGet K attr | none => false)
noncomputable def SetOk (K : Frag) (C : Addr) (name : Str) : Bool := (findIn K (.ref C) "__setattr__" == some (some (.builtin "object.__setattr__"))) && plainOver K C && (takerIn K C name == some none) && hasDictIn K C
section
variable {G : Gd} {n : Nat} {env : Env} {K σ σ' : Sig} {m : Loc}
theorem instAt {F : Sig} {Φ : Frz} {s : Shared} {x C dx : Addr} {am : Loc} (hs : St G (σ ++ F) Φ s) (hx : Φ x = some (instObj C dx)) (hm : (dx, .attrs am) ∈ σ) :
    ∃ es k, s.heap.get? dx = some (dictOf es k) ∧ AttRep Φ am es ∧ InstAt s.heap x (instObj C dx) C (some (dictOf es k)) := by
  obtain ⟨es, k, e, r⟩ := hs.mem (List.mem_append_left _ hm)
  exact ⟨es, k, e, r, ⟨hs.frz _ _ hx, rfl, rfl, e⟩⟩
theorem W1.attr {x C dx : Addr} {name : Str} {am : Loc} {a : AV} {Q : AV → Sig → Prop} (hm : (dx, .attrs am) ∈ σ) (hl : am.lookup name = some a) (hc : GetOk G.K C name = true) (hh : a.hand = true) (h : Q a σ) :
    W1 G n (fun o => getAttr o name true) (.obj x (instObj C dx)) σ Q := fun v A Φ s F hr ⟨e, hx⟩ hs => by
  rw [e]
  obtain ⟨es, k, e1, r, I⟩ := instAt hs hx hm
  obtain ⟨w, hg, rw'⟩ := r.get hl
  unfold GetOk at hc
  cases hf : findIn G.K (.ref C) name with
  | none => rw [hf] at hc; simp at hc
  | some attr =>
    rw [hf] at hc
    simp only [Bool.and_eq_true] at hc
    exact get_value hs.inK I (plainGet_of hc.1.1).1 (findObj_own hc.1.2 hf hc.2 hg) (AV.handed hh rw') ⟨Φ, a, σ, .refl _, rw', hs.toks _, h⟩
theorem W1.bound {x C dx f : Addr} {name : Str} {Q : AV → Sig → Prop} {am : Loc} (hm : (dx, .attrs am) ∈ σ) (hl : am.lookup name = none)
    (hg : plainGet G.K C name = true) (hf : findIn G.K (.ref C) name = some (some (.ref f))) (hft : typeIn G.K (.ref f) = some (.type "function"))
    (hc : findObj G.K C (some (dictOf [] 0)) name = some (.bind (.builtin "function.__get__") (.ref f))) (hcop : copiedNames.contains name = false)
    (h : Q (.meth f (.obj x (instObj C dx))) σ) :
    W1 G n (fun o => getAttr o name true) (.obj x (instObj C dx)) σ Q := fun v A Φ s F hr ⟨e, hx⟩ hs => by
  rw [e]
  obtain ⟨es, k, e1, r, I⟩ := instAt hs hx hm
  have hob : findObj G.K C (some (dictOf es k)) name = some (.bind (.builtin "function.__get__") (.ref f)) := by
    have h1 : lookIn name (dictOf es k) = some none := by rw [lookIn_dict]; exact r.miss hl
    have h2 : lookIn name (dictOf [] 0) = some none := by rw [lookIn_dict]; rfl
    rw [← hc]
    unfold findObj
    congr 1
    funext cd
    congr 1
    funext attr
    rw [show PySem.W.ownOf cd (some (dictOf es k)) name = PySem.W.ownOf cd (some (dictOf [] 0)) name from congrArg (fun z => if cd.hasDict then z else some none) (h1.trans h2.symm)]
  refine get_bind hs.inK I (plainGet_of hg).1 hob (plainGet_of hg).2 ?_
  refine wpAny_call (fn_get (s := { s with toks := s.toks + 1 }) hs.inK hft ?_)
  have h2 := (hs.toks (s.toks + 1)).newFrz (s' := { s with heap := s.heap.push (methodObj (.ref f) (.ref x)), toks := s.toks + 1 }) (a := s.heap.objs.size) (o := methodObj (.ref f) (.ref x))
    (fun b o e => Heap.get?_push_of_some _ e) (Nat.le_refl _) (Heap.get?_push_size _ rfl) rfl rfl
  obtain ⟨x1, ha, st⟩ := h2
  show wpAny _ A (handedOut (.ref s.heap.objs.size)) _ _ _
  rw [handedOut_of rfl]
  exact wpAny_pure ⟨_, .meth f (.obj x (instObj C dx)), σ, x1, ⟨_, .ref x, rfl, ha, ⟨rfl, x1 _ _ hx⟩⟩, st, h⟩
theorem setAttr_run {x C dx : Addr} {name : Str} {am : Loc} {a : AV} {v : Value} {Φ : Frz} {s : Shared} {F : Sig} {A : Around} {R : Unit → Shared → Prop} (hx : Φ x = some (instObj C dx)) (ra : VRep Φ a v)
    (U : Upd dx (.attrs am) (.attrs (putA name a am)) σ σ') (hc : SetOk G.K C name = true) (hz : am.length ≤ 900) (hs : St G (σ ++ F) Φ s)
    (h : ∀ s', St G (σ' ++ F) Φ s' → R () s') : wpAny (model G.prog G.w) A (setAttr (.ref x) name v) R NoE s := by
  obtain ⟨r, p1, p2⟩ := U.two (F := F)
  have hs1 := hs.perm p1
  obtain ⟨es, k, e1, rr⟩ := hs1.head
  have I : InstAt s.heap x (instObj C dx) C (some (dictOf es k)) := ⟨hs.frz _ _ hx, rfl, rfl, e1⟩
  unfold SetOk at hc
  simp only [Bool.and_eq_true, beq_iff_eq] at hc
  obtain ⟨⟨⟨c1, c2⟩, c3⟩, c4⟩ := hc
  refine set_plain hs.inK I c1 (osa_open (s := { s with toks := s.toks + 1 }) hs.inK I c2 c3 fun b => ?_)
  obtain ⟨cd, hcd, hdict⟩ := any_some c4
  have X : G.K.In s.heap := hs.inK
  have hxx : s.heap.get? x = some (instObj C dx) := hs.frz _ _ hx
  refine wpAny_bind (wpAny_pure (wpAny_bind (wpAny_bind (wpAny_loadPart hxx (wpAny_bind (Looks.here (s := { s with toks := s.toks + 1 }) (looks_clsIn (h := s.heap) X hcd) ?_))))))
  rw [hdict]
  refine wpAny_pure (a := some dx) (wpAny_bind (wpAny_pure (wpAny_bind ?_)))
  unfold nsSet
  refine wpAny_bind (wpAny_bind (wpAny_askSetting (wpAny_pure (wpAny_bind (wpAny_mkText (wpAny_bind (wpAny_loadPart e1 ?_)))))))
  have hk : ∀ y ∈ es, y.refKey = false := by
    clear e1 I hz
    induction am generalizing es with
    | nil => rw [show es = [] from rr]; intro y hy; cases hy
    | cons p q ih =>
      obtain ⟨e, er, rfl, ⟨t, hk⟩, _, hr⟩ := rr
      intro y hy
      rcases List.mem_cons.mp hy with rfl | hy
      · unfold DictEntry.refKey; rw [hk]
      · exact AttRep.noRef hr y hy
  have cc : (!es.toArray.any (·.key.isStr name) && es.toArray.any (·.refKey)) = false := by
    have : es.toArray.any (·.refKey) = false := by
      rw [List.any_toArray, List.any_eq_false]; intro y hy; rw [hk y hy]; exact Bool.false_ne_true
    rw [this, Bool.and_false]
  dsimp only
  rw [aRefKeyMayBeTheName_at, cc]
  have hput := putName_dict name (PyData.keyHash G.w.params name) (.str name (s.toks + 1)) v es k
  refine wpAny_updatePart e1 ?_
  have hnew : (s.heap.update dx (Obj.putName name (PyData.keyHash G.w.params name) (.str name (s.toks + 1)) v)).get? dx = some (dictOf (putL name (PyData.keyHash G.w.params name) (.str name (s.toks + 1)) v es) (putN name es k)) := by
    rw [← hput]; exact Heap.get?_update_self _ e1 (by rw [hput]; rfl)
  have rep := rr.put (x := name) (t := s.toks + 1) (hsh := PyData.keyHash G.w.params name) ra
  refine wpAny_bind (wpAny_lookBehind hnew (pastItsLine_dict (by rw [List.size_toArray, rep.len, sizeLine_eq]; have := putA_len name a am; omega)) ?_)
  refine wpAny_pure (h _ ((hs1.updHead (s' := { s with heap := s.heap.update dx (Obj.putName name (PyData.keyHash G.w.params name) (.str name (s.toks + 1)) v), toks := s.toks + 1 + 1 }) (ao' := .attrs (putA name a am)) ?_ ⟨_, _, hnew, rep⟩ rfl rfl).perm p2.symm))
  exact (Heap.SameBut.update ..).extBut
where
  AttRep.noRef : ∀ {m : Loc} {es : List DictEntry} {Φ : Frz}, AttRep Φ m es → ∀ y ∈ es, y.refKey = false
    | [], es, _, h => by rw [show es = [] from h]; intro y hy; cases hy
    | _ :: _, _, _, ⟨e, er, e0, ⟨t, hk⟩, _, hr⟩ => by
      rw [e0]
      intro y hy
      rcases List.mem_cons.mp hy with rfl | hy
      · unfold DictEntry.refKey; rw [hk]
      · exact AttRep.noRef hr y hy
  putA_len (k : Str) (x : AV) : ∀ m : Loc, (putA k x m).length ≤ m.length + 1
    | [] => Nat.le_refl _
    | (j, y) :: r => by
      unfold putA
      split
      · exact Nat.le_succ _
      · exact Nat.succ_le_succ (putA_len k x r)
end
end Mine
set_option maxRecDepth 100000
set_option autoImplicit false
namespace Mine
open PySem PySem.W PyProof.Rows PySem.Calls PySem.SeqAt
noncomputable def allBut (h : Heap) (L : Addr) : List (Addr × Obj) := (List.range h.objs.size).filterMap fun a => if a = L then none else (h.get? a).map fun o => (a, o)
theorem mem_allBut {h : Heap} {L a : Addr} {o : Obj} : (a, o) ∈ allBut h L ↔ a ≠ L ∧ h.get? a = some o := by
  unfold allBut
  rw [List.mem_filterMap]
  constructor
  · rintro ⟨b, hb, e⟩
    split at e
    · cases e
    · rename_i hne
      rw [Option.map_eq_some_iff] at e
      obtain ⟨o', e1, e2⟩ := e
      cases e2
      exact ⟨hne, e1⟩
  · rintro ⟨h1, h2⟩
    refine ⟨a, List.mem_range.mpr (Heap.lt_size h2), ?_⟩
    rw [if_neg h1, h2]; rfl
noncomputable def noHeap : Heap := {}
theorem noHeap_get (a : Addr) : noHeap.get? a = none := by
  cases e : noHeap.get? a with
  | none => rfl
  | some o => exact absurd (Heap.lt_size e) (Nat.not_lt_zero _)
section
variable {G : Gd} {n : Nat} {σ : Sig} {Φ : Frz} {s : Shared}
theorem St.ledger {L : Addr} {m : Loc} {F : Sig} (h : St G F Φ s) (hm : (L, .ns m) ∈ F) : ∃ mm, Fr noHeap L s.heap mm ∧ News noHeap L s.heap (allBut s.heap L) := by
  obtain ⟨mm, hn, _⟩ := h.mem hm
  exact ⟨mm, ⟨hn, fun b o e => absurd (e.symm.trans (noHeap_get b)) (fun q => nomatch q), Nat.zero_le _⟩, fun p hp => ⟨(mem_allBut.mp hp).2, (mem_allBut.mp hp).1, noHeap_get _⟩⟩
theorem St.back {L : Addr} {m : Loc} {F : Sig} (h : St G F Φ s) (hm : (L, .ns m) ∈ F) {mm : Str → Option Value} (hmm : s.heap.Ns L mm) {h' : Heap} {tk : Nat}
    (F' : h'.Ns L mm) (N' : ∀ b o, b ≠ L → s.heap.get? b = some o → h'.get? b = some o) : St G F Φ { s with heap := h', toks := tk } := by
  obtain ⟨pre, post, rfl⟩ := List.append_of_mem hm
  have p : (pre ++ (L, AObj.ns m) :: post).Perm ((L, .ns m) :: (pre ++ post)) := List.perm_middle
  have h1 := h.perm p
  obtain ⟨m1, n1, v1⟩ := h1.head
  have e : m1 = mm := by
    obtain ⟨o, es, ep, a1, a2, a3, a4⟩ := n1
    obtain ⟨o', es', ep', b1, b2, b3, b4⟩ := hmm
    rw [a1] at b1; cases b1
    rw [a2] at b2; cases b2
    funext x; rw [← a4, ← b4]
  subst e
  exact (h1.updHead (s' := { s with heap := h', toks := tk }) (ao' := .ns m) (fun b o hb e => N' b o hb e) ⟨m1, F', v1⟩ rfl rfl).perm p.symm
end
end Mine
set_option maxRecDepth 100000
set_option autoImplicit false
namespace Mine
open PySem PySem.W PyProof.Rows PySem.Calls PySem.SeqAt
section
variable {G : Gd} {n : Nat} {env : Env} {K σ σ' : Sig} {m : Loc}
theorem St.notMods {F : Sig} {Φ : Frz} {s : Shared} {d : Addr} {ao : AObj} (hs : St G (σ ++ F) Φ s) (hm : (d, ao) ∈ σ) : (d == sysModules) = false := by
  have h1 := hs.big _ (List.mem_append_left F hm)
  refine beq_eq_false_iff_ne.mpr fun e => ?_
  rw [e] at h1
  exact absurd (show mainGlobals < sysModules from h1) (by decide)
theorem WK.builtin (id : String) : WK G (.raw (.builtin id)) := fun M A E Φ s σ fv r hs => by
  rw [show fv = .builtin id from r]; exact ⟨.machine, fun R h => wpAny_pure h⟩
theorem WK.type (T : String) : WK G (.raw (.type T)) := fun M A E Φ s σ fv r hs => by
  rw [show fv = .type T from r]; exact ⟨.machine, fun R h => wpAny_pure h⟩
theorem WK.keep {a : Addr} (h : keepIn G.K (.ref a) = true) : WK G (.raw (.ref a)) := fun M A E Φ s σ fv r hs => by
  rw [show fv = .ref a from r]
  obtain ⟨k, _, L⟩ := looks_keep (M := M) h hs.inK
  exact ⟨k, fun R hR => L.here hR⟩
theorem WK.meth {f : Addr} {x : AV} (h : fnIn G.K f = true) : WK G (.meth f x) := fun M A E Φ s σ fv r hs => by
  obtain ⟨p, w, rfl, e, _⟩ := r
  obtain ⟨k, _, L⟩ := keeps_M (M := M) (q := p) (f := f) (self := w) h s.heap ⟨hs.frz _ _ e, hs.inK⟩
  exact ⟨k, fun R hR => L.here hR⟩
theorem WM.inst {x C dx f : Addr} {name : Str} {am : Loc} {Q : AV → List AV → Sig → Prop} (hm : (dx, .attrs am) ∈ σ) (hl : am.lookup name = none) (hg : plainGet G.K C name = true)
    (hf : findIn G.K (.ref C) name = some (some (.ref f))) (ht : typeIn G.K (.ref f) = some (.type "function")) (h : Q (.raw (.ref f)) [.obj x (instObj C dx)] σ) : WM G n name (.obj x (instObj C dx)) σ Q :=
  fun v pl A Φ s F hr ⟨e, hx⟩ hs _ => by
    rw [e]
    obtain ⟨es, k, e1, r, I⟩ := instAt hs hx hm
    refine method_fn hs.inK I (plainGet_of hg).1 (plainGet_of hg).2 hf ht ?_ ⟨Φ, .raw (.ref f), [.obj x (instObj C dx)], σ, .refl _, rfl, ⟨_, _, rfl, ⟨rfl, hx⟩, rfl⟩, hs, h⟩
    show (lookIn name (dictOf es k)).map (·.isSome) = some false
    rw [lookIn_dict, r.miss hl]; rfl
theorem WM.list {a : Addr} {l : List AV} {name : Str} {id : String} {Q : AV → List AV → Sig → Prop} (hm : (a, .list l) ∈ σ) (slot : Slot "list" name id) (hty : typeOf (.builtin id) = pure (.type "method_descriptor"))
    (h : Q (.raw (.builtin id)) [.raw (.ref a)] σ) : WM G n name (.raw (.ref a)) σ Q := fun v pl A Φ s F hr e hs _ => by
  rw [show v = .ref a from e]
  obtain ⟨items, ⟨k, e1⟩, r⟩ := hs.mem (List.mem_append_left _ hm)
  exact getMethod_builtin (T := "list") ⟨_, e1, rfl⟩ PySem.F.plainAttrs_list slot hty (fun b q => by cases q; exact ⟨_, e1, rfl⟩) ⟨Φ, .raw (.builtin id), [.raw (.ref a)], σ, .refl _, rfl, ⟨_, _, rfl, rfl, rfl⟩, hs, h⟩
theorem WM.dict {a : Addr} {es : List (AK × AV)} {name : Str} {id : String} {Q : AV → List AV → Sig → Prop} (hm : (a, .dict es) ∈ σ) (slot : Slot "dict" name id) (hty : typeOf (.builtin id) = pure (.type "method_descriptor"))
    (h : Q (.raw (.builtin id)) [.raw (.ref a)] σ) : WM G n name (.raw (.ref a)) σ Q := fun v pl A Φ s F hr e hs _ => by
  rw [show v = .ref a from e]
  obtain ⟨kvs, hd, r⟩ := hs.mem (List.mem_append_left _ hm)
  exact getMethod_builtin hd.typeIs PySem.F.plainAttrs_dict slot hty hd.mapOf.noDict ⟨Φ, .raw (.builtin id), [.raw (.ref a)], σ, .refl _, rfl, ⟨_, _, rfl, rfl, rfl⟩, hs, h⟩
theorem WC.append {a : Addr} {l : List AV} {x : AV} {Q : AV → Sig → Prop} (U : Upd a (.list l) (.list (l ++ [x])) σ σ') (hl : l.length ≤ sizeLine) (h : Q .none σ') :
    WC G n (.raw (.builtin "list.append")) [.raw (.ref a), x] σ Q := fun fv vs A Φ s F hr hK r1 r2 hs => by
  rw [show fv = .builtin "list.append" from r1]
  obtain ⟨v1, vr, rfl, e1, v2, vr2, rfl, rx, e2⟩ := r2
  rw [show v1 = .ref a from e1, show vr2 = [] from e2]
  obtain ⟨r, p1, p2⟩ := U.two (F := F)
  have hs1 := hs.perm p1
  obtain ⟨items, hL, rl⟩ := hs1.head
  have hlen := rl.length
  refine wpAny_list_append_plain hL (fun h' hl' hsb => ⟨Φ, .none, σ', .refl _, rfl, ?_, h⟩) (by rw [← Array.length_toList, hlen]; exact hl)
  refine (hs1.updHead (s' := { s with heap := h' }) (ao' := .list (l ++ [x])) hsb.extBut ⟨_, hl', ?_⟩ rfl rfl).perm p2.symm
  rw [Array.toList_push]; exact rl.snoc rx
theorem WC.extend {a b : Addr} {l l2 : List AV} {Q : AV → Sig → Prop} (U : Upd a (.list l) (.list (l ++ l2)) σ σ') (hb : (b, .list l2) ∈ σ) (hne : a ≠ b) (hl : l.length + l2.length ≤ sizeLine) (h : Q .none σ') :
    WC G n (.raw (.builtin "list.extend")) [.raw (.ref a), .raw (.ref b)] σ Q := fun fv vs A Φ s F hr hK r1 r2 hs => by
  rw [show fv = .builtin "list.extend" from r1]
  obtain ⟨v1, vr, rfl, e1, v2, vr2, rfl, rx, e2⟩ := r2
  rw [show v1 = .ref a from e1, show vr2 = [] from e2, show v2 = .ref b from rx]
  obtain ⟨r, p1, p2⟩ := U.two (F := F)
  have hs1 := hs.perm p1
  obtain ⟨items, ⟨k, hA⟩, rl⟩ := hs1.head
  obtain ⟨items2, ⟨k2, hB⟩, rl2⟩ := hs.mem (List.mem_append_left F hb)
  obtain ⟨L, mL, hm⟩ := hK
  have hmF : (L, AObj.ns mL) ∈ σ ++ F := List.mem_append_right _ hm
  obtain ⟨mm, F', N'⟩ := hs.ledger hmF
  have haL : a ≠ L := by
    rintro rfl
    obtain ⟨o, es, ep, e, e2, _⟩ := F'.ns
    rw [hA] at e; cases e; cases e2
  have hcons : News noHeap L s.heap ([] ++ (a, { cls := .type "list", data := .seq items.toList.toArray k }) :: (allBut s.heap L).filter (fun p => p.1 != a)) := by
    intro p hp
    rw [List.nil_append] at hp
    rcases List.mem_cons.mp hp with rfl | hp
    · exact ⟨by simpa using hA, haL, noHeap_get _⟩
    · exact N' p (List.mem_filter.mp hp).1
  refine extend_in F' hcons (fun p hp => nomatch hp) (fun p hp => by simpa using (List.mem_filter.mp hp).2) hB (fun h' k' F2 N2 => ⟨Φ, .none, σ', .refl _, rfl, ?_, h⟩) (by
    rw [rl.length, ← Array.length_toList, rl2.length]; exact hl)
  have keep : ∀ c o, c ≠ L → c ≠ a → s.heap.get? c = some o → h'.get? c = some o := fun c o hcL hca e =>
    (N2 (c, o) (List.mem_append_right _ (.tail _ (List.mem_filter.mpr ⟨mem_allBut.mpr ⟨hcL, e⟩, by simpa using hca⟩)))).1
  have hA' := (N2 _ (List.mem_append_right _ (.head _))).1
  have hmr : (L, AObj.ns mL) ∈ r := by
    have := p1.mem_iff.mp hmF
    rcases List.mem_cons.mp this with q | q
    · cases q
    · exact q
  -- the list first, then the frame's names
  obtain ⟨pre, post, rfl⟩ := List.append_of_mem hmr
  have pp : ∀ ao : AObj, ((a, ao) :: (pre ++ (L, AObj.ns mL) :: post)).Perm ((a, ao) :: (L, .ns mL) :: (pre ++ post)) := fun ao => (List.perm_middle).cons _
  have hs2 := hs1.perm (pp _)
  refine St.perm ?_ ((pp _).symm.trans p2.symm)
  refine ⟨hs2.base, fun c o e => ?_, fun p hp => ?_, hs2.nd, fun p hp => (List.mem_cons.mp hp).elim (fun e => e ▸ hs2.big (a, .list l) (.head _)) fun q => hs2.big p (.tail _ q), hs2.gens, hs2.os⟩
  · refine keep c o (fun q => ?_) (fun q => ?_) (hs2.frz c o e)
    · have := (hs2.own (L, .ns mL) (.tail _ (.head _))).2; rw [q] at e; rw [this] at e; cases e
    · have := (hs2.own (a, .list l) (.head _)).2; rw [q] at e; rw [this] at e; cases e
  · have nd := hs2.nd
    simp only [List.map_cons, List.nodup_cons] at nd
    rcases List.mem_cons.mp hp with rfl | hp
    · refine ⟨⟨_, ⟨k', hA'⟩, ?_⟩, (hs2.own (a, .list l) (.head _)).2⟩
      simpa using rl.append rl2
    · rcases List.mem_cons.mp hp with rfl | hp
      · have ow := hs2.own (L, .ns mL) (.tail _ (.head _))
        obtain ⟨mm', hn', hv'⟩ := ow.1
        refine ⟨⟨mm', ?_, hv'⟩, ow.2⟩
        have e : mm' = mm := by
          obtain ⟨o, es, ep, a1, a2, a3, a4⟩ := hn'
          obtain ⟨o', es', ep', b1, b2, b3, b4⟩ := F'.ns
          rw [a1] at b1; cases b1
          rw [a2] at b2; cases b2
          funext x; rw [← a4, ← b4]
        rw [e]; exact F2.ns
      · have ow := hs2.own p (.tail _ (.tail _ hp))
        refine ⟨ow.1.move G (.refl _) fun o e => keep p.1 o (fun q => ?_) (fun q => ?_) e, ow.2⟩
        · exact nd.2.1 (List.mem_map.mpr ⟨p, hp, q⟩)
        · exact nd.1 (List.mem_cons_of_mem _ (List.mem_map.mpr ⟨p, hp, q⟩))
theorem WCd.meth {f : Addr} {x : AV} {args : List AV} {Q : AV → Sig → Prop} (h : WCd G n (.raw (.ref f)) (x :: args) σ Q) : WCd G n (.meth f x) args σ Q := fun fv vs A Φ s F hr r1 r2 hs => by
  obtain ⟨p, w, rfl, e, rw'⟩ := r1
  exact method_call (hs.frz _ _ e) (h _ _ A Φ s F hr rfl ⟨w, vs, rfl, rw', r2⟩ hs)
theorem WCd.make {C fI : Addr} {args : List AV} {Q : AV → Sig → Prop} (hm : makesIn G.K C = true) (hi : findIn G.K (.ref C) "__init__" = some (some (.ref fI))) (hf : typeIn G.K (.ref fI) = some (.type "function"))
    (h : ∀ x dx, WCd G n (.raw (.ref fI)) (.obj x (instObj C dx) :: args) ((dx, .attrs []) :: σ) fun r σ' => r = .none ∧ Q (.obj x (instObj C dx)) σ') : WCd G (n + 1) (.raw (.ref C)) args σ Q := fun fv vs A Φ s F hr r1 r2 hs => by
  rw [show fv = .ref C from r1]
  obtain ⟨hh, g, d, t, os⟩ := s
  have hs' := hs
  refine make_core (makes_of hs.inK hm) (looks_findIn hs.inK hi) (fun self => bind_fn hs.inK self hf) (.inl rfl) ?_
  have h1 := hs.newOwn (s' := ⟨hh.push emptyDict, g, d, t, os⟩) (ao := .attrs []) (fun b o e => Heap.get?_push_of_some _ e) ⟨[], 0, Heap.get?_push_size _ rfl, rfl⟩ rfl rfl
  have h2 := h1.newFrz (s' := ⟨(hh.push emptyDict).push (instObj C hh.objs.size), g, d, t, os⟩) (a := (hh.push emptyDict).objs.size) (o := instObj C hh.objs.size) (fun b o e => Heap.get?_push_of_some _ e) (Nat.le_refl _)
    (Heap.get?_push_size _ rfl) rfl rfl
  obtain ⟨x1, ha, st⟩ := h2
  have hsz : (hh.push emptyDict).objs.size = hh.objs.size + 1 := Heap.size_push ..
  rw [hsz] at ha x1 st
  have hr' : Rm (A.under (.builtin "type.__call__" ⟨.ref C :: vs, []⟩)) n := by
    refine ⟨?_, ?_, hr.h⟩
    · have : (A.under (.builtin "type.__call__" ⟨.ref C :: vs, []⟩)).depth = A.depth + 1 := rfl
      have := hr.d; omega
    · have e : (A.under (.builtin "type.__call__" ⟨.ref C :: vs, []⟩)).units = A.units + 1 := rfl
      have := hr.u; omega
  refine codeAny_mono (h (hh.objs.size + 1) hh.objs.size _ _ _ _ _ F hr' rfl ⟨.ref (hh.objs.size + 1), vs, rfl, ⟨rfl, ha⟩, r2.ext x1⟩ st) fun r s3 hq => ?_
  obtain ⟨v, rfl, Φ3, b, σ3, x3, r3, st3, rfl, q3⟩ := hq
  refine ⟨r3, ⟨_, rfl, Φ3, .obj (hh.objs.size + 1) (instObj C hh.objs.size), σ3, x1.trans x3, ⟨rfl, x3 _ _ ha⟩, st3, q3⟩⟩
end
end Mine
set_option maxRecDepth 100000
set_option autoImplicit false
namespace Mine
open PySem PySem.W PyProof.Rows PySem.Calls PySem.SeqAt
section
variable {G : Gd} {n : Nat} {env : Env} {K σ σ' : Sig} {m : Loc} {Q : AV → Sig → Prop}
theorem WC.len_list {a : Addr} {l : List AV} (hm : (a, .list l) ∈ σ) (hl : (l.length : Int) < 2 ^ 63) (h : Q (.int l.length) σ) : WC G n (.raw (.builtin "len")) [.raw (.ref a)] σ Q := fun fv vs A Φ s F hr hK r1 r2 hs => by
  rw [show fv = .builtin "len" from r1]
  obtain ⟨v1, vr, rfl, e1, e2⟩ := r2
  rw [show v1 = .ref a from e1, show vr = [] from e2]
  obtain ⟨items, hL, rl⟩ := hs.mem (List.mem_append_left _ hm)
  have hlen : items.size = l.length := by rw [← Array.length_toList, rl.length]
  exact Calls.call_len_list hL.isList (by rw [hlen]; exact hl) ⟨Φ, .int l.length, σ, .refl _, ⟨_, by rw [hlen]⟩, hs.toks _, h⟩
theorem typeOf_int_type : typeOf (.type "int") = pure (.type "type") := by kernel_rfl
theorem WC.isint {a : AV} (ha : match a with | .none => True | .int _ => True | .str _ => True | _ => False) (h : Q (.bool (match a with | .int _ => true | _ => false)) σ) :
    WC G n (.raw (.builtin "isinstance")) [a, .raw (.type "int")] σ Q := fun fv vs A Φ s F hr hK r1 r2 hs => by
  rw [show fv = .builtin "isinstance" from r1]
  obtain ⟨v1, vr, rfl, e1, v2, vr2, rfl, e3, e2⟩ := r2
  rw [show vr2 = [] from e2, show v2 = .type "int" from e3]
  cases a with
  | none =>
    rw [show v1 = Value.none from e1]
    exact call_isinstance (isinstance_false_none (by decide) typeOf_int_type (by rw [isSubtype_type]; kernel_rfl)) ⟨Φ, .bool false, σ, .refl _, rfl, hs.toks _, h⟩
  | int i =>
    obtain ⟨t, rfl⟩ := e1
    exact call_isinstance (isinstance_true (Tx := "int") typeOf_int_type (by rw [isSubtype_type]; kernel_rfl)) ⟨rfl, Φ, .bool true, σ, .refl _, rfl, hs, h⟩
  | str x =>
    obtain ⟨t, rfl⟩ := e1
    exact call_isinstance (isinstance_false_str (by decide) typeOf_int_type (by rw [isSubtype_type]; kernel_rfl)) ⟨Φ, .bool false, σ, .refl _, rfl, hs.toks _, h⟩
  | bool b => exact ha.elim
  | tup l => exact ha.elim
  | obj a o => exact ha.elim
  | raw v => exact ha.elim
  | meth f x => exact ha.elim
  | clo => exact ha.elim
theorem WC.int_int {i : Int} (h : Q (.int i) σ) : WC G n (.raw (.type "int")) [.int i] σ Q := fun fv vs A Φ s F hr hK r1 r2 hs => by
  rw [show fv = .type "int" from r1]
  obtain ⟨v1, vr, rfl, ⟨t, rfl⟩, e2⟩ := r2
  rw [show vr = [] from e2]
  exact call_int_int ⟨Φ, .int i, σ, .refl _, ⟨_, rfl⟩, hs, h⟩
theorem WC.int_bool {b : Bool} (h : Q (.int (if b then 1 else 0)) σ) : WC G n (.raw (.type "int")) [.bool b] σ Q := fun fv vs A Φ s F hr hK r1 r2 hs => by
  rw [show fv = .type "int" from r1]
  obtain ⟨v1, vr, rfl, e1, e2⟩ := r2
  rw [show vr = [] from e2, show v1 = .bool b from e1]
  exact call_int_bool ⟨Φ, .int _, σ, .refl _, ⟨_, rfl⟩, hs.toks _, h⟩
theorem WC.str_int {i : Int} (hi : i.natAbs.log2 < 1920) (h : Q (.str (Str.ofString (toString i))) σ) : WC G n (.raw (.type "str")) [.int i] σ Q := fun fv vs A Φ s F hr hK r1 r2 hs => by
  rw [show fv = .type "str" from r1]
  obtain ⟨v1, vr, rfl, ⟨t, rfl⟩, e2⟩ := r2
  rw [show vr = [] from e2]
  exact PySem.P.str_of_int hi ⟨Φ, .str _, σ, .refl _, ⟨_, rfl⟩, hs.toks _, h⟩
theorem WC.max2 {i j : Int} (h : Q (.int (if j > i then j else i)) σ) : WC G n (.raw (.builtin "max")) [.int i, .int j] σ Q := fun fv vs A Φ s F hr hK r1 r2 hs => by
  rw [show fv = .builtin "max" from r1]
  obtain ⟨v1, vr, rfl, ⟨t, rfl⟩, v2, vr2, rfl, ⟨u, rfl⟩, e2⟩ := r2
  rw [show vr2 = [] from e2]
  refine max_two_ints hr.h fun h' tk hk => ?_
  have st : St G (σ ++ F) Φ { s with heap := h', toks := tk } := hs.keeps hk rfl rfl
  by_cases c : j > i
  · rw [if_pos c] at h ⊢; exact ⟨Φ, .int j, σ, .refl _, ⟨_, rfl⟩, st, h⟩
  · rw [if_neg c] at h ⊢; exact ⟨Φ, .int i, σ, .refl _, ⟨_, rfl⟩, st, h⟩
theorem VReps.ints {Φ : Frz} : ∀ {ns : List Int} {vs : List Value}, VReps Φ (ns.map .int) vs → IntsAre vs ns
  | [], _, r => by rw [show _ = [] from r]; exact .nil
  | i :: ns, _, ⟨v, vr, e, ⟨t, e1⟩, r⟩ => by rw [e, e1]; exact .cons _ _ (VReps.ints r)
theorem VReps.of_ints {Φ : Frz} : ∀ {ns : List Int} {vs : List Value}, IntsAre vs ns → VReps Φ (ns.map .int) vs
  | _, _, .nil => rfl
  | _, _, .cons _ _ h => ⟨_, _, rfl, ⟨_, rfl⟩, VReps.of_ints h⟩
theorem WC.max_list {a : Addr} {ns : List Int} (hm : (a, .list (ns.map .int)) ∈ σ) (hne : 0 < ns.length) (h : ∀ M, M ∈ ns → (∀ x ∈ ns, x ≤ M) → Q (.int M) σ) : WC G n (.raw (.builtin "max")) [.raw (.ref a)] σ Q :=
  fun fv vs A Φ s F hr hK r1 r2 hs => by
  rw [show fv = .builtin "max" from r1]
  obtain ⟨v1, vr, rfl, e1, e2⟩ := r2
  rw [show v1 = .ref a from e1, show vr = [] from e2]
  obtain ⟨items, hL, rl⟩ := hs.mem (List.mem_append_left _ hm)
  obtain ⟨L, mL, hmL⟩ := hK
  have hmF : (L, AObj.ns mL) ∈ σ ++ F := List.mem_append_right _ hmL
  obtain ⟨mm, F', N'⟩ := hs.ledger hmF
  refine max_list_N hr.h F' N' (vs := items.toList) (by rw [Array.toArray_toList]; exact hL.isList) rl.ints hne fun h' M t tk F2 N2 h1 h2 => ?_
  exact ⟨Φ, .int M, σ, .refl _, ⟨_, rfl⟩, hs.back hmF F'.ns F2.ns fun b o hb e => (N2 (b, o) (mem_allBut.mpr ⟨hb, e⟩)).1, h M h1 h2⟩
noncomputable def IsRangeO (o : Obj) (a b : Int) : Prop := ∃ t u v, o = rangeO a b t u v
theorem WC.range1 {i : Int} (h : ∀ a o, IsRangeO o 0 i → Q (.obj a o) σ) : WC G n (.raw (.type "range")) [.int i] σ Q := fun fv vs A Φ s F hr hK r1 r2 hs => by
  rw [show fv = .type "range" from r1]
  obtain ⟨v1, vr, rfl, ⟨t, rfl⟩, e2⟩ := r2
  rw [show vr = [] from e2]
  refine call_range_1 ?_
  obtain ⟨x1, ha, st⟩ := hs.newFrz (s' := { s with heap := s.heap.push (rangeO 0 i s.toks t (s.toks + 1)), toks := s.toks + 1 + 1 }) (a := s.heap.objs.size) (o := rangeO 0 i s.toks t (s.toks + 1)) (fun b o e => Heap.get?_push_of_some _ e) (Nat.le_refl _)
    (Heap.get?_push_size _ rfl) rfl rfl
  exact ⟨_, .obj s.heap.objs.size (rangeO 0 i s.toks t (s.toks + 1)), σ, x1, ⟨rfl, ha⟩, st, h _ _ ⟨_, _, _, rfl⟩⟩
theorem W1.iter_range {a : Addr} {o : Obj} {i j : Int} (ho : IsRangeO o i j) (hs : Builtin.Range.small i j 1 = true) (h : ∀ it, Q (.raw (.ref it)) ((it, .rangeIter i (Builtin.Range.rangeSize i j 1) 1) :: σ)) : W1 G n pyIter (.obj a o) σ Q :=
  fun v A Φ s F hr ⟨e, ha⟩ hst => by
  obtain ⟨t, u, w, rfl⟩ := ho
  rw [e]
  refine wpAny_pyIter_range (hst.frz _ _ ha) hs ⟨Φ, .raw (.ref s.heap.objs.size), _, .refl _, rfl, ?_, h _⟩
  exact hst.newOwn (fun b o e => Heap.get?_push_of_some _ e) (Heap.get?_push_size _ rfl) rfl rfl
theorem WC.list_list {b : Addr} {l : List AV} (hm : (b, .list l) ∈ σ) (hl : l.length ≤ sizeLine) (h : ∀ a, Q (.raw (.ref a)) ((a, .list l) :: σ)) : WC G n (.raw (.type "list")) [.raw (.ref b)] σ Q := fun fv vs A Φ s F hr hK r1 r2 hs => by
  rw [show fv = .type "list" from r1]
  obtain ⟨v1, vr, rfl, e1, e2⟩ := r2
  rw [show v1 = .ref b from e1, show vr = [] from e2]
  obtain ⟨items, ⟨k, hL⟩, rl⟩ := hs.mem (List.mem_append_left _ hm)
  refine call_list_seq b (.inl rfl) hL rfl rfl (fun h' c' hk hn => ⟨Φ, .raw (.ref s.heap.objs.size), _, .refl _, rfl, ?_, h _⟩) (by rw [← Array.length_toList, rl.length]; exact hl)
  exact hs.newOwn (s' := { s with heap := h' }) hk ⟨items, ⟨c', hn⟩, rl⟩ rfl rfl
theorem WC.list_tup {l : List AV} (hl : l.length ≤ sizeLine) (h : ∀ a, Q (.raw (.ref a)) ((a, .list l) :: σ)) : WC G n (.raw (.type "list")) [.tup l] σ Q := fun fv vs A Φ s F hr hK r1 r2 hs => by
  rw [show fv = .type "list" from r1]
  obtain ⟨v1, vr, rfl, e1, e2⟩ := r2
  rw [show vr = [] from e2]
  obtain ⟨b, ws, rfl, e3, e4⟩ := e1
  refine call_list_seq b (.inr rfl) (hs.frz _ _ e3) rfl rfl (fun h' c' hk hn => ⟨Φ, .raw (.ref s.heap.objs.size), _, .refl _, rfl, ?_, h _⟩) (by rw [List.size_toArray, e4.length]; exact hl)
  exact hs.newOwn (s' := { s with heap := h' }) hk ⟨ws.toArray, ⟨c', hn⟩, e4⟩ rfl rfl
theorem WC.enum_list {b : Addr} {l : List AV} (hm : (b, .list l) ∈ σ) (h : ∀ e it, Q (.raw (.ref e)) ((e, .enumIter it 0) :: (it, .listIter b 0) :: σ)) : WC G n (.raw (.type "enumerate")) [.raw (.ref b)] σ Q := fun fv vs A Φ s F hr hK r1 r2 hs => by
  rw [show fv = .type "enumerate" from r1]
  obtain ⟨v1, vr, rfl, e1, e2⟩ := r2
  rw [show v1 = .ref b from e1, show vr = [] from e2]
  obtain ⟨items, hL, rl⟩ := hs.mem (List.mem_append_left _ hm)
  refine call_enumerate_list hL.isList fun h' he hit hz hk => ⟨Φ, .raw (.ref (s.heap.objs.size + 1)), _, .refl _, rfl, ?_, h (s.heap.objs.size + 1) s.heap.objs.size⟩
  refine hs.newOwns (s' := { s with heap := h' }) (news := [(s.heap.objs.size + 1, .enumIter s.heap.objs.size 0), (s.heap.objs.size, .listIter b 0)]) hk (fun p hp => ?_) ?_ rfl rfl
  · rcases List.mem_cons.mp hp with rfl | hp
    · exact ⟨Nat.le_succ _, ⟨_, he⟩⟩
    · rw [List.mem_singleton] at hp
      subst hp
      exact ⟨Nat.le_refl _, hit⟩
  · simp
theorem W1.iter_enum {e it : Addr} {i : Nat} (hm : (e, .enumIter it i) ∈ σ) (h : Q (.raw (.ref e)) σ) : W1 G n pyIter (.raw (.ref e)) σ Q := fun v A Φ s F hr q hs => by
  rw [show v = .ref e from q]
  obtain ⟨old, hit⟩ := hs.mem (List.mem_append_left _ hm)
  exact wpAny_pyIter_enum hit ⟨Φ, .raw (.ref e), σ, .refl _, rfl, hs, h⟩
end
end Mine
set_option maxRecDepth 100000
set_option autoImplicit false
namespace Mine
open PySem PySem.W PyProof.Rows PySem.Calls PySem.SeqAt
section
variable {G : Gd} {n : Nat} {env : Env} {K σ σ' : Sig} {m : Loc}
noncomputable def WAs (G : Gd) (n : Nat) (env : Env) : List Expr → List AV → Loc → Sig → (Loc → Sig → Prop) → Prop
  | [], [], m, σ, Q => Q m σ
  | t :: ts, x :: xs, m, σ, Q => WA G n env m σ t x fun m' σ' => WAs G n env ts xs m' σ' Q
  | _, _, _, _, _ => False
theorem assignEach_plain : ∀ {es : List Expr}, (es.all fun e => !isSt e) = true → assignEach es env = es.map fun t => (false, PySem.assign t env)
  | [], _ => rfl
  | t :: r, h => by
    simp only [List.all_cons, Bool.and_eq_true] at h
    have := assignEach_plain (es := r) h.2
    cases t <;> first
      | (show (false, _) :: assignEach r env = _; rw [this]; rfl)
      | (exact absurd h.1 (by simp [isSt]))
theorem WAs.run {Q : Loc → Sig → Prop} : ∀ {ts : List Expr} {xs : List AV} {vs : List Value} {m : Loc} {σ : Sig}, WAs G n env ts xs m σ Q → ∀ {A : Around} {Φ : Frz} {s : Shared} {F : Sig}, Rm A n → VReps Φ xs vs → St G (σ ++ ((env.locals, .ns m) :: F)) Φ s →
    wpAny (model G.prog G.w) A (assignInOrder (ts.map fun t => PySem.assign t env) vs) (fun _ s' => PA G env.locals F Φ Q s') NoE s
  | [], [], _, m, σ, h, A, Φ, s, F, hr, r, hs => by
    rw [show _ = [] from r]
    exact wpAny_pure ⟨Φ, m, σ, .refl _, hs, h⟩
  | t :: ts, x :: xs, _, m, σ, h, A, Φ, s, F, hr, ⟨v, vr, e, r1, r2⟩, hs => by
    rw [e]
    show wpAny _ _ (holding vr (PySem.assign t env v) >>= fun _ => assignInOrder (ts.map fun t => PySem.assign t env) vr) _ _ s
    refine wpAny_bind (wpAny_holding (wpAny_mono ((show WA G n env m σ t x _ from h) v A Φ s F hr r1 hs) (fun _ s1 q => ?_) noE))
    obtain ⟨Φ1, m1, σ1, x1, st1, q1⟩ := q
    refine wpAny_mono (WAs.run q1 hr (r2.ext x1) st1) (fun _ s2 q => ?_) noE
    obtain ⟨Φ2, m2, σ2, x2, st2, q2⟩ := q
    exact ⟨Φ2, m2, σ2, x1.trans x2, st2, q2⟩
  | [], _ :: _, _, _, _, h, _, _, _, _, _, _, _ => h.elim
  | _ :: _, [], _, _, _, h, _, _, _, _, _, _, _ => h.elim
theorem WA.tuple {elts : List Expr} {k : Nat} {pos : Pos} {l : List AV} {Q : Loc → Sig → Prop} (h : WAs G n env elts l m σ Q) (hl : elts.length = l.length) (hst : (elts.all fun e => !isSt e) = true) : WA G n env m σ (.Tuple elts k pos) (.tup l) Q := fun v A Φ s F hr ⟨a, vs, e, e1, e2⟩ hs => by
  subst e
  have hae := assignEach_plain (env := env) hst
  refine wpAny_assign_Tuple (items := vs.toArray) hr.h ⟨_, hs.frz _ _ e1, rfl, 0, rfl⟩ (by rw [hae]; simp [e2.length, hl]) (by rw [hae]; simp) fun h' hx => ?_
  rw [hae, List.map_map]
  exact h.run hr e2 (hs.keeps (s' := { s with heap := h' }) (fun b o e => hx b o (Nat.ne_of_lt (Heap.lt_size e)) e) rfl rfl)
theorem WA.tupleL {elts : List Expr} {k : Nat} {pos : Pos} {a : Addr} {l : List AV} {Q : Loc → Sig → Prop} (hm : (a, .list l) ∈ σ) (h : WAs G n env elts l m σ Q) (hl : elts.length = l.length) (hst : (elts.all fun e => !isSt e) = true) : WA G n env m σ (.Tuple elts k pos) (.raw (.ref a)) Q := fun v A Φ s F hr e hs => by
  rw [show v = .ref a from e]
  have hae := assignEach_plain (env := env) hst
  obtain ⟨items, hL, rl⟩ := hs.mem (List.mem_append_left _ hm)
  rw [arm_assign_Tuple]
  refine wpAny_bind (wpAny_standAt ?_)
  unfold unpack
  rw [hae, show (List.map (fun t => (false, PySem.assign t env)) elts).length = items.size from by rw [List.length_map, hl, ← Array.length_toList, rl.length],
    show (List.map (fun t => (false, PySem.assign t env)) elts).findIdx? (·.1) = none from by simp]
  refine wpAny_bind (wpAny_holding (kun_itemsOf hr.h hL.isList fun h' hx => ?_))
  rw [List.map_map]
  exact h.run hr rl (hs.keeps (s' := { s with heap := h' }) (fun b o e => hx b o (Nat.ne_of_lt (Heap.lt_size e)) e) rfl rfl)
theorem WA.attr {o : Expr} {name : Str} {pos : Pos} {x C dx : Addr} {a : AV} {Q : Loc → Sig → Prop}
    (h : WEF G n env m σ o fun b σ₁ => ∃ x C dx am σ₂, b = .obj x (instObj C dx) ∧ Upd dx (.attrs am) (.attrs (putA name a am)) σ₁ σ₂ ∧ SetOk G.K C name = true ∧ am.length ≤ 900 ∧ Q m σ₂) : WA G n env m σ (.Attribute o name pos) a Q := fun v A Φ s F hr ra hs => by
  rw [arm_assign_Attribute]
  refine wpAny_bind (wpAny_holding (W.go h hr tt hs fun w s1 Φ1 b σ1 x1 r1 h1 q1 => ?_))
  obtain ⟨x, C, dx, am, σ2, rfl, U, hc, hz, q⟩ := q1
  obtain ⟨rfl, hx⟩ := r1
  refine wpAny_bind (wpAny_standAt (wpAny_bind (wpAny_holding (setAttr_run (F := (env.locals, .ns m) :: F) hx (ra.ext x1) U hc hz h1 fun s' st => wpAny_release ⟨Φ1, m, σ2, x1, st, q⟩))))
theorem WA.sub {o i : Expr} {pos : Pos} {a : AV} {Q : Loc → Sig → Prop}
    (h : WEF G n env m σ o fun b σ₁ => WEF G n env m σ₁ i fun c σ₂ => W3 G n setItem b c a σ₂ fun σ₃ => Q m σ₃) : WA G n env m σ (.Subscript o i pos) a Q := fun v A Φ s F hr ra hs => by
  rw [arm_assign_Subscript]
  refine wpAny_bind (wpAny_holding (W.go h hr tt hs fun w s1 Φ1 b σ1 x1 r1 h1 q1 => wpAny_bind (wpAny_holding (W.go q1 hr tt h1 fun u s2 Φ2 c σ2 x2 r2 h2 q2 => ?_))))
  refine wpAny_bind (wpAny_standAt (wpAny_bind (wpAny_holding ((q2 w u v).go hr (F := (env.locals, .ns m) :: F) ⟨r1.ext x2, r2, (ra.ext x1).ext x2⟩ h2 fun _ s3 Φ3 _ σ3 x3 _ h3 q3 => wpAny_release ⟨Φ3, m, σ3, (x1.trans x2).trans x3, h3, q3⟩))))
end
end Mine
set_option maxRecDepth 100000
set_option autoImplicit false
namespace Mine
open PySem PySem.W PyProof.Rows PySem.Calls PySem.SeqAt
noncomputable def getA : List (AK × AV) → AK → Option AV
  | [], _ => none
  | (j, x) :: r, k => if j = k then some x else getA r k
noncomputable def setA : List (AK × AV) → AK → AV → List (AK × AV)
  | [], k, x => [(k, x)]
  | (j, y) :: r, k, x => if j = k then (j, x) :: r else (j, y) :: setA r k x
section
variable {Φ : Frz}
theorem KVRep.len : ∀ {es : List (AK × AV)} {kvs : List (AK × Value)}, KVRep Φ es kvs → kvs.length = es.length
  | [], _, h => by rw [show _ = [] from h]; rfl
  | _ :: _, _, ⟨v, vr, e, _, h⟩ => by rw [e]; simp [KVRep.len h]
theorem KVRep.get {k : AK} : ∀ {es : List (AK × AV)} {kvs : List (AK × Value)}, KVRep Φ es kvs → match getA es k with
    | some x => ∃ v, valueAt kvs k = some v ∧ VRep Φ x v
    | none => valueAt kvs k = none
  | [], _, h => by rw [show _ = [] from h]; rfl
  | (j, x) :: r, _, ⟨v, vr, e, rv, h⟩ => by
    rw [e]
    show match (if j = k then some x else getA r k) with
      | some x => ∃ w, valueAt ((j, v) :: vr) k = some w ∧ VRep Φ x w
      | none => valueAt ((j, v) :: vr) k = none
    by_cases q : j = k
    · have e1 : valueAt ((j, v) :: vr) k = some v := by delta valueAt; rw [List.find?_cons, show (decide ((j, v).1 = k)) = true from decide_eq_true q]; rfl
      rw [if_pos q]
      exact ⟨v, e1, rv⟩
    · have e1 : valueAt ((j, v) :: vr) k = valueAt vr k := by delta valueAt; rw [List.find?_cons, show (decide ((j, v).1 = k)) = false from decide_eq_false q]
      rw [if_neg q, e1]
      exact KVRep.get h
theorem setA_new {es : List (AK × AV)} {k : AK} {x : AV} (h : getA es k = none) : setA es k x = es ++ [(k, x)] := by
  induction es with
  | nil => rfl
  | cons p r ih =>
    obtain ⟨j, y⟩ := p
    unfold getA at h
    unfold setA
    by_cases q : j = k
    · rw [if_pos q] at h; cases h
    · rw [if_neg q] at h ⊢; rw [ih h]; rfl
theorem KVRep.map {k : AK} {x : AV} {v : Value} (rx : VRep Φ x v) : ∀ {es : List (AK × AV)} {kvs : List (AK × Value)}, KVRep Φ es kvs → (kvs.map (·.1)).Nodup →
    KVRep Φ (setA es k x) (stored kvs k v)
  | [], _, h, _ => by rw [show _ = [] from h]; exact ⟨v, [], rfl, rx, rfl⟩
  | (j, y) :: r, _, ⟨u, vr, e, rv, h⟩, nd => by
    subst e
    rw [List.map_cons, List.nodup_cons] at nd
    have ih := KVRep.map (k := k) rx h nd.2
    unfold setA stored
    rw [List.any_cons, List.map_cons]
    by_cases q : j = k
    · subst q
      have e1 : vr.map (fun kv => if kv.1 = j then (kv.1, v) else kv) = vr := by
        have : ∀ p ∈ vr, (fun kv : AK × Value => if kv.1 = j then (kv.1, v) else kv) p = id p := fun p hp => if_neg fun q => nd.1 (List.mem_map.mpr ⟨p, hp, q⟩)
        rw [List.map_congr_left this, List.map_id]
      simp only [decide_true, Bool.true_or, if_true, e1]
      exact ⟨v, vr, rfl, rx, h⟩
    · have e2 : decide ((j, u).1 = k) = false := decide_eq_false q
      rw [e2, Bool.false_or]
      simp only [if_neg q]
      unfold stored at ih
      by_cases c : (vr.any fun kv => decide (kv.1 = k)) = true
      · rw [if_pos c] at ih ⊢; exact ⟨u, _, rfl, rv, ih⟩
      · rw [if_neg c] at ih ⊢; exact ⟨u, _, rfl, rv, ih⟩
end
noncomputable def AV.key : AV → Option AK
  | .int i => Option.some (.int i)
  | .str x => Option.some (.str x)
  | _ => Option.none
theorem AV.key_is {x : AV} {k : AK} {Φ : Frz} {v : Value} (h : x.key = some k) (r : VRep Φ x v) : AK.is k v = true := by
  cases x with
  | int i => cases h; obtain ⟨t, rfl⟩ := r; show (_ == _) = true; exact beq_self_eq_true _
  | str i => cases h; obtain ⟨t, rfl⟩ := r; show (_ == _) = true; exact beq_self_eq_true _
  | none => cases h
  | bool b => cases h
  | tup l => cases h
  | obj a o => cases h
  | raw w => cases h
  | meth f x => cases h
  | clo => cases h
section
variable {G : Gd} {n : Nat} {env : Env} {K σ σ' : Sig} {m : Loc} {Q : AV → Sig → Prop}
theorem W2.notin_dict {d : Addr} {es : List (AK × AV)} {k : AK} {x : AV} (hm : (d, .dict es) ∈ σ) (hk : x.key = some k) (h : Q (.bool (!(getA es k).isSome)) σ) : W2 G n (compareOp .NotIn) x (.raw (.ref d)) σ Q := fun v w A Φ s F hr ⟨r1, r2⟩ hs => by
  rw [show w = .ref d from r2]
  obtain ⟨kvs, hd, r⟩ := hs.mem (List.mem_append_left _ hm)
  have hg := r.get (k := k)
  have e : (valueAt kvs k).isSome = (getA es k).isSome := by
    cases q : getA es k with
    | none => rw [q] at hg; rw [hg]; rfl
    | some y => rw [q] at hg; obtain ⟨u, e, _⟩ := hg; rw [e]; rfl
  refine wpAny_notIn_of (knd := mixKind G.prog G.w) (k := k) (AV.key_is hk r1) (hs.notMods hm) hd.mapOf ⟨Φ, .bool _, σ, .refl _, ?_, hs.toks _, h⟩
  rw [e]; rfl
theorem W2.item_dict {value slice : Expr} {d : Addr} {es : List (AK × AV)} {k : AK} {x y : AV} (hm : (d, .dict es) ∈ σ) (hk : x.key = some k) (hg : getA es k = some y) (h : Q y σ) (hp : plainSlice slice) : W2 G n (subscriptTail value slice) (.raw (.ref d)) x σ Q := fun v w A Φ s F hr ⟨r1, r2⟩ hs => by
  rw [show v = .ref d from r1]
  obtain ⟨kvs, hd, r⟩ := hs.mem (List.mem_append_left _ hm)
  have hg' := r.get (k := k)
  rw [hg] at hg'
  obtain ⟨u, e, ru⟩ := hg'
  exact tail_any hd.typeIs PySem.slot_dict_getitem.lookup (wpAny_getItem_of (knd := mixKind G.prog G.w) (AV.key_is hk r2) hd.mapOf e ⟨Φ, y, σ, .refl _, ru, hs.toks _, h⟩) (hp _ _)
theorem W3.set_dict {d : Addr} {es : List (AK × AV)} {k : AK} {x y : AV} {Q : Sig → Prop} (U : Upd d (.dict es) (.dict (setA es k y)) σ σ') (hk : x.key = some k) (hl : es.length ≤ sizeLine) (h : Q σ') : W3 G n setItem (.raw (.ref d)) x y σ Q := fun u v w A Φ s F hr ⟨r1, r2, r3⟩ hs => by
  rw [show u = .ref d from r1]
  obtain ⟨r, p1, p2⟩ := U.two (F := F)
  have hs1 := hs.perm p1
  obtain ⟨kvs, hd, rk⟩ := hs1.head
  have nd : (kvs.map (·.1)).Nodup := by obtain ⟨_, _, _, _, _, _, _, _, nd⟩ := hd; exact nd
  refine wpAny_setItem_pairs (knd := mixKind G.prog G.w) (AV.key_is hk r2) hd (fun h' hd' hsb => ⟨Φ, (), σ', .refl _, trivial, ?_, h⟩) (by rw [rk.len]; exact hl)
  exact (hs1.updHead (s' := { s with heap := h', toks := s.toks + 1 }) (ao' := .dict (setA es k y)) hsb.extBut ⟨_, hd', rk.map r3 nd⟩ rfl rfl).perm p2.symm
theorem WC.dict_get {d : Addr} {es : List (AK × AV)} {k : AK} {x y : AV} (hm : (d, .dict es) ∈ σ) (hk : x.key = some k) (h : Q ((getA es k).getD y) σ) : WC G n (.raw (.builtin "dict.get")) [.raw (.ref d), x, y] σ Q := fun fv vs A Φ s F hr hK r1 r2 hs => by
  rw [show fv = .builtin "dict.get" from r1]
  obtain ⟨v1, vr, rfl, e1, v2, vr2, rfl, rx, v3, vr3, rfl, ry, e2⟩ := r2
  rw [show v1 = .ref d from e1, show vr3 = [] from e2]
  obtain ⟨kvs, hd, r⟩ := hs.mem (List.mem_append_left _ hm)
  have hg := r.get (k := k)
  refine call_meetsIn PySem.F.slot_dict_get hd.typeIs PySem.F.entry_dict_get (PySem.F.args_dict_get_3 _ _ _) (meets_dict_get_default (mixKind G.prog G.w) d (AV.key_is hk rx) (hs.notMods hm) v3) ⟨_, hd.mapOf, ?_⟩
  refine (show P G VRep F Φ Q _ _ from ⟨Φ, (getA es k).getD y, σ, .refl _, ?_, hs.toks _, h⟩)
  cases q : getA es k with
  | none => rw [q] at hg; rw [hg]; exact ry
  | some z => rw [q] at hg; obtain ⟨u, e, ru⟩ := hg; rw [e]; exact ru
theorem W2.in_list {a : Addr} {l : List AV} {x : AV} (hm : (a, .list l) ∈ σ) (hl : AV.areD l = true) (hx : x.isD = true) (hd : min (PyData.depthAll (AV.pys l)) x.py.depth ≤ 300) (h : Q (.bool ((AV.pys l).any fun y => PyData.eqv y x.py)) σ) : W2 G n (compareOp .In) x (.raw (.ref a)) σ Q := fun v w A Φ s F hr ⟨r1, r2⟩ hs => by
  obtain ⟨as, h1⟩ := (Dat.list hm hl).reads hs r2
  obtain ⟨bs, h2⟩ := (Dat.av (σ := σ) hx).reads hs r1
  have := hr.room
  exact in_list_reads h1 h2 (AV.canLays _ hl) (AV.canLay _ hx) (by omega) ⟨Φ, .bool _, σ, .refl _, rfl, hs, h⟩
theorem W2.notin_list {a : Addr} {l : List AV} {x : AV} (hm : (a, .list l) ∈ σ) (hl : AV.areD l = true) (hx : x.isD = true) (hd : min (PyData.depthAll (AV.pys l)) x.py.depth ≤ 300) (h : Q (.bool (!(AV.pys l).any fun y => PyData.eqv y x.py)) σ) : W2 G n (compareOp .NotIn) x (.raw (.ref a)) σ Q := fun v w A Φ s F hr ⟨r1, r2⟩ hs => by
  obtain ⟨as, h1⟩ := (Dat.list hm hl).reads hs r2
  obtain ⟨bs, h2⟩ := (Dat.av (σ := σ) hx).reads hs r1
  have := hr.room
  exact notIn_list_reads h1 h2 (AV.canLays _ hl) (AV.canLay _ hx) (by omega) ⟨Φ, .bool _, σ, .refl _, rfl, hs, h⟩
end
end Mine
set_option maxRecDepth 100000
set_option autoImplicit false
namespace Mine
open PySem PySem.W PyProof.Rows PySem.Calls PySem.SeqAt
section
variable {G : Gd} {n : Nat} {env : Env} {K σ σ' : Sig} {m : Loc} {Q : AV → Sig → Prop}
theorem St.freezeAny {Φ : Frz} {s : Shared} {a : Addr} {o : Obj} (h : St G σ Φ s) (hn : Φ a = none) (hna : a ∉ σ.map (·.1)) (e : s.heap.get? a = some o) : Ext Φ (frzAt Φ a o) ∧ frzAt Φ a o a = some o ∧ St G σ (frzAt Φ a o) s := by
  have x : Ext Φ (frzAt Φ a o) := frzAt_ext hn
  refine ⟨x, frzAt_self .., ⟨fun b ob e => x _ _ (h.base b ob e), fun b ob q => ?_, fun p hp => ?_, h.nd, h.big, h.gens, h.os⟩⟩
  · unfold frzAt at q
    by_cases qq : b = a
    · rw [if_pos qq] at q; cases q; rw [qq]; exact e
    · rw [if_neg qq] at q; exact h.frz _ _ q
  · have := h.own p hp
    refine ⟨this.1.move G x fun _ e => e, ?_⟩
    unfold frzAt
    rw [if_neg (fun q => hna (List.mem_map.mpr ⟨p, hp, q⟩))]
    exact this.2
theorem WK.clo {a : Addr} {name qual : Str} {params : Arguments} {body : List Stmt} {scope : Scope} {clos : List (Str × Addr)} : WK G (.clo a name qual params body scope clos) := fun M A E Φ s σ fv r hs => by
  obtain ⟨rfl, doc, pm, c', ctv, oc, vs, t, e, _⟩ := r
  refine ⟨.frame, fun R hR => ?_⟩
  unfold keeperOf
  exact wpAny_bind (wpAny_load (hs.frz _ _ e) (wpAny_pure hR))
theorem WCd.clo {a : Addr} {name qual : Str} {params : Arguments} {body : List Stmt} {scope : Scope} {clos : List (Str × Addr)} {args : List AV} (names : List Str)
    (hb : ∀ (doc pm ctv cd : Value) (vs : List Value), vs.length = names.length → bindArgs (fnX name qual params body scope clos .none .none doc pm none cd ctv) ⟨vs, []⟩ = pure (names.zip vs))
    (hl : args.length = names.length) (hnd : names.Nodup) (hloc : (names.all fun x => decide (scope.names.lookup x = some .local)) = true) (hnc : (scope.names.all fun x => !decide (x.2 = .cell)) = true)
    (h : ∀ L cd, WS G n (envX qual scope L a cd clos) (names.zip args) σ body (Fin Q))
    (hco : scope.isCoroutine = false := by rfl) (hgen : scope.isGenerator = false := by rfl) (hk : scope.kind = .function := by rfl) : WCd G (n + 1) (.clo a name qual params body scope clos) args σ Q := by
  rintro _ vs A Φ s F hr ⟨rfl, doc, pm, c', ctv, oc, ws, t, e, e1, e2, e3⟩ rv hs
  have hbt := hb doc pm ctv (.ref c') vs (by rw [rv.length, hl])
  have hbr : BindRep Φ (names.zip args) (names.zip vs) := BindRep.zip rv (Nat.le_of_eq hl)
  have ndb : ((names.zip vs).map (·.1)).Nodup := by
    rw [List.map_fst_zip]; exact hnd
    rw [rv.length, hl]; exact Nat.le_refl _
  have hkey : ∀ x ∈ names.zip vs, scope.names.lookup x.1 = some .local := fun x hx => by
    have := List.all_eq_true.mp hloc x.1 (List.of_mem_zip hx).1
    simpa using this
  refine codeAny_call_function hr.depth (hs.frz _ _ e) rfl hco hgen rfl ⟨c', oc, ws, t, rfl, hs.frz _ _ e1, e2, e3⟩ (wpAny_of_eq hbt ?_)
  refine wpAny_newFunctionEnv (fun x hx => ?_) hkey (fun h₁ hns hsb => ?_) hk
  · have := List.all_eq_true.mp hnc x hx
    simpa using this
  have keep : ∀ b o, s.heap.get? b = some o → h₁.get? b = some o := fun b o e => hsb.extBut b o (Nat.ne_of_lt (Heap.lt_size e)) (Heap.get?_push_of_some _ e)
  have st1 : St G ((s.heap.objs.size, .ns (names.zip args)) :: (σ ++ F)) Φ { s with heap := h₁, toks := s.toks + (names.zip vs).length } :=
    hs.newOwn keep ⟨_, hns, fun x a e => by
      obtain ⟨v, hv, r⟩ := hbr.mem (mem_of_lookup e)
      refine ⟨v, ?_, r⟩
      have nd' : ((names.zip vs).reverse.map (·.1)).Nodup := by rw [List.map_reverse]; exact (List.reverse_perm _).nodup_iff.mpr ndb
      exact lookup_of_mem_nodup' nd' (List.mem_reverse.mpr hv)⟩ rfl rfl
  have st2 : St G (σ ++ ((s.heap.objs.size, .ns (names.zip args)) :: F)) Φ { s with heap := h₁, toks := s.toks + (names.zip vs).length } := st1.perm List.perm_middle.symm
  refine ⟨st2.lim, codeAny_func ?_⟩
  refine wpAny_mono ((h s.heap.objs.size (.ref c')) (A.deeper _) Φ _ F hr.deeper st2) (fun f s' hp => ?_) noE
  obtain ⟨Φ', fl, m', σ', x', rf, h', S, R, p, q⟩ := hp
  refine ⟨_, rfl, Φ', retOf fl, S, x', rf.val, ?_, q⟩
  refine (h'.perm (σ' := (S ++ F) ++ (R ++ [(s.heap.objs.size, .ns m')])) ?_).sub (List.sublist_append_left _ _)
  refine (p.append_right _).trans ?_
  rw [List.append_assoc, List.append_assoc]
  refine List.Perm.append_left _ ?_
  show (R ++ ([(s.heap.objs.size, AObj.ns m')] ++ F)).Perm _
  rw [← List.append_assoc]
  exact List.perm_append_comm
theorem WS.defn {name qual : Str} {params : Arguments} {body rest : List Stmt} {scope : Scope} {pos : Pos} {c P : Addr} {clos : List (Str × Addr)} {Q : AFl → Loc → Sig → Prop}
    (hP : (P, .tab pos qual) ∈ σ) (hq : qualnameIn env name name = qual) (hcode : env.code = .ref c) (hC : ∀ h : Heap, G.K.In h → CodeHd h c P) (hclos : closureFor scope env = pure clos) (hg : env.globals = mainGlobals)
    (hd0 : params.defaults = []) (hk0 : params.kw_defaults = []) (ha : annTrees params none env = []) (hl : env.kindOf name = some .local) (hk : env.scope.kind = .function)
    (h : ∀ f, WS G n env ((name, .clo f name qual params body scope clos) :: m) σ rest Q) : WS G n env m σ (.FunctionDef name params body [] none [] scope none name pos :: rest) Q := by
  refine WS.seq fun A Φ s F hr hs => ?_
  subst hq
  refine nestDef_K hd0 hk0 ha ?_
  obtain ⟨ps, eP, hps⟩ := hs.mem (List.mem_append_left _ hP)
  have hT := hs.top
  have hnB : Φ P = none := (hs.own _ (List.mem_append_left _ hP)).2
  obtain ⟨bm, ob, b1, b2, b3, b4, b5, b6⟩ := G.bmain
  have gx : ∃ o, G.B.get? mainGlobals = some o := let ⟨o, _, _, e, _⟩ := G.T.g; ⟨o, e⟩
  have apart : ∀ {x : Addr} {o : Obj}, G.B.get? x = some o → x ≠ P := fun e q => absurd (hs.base _ _ e) (by rw [q, hnB]; exact nofun)
  have hgP : mainGlobals ≠ P := let ⟨_, e⟩ := gx; apart e
  have hbP : bm ≠ P := apart b3
  have hbG : bm ≠ mainGlobals := by
    rintro rfl
    obtain ⟨_, _, _, e, hd, _⟩ := G.T.g
    cases e.symm.trans b3
    exact absurd b6 (by rw [hd]; exact nofun)
  have hbi : s.heap.BuiltinsAt G.mg P := ⟨bm, ob, b1, b2, hbG, hbP, hs.baseK _ _ b3, b4, b5, b6⟩
  -- the name is stored
  have fin : ∀ {v : Value} {Φ' : Frz} {s' : Shared} {a : Addr}, Ext Φ Φ' → VRep Φ' (.clo a name (qualnameIn env name name) params body scope clos) v → St G (σ ++ ((env.locals, .ns m) :: F)) Φ' s' →
      wpAny (model G.prog G.w) A (storeName env name v) (fun _ s'' => PS G env.locals F Φ (Seq G n env rest Q) .next s'') NoE s' := fun {v Φ' s' a} x r st => by
    obtain ⟨mm, hn, hv⟩ := st.mem (a := env.locals) (ao := .ns m) (List.mem_append_right _ (.head _))
    refine wpAny_storeName_local hl hn (fun h' hn' hb => ?_) (by rw [hk]; rfl)
    exact ⟨Φ', .next, _, σ, x, rfl, st.setNs r hv hn' hb, h a⟩
  rcases hps with rfl | ⟨c', oc, vs, t, rfl, e1, e2, e3⟩
  · refine makeFunction_K hclos hg hT.g hcode (hC _ hs.inK) eP ?_ rfl hgP hbi fun c' ctv doc h' tk hx hge hlt hrec htb => ?_
    · exact True.intro
    · obtain ⟨c₂, oc, vs, t, e2, hoc, hd, hv⟩ := hrec
      cases e2
      obtain ⟨pre, post, hsp⟩ := List.append_of_mem (List.mem_append_left ((env.locals, AObj.ns m) :: F) hP)
      have pp : ∀ ao : AObj, (pre ++ (P, ao) :: post).Perm ((P, ao) :: (pre ++ post)) := fun ao => List.perm_middle
      have hs0 : St G (pre ++ (P, .tab pos (qualnameIn env name name)) :: post) Φ s := by rw [← hsp]; exact hs
      have hs1 := hs0.perm (pp _)
      have hc0 : Φ c' = none := by
        cases q : Φ c' with
        | none => rfl
        | some o => exact absurd (Heap.lt_size (hs.frz _ _ q)) (Nat.not_lt.mpr hge)
      have hs2 := hs1.updHead (s' := { s with heap := h' }) (ao' := .raw (tabObj (#[] ++ #[rawInt pos.line, rawInt pos.col, .ref c']))) hx htb rfl rfl
      obtain ⟨x3, h3, hs3⟩ := hs2.freezeAny (o := oc) hc0 (fun q => by
        have hq : c' ∈ ((P, AObj.tab pos (qualnameIn env name name)) :: (pre ++ post)).map (·.1) := q
        obtain ⟨p, hp, e⟩ := List.mem_map.mp hq
        exact absurd (hs1.lt p hp) (by rw [e]; exact Nat.not_lt.mpr hge)) hoc
      have hs4 := hs3.updHead (s' := { s with heap := h' }) (ao' := .tab pos (qualnameIn env name name)) (Heap.ExtBut.refl _ _) ⟨_, htb, .inr ⟨c', oc, vs, t, by simp, h3, hd, hv⟩⟩ rfl rfl
      obtain ⟨x5, h5, hs5⟩ := hs4.newFrz (s' := { s with heap := h'.push (fnMade name (qualnameIn env name name) params body scope clos doc ((G.mg "__name__").getD .none) c' ctv), toks := tk })
        (a := h'.objs.size) (o := fnMade name (qualnameIn env name name) params body scope clos doc ((G.mg "__name__").getD .none) c' ctv) (fun b o e => Heap.get?_push_of_some _ e) (Nat.le_refl _) (Heap.get?_push_size _ rfl) rfl rfl
      refine fin (x3.trans x5) ⟨rfl, doc, _, c', ctv, oc, vs, t, h5, x5 _ _ h3, hd, hv⟩ ?_
      rw [hsp]
      exact hs5.perm (pp _).symm
  · refine makeFunction_hit (cv := .ref c') hclos hg hT.g hcode (hC _ hs.inK) eP ?_ ?_ hbi fun ctv doc h' tk hk' hsz => ?_
    · exact True.intro
    · show (if ((pos.line : Int) == pos.line && (pos.col : Int) == pos.col) = true then _ else _) = _
      rw [if_pos (by simp)]
    · have hs1 : St G (σ ++ ((env.locals, .ns m) :: F)) Φ { s with heap := h' } := hs.keeps hk' rfl rfl
      obtain ⟨x5, h5, hs5⟩ := hs1.newFrz (s' := { s with heap := h'.push { cls := .type "function", data := .func (fnX name (qualnameIn env name name) params body scope clos .none .none doc ((G.mg "__name__").getD .none) none (.ref c') ctv) }, toks := tk })
        (a := h'.objs.size) (o := { cls := .type "function", data := .func (fnX name (qualnameIn env name name) params body scope clos .none .none doc ((G.mg "__name__").getD .none) none (.ref c') ctv) }) (fun b o e => Heap.get?_push_of_some _ e) (Nat.le_refl _) (Heap.get?_push_size _ rfl) rfl rfl
      exact fin x5 ⟨rfl, doc, _, c', ctv, oc, vs, t, h5, x5 _ _ e1, e2, e3⟩ hs5
end
end Mine
set_option maxRecDepth 100000
set_option autoImplicit false
namespace Mine
open PySem PySem.W PyProof.Rows PySem.Calls PySem.SeqAt
section
variable {prog : Program} {w : World} {A : Around} {E : Value → Shared → Prop} {s : Shared}
theorem stops {α : Type} {Q : α → Shared → Prop} (hh : A.handled = none)
    (hE : ∀ h' e, (∀ b o, s.heap.get? b = some o → h'.get? b = some o) → (∃ o, h'.get? e = some o ∧ o.cls = .type "StopIteration") → E (.ref e) { s with heap := h' }) : wpAny (model prog w) A (newExc (.type "StopIteration") [] >>= fun e => raiseNew (α := α) e) Q E s := by
  wp_walk
  unfold raiseNew
  wp_walk
  exact hE _ _ (fun b o e => Heap.get?_push_of_some _ (Heap.get?_push_of_some _ e)) ⟨_, Heap.get?_push_size _ rfl, rfl⟩
theorem tup_next {it t : Addr} {i : Nat} {items : Array Value} {Q : Value → Shared → Prop} (hh : A.handled = none) (hit : s.heap.IsTupleIter it t i) (ht : s.heap.IsTuple t items)
    (hQ : ∀ x h', items[i]? = some x → h'.IsTupleIter it t (i + 1) → Heap.SameBut it s.heap h' → Q x { s with heap := h' })
    (hE : ∀ h' e, items[i]? = none → Heap.ExtBut it s.heap h' → (∃ o, h'.get? e = some o ∧ o.cls = .type "StopIteration") → E (.ref e) { s with heap := h' }) : wpAny (model prog w) A (Builtin.SmallTypes.nextOf (.ref it)) Q E s := by
  have hT := hit.typeIs
  obtain ⟨⟨c, dt, dd, sl⟩, ho, hc, hd⟩ := hit
  obtain ⟨⟨c2, dt2, dd2, sl2⟩, hol, _, nl, hdl⟩ := ht
  cases hc; cases hd; cases hdl
  unfold Builtin.SmallTypes.nextOf
  refine wpAny_bind (wpAny_callSpecial?_slot (name := Str.ofString "__next__") hT PySem.F.slot_tuple_iterator_next (wpAny_call_entry PySem.F.slot_tuple_iterator_next hT PySem.F.entry_tuple_iterator_next ?_ (PySem.F.args_tuple_iterator_next_1 _)))
  wp_walk using PySem.AutoSeq1.wpAny_loadPart' ho, PySem.AutoSeq1.wpAny_loadPart' hol
  cases hx : items[((i : Nat) : Int).toNat]? with
  | none =>
    wp_walk using wpAny_setField ho rfl (by simp), stops (A := A.in1) hh
    exact fun h' e k he => hE h' e hx (fun b o hb x => k b o ((Heap.SameBut.update ..).extBut b o hb x)) he
  | some x =>
    wp_walk using wpAny_setField ho rfl (by simp)
    exact ⟨x, rfl, wpAny_pure (hQ x _ hx ⟨_, Heap.get?_update_self _ ho rfl, rfl, rfl⟩ (Heap.SameBut.update ..))⟩
noncomputable def TupSt (it t : Addr) (items : Array Value) (i j : Nat) (k : Nat) (h : Heap) : Prop := ∃ j', j' + i = j + k ∧ h.IsTupleIter it t j' ∧ h.IsTuple t items ∧ j' ≤ items.size
theorem drawsTup (hh : A.handled = none) {it t : Addr} {items : Array Value} {i j : Nat} (hj : j ≤ items.size) (hne : t ≠ it) :
    Draws prog w A it [it, t] (i + (items.size - j)) (fun k v => items[j + k - i]? = some v) (TupSt it t items i j) where
  live := fun _ _ ⟨_, _, ⟨o, e, _⟩, _⟩ => ⟨o, e⟩
  frame := fun _ _ _ ⟨j', e, ⟨o, e1, r1⟩, ⟨o2, e2, r2⟩, hl⟩ hk => ⟨j', e, ⟨o, hk it (.head _) o e1, r1⟩, ⟨o2, hk t (.tail _ (.head _)) o2 e2, r2⟩, hl⟩
  item := fun k s Q E hi ⟨j', e, hit, ht, hl⟩ hQ => by
    have hlt : j' < items.size := by omega
    refine tup_next hh hit ht (fun x h' hx hit' hsb => hQ _ h' s.toks (by rw [show j + k - i = j' by omega]; exact hx) ⟨j' + 1, by omega, hit', ?_, hlt⟩ hsb) (fun _ _ hx => absurd (Array.getElem?_eq_none_iff.mp hx) (by omega))
    obtain ⟨o, e, r⟩ := ht
    exact ⟨o, hsb.extBut t o hne e, r⟩
  done := fun s Q E ⟨j', e, hit, ht, hl⟩ hE => tup_next hh hit ht (fun x _ hx => absurd (Array.getElem?_eq_some_iff.mp hx).1 (by omega)) fun h' e _ => hE h' e
theorem enum_new_tup (l : Addr) (items : Array Value) :
    Meets (Builtin.«enumerate.__new__» ⟨[.type "enumerate", .ref l], []⟩) (fun _ R s => s.heap.get? l = some (tupO items.toList) ∧
      R (.ok (.ret (.ref (s.heap.push { cls := .type "tuple_iterator", data := .fields #[.ref l, .int 0 0] }).objs.size)))
        { s with heap := (s.heap.push { cls := .type "tuple_iterator", data := .fields #[.ref l, .int 0 0] }).push { cls := .type "enumerate", data := .fields #[.none, .bool false, .ref s.heap.objs.size, rawInt 0, .none, .none] } }) :=
  .of_wp fun prog w A R s ⟨ht, hR⟩ => by
    have hI : s.heap.IsTuple l items := ⟨_, ht, rfl, 0, rfl⟩
    have e1 := PySem.sub_enumerate
    obtain ⟨hp, g, d, tk, os⟩ := s
    wp_walk
    refine wpAny_stack_any fun st => wpAny_pure ?_
    split
    rotate_right
    · wp_walk using wpAny_pyIter_tuple hI
      exact ⟨_, rfl, hR⟩
    generalize (_ == Value.type "enumerate") = b
    cases b <;> wp_walk using wpAny_pyIter_tuple hI <;> exact ⟨_, rfl, hR⟩
end
section
variable {G : Gd} {n : Nat} {env : Env} {K σ σ' : Sig} {m : Loc} {Q : AV → Sig → Prop}
theorem WC.enum_tup {l : List AV} (h : ∀ e it, Q (.raw (.ref e)) ((e, .enumIter it 0) :: (it, .tupIter l) :: σ)) : WC G n (.raw (.type "enumerate")) [.tup l] σ Q := fun fv vs A Φ s F hr hK r1 r2 hs => by
  rw [show fv = .type "enumerate" from r1]
  obtain ⟨v1, vr, rfl, e1, e2⟩ := r2
  rw [show vr = [] from e2]
  obtain ⟨b, ws, rfl, e3, e4⟩ := e1
  refine callType_new PySem.F.called_enumerate (by decide) (PySem.F.typeCall_enumerate_1 _) (PySem.F.newCall_enumerate_1 _) (fun obj => PySem.F.args_object_init_2 obj _) PySem.F.entry_enumerate_new
    (enum_new_tup b ws.toArray) ⟨hs.frz _ _ e3, ?_⟩
  show _ ∧ _
  generalize eh : s.heap.push { cls := .type "tuple_iterator", data := .fields #[.ref b, .int 0 0] } = h1
  have z1 : h1.objs.size = s.heap.objs.size + 1 := eh ▸ Heap.size_push ..
  have k1 : ∀ c o, s.heap.get? c = some o → h1.get? c = some o := fun c o x => eh ▸ Heap.get?_push_of_some _ x
  have i1 : h1.IsTupleIter s.heap.objs.size b 0 := ⟨_, eh ▸ Heap.get?_push_size _ rfl, rfl, rfl⟩
  have en := Heap.get?_push_size h1 (o := { cls := .type "enumerate", data := .fields #[.none, .bool false, .ref s.heap.objs.size, rawInt 0, .none, .none] }) rfl
  rw [z1] at en
  refine ⟨⟨_, z1.symm ▸ en, rfl⟩, Φ, .raw (.ref (s.heap.objs.size + 1)), (s.heap.objs.size + 1, .enumIter s.heap.objs.size 0) :: (s.heap.objs.size, .tupIter l) :: σ, .refl _, by rw [z1]; rfl, ?_, h _ _⟩
  refine hs.newOwns (news := [(s.heap.objs.size + 1, .enumIter s.heap.objs.size 0), (s.heap.objs.size, .tupIter l)]) (fun c o x => Heap.get?_push_of_some _ (k1 c o x)) ?_ (by simp) rfl rfl
  intro p hp
  simp only [List.mem_cons, List.not_mem_nil, or_false] at hp
  obtain ⟨oi, i2, i3⟩ := i1
  rcases hp with rfl | rfl
  · exact ⟨Nat.le_succ _, ⟨_, en⟩⟩
  · exact ⟨Nat.le_refl _, b, 0, ws, ⟨oi, Heap.get?_push_of_some _ i2, i3⟩, e3, Nat.zero_le _, e4⟩
theorem enumOut {e it a : Addr} {k : Int} {x : Value} {A : Around} {s : Shared} {prog : Program} {w : World} {E : Value → Shared → Prop} {target : Expr} {Q : Unit → Shared → Prop} (ht : isTupT target = true)
    (he : IsEnumOut s.heap e it k x a) (hQ : ∀ h', IsEnum h' e it k x → Heap.SameBut e s.heap h' → Q () { s with heap := h' }) : wpAny (model prog w) A (letOwnedTupleGo target (.ref e) (.ref a)) Q E s := by
  cases target with
  | Tuple elts c pos => exact wpAny_letOwnedTupleGo_enum he hQ
  | List elts pos => exact wpAny_letOwnedTupleGo_enum (elts := []) (x1 := 0) (pos := pos) he hQ
  | _ => cases ht
theorem Upd.pair {e it : Addr} {o o' a a' : AObj} {σ₁ F : Sig} (U : Upd e o o' σ σ₁) (U2 : Upd it a a' σ₁ σ') (nd : ((σ ++ F).map (·.1)).Nodup) (hoa : a ≠ o') :
    e ≠ it ∧ ∃ R, (σ ++ F).Perm ((e, o) :: (it, a) :: R) ∧ (σ' ++ F).Perm ((e, o') :: (it, a') :: R) := by
  obtain ⟨r, p1, p2⟩ := U.two (F := F)
  obtain ⟨r', q1, q2⟩ := U2.two (F := F)
  have nd1 := nd
  rw [((p1.map (·.1)).nodup_iff), List.map_cons, List.nodup_cons] at nd1
  have hm : (it, a) ∈ (e, o') :: r := p2.mem_iff.mp (q1.mem_iff.mpr (.head _))
  have hr : (it, a) ∈ r := by
    rcases List.mem_cons.mp hm with h1 | h1
    · cases h1; exact absurd rfl hoa
    · exact h1
  refine ⟨fun q => nd1.1 (List.mem_map.mpr ⟨_, hr, q.symm⟩), ?_⟩
  obtain ⟨pre, post, rfl⟩ := List.append_of_mem hr
  have m1 : (pre ++ (it, a) :: post).Perm ((it, a) :: (pre ++ post)) := List.perm_middle
  refine ⟨pre ++ post, p1.trans (m1.cons _), ?_⟩
  have h2 : ((it, a) :: r').Perm ((it, a) :: (e, o') :: (pre ++ post)) := q1.symm.trans (p2.trans ((m1.cons _).trans (.swap ..)))
  have h3 : r'.Perm ((e, o') :: (pre ++ post)) := h2.cons_inv
  exact q2.trans ((h3.cons _).trans (.swap ..))
theorem St.updTwo {e it : Addr} {o o' a a' : AObj} {Φ : Frz} {s s' : Shared} (h : St G ((e, o) :: (it, a) :: σ) Φ s) (k : ∀ b ob, b ≠ e → b ≠ it → s.heap.get? b = some ob → s'.heap.get? b = some ob)
    (r1 : ARep G Φ s'.heap e o') (r2 : ARep G Φ s'.heap it a') (g : s'.gens = s.gens) (os : s'.os = s.os) : St G ((e, o') :: (it, a') :: σ) Φ s' := by
  have n1 : Φ e = none := (h.own (e, o) (.head _)).2
  have n2 : Φ it = none := (h.own (it, a) (.tail _ (.head _))).2
  have nd := h.nd
  simp only [List.map_cons, List.nodup_cons] at nd
  refine ⟨h.base, fun b ob e1 => k b ob (fun q => ?_) (fun q => ?_) (h.frz b ob e1), fun p hp => ?_, h.nd, fun p hp => ?_, g.trans h.gens, os.trans h.os⟩
  · rw [q, n1] at e1; cases e1
  · rw [q, n2] at e1; cases e1
  · rcases List.mem_cons.mp hp with rfl | hp
    · exact ⟨r1, n1⟩
    · rcases List.mem_cons.mp hp with rfl | hp
      · exact ⟨r2, n2⟩
      · have := h.own p (.tail _ (.tail _ hp))
        refine ⟨this.1.move G (.refl _) fun ob e1 => k _ _ (fun q => ?_) (fun q => ?_) e1, this.2⟩
        · exact nd.1 (List.mem_cons_of_mem _ (List.mem_map.mpr ⟨p, hp, q⟩))
        · exact nd.2.1 (List.mem_map.mpr ⟨p, hp, q⟩)
  · rcases List.mem_cons.mp hp with rfl | hp
    · exact h.big (e, o) (.head _)
    · rcases List.mem_cons.mp hp with rfl | hp
      · exact h.big (it, a) (.tail _ (.head _))
      · exact h.big p (.tail _ (.tail _ hp))
theorem enumSt {e it : Addr} {a a' : AObj} {i : Nat} {x : AV} {y : Value} {tk : Tok} {Φ : Frz} {s : Shared} {h' h2 : Heap} {R F : Sig} {t' : Tok} (hs1 : St G ((e, .enumIter it i) :: (it, a) :: R) Φ s) (hne : e ≠ it)
    (htup : h'.get? s.heap.objs.size = some { cls := .type "tuple", data := .seq #[.int i tk, y] }) (ry : VRep Φ x y) (he2 : IsEnum h2 e it ((i : Int) + 1) y) (hsb : Heap.SameBut e h' h2)
    (hk : ∀ b o, b ≠ e → b ≠ it → s.heap.get? b = some o → h'.get? b = some o) (ra : ARep G Φ h2 it a') : ∃ Φ', Ext Φ Φ' ∧ VRep Φ' (.tup [.int i, x]) (.ref s.heap.objs.size) ∧ St G ((e, .enumIter it (i + 1)) :: (it, a') :: R) Φ' { s with heap := h2, toks := t' } := by
  have hel : e < s.heap.objs.size := hs1.lt (e, _) (.head _)
  have hs2 : St G ((e, .enumIter it (i + 1)) :: (it, a') :: R) Φ { s with heap := h2, toks := t' } :=
    hs1.updTwo (s' := { s with heap := h2, toks := t' }) (fun b o hbe hbi e1 => hsb.extBut b o hbe (hk b o hbe hbi e1)) ⟨y, by exact_mod_cast he2⟩ ra rfl rfl
  have ht2 : h2.get? s.heap.objs.size = some { cls := .type "tuple", data := .seq #[.int i tk, y] } := hsb.extBut _ _ (Nat.ne_of_gt hel) htup
  obtain ⟨x3, h3, hs3⟩ := hs2.freezeAny (a := s.heap.objs.size) (o := tupO [.int i tk, y]) hs1.none_size (fun q => hs1.notin_size q) ht2
  exact ⟨_, x3, ⟨_, _, rfl, h3, ⟨_, _, rfl, ⟨_, rfl⟩, _, _, rfl, ry.ext x3, rfl⟩⟩, hs3⟩
theorem WN.enum_list_item {e it l : Addr} {i : Nat} {xs : List AV} {x : AV} {target : Expr} {Qe : Sig → Prop} {Qi : AV → Sig → Prop} {σ₁ : Sig} (ht : isTupT target = true) (hx : xs[i]? = some x)
    (U : Upd e (.enumIter it i) (.enumIter it (i + 1)) σ σ₁) (U2 : Upd it (.listIter l i) (.listIter l (i + 1)) σ₁ σ') (hm : (l, .list xs) ∈ σ) (h : Qi (.tup [.int i, x]) σ') : WN G n e target σ Qe Qi := fun A Φ s F hr hs => by
  obtain ⟨hne, R, p1, p2⟩ := U.pair U2 (F := F) hs.nd (fun q => nomatch q)
  have hs1 := hs.perm p1
  obtain ⟨old, he⟩ := hs1.head
  have hit : s.heap.IsListIter it l i := hs1.mem (.tail _ (.head _))
  obtain ⟨items, hl, rl⟩ := hs.mem (List.mem_append_left _ hm)
  replace hl := hl.isList
  obtain ⟨y, hy, ry⟩ := rl.get hx
  refine wpAny_pyNext_enum_item he hit hl (by rw [← Array.getElem?_toList]; exact hy) hne fun h' he' hit' htup hsz hk => ?_
  refine enumOut ht he' fun h2 he2 hsb => ?_
  obtain ⟨Φ', x', rx, st⟩ := enumSt (F := F) (t' := s.toks + 1) hs1 hne htup ry he2 hsb hk (a' := .listIter l (i + 1)) (let ⟨o, e1, r⟩ := hit'; ⟨o, hsb.extBut it o hne.symm e1, r⟩)
  exact ⟨Φ', _, σ', x', rx, st.perm p2.symm, h⟩
theorem WN.enum_list_end {e it l : Addr} {i : Nat} {xs : List AV} {target : Expr} {Qe : Sig → Prop} {Qi : AV → Sig → Prop} {σ₁ : Sig} (hx : xs.length ≤ i) (hme : (e, .enumIter it i) ∈ σ) (U : At it (.listIter l i) σ' σ) (hm : (l, .list xs) ∈ σ) (h : Qe σ') : WN G n e target σ Qe Qi := fun A Φ s F hr hs => by
  have hs1 := hs.perm (U.perm.append_right _)
  obtain ⟨old, he⟩ := hs.mem (List.mem_append_left _ hme)
  have hit : s.heap.IsListIter it l i := hs1.head
  obtain ⟨items, hl, rl⟩ := hs.mem (List.mem_append_left _ hm)
  replace hl := hl.isList
  refine wpAny_pyNext_enum_end hr.h he hit hl (by rw [← Array.getElem?_toList, List.getElem?_eq_none]; rw [rl.length]; exact hx) fun h' he' => ?_
  exact ⟨Φ, σ', .refl _, hs1.dropHead (s' := { s with heap := h' }) he' rfl rfl, h⟩
theorem WN.enum_tup_item {e it : Addr} {i : Nat} {xs : List AV} {x : AV} {target : Expr} {Qe : Sig → Prop} {Qi : AV → Sig → Prop} {σ₁ : Sig} (ht : isTupT target = true)
    (U : Upd e (.enumIter it i) (.enumIter it (i + 1)) σ σ₁) (U2 : Upd it (.tupIter (x :: xs)) (.tupIter xs) σ₁ σ') (h : Qi (.tup [.int i, x]) σ') : WN G n e target σ Qe Qi := fun A Φ s F hr hs => by
  obtain ⟨hne, R, p1, p2⟩ := U.pair U2 (F := F) hs.nd (fun q => nomatch q)
  have hs1 := hs.perm p1
  obtain ⟨old, he⟩ := hs1.head
  obtain ⟨t, j, items, hit, htt, hj, rl⟩ := hs1.mem (a := it) (ao := .tupIter (x :: xs)) (.tail _ (.head _))
  obtain ⟨v, vr, ev, rv, rr⟩ := rl
  have hlt : j < items.length := by
    have := congrArg List.length ev
    simp at this; omega
  have htl : t ≠ it := fun q => by
    have := (hs1.own (it, .tupIter (x :: xs)) (.tail _ (.head _))).2
    rw [← q, htt] at this; cases this
  have hte : t ≠ e := fun q => by
    have := (hs1.own (e, .enumIter it i) (.head _)).2
    rw [← q, htt] at this; cases this
  have ht0 : s.heap.IsTuple t items.toArray := ⟨_, hs.frz _ _ htt, rfl, 0, rfl⟩
  refine wpAny_pyNext_enum_itemD (D := drawsTup (A := A.in1) (items := items.toArray) (i := i) (j := j) hr.h (by simpa using hj) htl) he ⟨j, rfl, hit, ht0, by simpa using hj⟩ (by simp; omega) hne (by simp [hne, hte.symm]) fun y h' tk hP he' hst' htup hsz hk => ?_
  obtain ⟨j', ej, hit', ht', hl'⟩ := hst'
  refine enumOut ht he' fun h2 he2 hsb => ?_
  have hy : y = v := by
    have h0 : items[j]? = some v := by
      have := List.getElem?_drop (xs := items) (i := j) (j := 0)
      rw [ev] at this; simpa using this.symm
    rw [show j + i - i = j by omega] at hP
    simp at hP
    rw [hP] at h0; exact Option.some.inj h0
  subst hy
  obtain ⟨Φ', x', rx, st⟩ := enumSt (F := F) (t' := tk + 1) hs1 hne htup rv he2 hsb hk (a' := .tupIter xs) (by
    refine ⟨t, j + 1, items, ?_, htt, hlt, ?_⟩
    · obtain ⟨o, e1, r⟩ := hit'
      rw [show j' = j + 1 by omega] at r
      exact ⟨o, hsb.extBut it o hne.symm e1, r⟩
    · have : items.drop (j + 1) = vr := by rw [← List.drop_drop, ev]; rfl
      rw [this]; exact rr)
  exact ⟨Φ', _, σ', x', rx, st.perm p2.symm, h⟩
theorem WN.enum_tup_end {e it : Addr} {i : Nat} {target : Expr} {Qe : Sig → Prop} {Qi : AV → Sig → Prop} (hme : (e, .enumIter it i) ∈ σ) (U : At it (.tupIter []) σ' σ) (h : Qe σ') : WN G n e target σ Qe Qi := fun A Φ s F hr hs => by
  have hs1 := hs.perm (U.perm.append_right _)
  obtain ⟨old, he⟩ := hs.mem (List.mem_append_left _ hme)
  obtain ⟨t, j, items, hit, htt, hj, rl⟩ := hs1.head
  have ev : items.drop j = [] := rl
  have hje : items.length ≤ j := by simpa using ev
  have htl : t ≠ it := fun q => by
    have := (hs1.own (it, .tupIter []) (.head _)).2
    rw [← q, htt] at this; cases this
  have ht0 : s.heap.IsTuple t items.toArray := ⟨_, hs.frz _ _ htt, rfl, 0, rfl⟩
  refine wpAny_pyNext_enum_endD (D := drawsTup (A := A.in1) (items := items.toArray) (i := i) (j := j) hr.h (by simpa using hj) htl) he ⟨j, by simp; omega, hit, ht0, by simpa using hj⟩ fun h' he' => ?_
  exact ⟨Φ, σ', .refl _, hs1.dropHead (s' := { s with heap := h' }) he' rfl rfl, h⟩
end
end Mine
set_option maxRecDepth 100000
set_option autoImplicit false
namespace Mine
open PySem PySem.W PyProof.Rows PySem.Calls PySem.SeqAt
section
variable {G : Gd} {n : Nat} {env : Env} {K σ σ' : Sig} {m : Loc} {Q : AV → Sig → Prop}
theorem WE.dict0 {pos : Pos} (h : ∀ d, Q (.raw (.ref d)) ((d, .dict []) :: σ)) : WE G n env K σ (.Dict [] [] pos) Q := fun A Φ s F hr hc hs => by
  rw [arm_eval_Dict]
  refine wpAny_bind (wpAny_standAt ?_)
  show wpAny _ A (dictDisplay []) _ _ s
  have e : dictDisplay [] = newDict := by
    unfold dictDisplay
    simp
  rw [e]
  exact newDict_acc s _ _ Φ hs fun s' hs' => ⟨Φ, .raw (.ref s.heap.objs.size), _, .refl _, rfl, hs', h _⟩
theorem WE.dict1 {k v : Expr} {pos : Pos} (h : WE G n env K σ k fun a σ₁ => WE G n env K σ₁ v fun b σ₂ => ∃ key, a.key = some key ∧ ∀ d, Q (.raw (.ref d)) ((d, .dict [(key, b)]) :: σ₂)) : WE G n env K σ (.Dict [some k] [v] pos) Q := fun A Φ s F hr hc hs => by
  refine wpAny_Dict_pairs (knd := mixKind G.prog G.w) (pairs := [(eval k env, do let x ← eval v env; standAt pos; pure x)]) rfl (by simp) (by simp) ?_
  have h0 : St G ((s.heap.objs.size, .dict []) :: (σ ++ (K ++ F))) Φ { s with heap := s.heap.push { cls := .type "dict", data := .dict #[] } } :=
    hs.newOwn (fun b o e => Heap.get?_push_of_some _ e) ⟨[], Heap.DictOf.new _, rfl⟩ rfl rfl
  have pp : ∀ σ : Sig, ((s.heap.objs.size, AObj.dict []) :: (σ ++ (K ++ F))).Perm (σ ++ (K ++ ((s.heap.objs.size, .dict []) :: F))) := fun σ => by
    rw [← List.append_assoc, ← List.append_assoc]; exact List.perm_middle.symm
  refine evalPairs_cons (h.go hr hc (h0.perm (pp _)) fun kv s1 Φ1 a σ1 x1 r1 h1 q1 => wpAny_bind (q1.go hr tt h1 fun vv s2 Φ2 b σ2 x2 r2 h2 q2 => wpAny_bind (wpAny_standAt (wpAny_pure (evalPairs_nil ?_)))))
  obtain ⟨key, hk, q2⟩ := q2
  have h3 := h2.perm (pp σ2).symm
  obtain ⟨kvs, hd, rk⟩ := h3.head
  rw [show kvs = [] from rk] at hd
  refine ⟨[(key, vv)], ⟨AV.key_is hk (r1.ext x2), rfl, trivial⟩, hd, fun h' hd' hsb => ?_⟩
  refine ⟨Φ2, .raw (.ref s.heap.objs.size), (s.heap.objs.size, .dict [(key, b)]) :: σ2, x1.trans x2, rfl, ?_, q2 _⟩
  exact h3.updHead (s' := { s2 with heap := h', toks := _ }) (ao' := .dict [(key, b)]) hsb.extBut ⟨_, hd', vv, [], rfl, r2, rfl⟩ rfl rfl
variable {it acc : Addr} {target iter ke ve : Expr} {ifs : List Expr} {scope : Scope} {pos : Pos}
theorem turnD_eq (ke ve target iter : Expr) (ifs : List Expr) (scope : Scope) (pos : Pos) (it : Value) (acc : Addr) (env : Env) :
    compTurn (.DictComp ke ve [⟨target, iter, ifs, 0⟩] scope pos) 0 it (.ref acc) env = (standAt iter.pos >>= fun _ => pyNext it >>= fun r => match r with
      | none => pure (.done .next)
      | some v => letOwnedTupleGo target it v >>= fun _ => assign target env v >>= fun _ => ifsLoop ifs env true >>= fun ok =>
        if ok = true then (eval ke env >>= fun kv => holding [kv] (eval ve env) >>= fun vv => standAt { ke.pos with endLine := ve.pos.endLine, endCol := ve.pos.endCol } >>= fun _ => holding [kv, vv] (dictSet acc kv vv)) >>= fun _ => again (.compLoop (.DictComp ke ve [⟨target, iter, ifs, 0⟩] scope pos) 0 it (.ref acc) env)
        else again (.compLoop (.DictComp ke ve [⟨target, iter, ifs, 0⟩] scope pos) 0 it (.ref acc) env)) := by rfl
noncomputable def EmitD (G : Gd) (n : Nat) (env : Env) (m : Loc) (σ : Sig) (acc : Addr) (ke ve : Expr) (k : Sig → Prop) : Prop :=
  WEF G n env m σ ke fun x σ₁ => WEF G n env m σ₁ ve fun y σ₂ => ∃ key es σ₃, x.key = some key ∧ Upd acc (.dict es) (.dict (setA es key y)) σ₂ σ₃ ∧ es.length ≤ sizeLine ∧ k σ₃
noncomputable def CTurnD (G : Gd) (n : Nat) (e : Expr) (it acc : Addr) (env : Env) (target ke ve : Expr) (ifs : List Expr) (m : Loc) (σ : Sig) (Q : Loc → Sig → Prop) : Prop :=
  WN G n it target σ (fun σ₁ => Q m σ₁) fun x σ₁ => WA G n env m σ₁ target x fun m₁ σ₂ => WIfs G n env m₁ ifs σ₂ fun b σ₃ =>
    if b then EmitD G n env m₁ σ₃ acc ke ve fun σ₄ => WCL G n e 0 it acc env m₁ σ₄ Q else WCL G n e 0 it acc env m₁ σ₃ Q
theorem WCL.turnD {Q : Loc → Sig → Prop} (h : CTurnD G n (.DictComp ke ve [⟨target, iter, ifs, 0⟩] scope pos) it acc env target ke ve ifs m σ Q) : WCL G n (.DictComp ke ve [⟨target, iter, ifs, 0⟩] scope pos) 0 it acc env m σ Q := fun A Φ s F hr hs => by
  refine codeAny_of_tree ?_
  show wpAny _ A ((compTurn (.DictComp ke ve [⟨target, iter, ifs, 0⟩] scope pos) 0 (.ref it) (.ref acc) env).onRaise (fun x => do noteFrame x env; theTreesLotGoes x)) _ _ s
  refine wpAny_noted ?_
  rw [turnD_eq]
  refine wpAny_bind (wpAny_standAt (wpAny_bind (wpAny_mono (h A Φ s _ hr hs) (fun r s1 h1 => ?_) noE)))
  cases r with
  | none =>
    obtain ⟨Φ1, σ1, x1, st1, q1⟩ := h1
    exact wpAny_pure ⟨rfl, Φ1, m, σ1, x1, st1, q1⟩
  | some v =>
    refine wpAny_bind (wpAny_mono h1 (fun _ s2 h2 => ?_) noE)
    obtain ⟨Φ1, x, σ1, x1, rx, st1, q1⟩ := h2
    refine wpAny_bind (wpAny_mono (q1 v A Φ1 s2 F hr rx st1) (fun _ s3 h3 => ?_) noE)
    obtain ⟨Φ2, m2, σ2, x2, st2, q2⟩ := h3
    refine wpAny_bind (q2.run.go hr tt st2 fun ok s4 Φ3 b σ3 x3 rb st3 q3 => ?_)
    cases rb
    cases ok
    · rw [if_neg Bool.false_ne_true]
      exact again_run ((x1.trans x2).trans x3) q3 hr st3 rfl
    · rw [if_pos rfl]
      refine wpAny_bind (wpAny_bind (W.go (show WEF G n env m2 σ3 ke _ from q3) hr tt st3 fun kv s5 Φ4 ka σ4 x4 r4 st4 q4 => wpAny_bind (wpAny_holding (W.go q4 hr tt st4 fun vv s6 Φ5 va σ5 x5 r5 st5 q5 => ?_))))
      obtain ⟨key, es, σ6, hk, U, hl, q6⟩ := q5
      obtain ⟨r, p1, p2⟩ := U.two (F := (env.locals, .ns m2) :: F)
      have hs1 := St.perm (σ' := (acc, .dict es) :: r) st5 p1
      obtain ⟨kvs, hd, rk⟩ := hs1.head
      have nd : (kvs.map (·.1)).Nodup := by obtain ⟨_, _, _, _, _, _, _, _, nd⟩ := hd; exact nd
      refine wpAny_bind (wpAny_standAt (wpAny_holding (wpAny_dictSet_pairs (knd := mixKind G.prog G.w) (AV.key_is hk (r4.ext x5)) hd (fun h' hd' hsb => ?_) (by rw [rk.len]; exact hl))))
      have st6 : St G (σ6 ++ ((env.locals, .ns m2) :: F)) Φ5 { s6 with heap := h', toks := s6.toks + 1 } := (hs1.updHead (s' := { s6 with heap := h', toks := s6.toks + 1 }) (ao' := .dict (setA es key va)) hsb.extBut ⟨_, hd', rk.map r5 nd⟩ rfl rfl).perm p2.symm
      exact again_run ((((x1.trans x2).trans x3).trans x4).trans x5) q6 hr st6 rfl
theorem WE.dictcomp {cl : List (Str × Addr)} (hclos : closureFor scope env = pure cl)
    (h : WE G n env K σ iter fun a σ₁ => W1 G n pyIter a σ₁ fun b σ₂ => ∃ it, b = .raw (.ref it) ∧ ∀ acc C, WCS G n (.DictComp ke ve [⟨target, iter, ifs, 0⟩] scope pos) 0 it acc (compEnvC scope cl C env) [] ((acc, .dict []) :: σ₂) fun _ σ₃ => Q (.raw (.ref acc)) σ₃)
    (hfold : ∀ x, foldedSetIterable iter env x = pure x) (hkind : scope.kind = .function)
    (hnames : (scope.names.all fun x => !decide (x.2 = .local) || decide (scope.names.lookup x.1 = some .local)) = true) (hcell : (scope.names.all fun x => !decide (x.2 = .cell)) = true) :
    WE G n env K σ (.DictComp ke ve [⟨target, iter, ifs, 0⟩] scope pos) Q := fun A Φ s F hr hc hs => by
  show wpAny _ A (comprehension (.DictComp ke ve [⟨target, iter, ifs, 0⟩] scope pos) scope env _ newDict false (eval iter env) none) _ _ s
  refine comp_core (g := ⟨target, iter, ifs, 0⟩) (gs := []) (Q := fun acc σ' => Q (.raw (.ref acc)) σ') rfl hfold hclos hkind hnames hcell rfl (fun _ _ _ => rfl) (fun _ _ _ => rfl) (fun _ _ _ => rfl) (fun _ _ _ => rfl) newDict_acc h hr hs ?_
  intro acc C s' Φ' σ' m' x st q
  have st1 := st.perm List.perm_middle
  obtain ⟨mm, hn, _⟩ := st1.head
  exact ⟨mm, hn, fun h' hsb => ⟨Φ', .raw (.ref acc), σ', x, rfl, st1.dropHead (s' := { s' with heap := h' }) hsb.extBut rfl rfl, q⟩⟩
end
end Mine
set_option maxRecDepth 100000
set_option autoImplicit false
namespace Mine
open PySem PySem.W PyProof.Rows PySem.Calls PySem.SeqAt
section
variable {G : Gd} {n : Nat} {env : Env} {K σ σ' : Sig} {m : Loc}
theorem WS.swap2 {t value : Expr} {x1 x2 : Str} {pos : Pos} {rest : List Stmt} {Q : AFl → Loc → Sig → Prop} (hsw : swapsWith value (some t) pos.line env = pure false) (hst : swappedStores [t] value env = pure (some [x1, x2]))
    (h1 : env.kindOf x1 = some .local) (h2 : env.kindOf x2 = some .local) (hk : env.scope.kind = .function)
    (h : WEF G n env m σ value fun a σ₁ => ∃ x y, a = .tup [x, y] ∧ WS G n env ((x1, x) :: (x2, y) :: m) σ₁ rest Q) : WS G n env m σ (.Assign [t] value pos :: rest) Q := by
  refine WS.seq fun A Φ s F hr hs => ?_
  rw [arm_exec_Assign]
  refine wpAny_bind (wpAny_standAt (wpAny_bind (wpAny_of_eq (show swapsWithSole [t] value pos.line env = pure false from hsw) ?_)))
  rw [if_neg Bool.false_ne_true]
  refine wpAny_bind (W.go h hr tt hs fun v s1 Φ1 a σ1 y1 r1 hs1 q1 => wpAny_bind (wpAny_of_eq hst ?_))
  obtain ⟨x, y, rfl, q⟩ := q1
  obtain ⟨ta, vs, rfl, e1, u, vr, rfl, rx, w, vr2, rfl, ry, e2⟩ := r1
  rw [show vr2 = [] from e2] at e1
  unfold assignStores
  refine wpAny_bind (wpAny_rule (wpAny_bind ?_))
  refine wpAny_unpackItems_tuple (items := #[u, w]) hr.h ⟨_, hs1.frz _ _ e1, rfl, 0, rfl⟩ fun h' hx => ?_
  have st := hs1.keeps (s' := { s1 with heap := h' }) (fun b o e => hx b o (Nat.ne_of_lt (Heap.lt_size e)) e) rfl rfl
  show wpAny _ A ((holding [u] (bindName env x2 w) >>= fun _ => holding [] (bindName env x1 u) >>= fun _ => pure ()) >>= fun _ => pure Flow.next) _ _ _
  obtain ⟨mm, hn, hv⟩ := St.mem st (a := env.locals) (ao := .ns m) (List.mem_append_right _ (.head _))
  refine wpAny_bind (wpAny_bind (wpAny_holding (wpAny_bindName (wpAny_storeName_local h2 hn (fun h3 hn3 hb3 => ?_) (by rw [hk]; rfl)))))
  have st3 := St.setNs st ry hv hn3 hb3 (tk := s1.toks)
  obtain ⟨mm4, hn4, hv4⟩ := st3.mem (a := env.locals) (ao := .ns ((x2, y) :: m)) (List.mem_append_right _ (.head _))
  refine wpAny_bind (wpAny_holding (wpAny_bindName (wpAny_storeName_local h1 hn4 (fun h5 hn5 hb5 => wpAny_pure (wpAny_pure ?_)) (by rw [hk]; rfl))))
  exact ⟨Φ1, .next, _, σ1, y1, rfl, st3.setNs rx hv4 hn5 hb5, q⟩
end
end Mine
set_option maxRecDepth 100000
set_option autoImplicit false
namespace Mine
open PySem PySem.W PyProof.Rows PySem.Calls PySem.SeqAt
noncomputable abbrev KOk (G : Gd) : Prop := G.K = kk.heap_1 G.w.params
section
variable {G : Gd} {n : Nat} {env : Env} {K σ σ' : Sig} {m : Loc}
theorem WE.globalK {K0 : Frag} {x : Str} {pos : Pos} {v : Value} {Q : AV → Sig → Prop} (hK : G.K = K0) (e : nsIn K0 mainGlobals x = some (some v)) (h : Q (.raw v) σ)
    (hg : env.globals = mainGlobals) (hl : env.kindOf x = some .globalImplicit) (hk : env.scope.kind = .function) (hd : (x == ("__debug__" : Str)) = false) : WE G n env K σ (.Name x pos) Q :=
  WE.global (by rw [hK]; exact e) h hg hl hk hd
theorem WE.builtinK {K0 : Frag} {x : Str} {pos : Pos} {v : Value} {Q : AV → Sig → Prop} (hK : G.K = K0) (e : nsIn K0 mainGlobals x = some none) (hv : bootBuiltins x = some v) (hn : x ≠ "__name__") (h : Q (.raw v) σ)
    (hg : env.globals = mainGlobals) (hb : env.builtins = builtinsNs) (hl : env.kindOf x = some .globalImplicit) (hk : env.scope.kind = .function) (hd : (x == ("__debug__" : Str)) = false) : WE G n env K σ (.Name x pos) Q :=
  WE.builtin (by rw [hK]; exact e) hv hn h hg hb hl hk hd
theorem TupK.mk' {Q : AV → Sig → Prop} {l : List AV} (hl : l.length ≤ sizeLine) (h : Q (.tup l) σ) : TupK Q l σ := ⟨h, hl⟩
theorem ListK.mk' {Q : AV → Sig → Prop} {l : List AV} (hl : l.length ≤ sizeLine) (h : ∀ a, Q (.raw (.ref a)) ((a, .list l) :: σ)) : ListK Q l σ := ⟨h, hl⟩
theorem Fin.skip {Q : AV → Sig → Prop} {fl : AFl} {g : Addr × AObj} (h : Fin Q fl m σ) : Fin Q fl m (g :: σ) := let ⟨S, R, p, q⟩ := h; ⟨S, g :: R, (p.cons g).trans List.perm_middle.symm, q⟩
theorem Fin.sub {Q : AV → Sig → Prop} {fl : AFl} (h : Fin Q fl m σ') (p : σ'.Sublist σ) : Fin Q fl m σ := by
  obtain ⟨S, R, p1, q⟩ := h
  obtain ⟨R', p2⟩ := p.exists_perm_append
  exact ⟨S, R ++ R', p2.trans ((p1.append_right R').trans (by rw [List.append_assoc])), q⟩
theorem W2.isNone_ref {a : Addr} {Q : AV → Sig → Prop} (h : Q (.bool false) σ) : W2 G n (compareOp .Is) (.raw (.ref a)) .none σ Q := fun v w A Φ s F hr ⟨ra, rb⟩ hs => by
  rw [show w = Value.none from rb, show v = Value.ref a from ra]
  exact wpAny_is_other rfl (fun e => nomatch e) ⟨Φ, AV.bool _, σ, .refl _, rfl, hs, h⟩
theorem Fin.swap {Q : AV → Sig → Prop} {fl : AFl} {g g' : Addr × AObj} (h : Fin Q fl m (g' :: g :: σ)) : Fin Q fl m (g :: g' :: σ) := let ⟨S, R, p, q⟩ := h; ⟨S, R, (List.Perm.swap ..).trans p, q⟩
theorem mem_here {p : Addr × AObj} {l : Sig} : p ∈ p :: l := .head _
theorem mem_there {p q : Addr × AObj} {l : Sig} (h : p ∈ l) : p ∈ q :: l := .tail _ h
noncomputable def ItK (R : Addr → Sig → Prop) (b : AV) (σ : Sig) : Prop := ∃ it, b = .raw (.ref it) ∧ R it σ
theorem iterTup {xs : List AV} {R : Addr → Sig → Prop} (h : ∀ it, R it ((it, .tupIter xs) :: σ)) : W1 G n pyIter (.tup xs) σ fun b σ₂ => ∃ it, b = .raw (.ref it) ∧ R it σ₂ := W1.iter_tup fun it => ⟨it, rfl, h it⟩
theorem iterList {l : Addr} {xs : List AV} {R : Addr → Sig → Prop} (hm : (l, .list xs) ∈ σ) (h : ∀ it, R it ((it, .listIter l 0) :: σ)) : W1 G n pyIter (.raw (.ref l)) σ fun b σ₂ => ∃ it, b = .raw (.ref it) ∧ R it σ₂ := W1.iter_list hm fun it => ⟨it, rfl, h it⟩
theorem iterEnum {e it : Addr} {i : Nat} {R : Addr → Sig → Prop} (hm : (e, .enumIter it i) ∈ σ) (h : R e σ) : W1 G n pyIter (.raw (.ref e)) σ fun b σ₂ => ∃ it, b = .raw (.ref it) ∧ R it σ₂ := W1.iter_enum hm ⟨e, rfl, h⟩
section
variable {it acc : Addr} {target elt : Expr} {ifs : List Expr} {e : Expr} {depth : Nat}
theorem WCS.tup {xs : List AV} {Q : Loc → Sig → Prop} (hm : (it, .tupIter xs) ∈ σ) (h : WCL G n e depth it acc env m σ Q) : WCS G n e depth it acc env m σ Q := ⟨SelfIt.tup hm, h⟩
theorem WCS.list {l : Addr} {i : Nat} {Q : Loc → Sig → Prop} (hm : (it, .listIter l i) ∈ σ) (h : WCL G n e depth it acc env m σ Q) : WCS G n e depth it acc env m σ Q := ⟨SelfIt.list hm, h⟩
theorem WCS.range {x y z : Int} {Q : Loc → Sig → Prop} (hm : (it, .rangeIter x y z) ∈ σ) (h : WCL G n e depth it acc env m σ Q) : WCS G n e depth it acc env m σ Q := ⟨SelfIt.range hm, h⟩
theorem WCS.enum {y : Addr} {i : Nat} {Q : Loc → Sig → Prop} (hm : (it, .enumIter y i) ∈ σ) (h : WCL G n e depth it acc env m σ Q) : WCS G n e depth it acc env m σ Q := ⟨SelfIt.enum hm, h⟩
theorem WCS.key {xs : List AV} {Q : Loc → Sig → Prop} (hm : (it, .keyIter xs) ∈ σ) (h : WCL G n e depth it acc env m σ Q) : WCS G n e depth it acc env m σ Q := ⟨SelfIt.key hm, h⟩
theorem CTurn.mk {Q : Loc → Sig → Prop} (h : WN G n it target σ (fun σ₁ => Q m σ₁) fun x σ₁ => WA G n env m σ₁ target x fun m₁ σ₂ => WIfs G n env m₁ ifs σ₂ fun b σ₃ =>
    if b then Emit G n env m₁ σ₃ acc elt fun σ₄ => WCL G n e depth it acc env m₁ σ₄ Q else WCL G n e depth it acc env m₁ σ₃ Q) : CTurn G n e depth it acc env target elt ifs m σ Q := h
noncomputable def EmitK (acc : Addr) (k : Sig → Prop) (x : AV) (σ₁ : Sig) : Prop := ∃ l σ₂, Upd acc (.list l) (.list (l ++ [x])) σ₁ σ₂ ∧ l.length ≤ sizeLine ∧ k σ₂
theorem Emit.mk {k : Sig → Prop} (h : WEF G n env m σ elt (EmitK acc k)) : Emit G n env m σ acc elt k := h
theorem EmitK.mk {k : Sig → Prop} {x : AV} {l : List AV} (U : Upd acc (.list l) (.list (l ++ [x])) σ σ') (hl : l.length ≤ sizeLine) (h : k σ') : EmitK acc k x σ := ⟨l, σ', U, hl, h⟩
theorem WIfs.nil_ {Q : Bool → Sig → Prop} (h : Q true σ) : WIfs G n env m [] σ Q := h
theorem WIfs.cons_ {c : Expr} {r : List Expr} {Q : Bool → Sig → Prop} (h : WBF G n env m σ c fun b σ₁ => if b then WIfs G n env m r σ₁ Q else Q false σ₁) : WIfs G n env m (c :: r) σ Q := h
theorem WAs.nil_ {Q : Loc → Sig → Prop} (h : Q m σ) : WAs G n env [] [] m σ Q := h
theorem WAs.cons_ {t : Expr} {ts : List Expr} {x : AV} {xs : List AV} {Q : Loc → Sig → Prop} (h : WA G n env m σ t x fun m' σ' => WAs G n env ts xs m' σ' Q) : WAs G n env (t :: ts) (x :: xs) m σ Q := h
end
theorem WCd.le {k : Nat} {f : AV} {args : List AV} {Q : AV → Sig → Prop} (h : WCd G k f args σ Q) (hk : k ≤ n) : WCd G n f args σ Q := fun fv vs A Φ s F hr => h fv vs A Φ s F (hr.le hk)
theorem WC.le {k : Nat} {f : AV} {args : List AV} {Q : AV → Sig → Prop} (h : WC G k f args σ Q) (hk : k ≤ n) : WC G n f args σ Q := fun fv vs A Φ s F hr => h fv vs A Φ s F (hr.le hk)
theorem WCall.le {k : Nat} {f : AV} {args : List AV} {Q : AV → Sig → Prop} (h : WCall G k f args σ Q) (hk : k ≤ n) : WCall G n f args σ Q := ⟨h.1, h.2.le hk⟩
theorem WC.mono {f : AV} {args : List AV} {Q Q' : AV → Sig → Prop} (h : WC G n f args σ Q) (k : ∀ a σ', Q a σ' → Q' a σ') : WC G n f args σ Q' := fun fv vs A Φ s F hr hK r1 r2 hs =>
  wpAny_mono (h fv vs A Φ s F hr hK r1 r2 hs) (fun v s' ⟨Φ', b, σ', a1, a2, a3, a4⟩ => ⟨Φ', b, σ', a1, a2, a3, k _ _ a4⟩) noE
theorem WCall.mono {f : AV} {args : List AV} {Q Q' : AV → Sig → Prop} (h : WCall G n f args σ Q) (k : ∀ a σ', Q a σ' → Q' a σ') : WCall G n f args σ Q' := ⟨h.1, h.2.mono k⟩
theorem WC.frame {R : Sig} {f : AV} {args : List AV} {Q : AV → Sig → Prop} (h : WC G n f args σ fun a σ' => Q a (R ++ σ')) : WC G n f args (R ++ σ) Q := fun fv vs A Φ s F hr hK r1 r2 hs => by
  have p : ∀ σ : Sig, ((R ++ σ) ++ F).Perm (σ ++ (R ++ F)) := fun σ => by
    rw [← List.append_assoc]; exact List.Perm.append_right _ List.perm_append_comm
  refine wpAny_mono (h fv vs A Φ s (R ++ F) hr ?_ r1 r2 (hs.perm (p σ))) (fun v s' ⟨Φ', b, σ', a1, a2, a3, a4⟩ => ⟨Φ', b, R ++ σ', a1, a2, a3.perm (p σ').symm, a4⟩) noE
  obtain ⟨L, m, e⟩ := hK; exact ⟨L, m, List.mem_append_right _ e⟩
theorem WCall.frame {R : Sig} {f : AV} {args : List AV} {Q : AV → Sig → Prop} (h : WCall G n f args σ fun a σ' => Q a (R ++ σ')) : WCall G n f args (R ++ σ) Q := ⟨h.1, h.2.frame⟩
theorem WCall.skip {g : Addr × AObj} {f : AV} {args : List AV} {Q : AV → Sig → Prop} (h : WCall G n f args σ fun a σ' => Q a (g :: σ')) : WCall G n f args (g :: σ) Q := WCall.frame (R := [g]) h
theorem WC.pre {f : AV} {args : List AV} {Q : AV → Sig → Prop} {R : Sig} (h : WC G n f args σ' Q) (p : σ.Perm (σ' ++ R)) : WC G n f args σ Q := fun fv vs A Φ s F hr hK r1 r2 hs =>
  h fv vs A Φ s F hr hK r1 r2 ((hs.perm (σ' := σ' ++ (R ++ F)) (by rw [← List.append_assoc σ' R]; exact p.append_right _)).sub (List.Sublist.append_left (List.sublist_append_right _ _) _))
theorem WCall.pre {f : AV} {args : List AV} {Q : AV → Sig → Prop} {R : Sig} (h : WCall G n f args σ' Q) (p : σ.Perm (σ' ++ R)) : WCall G n f args σ Q := ⟨h.1, h.2.pre p⟩
end
section
variable {G : Gd} {n : Nat} {env : Env} {K σ σ' : Sig} {m : Loc} {K0 : Frag}
theorem W1.attrK {x C dx : Addr} {name : Str} {am : Loc} {a : AV} {Q : AV → Sig → Prop} (hK : G.K = K0) (hm : (dx, .attrs am) ∈ σ) (hl : am.lookup name = some a) (hc : GetOk K0 C name = true) (hh : a.hand = true) (h : Q a σ) :
    W1 G n (fun o => getAttr o name true) (.obj x (instObj C dx)) σ Q := W1.attr hm hl (by rw [hK]; exact hc) hh h
theorem W1.boundK {x C dx f : Addr} {name : Str} {Q : AV → Sig → Prop} {am : Loc} (hK : G.K = K0) (hm : (dx, .attrs am) ∈ σ) (hl : am.lookup name = none)
    (hg : plainGet K0 C name = true) (hf : findIn K0 (.ref C) name = some (some (.ref f))) (hft : typeIn K0 (.ref f) = some (.type "function"))
    (hc : findObj K0 C (some (dictOf [] 0)) name = some (.bind (.builtin "function.__get__") (.ref f))) (hcop : copiedNames.contains name = false)
    (h : Q (.meth f (.obj x (instObj C dx))) σ) : W1 G n (fun o => getAttr o name true) (.obj x (instObj C dx)) σ Q := by
  subst hK; exact W1.bound hm hl hg hf hft hc hcop h
theorem WM.instK {x C dx f : Addr} {name : Str} {am : Loc} {Q : AV → List AV → Sig → Prop} (hK : G.K = K0) (hm : (dx, .attrs am) ∈ σ) (hl : am.lookup name = none) (hg : plainGet K0 C name = true)
    (hf : findIn K0 (.ref C) name = some (some (.ref f))) (ht : typeIn K0 (.ref f) = some (.type "function")) (h : Q (.raw (.ref f)) [.obj x (instObj C dx)] σ) : WM G n name (.obj x (instObj C dx)) σ Q := by
  subst hK; exact WM.inst hm hl hg hf ht h
noncomputable def AttK (G : Gd) (name : Str) (a : AV) (m : Loc) (Q : Loc → Sig → Prop) (b : AV) (σ₁ : Sig) : Prop := ∃ x C dx am σ₂, b = .obj x (instObj C dx) ∧ Upd dx (.attrs am) (.attrs (putA name a am)) σ₁ σ₂ ∧ SetOk G.K C name = true ∧ am.length ≤ 900 ∧ Q m σ₂
theorem WA.attr' {o : Expr} {name : Str} {pos : Pos} {a : AV} {Q : Loc → Sig → Prop} (h : WEF G n env m σ o (AttK G name a m Q)) : WA G n env m σ (.Attribute o name pos) a Q := WA.attr (x := 0) (C := 0) (dx := 0) h
theorem AttK.mk {x C dx : Addr} {name : Str} {am am' : Loc} {a : AV} {Q : Loc → Sig → Prop} (hK : G.K = K0) (U : Upd dx (.attrs am) (.attrs am') σ σ') (hc : SetOk K0 C name = true) (hp : putA name a am = am') (hz : am.length ≤ 900) (h : Q m σ') : AttK G name a m Q (.obj x (instObj C dx)) σ := by
  subst hp; exact ⟨x, C, dx, am, σ', rfl, U, by rw [hK]; exact hc, hz, h⟩
theorem WCall.make {C fI : Addr} {args : List AV} {Q : AV → Sig → Prop} (hK : G.K = K0) (hk : keepIn K0 (.ref C) = true) (hm : makesIn K0 C = true) (hi : findIn K0 (.ref C) "__init__" = some (some (.ref fI))) (hf : typeIn K0 (.ref fI) = some (.type "function"))
    (h : ∀ x dx, WCd G n (.raw (.ref fI)) (.obj x (instObj C dx) :: args) ((dx, .attrs []) :: σ) fun r σ' => r = .none ∧ Q (.obj x (instObj C dx)) σ') : WCall G (n + 1) (.raw (.ref C)) args σ Q := by
  subst hK; exact ⟨WK.keep hk, .of (.make hm hi hf h)⟩
noncomputable def D1K (Q : AV → Sig → Prop) (a b : AV) (σ₂ : Sig) : Prop := ∃ key, a.key = some key ∧ ∀ d, Q (.raw (.ref d)) ((d, .dict [(key, b)]) :: σ₂)
theorem D1K.mk {Q : AV → Sig → Prop} {a b : AV} {key : AK} (hk : a.key = some key) (h : ∀ d, Q (.raw (.ref d)) ((d, .dict [(key, b)]) :: σ)) : D1K Q a b σ := ⟨key, hk, h⟩
theorem WE.dict1' {k v : Expr} {pos : Pos} {Q : AV → Sig → Prop} (h : WE G n env K σ k fun a σ₁ => WE G n env K σ₁ v fun b σ₂ => D1K Q a b σ₂) : WE G n env K σ (.Dict [some k] [v] pos) Q := .dict1 h
theorem HB.deflt {fd : FuncData} {names : List Str} {args dargs : List AV} {ds : List Value} (hb : ∀ s : Shared, G.K.In s.heap → ∀ vs : List Value, vs.length = args.length → BindsTo s fd ⟨vs, []⟩ (names.zip (vs ++ ds)))
    (hr : ∀ Φ, VReps Φ dargs ds) (hl : args.length + dargs.length = names.length) {m : Loc} (hm : names.zip (args ++ dargs) = m) : HB G fd args m := fun vs Φ s r _ X =>
  ⟨_, hb s X vs r.length, hm ▸ BindRep.zip (r.append (hr Φ)) (by rw [List.length_append, hl]; exact Nat.le_refl _)⟩
noncomputable def ListR (Q : AV → Sig → Prop) (R : Nat) : Prop := True
end
theorem CTurnD.mk {G : Gd} {n : Nat} {env : Env} {σ : Sig} {m : Loc} {it acc : Addr} {e target ke ve : Expr} {ifs : List Expr} {Q : Loc → Sig → Prop} (h : WN G n it target σ (fun σ₁ => Q m σ₁) fun x σ₁ => WA G n env m σ₁ target x fun m₁ σ₂ => WIfs G n env m₁ ifs σ₂ fun b σ₃ =>
    if b then EmitD G n env m₁ σ₃ acc ke ve fun σ₄ => WCL G n e 0 it acc env m₁ σ₄ Q else WCL G n e 0 it acc env m₁ σ₃ Q) : CTurnD G n e it acc env target ke ve ifs m σ Q := h
noncomputable def EmitDK (acc : Addr) (k : Sig → Prop) (x y : AV) (σ₂ : Sig) : Prop := ∃ key es σ₃, x.key = some key ∧ Upd acc (.dict es) (.dict (setA es key y)) σ₂ σ₃ ∧ es.length ≤ sizeLine ∧ k σ₃
theorem EmitD.mk {G : Gd} {n : Nat} {env : Env} {σ : Sig} {m : Loc} {acc : Addr} {ke ve : Expr} {k : Sig → Prop} (h : WEF G n env m σ ke fun x σ₁ => WEF G n env m σ₁ ve fun y σ₂ => EmitDK acc k x y σ₂) : EmitD G n env m σ acc ke ve k := h
theorem EmitDK.mk {acc : Addr} {k : Sig → Prop} {x y : AV} {σ₂ σ₃ : Sig} {key : AK} {es : List (AK × AV)} (hk : x.key = some key) (U : Upd acc (.dict es) (.dict (setA es key y)) σ₂ σ₃) (hl : es.length ≤ sizeLine) (h : k σ₃) : EmitDK acc k x y σ₂ := ⟨key, es, σ₃, hk, U, hl, h⟩
theorem WCall.mk {G : Gd} {n : Nat} {σ : Sig} {f : AV} {args : List AV} {Q : AV → Sig → Prop} (h1 : WK G f) (h2 : WC G n f args σ Q) : WCall G n f args σ Q := ⟨h1, h2⟩
theorem WA.sub' {G : Gd} {n : Nat} {env : Env} {σ : Sig} {m : Loc} {o i : Expr} {pos : Pos} {a : AV} {Q : Loc → Sig → Prop}
    (h : WEF G n env m σ o fun b σ₁ => WEF G n env m σ₁ i fun c σ₂ => W3 G n setItem b c a σ₂ fun σ₃ => Q m σ₃) : WA G n env m σ (.Subscript o i pos) a Q := .sub h
set_option genInjectivity true in
inductive Rg where
  | anon
  | num (i : Int)
  | name (s : Str)
  deriving DecidableEq
noncomputable def Rg.av : Rg → AV
  | .anon => .none
  | .num i => .int i
  | .name s => .str s
inductive Ty where
  | u8 | param
  | ref (r : Rg) (m : Bool) (t : Ty)
noncomputable def Ty.av : Ty → AV
  | .u8 => .tup [.str "int", .str "u8"]
  | .param => .tup [.str "param", .str "T"]
  | .ref r m t => .tup [.str "ref", r.av, .bool m, t.av]
noncomputable def Ty.parts : Ty → List Ty
  | .ref _ _ t => [t]
  | _ => []
noncomputable def Ty.subst : Ty → Ty → Ty
  | .param, p => p
  | .u8, _ => .u8
  | .ref r m t, p => .ref r m (t.subst p)
noncomputable def Ty.ht : Ty → Nat
  | .ref _ _ t => t.ht + 1
  | _ => 0
theorem WE.localK {m : Loc} {x : Str} {pos : Pos} {a : AV} {K' : Sig} {G : Gd} {n : Nat} {env : Env} {σ : Sig} {Q : AV → Sig → Prop} (hl : env.kindOf x = some .local) (hk : env.scope.kind = .function) (hm : m.lookup x = some a)
    (hd : (x == ("__debug__" : Str)) = false) (h : Q a σ) : WE G n env ((env.locals, .ns m) :: K') σ (.Name x pos) Q := WE.local hm h hl hk hd
theorem WE.cellK {x : Str} {pos : Pos} {c : Addr} {a : AV} {G : Gd} {n : Nat} {env : Env} {K σ : Sig} {Q : AV → Sig → Prop} (hl : env.kindOf x = some .cell) (hk : env.scope.kind = .function) (hc : env.cells.lookup x = some c) (hm : (c, .cell (some a)) ∈ σ)
    (hd : (x == ("__debug__" : Str)) = false) (h : Q a σ) : WE G n env K σ (.Name x pos) Q := WE.cell hc hm h hl hk hd
theorem WE.freeK {x : Str} {pos : Pos} {c : Addr} {a : AV} {G : Gd} {n : Nat} {env : Env} {K σ : Sig} {Q : AV → Sig → Prop} (hl : env.kindOf x = some .free) (hk : env.scope.kind = .function) (hc : env.cells.lookup x = some c) (hm : (c, .cell (some a)) ∈ σ)
    (hd : (x == ("__debug__" : Str)) = false) (hn : (x == ("__classdict__" : Str)) = false) (h : Q a σ) : WE G n env K σ (.Name x pos) Q := WE.free hc hm h hl hk hd hn
end Mine
set_option compiler.extract_closed false
open Lean in
def Mine.tN (k : String) (as : Array Syntax) : Syntax := .node .none (.str `Lean.Parser.Term k) as
open Lean in
def Mine.cN (k : String) (as : Array Syntax) : Syntax := .node .none (.str `Lean.Parser.Tactic k) as
open Lean in
def Mine.aN (s : String) : Syntax := .atom .none s
open Lean in
def Mine.nN (as : Array Syntax) : Syntax := .node .none `null as
open Lean in
def Mine.iN (s : String) : Syntax := mkIdent s.toName
open Lean in
def Mine.wSeq (ts : Array Syntax) : Syntax := Mine.cN "tacticSeq" #[Mine.cN "tacticSeq1Indented" #[Mine.nN (mkSepArray ts (.atom .none ";"))]]
open Lean in
def Mine.xH : Syntax := Mine.tN "hole" #[Mine.aN "_"]
open Lean in
def Mine.xQ : Syntax := Mine.tN "syntheticHole" #[Mine.aN "?", Mine.aN "_"]
open Lean in
def Mine.xBy (ts : Array Syntax) : Syntax := Mine.tN "byTactic" #[Mine.aN "by", Mine.wSeq ts]
open Lean in
def Mine.xUa (t : Syntax) : Syntax := Mine.cN "withUnfoldingAll" #[Mine.aN "with_unfolding_all", Mine.wSeq #[t]]
open Lean in
def Mine.xWr (t : Syntax) : Syntax := Mine.cN "withReducible" #[Mine.aN "with_reducible", Mine.wSeq #[t]]
open Lean in
def Mine.xApp (f : String) (as : Array Syntax) : Syntax := Mine.tN "app" #[Mine.iN f, Mine.nN as]
open Lean in
def Mine.xRf (e : Syntax) : Syntax := Mine.cN "refine" #[Mine.aN "refine", e]
open Lean in
def Mine.xEx (e : Syntax) : Syntax := Mine.cN "exact" #[Mine.aN "exact", e]
open Lean in
def Mine.xFirst (ts : Array Syntax) : Syntax := Mine.cN "first" #[Mine.aN "first", Mine.nN (ts.map fun t => .node .none `group #[Mine.aN "|", t])]
open Lean in
def Mine.xRep (ts : Array Syntax) : Syntax := Mine.cN "tacticRepeat_" #[Mine.aN "repeat", Mine.wSeq #[Mine.xFirst (ts.map fun t => Mine.wSeq #[t])]]
open Lean in
def Mine.xTac (k s : String) : Syntax := Mine.cN k #[Mine.aN s]
open Lean in
def Mine.xEnd (t : Syntax) : Syntax := Mine.xFirst #[Mine.wSeq #[Mine.xTac "done" "done"], Mine.wSeq #[t]]
open Lean in
def Mine.xFun (n : Nat) (e : Syntax) : Syntax := Mine.tN "fun" #[Mine.aN "fun", Mine.tN "basicFun" #[Mine.nN (Array.replicate n Mine.xH), Mine.nN #[], Mine.aN "=>", e]]
open Lean in
def Mine.xR0 : Syntax := Mine.xUa (Mine.xTac "tacticRfl" "rfl")
open Lean in
def Mine.xR : Syntax := Mine.xBy #[Mine.xR0]
open Lean in
def Mine.xApply (f : String) : Syntax := Mine.cN "apply" #[Mine.aN "apply", Mine.iN f]
open Lean in
def Mine.xThere : Syntax := Mine.xRf (Mine.xApp "Mine.mem_there" #[Mine.xQ])
open Lean in
def Mine.xHere : Syntax := Mine.xEx (Mine.iN "Mine.mem_here")
open Lean in
def Mine.xUh : Syntax := Mine.xEx (Mine.xApp "Mine.Upd.here" #[Mine.xH, Mine.xH, Mine.xH, Mine.xH])
open Lean in
def Mine.xUt : Syntax := Mine.xApply "Mine.Upd.there"
open Lean in
def Mine.xAh : Syntax := Mine.xEx (Mine.xApp "Mine.At.here" #[Mine.xH, Mine.xH, Mine.xH])
open Lean in
def Mine.xAt : Syntax := Mine.xApply "Mine.At.there"
open Lean in
def Mine.xAsm : Syntax := Mine.xTac "assumption" "assumption"
open Lean in
def Mine.xFail : Syntax := Mine.cN "fail" #[Mine.aN "fail", Mine.nN #[]]
open Lean in
def Mine.xL : Syntax := Mine.xApp "Nat.le_of_ble_eq_true" #[Mine.xR]
open Lean in
def Mine.xD : Syntax := Mine.xBy #[Mine.xUa (Mine.cN "decide" #[Mine.aN "decide", Mine.cN "optConfig" #[Mine.nN #[]]])]
open Lean in
def Mine.xM : Syntax := Mine.xBy #[Mine.xRep #[Mine.xWr Mine.xHere, Mine.xWr Mine.xThere], Mine.xEnd Mine.xAsm]
open Lean in
def Mine.xU : Syntax := Mine.xBy #[Mine.xRep #[Mine.xWr Mine.xUh, Mine.xWr Mine.xUt], Mine.xEnd Mine.xFail]
open Lean in
def Mine.xW : Syntax := Mine.xBy #[Mine.xRep #[Mine.xWr Mine.xAh, Mine.xWr Mine.xAt], Mine.xEnd Mine.xFail]
open Lean in
def Mine.xK : Syntax := Mine.xBy #[Mine.xAsm]
open Lean in
def Mine.xG : Syntax := Mine.xBy #[Mine.xUa (Mine.xEx (Mine.xFun 2 (Mine.iN "rfl")))]
open Lean in
def Mine.xF : Syntax := Mine.xFun 1 Mine.xR
open Lean in
def Mine.xV : Syntax := Mine.tN "app" #[Mine.tN "dotIdent" #[Mine.aN ".", Mine.iN "av"], Mine.nN #[Mine.xR]]
def Mine.wCode (c : Char) : Lean.Syntax := match c with
  | '?' => Mine.xQ
  | 'r' => Mine.xR
  | 'd' => Mine.xD
  | 'm' => Mine.xM
  | 'u' => Mine.xU
  | 't' => Mine.xW
  | 'k' => Mine.xK
  | 'l' => Mine.xL
  | 'g' => Mine.xG
  | 'f' => Mine.xF
  | 'h' => Mine.iN "Mine.HasNs.hd"
  | 'v' => Mine.xV
  | 'V' => Mine.iN "trivial"
  | 'T' => Mine.xApp "Mine.WK.type" #[Mine.xH]
  | 'B' => Mine.xApp "Mine.WK.builtin" #[Mine.xH]
  | 'E' => Mine.xApp "Mine.AV.raw" #[Mine.xApp "PySem.Value.type" #[Lean.Syntax.mkStrLit "enumerate"]]
  | 'a' => Mine.xApp "Mine.CTurn.mk" #[Mine.xQ]
  | 'b' => Mine.xApp "Mine.CTurnD.mk" #[Mine.xQ]
  | 'c' => Mine.xApp "Mine.CTurn2.mk" #[Mine.xQ]
  | 'A' => Mine.xApp "Mine.WC.isint" #[Mine.iN "trivial", Mine.xQ]
  | 'C' => Mine.xApp "Mine.WC.enum_tup" #[Mine.xQ]
  | 'e' => Mine.xApp "Mine.WC.enum_list" #[Mine.xM, Mine.xQ]
  | 'i' => Mine.xApp "Mine.WC.int_int" #[Mine.xQ]
  | 'j' => Mine.xApp "Mine.WC.int_bool" #[Mine.xQ]
  | 'N' => Mine.xApp "PySem.Expr.Name" #[Mine.xH, Mine.xH]
  | 'O' => Mine.xApp "PySem.Expr.Tuple" #[Mine.xH, Mine.xH, Mine.xH]
  | 'S' => Mine.xApp "PyProof.Rows.subscriptTail" #[Mine.xH, Mine.xH]
  | 'I' => Mine.iN "PySem.pyIter"
  | _ => Mine.xH
def Mine.wTerm (n c : String) : Lean.Syntax := Mine.xApp ("Mine." ++ n) (c.toList.toArray.map Mine.wCode)
open Lean in
def Mine.wKey (k : String) : Syntax := .node .none `PyProof.Rows.tacticWalk_at_ #[.atom .none "walk_at", Syntax.mkStrLit k]
open Lean in
def Mine.wInt : Syntax := Mine.cN "intro" #[Mine.aN "intro", Mine.nN #[Mine.xH]]
open Lean in
def Mine.wAlt (go : String → Syntax) (s : String) : Syntax :=
  let sh (n c : String) : Syntax := Mine.cN "show" #[Mine.aN "show", Mine.wTerm n c]
  match s.splitOn " " with
  | [n, c] => Mine.wSeq #[Mine.xRf (Mine.wTerm n c)]
  | [n, c, k] => Mine.wSeq #[sh n c, go k]
  | [_, n, c, k] => Mine.wSeq #[Mine.xUa (sh n c), go k]
  | [n, c, p, _, _] => Mine.wSeq (#[Mine.xRf (Mine.wTerm n c)] ++ p.toList.toArray.map fun c => if c == 'l' then Mine.xEx Mine.xL else Mine.wInt)
  | [k] => Mine.wSeq #[go k]
  | _ => Mine.wSeq #[Mine.wInt, Mine.wInt, go "gCS"]
def Mine.wKeys (k : String) : String := match k with
  | "wcore" => "WE _______ gWE|WS _______ gWS|WB _______ gWB|W2 _______ gW2|W1 ______ gW1|WA ________ gWA|WCall ______ gWC|WN _______ gWN|gO"
  | "gWE" => "WE _____N_ gN|WE.sub ?|WE.const_str ?|WE.const_int ?|WE.attr ?r|WE.mcall ?rrdrrh|WE.call ?rrh|WE.tuple ?r|WE.binop ?|WE.compare ?r|WE.list ?r|WE.ifexp ?|WE.const_none ?|WE.const_bool ?|WE.unary ?|WE.dict0 ? i . .|WE.dict1' ?|WE.dictcomp r?frrr|WE.listcomp r?frrr"
  | "gN" => "WE.localK rrrr?|WE.cellK rrrmr?|WE.freeK rrrmrr?|WE.globalK kr?rrrr|WE.builtinK krrd?rrrrr"
  | "gWS" => "WS.ret ?|WS.ite0 ?|WS.for ?f|WS.ite ?|WS.assign ?rrr|WS.expr ?rr|WS.nil ?"
  | "gWB" => "WB.compare ?r|WB.and ?|WB.or ?|WB.not ?|WB.value ?r"
  | "gW2" => "W2 __S____ gST|W2.eq vvd?|W2.ne vvd?|W2.isNone_ref ?|W2.isNone V?|W2.add ?|W2.sub ?|W2.gt ?|W2.lt ?|W2.le ?|W2.ge ?"
  | "gST" => "W2.item_tup ddr?g|W2.item_list mddr?g|W2.item_dict mrr?g"
  | "gW1" => "W1 __I___ gIt|W1.attrK kmrrr?"
  | "gIt" => "iterTup ? i . .|iterList m? i . .|iterEnum m?"
  | "gWA" => "WA.name ?rr|WA.attr' ?|WA.sub' ?|WA.tuple ?rr|WA _____N__ gWAn|WA _____O__ gWAt"
  | "gWAn" => "WA.cell ru?rr"
  | "gWAt" => "WA.tupleL m?rr"
  | "gWC" => "WCall.mk BA|WCall.mk TC ii . .|! WCall __E___ gWCe"
  | "gWCe" => "WCall.mk Te ii . ."
  | "gWN" => "WN.enum_tup_item ruu?|WN.enum_tup_end mt?|WN.tup_item u?|WN.tup_end t?"
  | "gO" => "kbool ?|WEs.nil_ ?|WEs.cons_ ?|WAnd.cons ?|WOr.cons ?|WAnd.nil ?|WOr.nil ?|TupK.mk' ?? l . .|ListK.mk' ?? li . .|WT.bool ?|Seq.next ?|Seq.ret ?|AttK _______ gAt|WM ______ gWM|ite_t r?|ite_f r?|i i i i i i|EmitD.mk ?|D1K.mk r? i . .|EmitDK _____ gED|WIfs.nil_ ?|WIfs.cons_ ?|Emit.mk ?|EmitK ____ gE|WAs.nil_ ?|WAs.cons_ ?"
  | "gAt" => "AttK.mk kurrl?"
  | "gWM" => "WM.instK kmrrrr?"
  | "gED" => "EmitDK.mk rul?"
  | "gE" => "EmitK.mk ul?"
  | "gCS" => "WCS.tup m?|WCS.list m?|WCS.range m?|WCS.enum m?|WCS.key m?"
  | "gLp" => "WCL.turn1 a|WCL.turnD b|WCL.turn2b a"
  | "gLq" => "WCL.turn1 a|WCL.turnD b|WCL.turn2b a|WCL.turn2a cf"
  | "w" => "WCL __________ gLp|WF.turn ?|wcore"
  | "u" => "WN _______ gWNl|WCS __________ gC1|wcore"
  | "gC1" => "WCS.list1 m?"
  | "gWNl" => "WN.listI umr?|WN.listE tmr?"
  | "v" => "WCL __________ gLq|WF.turn ?|u"
  | "t" => "Turn.next_ ?|v"
  | "x" => "WE _______ gU8|WCall ______ gWCi|Turn.next_ ?|u"
  | "gU8" => "WE.u8 k?rrr"
  | "gWCi" => "WCall.mk Ti|WCall.mk Tj"
  | "y" => "WE _______ gMB|x"
  | "gMB" => "WE.mulBit h?|WE.or2 ?"
  | "z" => "WS.assignComp r?frrrr|y"
  | "s" => "WE _______ gSl|WCS __________ gCt|z"
  | "gSl" => "WE.slice2c ?"
  | "gCt" => "WCS.tup m?"
  | "i" => "WCL __________ gLq|WF.turn ?|s"
  | "q" => "WN _______ gWNr|WE _______ gO2|WCL __________ gLq|WF.turn ?|WCS __________ gCt|WS.assignComp r?frrrr|x"
  | "gO2" => "WE.or2 ?|WE.slice2c ?"
  | "gWNr" => "WN.rangeI ur?|WN.rangeE tr?"
  | _ => ""
open Lean in
def Mine.wGrp (n : Nat) : String → Syntax :=
  Nat.repeat (fun f k => Mine.xFirst (((Mine.wKeys k).splitOn "|").toArray.map (Mine.wAlt f))) n (fun _ => Mine.xFail)
open Lean in
local macro_rules | `(tactic| walk_at $k:str) => do
  match k.getString with
  | "w mem" => return Mine.xFirst #[Mine.wSeq #[Mine.xRep #[Mine.xWr Mine.xHere, Mine.xWr Mine.xThere], Mine.xEnd Mine.xAsm], Mine.wSeq #[Mine.xRep #[Mine.xHere, Mine.xAsm, Mine.xThere], Mine.xTac "done" "done"]]
  | "w upd" => return Mine.xFirst #[Mine.wSeq #[Mine.xRep #[Mine.xWr Mine.xUh, Mine.xWr Mine.xUt], Mine.xTac "done" "done"], Mine.wSeq #[Mine.xRep #[Mine.xUh, Mine.xUt], Mine.xTac "done" "done"]]
  | "w at" => return Mine.xFirst #[Mine.wSeq #[Mine.xRep #[Mine.xAh, Mine.xAt], Mine.xTac "done" "done"]]
  | "r" => return Mine.xR0
  | k =>
    let b := k.endsWith "*"
    let k := if b then (k.dropEnd 1).toString else k
    if Mine.wKeys k == "" then Macro.throwUnsupported
    let t := Mine.xWr (Mine.wGrp 9 k)
    return if b then Mine.cN "tacticRepeat_" #[Mine.aN "repeat", Mine.wSeq #[t]] else t
set_option maxRecDepth 100000
set_option autoImplicit false
set_option maxHeartbeats 4000000
namespace Mine
open PySem PySem.W PyProof.Rows PySem.Calls PySem.SeqAt
section
variable {G : Gd} {n : Nat} {σ : Sig}
theorem c_parts_of (hK : KOk G) (hn : 1 ≤ n) (t : Ty) {Q : AV → Sig → Prop} (h : Q (.tup (t.parts.map Ty.av)) σ) : WCall G n (.raw (.ref 49)) [t.av] σ Q := by
  refine ⟨WK.fn (by rw [hK]; rfl), .of (.le (k := 0+1) ?_ (by omega))⟩
  refine WCd.def [("told", t.av)] [("told", t.av)] (fun _ => []) (fun _ => σ) (by rw [hK]; rfl) (by rw [hK]; rfl) (HB.plain (names := ["told"]) ?hb rfl rfl) rfl rfl ?nd (by decide) rfl (fun _ => rfl) (fun _ => rfl) ?_
  case hb => exact len1 fun _ => rfl
  case nd => exact (by decide : (["told"] : List Str).Nodup)
  intro L
  cases t with
  | u8 =>
    dsimp only [Ty.av]
    walk_at "w*"
    exact Fin.ret h
  | param =>
    dsimp only [Ty.av]
    walk_at "w*"
    exact Fin.ret h
  | ref r m t =>
    dsimp only [Ty.av]
    walk_at "w*"
    exact Fin.ret h
theorem c_rebuilt_ref (hK : KOk G) (hn : 1 ≤ n) (r : Rg) (m : Bool) (t t' : Ty) (a : Addr) {Q : AV → Sig → Prop} (hm : (a, .list [t'.av]) ∈ σ) (h : Q (Ty.ref r m t').av σ) :
    WCall G n (.raw (.ref 56)) [(Ty.ref r m t).av, .raw (.ref a)] σ Q := by
  refine ⟨WK.fn (by rw [hK]; rfl), .of (.le (k := 0+1) ?_ (by omega))⟩
  refine WCd.def [("told", (Ty.ref r m t).av), ("parts", .raw (.ref a))] [("told", (Ty.ref r m t).av), ("parts", .raw (.ref a))] (fun _ => []) (fun _ => σ) (by rw [hK]; rfl) (by rw [hK]; rfl) (HB.plain (names := ["told", "parts"]) ?hb rfl rfl) rfl rfl ?nd (by decide) rfl (fun _ => rfl) (fun _ => rfl) ?_
  case hb => exact len2 fun _ _ => rfl
  case nd => exact (by decide : (["told", "parts"] : List Str).Nodup)
  intro L
  dsimp only [Ty.av]
  walk_at "w*"
  walk_at "w*"
  exact Fin.ret h
theorem c_rebuilt_u8 (hK : KOk G) (hn : 1 ≤ n) (x : AV) {Q : AV → Sig → Prop} (h : Q Ty.u8.av σ) :
    WCall G n (.raw (.ref 56)) [Ty.u8.av, x] σ Q := by
  refine ⟨WK.fn (by rw [hK]; rfl), .of (.le (k := 0+1) ?_ (by omega))⟩
  refine WCd.def [("told", Ty.u8.av), ("parts", x)] [("told", Ty.u8.av), ("parts", x)] (fun _ => []) (fun _ => σ) (by rw [hK]; rfl) (by rw [hK]; rfl) (HB.plain (names := ["told", "parts"]) ?hb rfl rfl) rfl rfl ?nd (by decide) rfl (fun _ => rfl) (fun _ => rfl) ?_
  case hb => exact len2 fun _ _ => rfl
  case nd => exact (by decide : (["told", "parts"] : List Str).Nodup)
  intro L
  dsimp only [Ty.av]
  walk_at "w*"
  exact Fin.ret h
theorem c_rebuilt_param (hK : KOk G) (hn : 1 ≤ n) (x : AV) {Q : AV → Sig → Prop} (h : Q Ty.param.av σ) :
    WCall G n (.raw (.ref 56)) [Ty.param.av, x] σ Q := by
  refine ⟨WK.fn (by rw [hK]; rfl), .of (.le (k := 0+1) ?_ (by omega))⟩
  refine WCd.def [("told", Ty.param.av), ("parts", x)] [("told", Ty.param.av), ("parts", x)] (fun _ => []) (fun _ => σ) (by rw [hK]; rfl) (by rw [hK]; rfl) (HB.plain (names := ["told", "parts"]) ?hb rfl rfl) rfl rfl ?nd (by decide) rfl (fun _ => rfl) (fun _ => rfl) ?_
  case hb => exact len2 fun _ _ => rfl
  case nd => exact (by decide : (["told", "parts"] : List Str).Nodup)
  intro L
  dsimp only [Ty.av]
  walk_at "w*"
  exact Fin.ret h
end
end Mine
set_option maxRecDepth 100000
set_option autoImplicit false
set_option maxHeartbeats 4000000
namespace Mine
open PySem PySem.W PyProof.Rows PySem.Calls PySem.SeqAt
section
variable {G : Gd} {n : Nat} {σ : Sig}
theorem c_substituted (hK : KOk G) (d : Addr) (p : Ty) : ∀ (t : Ty) {n : Nat} {σ : Sig} (hn : t.ht + 2 ≤ n) {Q : AV → Sig → Prop} (hm : (d, .dict [(.str "T", p.av)]) ∈ σ) (h : Q (t.subst p).av σ),
    WCall G n (.raw (.ref 61)) [t.av, .raw (.ref d)] σ Q
  | .param, n, σ, hn, Q, hm, h => by
    refine ⟨WK.fn (by rw [hK]; rfl), .of (.le (k := 0+1) ?_ (by omega))⟩
    refine WCd.def [("told", Ty.param.av), ("table", .raw (.ref d))] [("told", Ty.param.av)] (fun L => [("table", L + 1)]) (fun L => (L + 1, AObj.cell (some (.raw (.ref d)))) :: σ) (by rw [hK]; rfl) (by rw [hK]; rfl) (HB.plain (names := ["told", "table"]) ?hb rfl rfl) rfl rfl ?nd (by decide) rfl (fun _ => rfl) (fun _ => rfl) ?_
    case hb => exact len2 fun _ _ => rfl
    case nd => exact (by decide : (["told", "table"] : List Str).Nodup)
    intro L
    dsimp only [Ty.av]
    walk_at "w*"
    refine WM.dict (by walk_at "w mem") PySem.F.slot_dict_get PySem.F.type_dict_get ?_
    walk_at "w*"
    refine ⟨WK.builtin _, WC.dict_get (by walk_at "w mem") rfl ?_⟩
    dsimp only [getA, if_pos, Option.getD]
    walk_at "w*"
    exact Fin.skip (Fin.ret h)
  | .u8, n, σ, hn, Q, hm, h => by
    simp only [Ty.ht] at hn
    refine ⟨WK.fn (by rw [hK]; rfl), .of (.le (k := 1+1) ?_ (by omega))⟩
    refine WCd.def [("told", Ty.u8.av), ("table", .raw (.ref d))] [("told", Ty.u8.av)] (fun L => [("table", L + 1)]) (fun L => (L + 1, AObj.cell (some (.raw (.ref d)))) :: σ) (by rw [hK]; rfl) (by rw [hK]; rfl) (HB.plain (names := ["told", "table"]) ?hb rfl rfl) rfl rfl ?nd (by decide) rfl (fun _ => rfl) (fun _ => rfl) ?_
    case hb => exact len2 fun _ _ => rfl
    case nd => exact (by decide : (["told", "table"] : List Str).Nodup)
    intro L
    dsimp only [Ty.av]
    walk_at "w*"
    refine c_parts_of hK (by omega) .u8 ?_
    dsimp only [Ty.parts, List.map]
    walk_at "w*"
    refine c_rebuilt_u8 hK (by omega) _ ?_
    walk_at "w*"
    exact Fin.skip (Fin.skip (Fin.ret h))
  | .ref r m t, n, σ, hn, Q, hm, h => by
    have hn' : t.ht + 3 ≤ n := by simp only [Ty.ht] at hn; omega
    refine ⟨WK.fn (by rw [hK]; rfl), .of (.le (k := (t.ht+2)+1) ?_ (by omega))⟩
    refine WCd.def [("told", (Ty.ref r m t).av), ("table", .raw (.ref d))] [("told", (Ty.ref r m t).av)] (fun L => [("table", L + 1)]) (fun L => (L + 1, AObj.cell (some (.raw (.ref d)))) :: σ) (by rw [hK]; rfl) (by rw [hK]; rfl) (HB.plain (names := ["told", "table"]) ?hb rfl rfl) rfl rfl ?nd (by decide) rfl (fun _ => rfl) (fun _ => rfl) ?_
    case hb => exact len2 fun _ _ => rfl
    case nd => exact (by decide : (["told", "table"] : List Str).Nodup)
    intro L
    dsimp only [Ty.av]
    walk_at "w*"
    refine c_parts_of hK (by omega) (.ref r m t) ?_
    dsimp only [Ty.parts, List.map]
    walk_at "w*"
    refine c_substituted hK d p t (n := t.ht + 2) (Nat.le_refl _) (by walk_at "w mem") ?_
    walk_at "w*"
    refine c_rebuilt_ref hK (by omega) r m t (t.subst p) _ (by walk_at "w mem") ?_
    walk_at "w*"
    exact Fin.skip (Fin.skip (Fin.ret h))
end
end Mine
set_option maxRecDepth 100000
set_option autoImplicit false
set_option maxHeartbeats 4000000
namespace Mine
open PySem PySem.W PyProof.Rows PySem.Calls PySem.SeqAt
section
variable {G : Gd} {n : Nat} {σ : Sig}
noncomputable def Chg (G : Gd) (k : Nat) (change : AV) : Ty → Sig → (Ty → Sig → Prop) → Prop
  | .u8, σ, Q => Q .u8 σ
  | .param, σ, Q => Q .param σ
  | .ref r m t, σ, Q => WCall G k change [r.av] σ fun a σ₁ => ∃ r' : Rg, a = r'.av ∧ Chg G k change t σ₁ fun t' σ₂ => Q (.ref r' m t') σ₂
theorem c_with_regions (hK : KOk G) (change : AV) (k : Nat) : ∀ (t : Ty) {n : Nat} {σ : Sig} (hn : t.ht + k + 2 ≤ n) {Q : AV → Sig → Prop} (h : Chg G k change t σ fun t' σ' => Q t'.av σ'),
    WCall G n (.raw (.ref 66)) [t.av, change] σ Q
  | .param, n, σ, hn, Q, h => by
    simp only [Ty.ht] at hn
    refine ⟨WK.fn (by rw [hK]; rfl), .of (.le (k := 1+1) ?_ (by omega))⟩
    refine WCd.def [("told", Ty.param.av), ("change", change)] [("told", Ty.param.av)] (fun L => [("change", L + 1)]) (fun L => (L + 1, AObj.cell (some (change))) :: σ) (by rw [hK]; rfl) (by rw [hK]; rfl) (HB.plain (names := ["told", "change"]) ?hb rfl rfl) rfl rfl ?nd (by decide) rfl (fun _ => rfl) (fun _ => rfl) ?_
    case hb => exact len2 fun _ _ => rfl
    case nd => exact (by decide : (["told", "change"] : List Str).Nodup)
    intro L
    dsimp only [Ty.av]
    walk_at "w*"
    refine c_parts_of hK (by omega) .param ?_
    dsimp only [Ty.parts, List.map]
    walk_at "w*"
    refine c_rebuilt_param hK (by omega) _ ?_
    walk_at "w*"
    exact Fin.skip (Fin.skip (Fin.ret h))
  | .u8, n, σ, hn, Q, h => by
    simp only [Ty.ht] at hn
    refine ⟨WK.fn (by rw [hK]; rfl), .of (.le (k := 1+1) ?_ (by omega))⟩
    refine WCd.def [("told", Ty.u8.av), ("change", change)] [("told", Ty.u8.av)] (fun L => [("change", L + 1)]) (fun L => (L + 1, AObj.cell (some (change))) :: σ) (by rw [hK]; rfl) (by rw [hK]; rfl) (HB.plain (names := ["told", "change"]) ?hb rfl rfl) rfl rfl ?nd (by decide) rfl (fun _ => rfl) (fun _ => rfl) ?_
    case hb => exact len2 fun _ _ => rfl
    case nd => exact (by decide : (["told", "change"] : List Str).Nodup)
    intro L
    dsimp only [Ty.av]
    walk_at "w*"
    refine c_parts_of hK (by omega) .u8 ?_
    dsimp only [Ty.parts, List.map]
    walk_at "w*"
    refine c_rebuilt_u8 hK (by omega) _ ?_
    walk_at "w*"
    exact Fin.skip (Fin.skip (Fin.ret h))
  | .ref r m t, n, σ, hn, Q, h => by
    have hn' : t.ht + k + 3 ≤ n := by simp only [Ty.ht] at hn; omega
    refine ⟨WK.fn (by rw [hK]; rfl), .of (.le (k := (t.ht+k+2)+1) ?_ (by omega))⟩
    refine WCd.def [("told", (Ty.ref r m t).av), ("change", change)] [("told", (Ty.ref r m t).av)] (fun L => [("change", L + 1)]) (fun L => (L + 1, AObj.cell (some (change))) :: σ) (by rw [hK]; rfl) (by rw [hK]; rfl) (HB.plain (names := ["told", "change"]) ?hb rfl rfl) rfl rfl ?nd (by decide) rfl (fun _ => rfl) (fun _ => rfl) ?_
    case hb => exact len2 fun _ _ => rfl
    case nd => exact (by decide : (["told", "change"] : List Str).Nodup)
    intro L
    dsimp only [Ty.av]
    walk_at "w*"
    refine WCall.le (k := k) ?_ (by omega)
    refine WCall.skip (WCall.mono h ?_)
    rintro a σ₁ ⟨r', rfl, h1⟩
    walk_at "w*"
    refine c_parts_of hK (by omega) (.ref r' m t) ?_
    dsimp only [Ty.parts, List.map]
    walk_at "w*"
    refine WCall.skip (WCall.skip (WCall.skip ?_))
    refine c_with_regions hK change k t (n := t.ht + k + 2) (Nat.le_refl _) ?_
    refine Chg.mono h1 ?_
    intro t' σ₂ q
    walk_at "w*"
    refine c_rebuilt_ref hK (by omega) r' m t t' _ (by walk_at "w mem") ?_
    walk_at "w*"
    exact Fin.skip (Fin.skip (Fin.ret q))
where
  Chg.mono : ∀ {t : Ty} {σ : Sig} {Q Q' : Ty → Sig → Prop}, Chg G k change t σ Q → (∀ t σ, Q t σ → Q' t σ) → Chg G k change t σ Q'
  | .u8, _, _, _, h, f => f _ _ h
  | .param, _, _, _, h, f => f _ _ h
  | .ref r m t, _, _, _, h, f => WCall.mono h fun a σ₁ ⟨r', e, q⟩ => ⟨r', e, Chg.mono q fun t' σ₂ z => f _ _ z⟩
end
end Mine
set_option maxRecDepth 100000
set_option autoImplicit false
set_option maxHeartbeats 4000000
namespace Mine
open PySem PySem.W PyProof.Rows PySem.Calls PySem.SeqAt
section
variable {G : Gd} {n : Nat} {σ : Sig}
noncomputable def Ty.regs : Ty → List Rg
  | .ref r _ t => r :: t.regs
  | _ => []
theorem codeHd73 (hK : KOk G) (h : Heap) (X : G.K.In h) : CodeHd h 72 68 := by
  refine ⟨_, _, _, _, _, _, _, _, _, X 72 _ (by rw [hK]; rfl), rfl, rfl, rfl, rfl, rfl, rfl, rfl, rfl, by decide⟩
noncomputable abbrev notedPos : Pos := { line := 45, col := 4, endLine := 47, endCol := 21 }
noncomputable abbrev notedAV (f c : Addr) : AV := .clo f "noted" "regions_in.<locals>.noted"
  { posonlyargs := [], args := [{ arg := "region", annotation := none, pos := { line := 45, col := 14, endLine := 45, endCol := 20 } }], vararg := none, kwonlyargs := [], kw_defaults := [], kwarg := none, defaults := [] }
  [Stmt.Expr (((Expr.Name "found" { line := 46, col := 8, endLine := 46, endCol := 13 }).Attribute "append" { line := 46, col := 8, endLine := 46, endCol := 20 }).Call
      [Expr.Name "region" { line := 46, col := 21, endLine := 46, endCol := 27 }] [] { line := 46, col := 8, endLine := 46, endCol := 28 }) { line := 46, col := 8, endLine := 46, endCol := 28 },
    Stmt.Return (some (Expr.Name "region" { line := 47, col := 15, endLine := 47, endCol := 21 })) { line := 47, col := 8, endLine := 47, endCol := 21 }]
  { kind := ScopeKind.function, names := [("region", NameKind.local), ("found", NameKind.free)], isGenerator := false, isCoroutine := false } [("found", c)]
theorem c_noted (hK : KOk G) (hn : 1 ≤ n) (f c a : Addr) (r : AV) (l : List AV) {Q : AV → Sig → Prop} (hl : l.length ≤ sizeLine) (h : Q r ((a, .list (l ++ [r])) :: (c, .cell (some (.raw (.ref a)))) :: σ)) :
    WCall G n (notedAV f c) [r] ((a, .list l) :: (c, .cell (some (.raw (.ref a)))) :: σ) Q := by
  refine ⟨WK.clo, .of (.le (k := 0+1) ?_ hn)⟩
  refine WCd.clo ["region"] ?_ rfl (by decide) rfl rfl ?_
  · intro doc pm ctv cd; exact len1 fun _ => rfl
  intro L cd
  walk_at "w*"
  refine WM.list (by walk_at "w mem") PySem.slot_list_append PySem.F.type_list_append ?_
  walk_at "w*"
  refine ⟨WK.builtin _, WC.append (by walk_at "w upd") hl ?_⟩
  walk_at "w*"
  exact Fin.ret h
theorem chg_noted (hK : KOk G) (f c a : Addr) : ∀ (t : Ty) (l : List AV) {Q : Ty → Sig → Prop}, l.length + t.regs.length ≤ 900 → Q t ((a, .list (l ++ t.regs.map Rg.av)) :: (c, .cell (some (.raw (.ref a)))) :: σ) →
    Chg G 1 (notedAV f c) t ((a, .list l) :: (c, .cell (some (.raw (.ref a)))) :: σ) Q
  | .u8, l, Q, hl, h => by
    rw [show l ++ Ty.u8.regs.map Rg.av = l from List.append_nil _] at h; exact h
  | .param, l, Q, hl, h => by
    rw [show l ++ Ty.param.regs.map Rg.av = l from List.append_nil _] at h; exact h
  | .ref r m t, l, Q, hl, h => by
    have e1 : (Ty.ref r m t).regs = r :: t.regs := rfl
    rw [e1] at hl h
    refine c_noted hK (Nat.le_refl _) f c a r.av l (Nat.le_trans (by simp at hl; omega : l.length ≤ 900) (by decide)) ⟨r, rfl, ?_⟩
    refine chg_noted hK f c a t (l ++ [r.av]) (by simp at hl ⊢; omega) ?_
    rw [List.append_assoc]; exact h
theorem c_regions_in (hK : KOk G) (t : Ty) (hn : t.ht + 4 ≤ n) (hl : t.regs.length ≤ 900) (hP : (68, .tab notedPos "regions_in.<locals>.noted") ∈ σ) {Q : AV → Sig → Prop} (h : ∀ a, Q (.raw (.ref a)) ((a, .list (t.regs.map Rg.av)) :: σ)) :
    WCall G n (.raw (.ref 73)) [t.av] σ Q := by
  refine ⟨WK.fn (by rw [hK]; rfl), .of (.le (k := (t.ht+3)+1) ?_ (by omega))⟩
  refine WCd.def [("told", t.av)] [("told", t.av)] (fun L => [("found", L + 1)]) (fun L => (L + 1, AObj.cell (none)) :: σ) (by rw [hK]; rfl) (by rw [hK]; rfl) (HB.plain (names := ["told"]) ?hb rfl rfl) rfl rfl ?nd (by decide) rfl (fun _ => rfl) (fun _ => rfl) ?_
  case hb => exact len1 fun _ => rfl
  case nd => exact (by decide : (["told"] : List Str).Nodup)
  intro L
  walk_at "w*"
  refine WS.defn (by walk_at "w mem") (by walk_at "r") (by walk_at "r") (codeHd73 hK) (by walk_at "r") (by walk_at "r") (by walk_at "r") (by walk_at "r") (by walk_at "r") (by walk_at "r") (by walk_at "r") ?_
  intro f
  walk_at "w*"
  refine c_with_regions hK (notedAV f (L + 1)) 1 t (n := t.ht + 3) (Nat.le_refl _) ?_
  refine chg_noted hK f (L + 1) _ t [] (by show 0 + t.regs.length ≤ 900; omega) ?_
  walk_at "w*"
  exact Fin.swap (Fin.skip (Fin.ret (h _)))
end
end Mine
set_option maxRecDepth 100000
set_option autoImplicit false
set_option maxHeartbeats 4000000
namespace Mine
open PySem PySem.W PyProof.Rows PySem.Calls PySem.SeqAt
section
variable {G : Gd} {n : Nat} {σ : Sig}
theorem c_Sig (hK : KOk G) (hn : 2 ≤ n) (a1 a2 a3 a4 a5 a6 a7 a8 : AV) {Q : AV → Sig → Prop}
    (h : ∀ x dx, Q (.obj x (instObj 389 dx)) ((dx, .attrs [("path", a1), ("regions", a2), ("params", a3), ("own", a4), ("inputs", a5), ("output", a6), ("self_kind", a7), ("has_body", a8)]) :: σ)) : WCall G n (.raw (.ref 389)) [a1, a2, a3, a4, a5, a6, a7, a8] σ Q := by
  refine .le (k := 1+1) ?_ hn
  refine .make hK (by walk_at "r") (by walk_at "r") (by walk_at "r") (by walk_at "r") fun x dx => ?_
  refine .le (k := 0+1) ?_ (by omega)
  refine WCd.def [("self", .obj x (instObj 389 dx)), ("path", a1), ("regions", a2), ("params", a3), ("own", a4), ("inputs", a5), ("output", a6), ("self_kind", a7), ("has_body", a8)] [("self", .obj x (instObj 389 dx)), ("path", a1), ("regions", a2), ("params", a3), ("own", a4), ("inputs", a5), ("output", a6), ("self_kind", a7), ("has_body", a8)] (fun _ => []) (fun _ => (dx, .attrs []) :: σ) (by rw [hK]; rfl) (by rw [hK]; rfl) (HB.plain (names := ["self", "path", "regions", "params", "own", "inputs", "output", "self_kind", "has_body"]) ?hb rfl rfl) rfl rfl ?nd (by decide) rfl (fun _ => rfl) (fun _ => rfl) ?_
  case hb => exact len9 fun _ _ _ _ _ _ _ _ _ => rfl
  case nd => exact (by decide : (["self", "path", "regions", "params", "own", "inputs", "output", "self_kind", "has_body"] : List Str).Nodup)
  intro L
  walk_at "w*"
  exact Fin.of ⟨rfl, h x dx⟩
theorem c_World (hK : KOk G) (hn : 2 ≤ n) {Q : AV → Sig → Prop}
    (h : ∀ x dx d1 d2 ds d4 l d5 d6, Q (.obj x (instObj 418 dx)) ((ds, .dict []) :: (dx, .attrs [("modules", .none), ("adts", .raw (.ref d1)), ("variants", .raw (.ref d2)), ("sigs", .raw (.ref ds)), ("traits", .raw (.ref d4)), ("impls", .raw (.ref l)), ("consts", .raw (.ref d5)), ("bodies", .raw (.ref d6))]) :: σ)) :
    WCall G n (.raw (.ref 418)) [.none] σ Q := by
  refine .le (k := 1+1) ?_ hn
  refine .make hK (by walk_at "r") (by walk_at "r") (by walk_at "r") (by walk_at "r") fun x dx => ?_
  refine .le (k := 0+1) ?_ (by omega)
  refine WCd.def [("self", .obj x (instObj 418 dx)), ("modules", .none)] [("self", .obj x (instObj 418 dx)), ("modules", .none)] (fun _ => []) (fun _ => (dx, .attrs []) :: σ) (by rw [hK]; rfl) (by rw [hK]; rfl) (HB.deflt (names := ["self", "modules"]) (dargs := []) (ds := []) ?hb ?hr rfl rfl) rfl rfl ?nd (by decide) rfl (fun _ => rfl) (fun _ => rfl) ?_
  case hb => intro s X; exact len2 fun _ _ => (binds_K X rfl (by rw [hK]; rfl) rfl rfl rfl)
  case hr => intro Φ; rfl
  case nd => exact (by decide : (["self", "modules"] : List Str).Nodup)
  intro L
  walk_at "w*"
  exact Fin.sub (Fin.of ⟨rfl, h x dx _ _ _ _ _ _ _⟩) (.cons _ (.cons _ (.cons _ (.cons _ (.cons_cons _ (.cons _ (.cons _ (.refl _))))))))
theorem c_Body (hK : KOk G) (hn : 2 ≤ n) (a1 a2 : AV) (lt bl sp : Addr) (l : List AV) (hm : (lt, .list l) ∈ σ) (hl : l.length ≤ 900) {Q : AV → Sig → Prop}
    (h : ∀ x dx lc, Q (.obj x (instObj 146 dx)) ((lc, .list l) :: (dx, .attrs [("name", a1), ("arg_count", a2), ("locals", .raw (.ref lc)), ("blocks", .raw (.ref bl)), ("spots", .raw (.ref sp))]) :: σ)) :
    WCall G n (.raw (.ref 146)) [a1, a2, .raw (.ref lt), .raw (.ref bl), .raw (.ref sp)] σ Q := by
  refine .le (k := 1+1) ?_ hn
  refine .make hK (by walk_at "r") (by walk_at "r") (by walk_at "r") (by walk_at "r") fun x dx => ?_
  refine .le (k := 0+1) ?_ (by omega)
  refine WCd.def [("self", .obj x (instObj 146 dx)), ("name", a1), ("arg_count", a2), ("locals_told", .raw (.ref lt)), ("blocks", .raw (.ref bl)), ("spots", .raw (.ref sp))] [("self", .obj x (instObj 146 dx)), ("name", a1), ("arg_count", a2), ("locals_told", .raw (.ref lt)), ("blocks", .raw (.ref bl)), ("spots", .raw (.ref sp))] (fun _ => []) (fun _ => (dx, .attrs []) :: σ) (by rw [hK]; rfl) (by rw [hK]; rfl) (HB.deflt (names := ["self", "name", "arg_count", "locals_told", "blocks", "spots"]) (dargs := []) (ds := []) ?hb ?hr rfl rfl) rfl rfl ?nd (by decide) rfl (fun _ => rfl) (fun _ => rfl) ?_
  case hb => intro s X; exact len6 fun _ _ _ _ _ _ => (binds_K X rfl (by rw [hK]; rfl) rfl rfl rfl)
  case hr => intro Φ; rfl
  case nd => exact (by decide : (["self", "name", "arg_count", "locals_told", "blocks", "spots"] : List Str).Nodup)
  intro L
  walk_at "w*"
  refine ⟨WK.type _, WC.list_list (by walk_at "w mem") (Nat.le_trans hl (by decide)) ?_⟩
  intro lc
  walk_at "w*"
  exact Fin.of ⟨rfl, h x dx lc⟩
noncomputable abbrev bodyA (a1 a2 : AV) (lc bl sp : Addr) : Loc := [("name", a1), ("arg_count", a2), ("locals", .raw (.ref lc)), ("blocks", .raw (.ref bl)), ("spots", .raw (.ref sp))]
theorem c_type_of (hK : KOk G) (hn : 1 ≤ n) (x dx lc bl sp : Addr) (a1 a2 : AV) (l : List AV) (k : Nat) (t : AV) (r : List AV) (hm : (dx, .attrs (bodyA a1 a2 lc bl sp)) ∈ σ) (hl : (lc, .list l) ∈ σ)
    (hk : l[k]? = some (.tup (t :: r))) (hkk : k < 900) {Q : AV → Sig → Prop} (h : Q t σ) : WCall G n (.raw (.ref 107)) [.obj x (instObj 146 dx), .int k] σ Q := by
  refine ⟨WK.fn (by rw [hK]; rfl), .of (.le (k := 0+1) ?_ (by omega))⟩
  refine WCd.def [("self", .obj x (instObj 146 dx)), ("local", .int k)] [("self", .obj x (instObj 146 dx)), ("local", .int k)] (fun _ => []) (fun _ => σ) (by rw [hK]; rfl) (by rw [hK]; rfl) (HB.plain (names := ["self", "local"]) ?hb rfl rfl) rfl rfl ?nd (by decide) rfl (fun _ => rfl) (fun _ => rfl) ?_
  case hb => exact len2 fun _ _ => rfl
  case nd => exact (by decide : (["self", "local"] : List Str).Nodup)
  intro L
  walk_at "w*"
  refine W2.item_list hl (Int.natCast_nonneg _) (by omega) (by rw [Int.toNat_natCast]; exact hk) ?_ (by with_unfolding_all exact fun _ _ => rfl)
  walk_at "w*"
  exact Fin.ret h
theorem c_place_type (hK : KOk G) (hn : 2 ≤ n) (x dx lc bl sp : Addr) (a1 a2 : AV) (l : List AV) (k : Nat) (t : AV) (r : List AV) (w : AV) (hm : (dx, .attrs (bodyA a1 a2 lc bl sp)) ∈ σ) (hl : (lc, .list l) ∈ σ)
    (hk : l[k]? = some (.tup (t :: r))) (hkk : k < 900) {Q : AV → Sig → Prop} (h : Q t σ) : WCall G n (.raw (.ref 171)) [.obj x (instObj 146 dx), .tup [.int k, .tup []], w] σ Q := by
  refine ⟨WK.fn (by rw [hK]; rfl), .of (.le (k := 1+1) ?_ (by omega))⟩
  refine WCd.def [("body", .obj x (instObj 146 dx)), ("place", .tup [.int k, .tup []]), ("world", w)] [("body", .obj x (instObj 146 dx)), ("place", .tup [.int k, .tup []]), ("world", w)] (fun _ => []) (fun _ => σ) (by rw [hK]; rfl) (by rw [hK]; rfl) (HB.plain (names := ["body", "place", "world"]) ?hb rfl rfl) rfl rfl ?nd (by decide) rfl (fun _ => rfl) (fun _ => rfl) ?_
  case hb => exact len3 fun _ _ _ => rfl
  case nd => exact (by decide : (["body", "place", "world"] : List Str).Nodup)
  intro L
  refine WS.swap2 (by walk_at "r") (by walk_at "r") (by walk_at "r") (by walk_at "r") (by walk_at "r") ?_
  walk_at "w*"
  refine c_type_of hK (by omega) x dx lc bl sp a1 a2 l k t r hm hl hk hkk ?_
  walk_at "w*"
  refine ⟨t, .int 0, rfl, ?_⟩
  walk_at "w*"
  exact Fin.ret h
end
end Mine
set_option maxRecDepth 100000
set_option autoImplicit false
set_option maxHeartbeats 4000000
namespace Mine
open PySem PySem.W PyProof.Rows PySem.Calls PySem.SeqAt
section
variable {G : Gd} {n : Nat} {σ : Sig}
theorem Upd.eqs {a : Addr} {o o' : AObj} {σ σ' : Sig} (h : Upd a o o' σ σ') (ho : o = o') : σ = σ' := by
  induction h with
  | here => rw [ho]
  | there _ ih => rw [ih]
noncomputable abbrev prI (p : Int × Int) : AV := .tup [.int p.1, .int p.2]
theorem eqv_int (a b : Int) : PyData.eqv (.int a) (.int b) = decide (a = b) := by
  show (a == b) = _
  by_cases h : a = b <;> simp [h]
theorem eqv_prI (p q : Int × Int) : PyData.eqv (prI p).py (prI q).py = decide (p = q) := by
  obtain ⟨a, b⟩ := p; obtain ⟨c, d⟩ := q
  show (PyData.eqv (.int a) (.int c) && (PyData.eqv (.int b) (.int d) && true)) = _
  rw [eqv_int, eqv_int, Bool.and_true]
  simp only [Prod.mk.injEq, Bool.decide_and]
theorem any_prI (l : List (Int × Int)) (q : Int × Int) : (AV.pys (l.map prI)).any (fun y => PyData.eqv y (prI q).py) = decide (q ∈ l) := by
  induction l with
  | nil => rfl
  | cons p r ih =>
    show (PyData.eqv (prI p).py (prI q).py || _) = _
    rw [eqv_prI]
    rw [show (AV.pys (r.map prI)).any (fun y => PyData.eqv y (prI q).py) = decide (q ∈ r) from ih]
    by_cases h1 : p = q
    · simp [h1]
    · have h2 : ¬ q = p := fun e => h1 e.symm
      simp [h1, h2]
theorem areD_prI (l : List (Int × Int)) : AV.areD (l.map prI) = true := by
  induction l with
  | nil => rfl
  | cons p r ih => exact ih
noncomputable def ins (l : List (Int × Int)) (a b : Int) : List (Int × Int) := if a ≠ b ∧ (a, b) ∉ l then l ++ [(a, b)] else l
noncomputable abbrev relA (v : AV) (lp : Addr) : Loc := [("varied", v), ("pairs", .raw (.ref lp))]
theorem c_Relation (hK : KOk G) (hn : 2 ≤ n) (v : AV) (hv : v.hand = true) {Q : AV → Sig → Prop} (h : ∀ x dx lp, Q (.obj x (instObj 217 dx)) ((lp, .list []) :: (dx, .attrs (relA v lp)) :: σ)) : WCall G n (.raw (.ref 217)) [v] σ Q := by
  refine .le (k := 1+1) ?_ hn
  refine .make hK (by walk_at "r") (by walk_at "r") (by walk_at "r") (by walk_at "r") fun x dx => ?_
  refine .le (k := 0+1) ?_ (by omega)
  refine WCd.def [("self", .obj x (instObj 217 dx)), ("varied", v)] [("self", .obj x (instObj 217 dx)), ("varied", v)] (fun _ => []) (fun _ => (dx, .attrs []) :: σ) (by rw [hK]; rfl) (by rw [hK]; rfl) (HB.plain (names := ["self", "varied"]) ?hb rfl rfl) rfl rfl ?nd (by decide) rfl (fun _ => rfl) (fun _ => rfl) ?_
  case hb => exact len2 fun _ _ => rfl
  case nd => exact (by decide : (["self", "varied"] : List Str).Nodup)
  intro L
  walk_at "w*"
  exact Fin.of ⟨rfl, h x dx _⟩
theorem W2.ne_int {i j : Int} {Q : AV → Sig → Prop} (h : Q (.bool (!decide (i = j))) σ) : W2 G n (compareOp .NotEq) (.int i) (.int j) σ Q := by
  refine W2.ne (.av rfl) (.av rfl) (by show min 0 0 ≤ 300; decide) ?_
  rw [show PyData.eqv (AV.int i).py (AV.int j).py = decide (i = j) from eqv_int i j]; exact h
theorem W2.eq_int {i j : Int} {Q : AV → Sig → Prop} (h : Q (.bool (decide (i = j))) σ) : W2 G n (compareOp .Eq) (.int i) (.int j) σ Q := by
  refine W2.eq (.av rfl) (.av rfl) (by show min 0 0 ≤ 300; decide) ?_
  rw [show PyData.eqv (AV.int i).py (AV.int j).py = decide (i = j) from eqv_int i j]; exact h
theorem W2.notin_prI {a : Addr} {l : List (Int × Int)} {p : Int × Int} {Q : AV → Sig → Prop} (hm : (a, .list (l.map prI)) ∈ σ) (h : Q (.bool (!decide (p ∈ l))) σ) : W2 G n (compareOp .NotIn) (prI p) (.raw (.ref a)) σ Q := by
  refine W2.notin_list hm (areD_prI l) rfl (Nat.le_trans (Nat.min_le_right _ _) (Nat.le_of_ble_eq_true rfl)) ?_
  rw [any_prI]; exact h
theorem c_outlives (hK : KOk G) (hn : 1 ≤ n) (x dx lp : Addr) (v : AV) (l : List (Int × Int)) (a b : Int) (hm : (dx, .attrs (relA v lp)) ∈ σ) {σ' : Sig} (U : Upd lp (.list (l.map prI)) (.list ((ins l a b).map prI)) σ σ') (hl : l.length ≤ 900)
    {Q : AV → Sig → Prop} (h : Q .none σ') : WCall G n (.raw (.ref 192)) [.obj x (instObj 217 dx), .int a, .int b] σ Q := by
  have hlm : (lp, AObj.list (l.map prI)) ∈ σ := by obtain ⟨r, p1, _⟩ := U.at; exact p1.mem_iff.mpr (.head _)
  refine ⟨WK.fn (by rw [hK]; rfl), .of (.le (k := 0+1) ?_ (by omega))⟩
  refine WCd.def [("self", .obj x (instObj 217 dx)), ("longer", .int a), ("shorter", .int b)] [("self", .obj x (instObj 217 dx)), ("longer", .int a), ("shorter", .int b)] (fun _ => []) (fun _ => σ) (by rw [hK]; rfl) (by rw [hK]; rfl) (HB.plain (names := ["self", "longer", "shorter"]) ?hb rfl rfl) rfl rfl ?nd (by decide) rfl (fun _ => rfl) (fun _ => rfl) ?_
  case hb => exact len3 fun _ _ _ => rfl
  case nd => exact (by decide : (["self", "longer", "shorter"] : List Str).Nodup)
  intro L
  walk_at "w*"
  refine W2.ne_int ?_
  refine kbool ?_
  by_cases hab : a = b
  · refine ite_f (by simp [hab]) ?_
    refine ite_f rfl ?_
    walk_at "w*"
    have e : ins l a b = l := by unfold ins; rw [if_neg]; simp [hab]
    rw [e] at U
    rw [← U.eqs rfl] at h
    exact Fin.of h
  · refine ite_t (by simp [hab]) ?_
    walk_at "w*"
    refine W2.notin_prI (p := (a, b)) hlm ?_
    refine kbool ?_
    by_cases hin : (a, b) ∈ l
    · refine ite_f (by simp [hin]) ?_
      refine ite_f rfl ?_
      walk_at "w*"
      have e : ins l a b = l := by unfold ins; rw [if_neg]; simp [hin]
      rw [e] at U
      rw [← U.eqs rfl] at h
      exact Fin.of h
    · refine ite_t (by simp [hin]) ?_
      refine WAnd.nil ?_
      refine ite_t rfl ?_
      have e : ins l a b = l ++ [(a, b)] := by unfold ins; rw [if_pos ⟨hab, hin⟩]
      rw [e, List.map_append] at U
      walk_at "w*"
      refine WM.list hlm PySem.slot_list_append PySem.F.type_list_append ?_
      walk_at "w*"
      refine ⟨WK.builtin _, WC.append U (by rw [List.length_map]; exact Nat.le_trans hl (by decide)) ?_⟩
      walk_at "w*"
      exact Fin.of h
end
end Mine
set_option maxRecDepth 100000
set_option autoImplicit false
set_option maxHeartbeats 4000000
namespace Mine
open PySem PySem.W PyProof.Rows PySem.Calls PySem.SeqAt
section
variable {G : Gd} {n : Nat} {σ : Sig}
theorem Upd.split {a : Addr} {o o' : AObj} {σ σ' : Sig} (o1 : AObj) (h : Upd a o o' σ σ') : ∃ σ1, Upd a o o1 σ σ1 ∧ Upd a o1 o' σ1 σ' := by
  induction h with
  | here => exact ⟨_, .here .., .here ..⟩
  | there _ ih => obtain ⟨σ1, h1, h2⟩ := ih; exact ⟨_, .there h1, .there h2⟩
theorem Upd.mem {a b : Addr} {o o' ob : AObj} {σ σ' : Sig} (h : Upd a o o' σ σ') (hm : (b, ob) ∈ σ) (hne : ob ≠ o) : (b, ob) ∈ σ' := by
  induction h with
  | here => rcases List.mem_cons.mp hm with q | q
            · cases q; exact absurd rfl hne
            · exact .tail _ q
  | there _ ih => rcases List.mem_cons.mp hm with q | q
                  · cases q; exact .head _
                  · exact .tail _ (ih q)
noncomputable def regn (w : Bool) (l : List (Int × Int)) (a b : Int) : List (Int × Int) := if w then ins (ins l a b) b a else ins l a b
theorem ins_len (l : List (Int × Int)) (a b : Int) : (ins l a b).length ≤ l.length + 1 := by
  unfold ins; split <;> simp
theorem regn_len (w : Bool) (l : List (Int × Int)) (a b : Int) : (regn w l a b).length ≤ l.length + 2 := by
  unfold regn
  split
  · exact Nat.le_trans (ins_len _ _ _) (Nat.succ_le_succ (ins_len _ _ _))
  · exact Nat.le_succ_of_le (ins_len _ _ _)
noncomputable def wAV (w : Bool) : AV := if w then .str "in" else .str "co"
theorem c_region (hK : KOk G) (hn : 2 ≤ n) (x dx lp : Addr) (v : AV) (l : List (Int × Int)) (a b : Int) (w : Bool) (hm : (dx, .attrs (relA v lp)) ∈ σ) {σ' : Sig} (U : Upd lp (.list (l.map prI)) (.list ((regn w l a b).map prI)) σ σ') (hl : l.length ≤ 899)
    {Q : AV → Sig → Prop} (h : Q .none σ') : WCall G n (.raw (.ref 199)) [.obj x (instObj 217 dx), .int a, .int b, wAV w] σ Q := by
  obtain ⟨σ1, U1, U2⟩ := U.split (.list ((ins l a b).map prI))
  have hm1 := U1.mem hm (by intro q; cases q)
  cases w with
  | false =>
    show WCall G n (.raw (.ref 199)) [.obj x (instObj 217 dx), .int a, .int b, .str "co"] σ Q
    refine ⟨WK.fn (by rw [hK]; rfl), .of (.le (k := 1+1) ?_ (by omega))⟩
    refine WCd.def [("self", .obj x (instObj 217 dx)), ("one", .int a), ("other", .int b), ("way", .str "co")] [("self", .obj x (instObj 217 dx)), ("one", .int a), ("other", .int b), ("way", .str "co")] (fun _ => []) (fun _ => σ) (by rw [hK]; rfl) (by rw [hK]; rfl) (HB.plain (names := ["self", "one", "other", "way"]) ?hb rfl rfl) rfl rfl ?nd (by decide) rfl (fun _ => rfl) (fun _ => rfl) ?_
    case hb => exact len4 fun _ _ _ _ => rfl
    case nd => exact (by decide : (["self", "one", "other", "way"] : List Str).Nodup)
    intro L
    walk_at "w*"
    refine c_outlives hK (by omega) x dx lp v l a b hm U1 (by omega) ?_
    walk_at "w*"
    have e := U2.eqs rfl
    subst e
    exact Fin.of h
  | true =>
    show WCall G n (.raw (.ref 199)) [.obj x (instObj 217 dx), .int a, .int b, .str "in"] σ Q
    refine ⟨WK.fn (by rw [hK]; rfl), .of (.le (k := 1+1) ?_ (by omega))⟩
    refine WCd.def [("self", .obj x (instObj 217 dx)), ("one", .int a), ("other", .int b), ("way", .str "in")] [("self", .obj x (instObj 217 dx)), ("one", .int a), ("other", .int b), ("way", .str "in")] (fun _ => []) (fun _ => σ) (by rw [hK]; rfl) (by rw [hK]; rfl) (HB.plain (names := ["self", "one", "other", "way"]) ?hb rfl rfl) rfl rfl ?nd (by decide) rfl (fun _ => rfl) (fun _ => rfl) ?_
    case hb => exact len4 fun _ _ _ _ => rfl
    case nd => exact (by decide : (["self", "one", "other", "way"] : List Str).Nodup)
    intro L
    walk_at "w*"
    refine c_outlives hK (by omega) x dx lp v l a b hm U1 (by omega) ?_
    walk_at "w*"
    refine c_outlives hK (by omega) x dx lp v (ins l a b) b a hm1 U2 (Nat.le_trans (ins_len _ _ _) (by omega)) ?_
    walk_at "w*"
    exact Fin.of h
noncomputable def nty : List (Int × Bool) → Ty
  | [] => .u8
  | (r, m) :: t => .ref (.num r) m (nty t)
noncomputable def belowL (w : Bool) : List (Int × Bool) → List (Int × Bool) → List (Int × Int) → List (Int × Int)
  | (r, m) :: t, (r', m') :: t', l => belowL (w || m') t t' (regn w l r r')
  | _, _, l => l
theorem c_below (hK : KOk G) (x dx lp : Addr) (v : AV) : ∀ (t t' : List (Int × Bool)) (w : Bool) (l : List (Int × Int)) {n : Nat} {σ σ' : Sig} (hn : t.length + 3 ≤ n) (ht : t.length = t'.length) (hm : (dx, .attrs (relA v lp)) ∈ σ)
    (U : Upd lp (.list (l.map prI)) (.list ((belowL w t t' l).map prI)) σ σ') (hl : l.length + 2 * t.length ≤ 899)
    {Q : AV → Sig → Prop} (h : Q .none σ'), WCall G n (.raw (.ref 207)) [.obj x (instObj 217 dx), (nty t).av, (nty t').av, wAV w] σ Q
  | [], [], w, l, n, σ, σ', hn, ht, hm, U, hl, Q, h => by
    have e := U.eqs rfl
    subst e
    cases w with
    | false =>
      show WCall G n (.raw (.ref 207)) [.obj x (instObj 217 dx), .tup [.str "int", .str "u8"], .tup [.str "int", .str "u8"], .str "co"] σ Q
      refine ⟨WK.fn (by rw [hK]; rfl), .of (.le (k := 0+1) ?_ (by omega))⟩
      refine WCd.def [("self", .obj x (instObj 217 dx)), ("one", .tup [.str "int", .str "u8"]), ("other", .tup [.str "int", .str "u8"]), ("way", .str "co")] [("self", .obj x (instObj 217 dx)), ("one", .tup [.str "int", .str "u8"]), ("other", .tup [.str "int", .str "u8"]), ("way", .str "co")] (fun _ => []) (fun _ => σ) (by rw [hK]; rfl) (by rw [hK]; rfl) (HB.deflt (names := ["self", "one", "other", "way"]) (dargs := []) (ds := []) ?hb ?hr rfl rfl) rfl rfl ?nd (by decide) rfl (fun _ => rfl) (fun _ => rfl) ?_
      case hb => intro s X; exact len4 fun _ _ _ _ => (binds_K X rfl (by rw [hK]; rfl) rfl rfl rfl)
      case hr => intro Φ; rfl
      case nd => exact (by decide : (["self", "one", "other", "way"] : List Str).Nodup)
      intro L
      walk_at "w*"
      exact Fin.of h
    | true =>
      show WCall G n (.raw (.ref 207)) [.obj x (instObj 217 dx), .tup [.str "int", .str "u8"], .tup [.str "int", .str "u8"], .str "in"] σ Q
      refine ⟨WK.fn (by rw [hK]; rfl), .of (.le (k := 0+1) ?_ (by omega))⟩
      refine WCd.def [("self", .obj x (instObj 217 dx)), ("one", .tup [.str "int", .str "u8"]), ("other", .tup [.str "int", .str "u8"]), ("way", .str "in")] [("self", .obj x (instObj 217 dx)), ("one", .tup [.str "int", .str "u8"]), ("other", .tup [.str "int", .str "u8"]), ("way", .str "in")] (fun _ => []) (fun _ => σ) (by rw [hK]; rfl) (by rw [hK]; rfl) (HB.deflt (names := ["self", "one", "other", "way"]) (dargs := []) (ds := []) ?hb ?hr rfl rfl) rfl rfl ?nd (by decide) rfl (fun _ => rfl) (fun _ => rfl) ?_
      case hb => intro s X; exact len4 fun _ _ _ _ => (binds_K X rfl (by rw [hK]; rfl) rfl rfl rfl)
      case hr => intro Φ; rfl
      case nd => exact (by decide : (["self", "one", "other", "way"] : List Str).Nodup)
      intro L
      walk_at "w*"
      exact Fin.of h
  | (r, m) :: t, (r', m') :: t', w, l, n, σ, σ', hn, ht, hm, U, hl, Q, h => by
    simp only [List.length_cons] at hn ht hl
    obtain ⟨σ1, U1, U2⟩ := U.split (.list ((regn w l r r').map prI))
    have hm1 := U1.mem hm (by intro q; cases q)
    have hrl := regn_len w l r r'
    have key : ∀ w', w' = (w || m') → ∀ {Q' : AV → Sig → Prop}, Q' .none σ' → WCall G (t.length + 3) (.raw (.ref 207)) [.obj x (instObj 217 dx), (nty t).av, (nty t').av, wAV w'] σ1 Q' := fun w' e Q' h' => by
      subst e
      exact c_below hK x dx lp v t t' (w || m') (regn w l r r') (Nat.le_refl _) (by omega) hm1 U2 (by omega) h'
    cases w with
    | false =>
      show WCall G n (.raw (.ref 207)) [.obj x (instObj 217 dx), .tup [.str "ref", .int r, .bool m, (nty t).av], .tup [.str "ref", .int r', .bool m', (nty t').av], .str "co"] σ Q
      refine ⟨WK.fn (by rw [hK]; rfl), .of (.le (k := (t.length+3)+1) ?_ (by omega))⟩
      refine WCd.def [("self", .obj x (instObj 217 dx)), ("one", .tup [.str "ref", .int r, .bool m, (nty t).av]), ("other", .tup [.str "ref", .int r', .bool m', (nty t').av]), ("way", .str "co")] [("self", .obj x (instObj 217 dx)), ("one", .tup [.str "ref", .int r, .bool m, (nty t).av]), ("other", .tup [.str "ref", .int r', .bool m', (nty t').av]), ("way", .str "co")] (fun _ => []) (fun _ => σ) (by rw [hK]; rfl) (by rw [hK]; rfl) (HB.deflt (names := ["self", "one", "other", "way"]) (dargs := []) (ds := []) ?hb ?hr rfl rfl) rfl rfl ?nd (by decide) rfl (fun _ => rfl) (fun _ => rfl) ?_
      case hb => intro s X; exact len4 fun _ _ _ _ => (binds_K X rfl (by rw [hK]; rfl) rfl rfl rfl)
      case hr => intro Φ; rfl
      case nd => exact (by decide : (["self", "one", "other", "way"] : List Str).Nodup)
      intro L
      walk_at "w*"
      refine c_region hK (by omega) x dx lp v l r r' false hm U1 (by omega) ?_
      walk_at "w*"
      cases m' with
      | false =>
        walk_at "w*"
        refine key false rfl ?_
        walk_at "w*"
        exact Fin.of h
      | true =>
        walk_at "w*"
        refine key true rfl ?_
        walk_at "w*"
        exact Fin.of h
    | true =>
      show WCall G n (.raw (.ref 207)) [.obj x (instObj 217 dx), .tup [.str "ref", .int r, .bool m, (nty t).av], .tup [.str "ref", .int r', .bool m', (nty t').av], .str "in"] σ Q
      refine ⟨WK.fn (by rw [hK]; rfl), .of (.le (k := (t.length+3)+1) ?_ (by omega))⟩
      refine WCd.def [("self", .obj x (instObj 217 dx)), ("one", .tup [.str "ref", .int r, .bool m, (nty t).av]), ("other", .tup [.str "ref", .int r', .bool m', (nty t').av]), ("way", .str "in")] [("self", .obj x (instObj 217 dx)), ("one", .tup [.str "ref", .int r, .bool m, (nty t).av]), ("other", .tup [.str "ref", .int r', .bool m', (nty t').av]), ("way", .str "in")] (fun _ => []) (fun _ => σ) (by rw [hK]; rfl) (by rw [hK]; rfl) (HB.deflt (names := ["self", "one", "other", "way"]) (dargs := []) (ds := []) ?hb ?hr rfl rfl) rfl rfl ?nd (by decide) rfl (fun _ => rfl) (fun _ => rfl) ?_
      case hb => intro s X; exact len4 fun _ _ _ _ => (binds_K X rfl (by rw [hK]; rfl) rfl rfl rfl)
      case hr => intro Φ; rfl
      case nd => exact (by decide : (["self", "one", "other", "way"] : List Str).Nodup)
      intro L
      walk_at "w*"
      refine c_region hK (by omega) x dx lp v l r r' true hm U1 (by omega) ?_
      walk_at "w*"
      cases m' with
      | false =>
        walk_at "w*"
        refine key true rfl ?_
        walk_at "w*"
        exact Fin.of h
      | true =>
        walk_at "w*"
        refine key true rfl ?_
        walk_at "w*"
        exact Fin.of h
  | [], _ :: _, _, _, _, _, _, _, ht, _, _, _, _, _ => by simp at ht
  | _ :: _, [], _, _, _, _, _, _, ht, _, _, _, _, _ => by simp at ht
noncomputable def relatedL (t t' : List (Int × Bool)) : List (Int × Int) := belowL false t t' []
end
end Mine
set_option maxRecDepth 100000
set_option autoImplicit false
set_option maxHeartbeats 4000000
namespace Mine
open PySem PySem.W PyProof.Rows PySem.Calls PySem.SeqAt
section
variable {G : Gd} {n : Nat} {σ : Sig}
theorem c_below3 (hK : KOk G) (x dx lp : Addr) (v : AV) (t t' : List (Int × Bool)) {σ σ' : Sig} (hn : t.length + 4 ≤ n) (ht : t.length = t'.length) (hm : (dx, .attrs (relA v lp)) ∈ σ)
    (U : Upd lp (.list []) (.list ((relatedL t t').map prI)) σ σ') (hl : 2 * t.length ≤ 899)
    {Q : AV → Sig → Prop} (h : Q .none σ') : WCall G n (.raw (.ref 207)) [.obj x (instObj 217 dx), (nty t).av, (nty t').av] σ Q := by
  match t, t', ht with
  | [], [], ht =>
    have e := U.eqs rfl
    subst e
    show WCall G n (.raw (.ref 207)) [.obj x (instObj 217 dx), .tup [.str "int", .str "u8"], .tup [.str "int", .str "u8"]] σ Q
    refine ⟨WK.fn (by rw [hK]; rfl), .of (.le (k := 0+1) ?_ (by omega))⟩
    refine WCd.def [("self", .obj x (instObj 217 dx)), ("one", .tup [.str "int", .str "u8"]), ("other", .tup [.str "int", .str "u8"]), ("way", .str "co")] [("self", .obj x (instObj 217 dx)), ("one", .tup [.str "int", .str "u8"]), ("other", .tup [.str "int", .str "u8"]), ("way", .str "co")] (fun _ => []) (fun _ => σ) (by rw [hK]; rfl) (by rw [hK]; rfl) (HB.deflt (names := ["self", "one", "other", "way"]) (dargs := [.str "co"]) (ds := [.str "co" 445]) ?hb ?hr rfl rfl) rfl rfl ?nd (by decide) rfl (fun _ => rfl) (fun _ => rfl) ?_
    case hb => intro s X; exact len3 fun _ _ _ => (binds_K X rfl (by rw [hK]; rfl) rfl rfl rfl)
    case hr => intro Φ; exact ⟨_, _, rfl, ⟨_, rfl⟩, rfl⟩
    case nd => exact (by decide : (["self", "one", "other", "way"] : List Str).Nodup)
    intro L
    walk_at "w*"
    exact Fin.of h
  | (r, m) :: t, (r', m') :: t', ht =>
    simp only [List.length_cons] at hn ht hl
    obtain ⟨σ1, U1, U2⟩ := Upd.split (.list ((regn false [] r r').map prI)) U
    have hm1 := U1.mem hm (by intro q; cases q)
    have hrl := regn_len false [] r r'
    simp only [List.length_nil] at hrl
    have key : ∀ w', w' = (false || m') → ∀ {Q' : AV → Sig → Prop}, Q' .none σ' → WCall G (t.length + 3) (.raw (.ref 207)) [.obj x (instObj 217 dx), (nty t).av, (nty t').av, wAV w'] σ1 Q' := fun w' e Q' h' => by
      rw [e]
      exact c_below hK x dx lp v t t' (false || m') (regn false [] r r') (Nat.le_refl _) (by omega) hm1 U2 (by omega) h'
    show WCall G n (.raw (.ref 207)) [.obj x (instObj 217 dx), .tup [.str "ref", .int r, .bool m, (nty t).av], .tup [.str "ref", .int r', .bool m', (nty t').av]] σ Q
    refine ⟨WK.fn (by rw [hK]; rfl), .of (.le (k := (t.length+3)+1) ?_ (by omega))⟩
    refine WCd.def [("self", .obj x (instObj 217 dx)), ("one", .tup [.str "ref", .int r, .bool m, (nty t).av]), ("other", .tup [.str "ref", .int r', .bool m', (nty t').av]), ("way", .str "co")] [("self", .obj x (instObj 217 dx)), ("one", .tup [.str "ref", .int r, .bool m, (nty t).av]), ("other", .tup [.str "ref", .int r', .bool m', (nty t').av]), ("way", .str "co")] (fun _ => []) (fun _ => σ) (by rw [hK]; rfl) (by rw [hK]; rfl) (HB.deflt (names := ["self", "one", "other", "way"]) (dargs := [.str "co"]) (ds := [.str "co" 445]) ?hb ?hr rfl rfl) rfl rfl ?nd (by decide) rfl (fun _ => rfl) (fun _ => rfl) ?_
    case hb => intro s X; exact len3 fun _ _ _ => (binds_K X rfl (by rw [hK]; rfl) rfl rfl rfl)
    case hr => intro Φ; exact ⟨_, _, rfl, ⟨_, rfl⟩, rfl⟩
    case nd => exact (by decide : (["self", "one", "other", "way"] : List Str).Nodup)
    intro L
    walk_at "w*"
    refine c_region hK (by omega) x dx lp v [] r r' false hm U1 (by simp) ?_
    walk_at "w*"
    cases m' with
    | false =>
      walk_at "w*"
      refine key false rfl ?_
      walk_at "w*"
      exact Fin.of h
    | true =>
      walk_at "w*"
      refine key true rfl ?_
      walk_at "w*"
      exact Fin.of h
variable {t t' : List (Int × Bool)}
theorem c_related (hK : KOk G) (hn : t.length + 5 ≤ n) (v : AV) (hv : v.hand = true) (ht : t.length = t'.length) (hl : 2 * t.length ≤ 899) {Q : AV → Sig → Prop}
    (h : ∀ a, Q (.raw (.ref a)) ((a, .list ((relatedL t t').map prI)) :: σ)) : WCall G n (.raw (.ref 235)) [(nty t).av, (nty t').av, v] σ Q := by
  refine ⟨WK.fn (by rw [hK]; rfl), .of (.le (k := (t.length+4)+1) ?_ (by omega))⟩
  refine WCd.def [("one", (nty t).av), ("other", (nty t').av), ("varied", v)] [("one", (nty t).av), ("other", (nty t').av), ("varied", v)] (fun _ => []) (fun _ => σ) (by rw [hK]; rfl) (by rw [hK]; rfl) (HB.plain (names := ["one", "other", "varied"]) ?hb rfl rfl) rfl rfl ?nd (by decide) rfl (fun _ => rfl) (fun _ => rfl) ?_
  case hb => exact len3 fun _ _ _ => rfl
  case nd => exact (by decide : (["one", "other", "varied"] : List Str).Nodup)
  intro L
  walk_at "w*"
  refine c_Relation hK (by omega) v hv fun x dx lp => ?_
  walk_at "w*"
  refine c_below3 hK x dx lp v t t' (by omega) ht (by walk_at "w mem") (σ' := (lp, .list ((relatedL t t').map prI)) :: (dx, .attrs (relA v lp)) :: σ) (.here _ _ _ _) (by omega) ?_
  walk_at "w*"
  exact Fin.swap (Fin.skip (Fin.ret (h _)))
end
end Mine
set_option maxRecDepth 100000
set_option autoImplicit false
set_option maxHeartbeats 4000000
namespace Mine
open PySem PySem.W PyProof.Rows PySem.Calls PySem.SeqAt
section
variable {G : Gd} {n : Nat} {σ : Sig}
theorem eqv_str (a b : Str) : PyData.eqv (.str a) (.str b) = decide (a = b) := by
  show (a == b) = _
  by_cases h : a = b <;> simp [h]
theorem W2.eq_str {i j : Str} {Q : AV → Sig → Prop} (hi : PyData.strOk i = true) (hj : PyData.strOk j = true) (h : Q (.bool (decide (i = j))) σ) : W2 G n (compareOp .Eq) (.str i) (.str j) σ Q := by
  refine W2.eq (.av hi) (.av hj) (by show min 0 0 ≤ 300; decide) ?_
  rw [show PyData.eqv (AV.str i).py (AV.str j).py = decide (i = j) from eqv_str i j]; exact h
noncomputable def tD (es : List (Str × Int)) : List (AK × AV) := es.map fun p => (.str p.1, .int p.2)
theorem tD_get (s : Str) : ∀ es, getA (tD es) (.str s) = (es.lookup s).map .int
  | [] => rfl
  | (k, i) :: r => by
    show (if AK.str k = .str s then some (AV.int i) else getA (tD r) (.str s)) = _
    rw [List.lookup_cons, tD_get s r]
    by_cases h : k = s
    · subst h; rw [if_pos rfl, beq_self_eq_true]; rfl
    · rw [if_neg (by intro e; injection e with e; exact h e), show (s == k) = false from beq_eq_false_iff_ne.mpr (fun e => h e.symm)]
theorem tD_set {s : Str} {es : List (Str × Int)} (h : es.lookup s = none) (i : Int) : setA (tD es) (.str s) (.int i) = tD (es ++ [(s, i)]) := by
  rw [setA_new (by rw [tD_get, h]; rfl)]
  simp [tD]
noncomputable abbrev sgA (D : Addr) (nx : Int) (rest : Loc) : Loc := ("told", .raw (.ref D)) :: ("next", .int nx) :: rest
noncomputable def fr : Rg → List (Str × Int) → Int → Int × List (Str × Int) × Int
  | .num i, es, nx => (i, es, nx)
  | .anon, es, nx => (nx, es, nx + 1)
  | .name s, es, nx => match es.lookup s with
    | some i => (i, es, nx)
    | none => (nx, es ++ [(s, nx)], nx + 1)
noncomputable def Rg.ok : Rg → Prop
  | .name s => PyData.strOk s = true ∧ s ≠ "'_"
  | _ => True
theorem c_fresh (hK : KOk G) (hn : 1 ≤ n) (x dx D : Addr) (es : List (Str × Int)) (nx : Int) (rest : Loc) (r : Rg) (ok : r.ok) (hl : es.length ≤ 900) {Q : AV → Sig → Prop} (hz : rest.length ≤ 100)
    (h : Q (.int (fr r es nx).1) ((D, .dict (tD (fr r es nx).2.1)) :: (dx, .attrs (sgA D (fr r es nx).2.2 rest)) :: σ)) :
    WCd G n (.raw (.ref 254)) [.obj x (instObj 264 dx), r.av] ((D, .dict (tD es)) :: (dx, .attrs (sgA D nx rest)) :: σ) Q := by
  cases r with
  | num i =>
    show WCd G n (.raw (.ref 254)) [.obj x (instObj 264 dx), .int i] _ Q
    refine .le (k := 0+1) ?_ (by omega)
    refine WCd.def [("self", .obj x (instObj 264 dx)), ("region", .int i)] [("self", .obj x (instObj 264 dx)), ("region", .int i)] (fun _ => []) (fun _ => (D, .dict (tD es)) :: (dx, .attrs (sgA D nx rest)) :: σ) (by rw [hK]; rfl) (by rw [hK]; rfl) (HB.plain (names := ["self", "region"]) ?hb rfl rfl) rfl rfl ?nd (by decide) rfl (fun _ => rfl) (fun _ => rfl) ?_
    case hb => exact len2 fun _ _ => rfl
    case nd => exact (by decide : (["self", "region"] : List Str).Nodup)
    intro L
    walk_at "w*"
    exact Fin.ret h
  | anon =>
    show WCd G n (.raw (.ref 254)) [.obj x (instObj 264 dx), .none] _ Q
    refine .le (k := 0+1) ?_ (by omega)
    refine WCd.def [("self", .obj x (instObj 264 dx)), ("region", .none)] [("self", .obj x (instObj 264 dx)), ("region", .none)] (fun _ => []) (fun _ => (D, .dict (tD es)) :: (dx, .attrs (sgA D nx rest)) :: σ) (by rw [hK]; rfl) (by rw [hK]; rfl) (HB.plain (names := ["self", "region"]) ?hb rfl rfl) rfl rfl ?nd (by decide) rfl (fun _ => rfl) (fun _ => rfl) ?_
    case hb => exact len2 fun _ _ => rfl
    case nd => exact (by decide : (["self", "region"] : List Str).Nodup)
    intro L
    walk_at "w*"
    refine AttK.mk hK (am' := sgA D (nx + 1) rest) (.there (.here ..)) (by walk_at "r") rfl (by simp only [sgA, List.length_cons]; omega) ?_
    walk_at "w*"
    refine Fin.ret ?_
    rw [show nx + 1 - 1 = nx by omega]
    exact h
  | name s =>
    show WCd G n (.raw (.ref 254)) [.obj x (instObj 264 dx), .str s] _ Q
    refine .le (k := 0+1) ?_ (by omega)
    refine WCd.def [("self", .obj x (instObj 264 dx)), ("region", .str s)] [("self", .obj x (instObj 264 dx)), ("region", .str s)] (fun _ => []) (fun _ => (D, .dict (tD es)) :: (dx, .attrs (sgA D nx rest)) :: σ) (by rw [hK]; rfl) (by rw [hK]; rfl) (HB.plain (names := ["self", "region"]) ?hb rfl rfl) rfl rfl ?nd (by decide) rfl (fun _ => rfl) (fun _ => rfl) ?_
    case hb => exact len2 fun _ _ => rfl
    case nd => exact (by decide : (["self", "region"] : List Str).Nodup)
    intro L
    walk_at "w*"
    obtain ⟨ok1, ok2⟩ := ok
    refine W2.eq_str ok1 (by walk_at "r") ?_
    refine kbool ?_
    rw [decide_eq_false ok2]
    walk_at "w*"
    refine W2.notin_dict (k := .str s) (by walk_at "w mem") rfl ?_
    rw [tD_get]
    cases hl' : es.lookup s with
    | some i =>
      have e : fr (.name s) es nx = (i, es, nx) := by simp only [fr, hl']
      rw [e] at h
      walk_at "w*"
      refine W2.item_dict (k := .str s) (y := .int i) (by walk_at "w mem") rfl (by rw [tD_get, hl']; rfl) ?_ (by with_unfolding_all exact fun _ _ => rfl)
      exact Fin.ret h
    | none =>
      have e : fr (.name s) es nx = (nx, es ++ [(s, nx)], nx + 1) := by simp only [fr, hl']
      rw [e] at h
      walk_at "w*"
      refine AttK.mk hK (am' := sgA D (nx + 1) rest) (.there (.here ..)) (by walk_at "r") rfl (by simp only [sgA, List.length_cons]; omega) ?_
      walk_at "w*"
      refine W2.eq_str ok1 (by walk_at "r") ?_
      refine kbool ?_
      rw [decide_eq_false ok2]
      walk_at "w*"
      have e2 := tD_set hl' (nx + 1 - 1)
      refine W3.set_dict (k := .str s) (.here ..) rfl (by simp only [tD, List.length_map]; exact Nat.le_trans hl (by decide)) ?_
      rw [e2, show nx + 1 - 1 = nx by omega]
      walk_at "w*"
      refine W2.item_dict (k := .str s) (y := .int nx) (by walk_at "w mem") rfl ?_ ?_ (by with_unfolding_all exact fun _ _ => rfl)
      · rw [tD_get, List.lookup_append, hl']; simp
      · exact Fin.ret h
end
end Mine
set_option maxRecDepth 100000
set_option autoImplicit false
set_option maxHeartbeats 4000000
namespace Mine
open PySem PySem.W PyProof.Rows PySem.Calls PySem.SeqAt
section
variable {G : Gd} {n : Nat} {σ : Sig}
noncomputable def frT : Ty → List (Str × Int) → Int → Ty × List (Str × Int) × Int
  | .u8, es, nx => (.u8, es, nx)
  | .param, es, nx => (.param, es, nx)
  | .ref r m t, es, nx => (.ref (.num (fr r es nx).1) m (frT t (fr r es nx).2.1 (fr r es nx).2.2).1, (frT t (fr r es nx).2.1 (fr r es nx).2.2).2)
theorem frT_ht : ∀ (t : Ty) (es : List (Str × Int)) (nx : Int), (frT t es nx).1.ht = t.ht
  | .u8, _, _ => rfl
  | .param, _, _ => rfl
  | .ref r m t, es, nx => by show (frT t _ _).1.ht + 1 = t.ht + 1; rw [frT_ht t]
noncomputable def Ty.okR : Ty → Prop
  | .ref r _ t => r.ok ∧ t.okR
  | _ => True
theorem fr_len (r : Rg) (es : List (Str × Int)) (nx : Int) : (fr r es nx).2.1.length ≤ es.length + 1 := by
  cases r with
  | num i => simp [fr]
  | anon => simp [fr]
  | name s =>
    simp only [fr]
    split <;> simp
theorem chg_fresh (hK : KOk G) (x dx D : Addr) (rest : Loc) (hz : rest.length ≤ 100) : ∀ (t : Ty) (es : List (Str × Int)) (nx : Int) {Q : Ty → Sig → Prop} (ok : t.okR) (hl : es.length + t.ht ≤ 900)
    (h : Q (frT t es nx).1 ((D, .dict (tD (frT t es nx).2.1)) :: (dx, .attrs (sgA D (frT t es nx).2.2 rest)) :: σ)), Chg G 1 (.meth 254 (.obj x (instObj 264 dx))) t ((D, .dict (tD es)) :: (dx, .attrs (sgA D nx rest)) :: σ) Q
  | .u8, es, nx, Q, ok, hl, h => h
  | .param, es, nx, Q, ok, hl, h => h
  | .ref r m t, es, nx, Q, ok, hl, h => by
    simp only [Ty.ht] at hl
    refine ⟨WK.meth (by rw [hK]; rfl), .of (.meth ?_)⟩
    refine c_fresh hK (Nat.le_refl _) x dx D es nx rest r ok.1 (by omega) hz ?_
    refine ⟨.num (fr r es nx).1, rfl, ?_⟩
    exact chg_fresh hK x dx D rest hz t _ _ ok.2 (by have := fr_len r es nx; omega) h
theorem c_seen (hK : KOk G) (x dx D d : Addr) (es : List (Str × Int)) (nx : Int) (rest : Loc) (hz : rest.length ≤ 100) (hr : List.lookup ("fresh" : Str) rest = none) (t p : Ty) (hn : t.ht + 4 ≤ n) (ok : t.okR) (hl : es.length + t.ht ≤ 900)
    (hd : (d, .dict [(.str "T", p.av)]) ∈ σ) {Q : AV → Sig → Prop} (h : Q ((frT t es nx).1.subst p).av ((D, .dict (tD (frT t es nx).2.1)) :: (dx, .attrs (sgA D (frT t es nx).2.2 rest)) :: σ)) :
    WCall G n (.raw (.ref 261)) [.obj x (instObj 264 dx), t.av, .raw (.ref d)] ((D, .dict (tD es)) :: (dx, .attrs (sgA D nx rest)) :: σ) Q := by
  refine ⟨WK.fn (by rw [hK]; rfl), .of (.le (k := (t.ht+3)+1) ?_ (by omega))⟩
  refine WCd.def [("self", .obj x (instObj 264 dx)), ("told", t.av), ("table", .raw (.ref d))] [("self", .obj x (instObj 264 dx)), ("told", t.av), ("table", .raw (.ref d))] (fun _ => []) (fun _ => (D, .dict (tD es)) :: (dx, .attrs (sgA D nx rest)) :: σ) (by rw [hK]; rfl) (by rw [hK]; rfl) (HB.plain (names := ["self", "told", "table"]) ?hb rfl rfl) rfl rfl ?nd (by decide) rfl (fun _ => rfl) (fun _ => rfl) ?_
  case hb => exact len3 fun _ _ _ => rfl
  case nd => exact (by decide : (["self", "told", "table"] : List Str).Nodup)
  intro L
  walk_at "w*"
  refine W1.boundK hK (am := sgA D nx rest) (by walk_at "w mem") hr (by walk_at "r") (by walk_at "r") (by walk_at "r") (by walk_at "r") (by walk_at "r") ?_
  walk_at "w*"
  refine c_with_regions hK (.meth 254 (.obj x (instObj 264 dx))) 1 t (by omega) ?_
  refine chg_fresh hK x dx D rest hz t es nx ok hl ?_
  walk_at "w*"
  refine c_substituted hK d p _ (by rw [frT_ht]; omega) (by walk_at "w mem") ?_
  walk_at "w*"
  exact Fin.ret h
end
end Mine
set_option maxRecDepth 100000
set_option autoImplicit false
set_option maxHeartbeats 4000000
namespace Mine
open PySem PySem.W PyProof.Rows PySem.Calls PySem.SeqAt
section
variable {G : Gd} {n : Nat} {σ : Sig}
noncomputable abbrev parAV : AV := .tup [.tup [.str "T", .tup []]]
noncomputable abbrev sigA (nm rg : AV) (w0 w1 w2 : Ty) : Loc := [("path", nm), ("regions", rg), ("params", parAV), ("own", parAV), ("inputs", .tup [w0.av, w1.av]), ("output", w2.av), ("self_kind", .none), ("has_body", .bool true)]
noncomputable abbrev worldA (d1 d2 ds d4 l d5 d6 : Addr) : Loc := [("modules", .none), ("adts", .raw (.ref d1)), ("variants", .raw (.ref d2)), ("sigs", .raw (.ref ds)), ("traits", .raw (.ref d4)), ("impls", .raw (.ref l)), ("consts", .raw (.ref d5)), ("bodies", .raw (.ref d6))]
theorem c_callee_sig (hK : KOk G) (hn : 1 ≤ n) (wx wdx d1 d2 ds d4 l d5 d6 sx sdx : Addr) (nm : Str) (nv rg : AV) (w0 w1 w2 p : Ty) (sd : List (AK × AV)) (hw : (wdx, .attrs (worldA d1 d2 ds d4 l d5 d6)) ∈ σ) (hs : (ds, .dict sd) ∈ σ)
    (hg : getA sd (.str nm) = some (.obj sx (instObj 389 sdx))) (hsa : (sdx, .attrs (sigA nv rg w0 w1 w2)) ∈ σ) {Q : AV → Sig → Prop}
    (h : ∀ tb, Q (.tup [.obj sx (instObj 389 sdx), .raw (.ref tb)]) ((tb, .dict [(.str "T", p.av)]) :: σ)) :
    WCall G n (.raw (.ref 273)) [.obj wx (instObj 418 wdx), .tup [.str "fn", .str nm, .tup [p.av]]] σ Q := by
  refine ⟨WK.fn (by rw [hK]; rfl), .of (.le (k := 0+1) ?_ (by omega))⟩
  refine WCd.def [("world", .obj wx (instObj 418 wdx)), ("callee", .tup [.str "fn", .str nm, .tup [p.av]])] [("world", .obj wx (instObj 418 wdx))] (fun L => [("callee", L + 1)]) (fun L => (L + 1, AObj.cell (some (.tup [.str "fn", .str nm, .tup [p.av]]))) :: σ) (by rw [hK]; rfl) (by rw [hK]; rfl) (HB.plain (names := ["world", "callee"]) ?hb rfl rfl) rfl rfl ?nd (by decide) rfl (fun _ => rfl) (fun _ => rfl) ?_
  case hb => exact len2 fun _ _ => rfl
  case nd => exact (by decide : (["world", "callee"] : List Str).Nodup)
  intro L
  walk_at "w*"
  refine W2.item_dict (k := .str nm) (List.mem_cons_of_mem _ hs) rfl hg ?_ (by with_unfolding_all exact fun _ _ => rfl)
  walk_at "w*"
  exact Fin.sub (Fin.ret (h _)) (.cons_cons _ (.cons _ (.cons _ (.refl _))))
theorem WCall.pull {f : AV} {args : List AV} {Q : AV → Sig → Prop} {r : Sig} (a : Addr) {o : AObj} (p : At a o r σ) (h : WCall G n f args ((a, o) :: r) Q) : WCall G n f args σ Q := WCall.pre (R := []) h (by rw [List.append_nil]; exact p.perm)
theorem Ty.av_hand (t : Ty) : t.av.hand = true := by cases t <;> rfl
structure SOut where
  i0 : Ty
  i1 : Ty
  o : Ty
  nx : Int
noncomputable def sgn (w0 w1 w2 p : Ty) (first : Int) : SOut :=
  let a := frT w0 [("'static", 0)] first
  let b := frT w1 a.2.1 a.2.2
  let c := frT w2 b.2.1 b.2.2
  ⟨a.1.subst p, b.1.subst p, c.1.subst p, c.2.2⟩
theorem frT_len : ∀ (t : Ty) (es : List (Str × Int)) (nx : Int), (frT t es nx).2.1.length ≤ es.length + t.ht
  | .u8, _, _ => Nat.le_refl _
  | .param, _, _ => Nat.le_refl _
  | .ref r m t, es, nx => by
    show (frT t _ _).2.1.length ≤ es.length + (t.ht + 1)
    have := frT_len t (fr r es nx).2.1 (fr r es nx).2.2
    have := fr_len r es nx
    omega
noncomputable abbrev sgF (D : Addr) (nx : Int) (li : Addr) (o : AV) : Loc := [("told", .raw (.ref D)), ("next", .int nx), ("inputs", .raw (.ref li)), ("output", o)]
theorem c_Signature (hK : KOk G) (sx sdx d : Addr) (nv rg : AV) (w0 w1 w2 p : Ty) (first : Int) (hn : w0.ht + w1.ht + w2.ht + 6 ≤ n) (hsa : (sdx, .attrs (sigA nv rg w0 w1 w2)) ∈ σ) (hd : (d, .dict [(.str "T", p.av)]) ∈ σ) (ok0 : w0.okR) (ok1 : w1.okR) (ok2 : w2.okR)
    (hb : w0.ht + w1.ht + w2.ht ≤ 300) {Q : AV → Sig → Prop}
    (h : ∀ x dx D li, Q (.obj x (instObj 264 dx)) ((li, .list [(sgn w0 w1 w2 p first).i0.av, (sgn w0 w1 w2 p first).i1.av]) :: (dx, .attrs (sgF D (sgn w0 w1 w2 p first).nx li (sgn w0 w1 w2 p first).o.av)) :: σ)) :
    WCall G n (.raw (.ref 264)) [.obj sx (instObj 389 sdx), .raw (.ref d), .int first] σ Q := by
  refine .le (k := (w0.ht + w1.ht + w2.ht + 5)+1) ?_ hn
  refine .make hK (by walk_at "r") (by walk_at "r") (by walk_at "r") (by walk_at "r") fun x dx => ?_
  refine .le (k := (w0.ht+w1.ht+w2.ht+4)+1) ?_ (by omega)
  refine WCd.def [("self", .obj x (instObj 264 dx)), ("sig", .obj sx (instObj 389 sdx)), ("table", .raw (.ref d)), ("first", .int first)] [("sig", .obj sx (instObj 389 sdx)), ("first", .int first)] (fun L => [("table", L + 2), ("self", L + 1)]) (fun L => (L + 2, AObj.cell (some (.raw (.ref d)))) :: (L + 1, AObj.cell (some (.obj x (instObj 264 dx)))) :: (dx, .attrs []) :: σ) (by rw [hK]; rfl) (by rw [hK]; rfl) (HB.plain (names := ["self", "sig", "table", "first"]) ?hb rfl rfl) rfl rfl ?nd (by decide) rfl (fun _ => rfl) (fun _ => rfl) ?_
  case hb => exact len4 fun _ _ _ _ => rfl
  case nd => exact (by decide : (["self", "sig", "table", "first"] : List Str).Nodup)
  intro L
  walk_at "w*"
  refine WCall.pull dx (by walk_at "w at") (WCall.pull _ (by walk_at "w at") (c_seen hK x dx _ d [("'static", 0)] first [] (by simp) rfl w0 p (by omega) ok0 (by simp; omega) (by walk_at "w mem") ?_))
  walk_at "w*"
  have l0 := frT_len w0 [("'static", 0)] first
  refine WCall.pull dx (by walk_at "w at") (WCall.pull _ (by walk_at "w at") (c_seen hK x dx _ d (frT w0 [("'static", 0)] first).2.1 (frT w0 [("'static", 0)] first).2.2 [] (by simp) rfl w1 p (by omega) ok1 (by simp at l0; omega) (by walk_at "w mem") ?_))
  walk_at "w*"
  refine W1.attrK hK (am := sigA nv rg w0 w1 w2) (a := w2.av) (by walk_at "w mem") (by walk_at "r") (by walk_at "r") (Ty.av_hand w2) ?_
  walk_at "w*"
  have l1 := frT_len w1 (frT w0 [("'static", 0)] first).2.1 (frT w0 [("'static", 0)] first).2.2
  refine c_seen hK x dx _ d (frT w1 (frT w0 [("'static", 0)] first).2.1 (frT w0 [("'static", 0)] first).2.2).2.1 (frT w1 (frT w0 [("'static", 0)] first).2.1 (frT w0 [("'static", 0)] first).2.2).2.2 [("inputs", _)] (by simp) rfl w2 p (by omega) ok2 (by simp at l0; omega) (by walk_at "w mem") ?_
  walk_at "w*"
  refine Fin.skip (Fin.swap (Fin.sub (Fin.of ⟨rfl, ?_⟩) (.cons_cons _ (.cons_cons _ (.cons _ (.cons _ (.refl _)))))))
  exact h x dx _ _
end
end Mine
set_option maxRecDepth 100000
set_option autoImplicit false
namespace Mine
open PySem PySem.W PyProof.Rows PySem.Calls PySem.SeqAt
structure Src (G : Gd) (n : Nat) (it : Addr) (target : Expr) (N : Nat) (item : Nat → AV) (I : Nat → Sig) (E : Sig) (ok : Sig → Prop) : Prop where
  item : ∀ i σ Qe Qi, i < N → ok σ → Qi (item i) (I (i + 1) ++ σ) → WN G n it target (I i ++ σ) Qe Qi
  done : ∀ σ Qe Qi, ok σ → Qe (E ++ σ) → WN G n it target (I N ++ σ) Qe Qi
section
variable {G : Gd} {n : Nat} {env : Env} {σ : Sig} {m : Loc} {it : Addr} {target : Expr} {N : Nat} {item : Nat → AV} {I : Nat → Sig} {E : Sig} {ok : Sig → Prop}
theorem Src.list {a : Addr} (xs : List AV) : Src G n it target xs.length (fun i => xs.getD i .none) (fun i => [(it, .listIter a i)]) [] (fun σ => (a, .list xs) ∈ σ) where
  item := fun i σ Qe Qi hi hm h => WN.list_item (by rw [List.getD_eq_getElem?_getD, List.getElem?_eq_getElem hi]; rfl) (.here ..) (.tail _ hm) h
  done := fun σ Qe Qi hm h => WN.list_end (Nat.le_refl _) (.here ..) (.tail _ hm) h
theorem Src.enumList {a y : Addr} (xs : List AV) (ht : isTupT target = true) : Src G n it target xs.length (fun i => .tup [.int i, xs.getD i .none]) (fun i => [(it, .enumIter y i), (y, .listIter a i)]) [(it, .enumIter y xs.length)] (fun σ => (a, .list xs) ∈ σ) where
  item := fun i σ Qe Qi hi hm h => WN.enum_list_item ht (by rw [List.getD_eq_getElem?_getD, List.getElem?_eq_getElem hi]; rfl) (.here ..) (.there (.here ..)) (.tail _ (.tail _ hm)) h
  done := fun σ Qe Qi hm h => WN.enum_list_end (σ₁ := []) (Nat.le_refl _) (.head _) (.there (.here ..)) (.tail _ (.tail _ hm)) h
theorem Src.range (N : Nat) : Src G n it target N (fun i => .int i) (fun i => [(it, .rangeIter i ((N : Int) - i) 1)]) [] (fun σ => True) where
  item := fun i σ Qe Qi hi hm h => WN.range_item (by omega) (.here ..) (by
    have e1 : ((i + 1 : Nat) : Int) = (i : Int) + 1 := by omega
    have e2 : (N : Int) - ((i + 1 : Nat) : Int) = (N : Int) - i - 1 := by omega
    rw [e2, e1] at h; exact h)
  done := fun σ Qe Qi hm h => WN.range_end (by omega) (.here ..) h
noncomputable def LoopK (m : Loc) (S : Sig) (fl : AFl) (m₂ : Loc) (σ₃ : Sig) : Prop := (fl = .next ∨ fl = .cont) ∧ (∀ y v, m.lookup y = some v → m₂.lookup y = some v) ∧ ∃ R, σ₃.Perm (S ++ R)
theorem LoopK.same {m₂ : Loc} (h : ∀ y v, m.lookup y = some v → m₂.lookup y = some v) : LoopK m σ .next m₂ σ := ⟨.inl rfl, h, [], by rw [List.append_nil]⟩
theorem LoopK.skip {m₂ : Loc} {S : Sig} {fl : AFl} {g : Addr × AObj} (h : LoopK m S fl m₂ σ) : LoopK m S fl m₂ (g :: σ) := ⟨h.1, h.2.1, let ⟨R, p⟩ := h.2.2; ⟨g :: R, (p.cons g).trans List.perm_middle.symm⟩⟩
theorem LoopK.perm {m₂ : Loc} {S σ' : Sig} {fl : AFl} (h : LoopK m S fl m₂ σ') (p : σ.Perm σ') : LoopK m S fl m₂ σ := ⟨h.1, h.2.1, let ⟨R, q⟩ := h.2.2; ⟨R, p.trans q⟩⟩
theorem look_new {m : Loc} {k : Str} {x : AV} (h : m.lookup k = none) : ∀ y v, m.lookup y = some v → ((k, x) :: m).lookup y = some v := fun y v e => by
  rw [List.lookup_cons]
  by_cases q : y = k
  · rw [q, h] at e; cases e
  · rw [show (y == k) = false from beq_eq_false_iff_ne.mpr q]; exact e
theorem look_new2 {m : Loc} {k k' : Str} {x x' : AV} (h : m.lookup k = none) (h' : m.lookup k' = none) : ∀ y v, m.lookup y = some v → ((k, x) :: (k', x') :: m).lookup y = some v := fun y v e => by
  have e1 := look_new (x := x') h' y v e
  rw [List.lookup_cons]
  by_cases q : y = k
  · rw [q, h] at e; cases e
  · rw [show (y == k) = false from beq_eq_false_iff_ne.mpr q]; exact e1
theorem WF.each {body : List Stmt} {Q : AFl → Loc → Sig → Prop} (S : Src G n it target N item I E ok) (J : Nat → Sig) (hok : ∀ i, i ≤ N → ok (J i))
    (step : ∀ i, i < N → WA G n env m (I (i + 1) ++ J i) target (item i) fun m₁ σ₂ => WS G n env m₁ σ₂ body (LoopK m (I (i + 1) ++ J (i + 1))))
    (fin : Q .next m (E ++ J N)) : WF G n env target it body m (I 0 ++ J 0) Q := by
  have key : ∀ k i, i + k = N → WF G n env target it body m (I i ++ J i) Q := by
    intro k
    induction k with
    | zero => intro i hi; have : i = N := by omega
              subst this; exact WF.turn (S.done _ _ _ (hok i (Nat.le_refl _)) fin)
    | succ k ih =>
      intro i hi
      refine WF.turn (S.item i _ _ _ (by omega) (hok i (by omega)) ?_)
      have hs := step i (by omega)
      have hn := ih (i + 1) (by omega)
      intro v A Φ s F hr rv hst
      refine wpAny_mono (hs v A Φ s F hr rv hst) (fun _ s2 h2 => ?_) noE
      obtain ⟨Φ2, m2, σ2, x2, st2, q2⟩ := h2
      refine ⟨Φ2, m2, σ2, x2, st2, WT1.mono q2 fun fl m3 σ3 hq => ?_⟩
      obtain ⟨hfl, hm, R, p⟩ := hq
      rcases hfl with rfl | rfl
      · exact WF.pre hn p hm
      · exact WF.pre hn p hm
  exact key N 0 (by omega)
variable {e : Expr} {depth : Nat} {acc : Addr} {elt : Expr} {ifs : List Expr}
theorem WCL.pre {m m' : Loc} {R σ' : Sig} {Q : Loc → Sig → Prop} (h : WCL G n e depth it acc env m' σ' Q) (p : σ.Perm (σ' ++ R)) (hm : ∀ x a, m'.lookup x = some a → m.lookup x = some a) : WCL G n e depth it acc env m σ Q := fun A Φ s F hr hs => by
  refine h A Φ s F hr ?_
  have h1 := ((hs.perm (σ' := σ' ++ (R ++ ((env.locals, .ns m) :: F))) (by rw [← List.append_assoc σ' R]; exact p.append_right _)).sub (List.Sublist.append_left (List.sublist_append_right _ _) _))
  have p2 : ∀ m' : Loc, (σ' ++ ((env.locals, AObj.ns m') :: F)).Perm ((env.locals, .ns m') :: (σ' ++ F)) := fun m' => List.perm_middle
  refine ((h1.perm (p2 m)).updHead (s' := s) (ao' := .ns m') (Heap.ExtBut.refl _ _) ?_ rfl rfl).perm (p2 m').symm
  obtain ⟨mm, hn, hv⟩ := (h1.perm (p2 m)).head
  exact ⟨mm, hn, fun y a e => hv y a (hm y a e)⟩
noncomputable def CompK (m : Loc) (S : Sig) (m₂ : Loc) (σ₃ : Sig) : Prop := (∀ y v, m.lookup y = some v → m₂.lookup y = some v) ∧ ∃ R, σ₃.Perm (S ++ R)
theorem CompK.same {m₂ : Loc} (h : ∀ y v, m.lookup y = some v → m₂.lookup y = some v) : CompK m σ m₂ σ := ⟨h, [], by rw [List.append_nil]⟩
theorem CompK.skip {m₂ : Loc} {S : Sig} {g : Addr × AObj} (h : CompK m S m₂ σ) : CompK m S m₂ (g :: σ) := ⟨h.1, let ⟨R, p⟩ := h.2; ⟨g :: R, (p.cons g).trans List.perm_middle.symm⟩⟩
noncomputable def ItemK (G : Gd) (n : Nat) (env : Env) (target elt : Expr) (ifs : List Expr) (acc : Addr) (m : Loc) (σ : Sig) (x : AV) (S : Sig) : Prop :=
  WA G n env m σ target x fun m₁ σ₂ => WIfs G n env m₁ ifs σ₂ fun b σ₃ => if b then Emit G n env m₁ σ₃ acc elt fun σ₄ => CompK m S m₁ σ₄ else CompK m S m₁ σ₃
theorem WIfs.mono {ifs : List Expr} {Q Q' : Bool → Sig → Prop} (k : ∀ b σ, Q b σ → Q' b σ) : ∀ {σ : Sig}, WIfs G n env m ifs σ Q → WIfs G n env m ifs σ Q' := by
  induction ifs with
  | nil => exact fun h => k _ _ h
  | cons c r ih =>
    intro σ h
    refine W.mono h fun b σ₁ q => ?_
    cases b with
    | true => exact ih q
    | false => exact k _ _ q
theorem Emit.mono {k k' : Sig → Prop} (h : Emit G n env m σ acc elt k) (f : ∀ σ, k σ → k' σ) : Emit G n env m σ acc elt k' := W.mono h fun x σ₁ ⟨l, σ₂, U, hl, q⟩ => ⟨l, σ₂, U, hl, f _ q⟩
theorem WCL.each {Q : Loc → Sig → Prop} (turn : ∀ {m σ}, CTurn G n e depth it acc env target elt ifs m σ Q → WCL G n e depth it acc env m σ Q) (S : Src G n it target N item I E ok) (J : Nat → Sig) (hok : ∀ i, i ≤ N → ok (J i))
    (step : ∀ i, i < N → ItemK G n env target elt ifs acc m (I (i + 1) ++ J i) (item i) (I (i + 1) ++ J (i + 1)))
    (fin : Q m (E ++ J N)) : WCL G n e depth it acc env m (I 0 ++ J 0) Q := by
  have key : ∀ k i, i + k = N → WCL G n e depth it acc env m (I i ++ J i) Q := by
    intro k
    induction k with
    | zero => intro i hi; have : i = N := by omega
              subst this; exact turn (S.done _ _ _ (hok i (Nat.le_refl _)) fin)
    | succ k ih =>
      intro i hi
      refine turn (S.item i _ _ _ (by omega) (hok i (by omega)) ?_)
      have hs := step i (by omega)
      have hn := ih (i + 1) (by omega)
      intro v A Φ s F hr rv hst
      refine wpAny_mono (hs v A Φ s F hr rv hst) (fun _ s2 h2 => ?_) noE
      obtain ⟨Φ2, m2, σ2, x2, st2, q2⟩ := h2
      refine ⟨Φ2, m2, σ2, x2, st2, WIfs.mono (fun b σ3 q3 => ?_) q2⟩
      cases b with
      | true => exact Emit.mono q3 fun σ4 ⟨hm, R, p⟩ => WCL.pre hn p hm
      | false => obtain ⟨hm, R, p⟩ := q3; exact WCL.pre hn p hm
  exact key N 0 (by omega)
theorem WCL.each2 {Q : Loc → Sig → Prop} {i' : Expr} (turn : ∀ {m σ}, CTurn2 G n e it acc env target i' ifs m σ Q → WCL G n e 0 it acc env m σ Q) (S : Src G n it target N item I E ok) (J : Nat → Sig) (hok : ∀ i, i ≤ N → ok (J i))
    (step : ∀ i, i < N → WA G n env m (I (i + 1) ++ J i) target (item i) fun m₁ σ₂ => WIfs G n env m₁ ifs σ₂ fun b σ₃ =>
      if b then WEF G n env m₁ σ₃ i' fun a σ₄ => W1 G n pyIter a σ₄ fun bb σ₅ => ∃ it', bb = .raw (.ref it') ∧ WCS G n e 1 it' acc env m₁ σ₅ fun m₂ σ₆ => CompK m (I (i + 1) ++ J (i + 1)) m₂ σ₆
      else CompK m (I (i + 1) ++ J (i + 1)) m₁ σ₃)
    (fin : Q m (E ++ J N)) : WCL G n e 0 it acc env m (I 0 ++ J 0) Q := by
  have key : ∀ k i, i + k = N → WCL G n e 0 it acc env m (I i ++ J i) Q := by
    intro k
    induction k with
    | zero => intro i hi; have : i = N := by omega
              subst this; exact turn (S.done _ _ _ (hok i (Nat.le_refl _)) fin)
    | succ k ih =>
      intro i hi
      refine turn (S.item i _ _ _ (by omega) (hok i (by omega)) ?_)
      have hs := step i (by omega)
      have hn := ih (i + 1) (by omega)
      intro v A Φ s F hr rv hst
      refine wpAny_mono (hs v A Φ s F hr rv hst) (fun _ s2 h2 => ?_) noE
      obtain ⟨Φ2, m2, σ2, x2, st2, q2⟩ := h2
      refine ⟨Φ2, m2, σ2, x2, st2, WIfs.mono (fun b σ3 q3 => ?_) q2⟩
      cases b with
      | true =>
        refine W.mono q3 fun a σ4 q4 => fun v => W.mono (q4 v) fun bb σ5 q5 => ?_
        obtain ⟨it', hb, h1, h2⟩ := q5
        refine ⟨it', hb, h1, fun A Φ s F hr hs => codeAny_mono (h2 A Φ s F hr hs) fun r s' hq => ?_⟩
        obtain ⟨hr, Φ', m', σ', x, st, hm, R, p⟩ := hq
        exact ⟨hr, Φ', m', σ', x, st, WCL.pre hn p hm⟩
      | false => obtain ⟨hm, R, p⟩ := q3; exact WCL.pre hn p hm
  exact key N 0 (by omega)
end
end Mine
set_option maxRecDepth 100000
set_option autoImplicit false
namespace Mine
open PySem PySem.W PyProof.Rows PySem.Calls PySem.SeqAt
section
variable {G : Gd} {n : Nat} {σ σ' : Sig}
theorem WC.extendNew {a b : Addr} {l l2 : List AV} {Q : AV → Sig → Prop} (U : Upd a (.list l) (.list (l ++ l2)) σ σ') (hl : l.length + l2.length ≤ sizeLine) (h : Q .none ((b, .list l2) :: σ')) :
    WC G n (.raw (.builtin "list.extend")) [.raw (.ref a), .raw (.ref b)] ((b, .list l2) :: σ) Q := fun fv vs A Φ s F hr hK r1 r2 hs => by
  have ha : (a, AObj.list l) ∈ σ := by obtain ⟨r, p, _⟩ := U.at; exact p.mem_iff.mpr (.head _)
  have hne : a ≠ b := fun q => by
    have nd := hs.nd
    rw [List.cons_append, List.map_cons, List.nodup_cons] at nd
    exact nd.1 (List.mem_map.mpr ⟨_, List.mem_append_left _ ha, q⟩)
  exact WC.extend (.there U) (.head _) hne hl h fv vs A Φ s F hr hK r1 r2 hs
end
end Mine
set_option maxRecDepth 100000
set_option autoImplicit false
set_option maxHeartbeats 4000000
namespace Mine
open PySem PySem.W PyProof.Rows PySem.Calls PySem.SeqAt
section
variable {prog : Program} {w : World} {A : Around} {E : Value → Shared → Prop} {s : Shared}
theorem keys_miss {a : Addr} {o : Obj} {xs : Array Value} {k : Nat} {Q : Option Value → Shared → Prop} (hx : s.heap.get? a = some o) (hc : o.cls = .type "list") (hdat : o.data = .seq xs k) (hd : o.dict = none) (hA : A.handled = none)
    (h : ∀ h' tk, (∀ b ob, s.heap.get? b = some ob → h'.get? b = some ob) → Q none { s with heap := h', toks := tk }) : wpAny (model prog w) A (getAttr? (.ref a) "keys") Q E s := by
  obtain ⟨hp, g, d, tk, os⟩ := s
  obtain ⟨c, dct, dat, sl⟩ := o
  cases hc; cases hdat; cases hd
  have ty : ∀ u, (⟨hp, g, d, u, os⟩ : Shared).TypeIs (.ref a) "list" := fun _ => ⟨_, hx, rfl⟩
  have no : typeLookup (.type "list") ("keys" : Str) = pure none := am_miss_of_fast (by decide +kernel)
  -- the call that misses
  have miss : ∀ {u t : Nat} {R : Value → Shared → Prop} {E' : Value → Shared → Prop}, (∀ h' t' e, Heap.NewAttrErr hp h' e (.ref a) "keys" → E' (.ref e) ⟨h', g, d, t', os⟩) → wpAny (model prog w) A (call (.builtin "list.__getattribute__") ([.ref a] ++ [.str "keys" t])) R E' ⟨hp, g, d, u, os⟩ := fun hE =>
    call_meets F.slot_list_getattribute (ty _) am_entry_list_getattribute (F.args_list_getattribute_2 _ _) (meets_getattribute_miss_list a xs k sl "keys" _ no (by decide +kernel) (by decide)) ⟨hx, hA, hE⟩
  unfold getAttr? getAttrBy? getAttrBy
  wp_walk using miss, wpAny_typeOf (ty _), wpAny_of_eq F.slot_list_getattribute.lookup, wpAny_of_eq am_list_getattr_none, wpAny_of_eq (F.slot_list_getattribute.bind (.ref a))
  intro h' t' e hx'
  obtain ⟨_, _, he⟩ := hx'.there
  have isA := sub_AttributeError
  unfold getattributeRaised
  wp_walk using wpAny_of_eq am_list_getattr_none, wpAny_of_eq F.slot_list_getattribute.lookup
  exact h _ _ hx'.keeps
end
theorem entry_dict_loop : entryFor table "dict.update.loop" = some Builtin.«dict.update.loop» := entryFor_of_tree (by kernel_rfl)
section
variable {G : Gd} {n : Nat} {σ σ' : Sig}
noncomputable def Setter (G : Gd) (d : Addr) (N : Nat) (D : Nat → AObj) (key : Nat → AV) : Prop :=
  ∀ i A Φ s F kv, i < N → A.units + 100 ≤ cLine → VRep Φ (key i) kv → St G ((d, D i) :: F) Φ s → wpAny (model G.prog G.w) A (dictSet d kv (.bool true)) (fun _ s' => St G ((d, D (i + 1)) :: F) Φ s') NoE s
theorem dictLoop {d l : Addr} {N : Nat} {D : Nat → AObj} {key : Nat → AV} {xs : List AV} (hN : xs.length = N) (hx : ∀ i, i < N → xs[i]? = some (.tup [key i, .bool true])) (S : Setter G d N D key) (it : Addr) {A : Around} (hh : A.handled = none) (hu : A.units + 200 ≤ cLine) {F : Sig} (hl : (l, .list xs) ∈ F) {Φ : Frz} :
    ∀ (k i : Nat) (s : Shared), i + k = N → St G ((it, .listIter l i) :: (d, D i) :: F) Φ s → codeAny (model G.prog G.w) A (.builtin "dict.update.loop" ⟨[.ref d, .ref it, rawInt i, .none], []⟩) (fun r s' => r = .ok (.ret .none) ∧ St G ((d, D N) :: F) Φ s') s := by
  intro k
  induction k with
  | zero =>
    intro i s hi hs
    have hiN : i = N := by omega
    obtain ⟨items, hL, rl⟩ := hs.mem (a := l) (ao := .list xs) (.tail _ (.tail _ hl))
    refine codeAny_builtin entry_dict_loop ?_
    unfold Builtin.«dict.update.loop»
    show wpAny _ _ (pyNext (.ref it) >>= _) _ _ s
    refine wpAny_bind (wpAny_pyNext_list_end (A := A.under _) hh hs.head hL.isList (by rw [← Array.getElem?_toList, List.getElem?_eq_none]; rw [rl.length]; omega) fun h' he => ?_)
    show wpAny _ _ (Builtin.Dict.addKeywords d [] >>= _) _ _ _
    exact wpAny_bind (wpAny_pure (wpAny_pure ⟨rfl, hiN ▸ hs.dropHead (s' := { s with heap := h' }) he rfl rfl⟩))
  | succ k ih =>
    intro i s hi hs
    obtain ⟨items, hL, rl⟩ := hs.mem (a := l) (ao := .list xs) (.tail _ (.tail _ hl))
    obtain ⟨y, hy, t, vs, rfl, et, v1, vr1, rfl, rk, v2, vr2, rfl, rb, e2⟩ := rl.get (hx i (by omega))
    rw [show vr2 = [] from e2] at et
    rw [show v2 = Value.bool true from rb] at et
    refine codeAny_builtin entry_dict_loop ?_
    unfold Builtin.«dict.update.loop»
    show wpAny _ _ (pyNext (.ref it) >>= _) _ _ s
    refine wpAny_bind (wpAny_pyNext_list_item hs.head hL.isList (by rw [← Array.getElem?_toList]; exact hy) fun h' hit hsb => ?_)
    have hs1 : St G ((it, .listIter l (i + 1)) :: (d, D i) :: F) Φ { s with heap := h' } := hs.updHead (s' := { s with heap := h' }) (ao' := .listIter l (i + 1)) hsb.extBut hit rfl rfl
    have ht : h'.get? t = some (tupO [v1, .bool true]) := hs1.frz _ _ et
    dsimp only
    refine wpAny_bind (wpAny_holding (wpAny_bind ?_))
    refine wpAny_tryCatch ?_
    unfold Builtin.Dict.pairItems
    refine wpAny_bind (wpAny_typeOf (T := "tuple") ⟨_, ht, rfl⟩ ?_)
    rw [if_pos (by decide)]
    refine wpAny_bind (wpAny_seqItems ht rfl (wpAny_pure ?_))
    show wpAny _ _ (holding [v1, .bool true] (dictSet d v1 (.bool true))) _ _ _
    have hs2 : St G ((d, D i) :: ((it, .listIter l (i + 1)) :: F)) Φ { s with heap := h' } := hs1.perm (.swap ..)
    refine wpAny_holding (wpAny_mono (S i (A.under _) Φ _ _ v1 (by omega) ?_ rk hs2) (fun _ s3 h3 => ?_) noE)
    · have e : (A.under (Code.builtin "dict.update.loop" ⟨[Value.ref d, Value.ref it, rawInt i, Value.none], []⟩)).units ≤ A.units + 8 := by
        show A.units + _ ≤ _
        exact Nat.add_le_add_left (Nat.le_of_ble_eq_true (by with_unfolding_all rfl)) _
      omega
    refine wpAny_pure ⟨Code.quiet_builtin _ (by decide +kernel), ?_⟩
    have := ih (i + 1) s3 (by omega) (h3.perm (.swap ..))
    rw [show ((i + 1 : Nat) : Int) = (i : Int) + 1 by omega] at this
    exact this
theorem WC.dict_pairs {l : Addr} {N : Nat} {D : Addr → Nat → AObj} {key : Nat → AV} {xs : List AV} {Q : AV → Sig → Prop} (hN : xs.length = N) (hx : ∀ i, i < N → xs[i]? = some (.tup [key i, .bool true])) (S : ∀ d, sysModules ≠ d → Setter G d N (D d) key)
    (hD : ∀ d Φ h, h.DictOf (mixKind G.prog G.w) d [] → h.get? d = some { cls := .type "dict", data := .dict #[] } → ARep G Φ h d (D d 0)) (hm : (l, .list xs) ∈ σ) (h : ∀ d, Q (.raw (.ref d)) ((d, D d N) :: σ)) : WC G n (.raw (.type "dict")) [.raw (.ref l)] σ Q := fun fv vs A Φ s F hr hK r1 r2 hs => by
  rw [show fv = .type "dict" from r1]
  obtain ⟨v1, vr, rfl, e1, e2⟩ := r2
  rw [show v1 = .ref l from e1, show vr = [] from e2]
  obtain ⟨items, ⟨k0, hL⟩, rl⟩ := hs.mem (List.mem_append_left _ hm)
  refine callType_codes (Q₁ := fun obj s₁ => obj = .ref s.heap.objs.size ∧ s₁ = { s with heap := s.heap.push { cls := .type "dict", data := .dict #[] } }) PySem.F.kt_called_dict (PySem.F.kt_typeCall_dict_1 _) PySem.F.entry_dict_init (kt_code_dict_new _ ⟨rfl, rfl⟩) ?_
  rintro obj s₁ ⟨rfl, rfl⟩
  have hnew : (s.heap.push { cls := .type "dict", data := .dict #[] }).DictOf (mixKind G.prog G.w) s.heap.objs.size [] := Heap.DictOf.new s.heap
  have hs1 : St G ((s.heap.objs.size, D s.heap.objs.size 0) :: (σ ++ F)) Φ { s with heap := s.heap.push { cls := .type "dict", data := .dict #[] } } :=
    hs.newOwn (fun b o e => Heap.get?_push_of_some _ e) (hD _ _ _ hnew (Heap.get?_push_size _ rfl)) rfl rfl
  have hL1 := Heap.get?_push_of_some { cls := .type "dict", data := .dict #[] } hL
  refine ⟨hnew.typeIs, PySem.F.args_dict_init_2 _ _, ?_⟩
  unfold Builtin.«dict.__init__» Builtin.Dict.selfAndRest
  refine wpAny_bind (wpAny_bind (wpAny_notOrdered_dict hnew.typeIs (wpAny_pure (a := (s.heap.objs.size, [Value.ref l])) ?_)))
  change wpAny _ _ (Builtin.Dict.updateFrom _ _ (.ref l) [] .none) _ _ _
  unfold Builtin.Dict.updateFrom
  refine wpAny_bind (wpAny_typeOf (T := "list") ⟨_, hL1, rfl⟩ (wpAny_ite_true (by decide) ?_))
  refine wpAny_bind (keys_miss hL1 rfl rfl rfl hr.h fun h' tk hk => ?_)
  have hs2 := hs1.keeps (s' := { s with heap := h', toks := tk }) hk rfl rfl
  simp -iota only [Option.isNone_none, if_true]
  refine wpAny_bind (wpAny_rule (wpAny_bind (wpAny_pyIter_list (items := items) ⟨_, hk _ _ hL1, rfl, k0, rfl⟩ ?_)))
  have hs3 : St G ((h'.objs.size, .listIter l 0) :: (s.heap.objs.size, D s.heap.objs.size 0) :: (σ ++ F)) Φ { s with heap := h'.push { cls := .type "list_iterator", data := .fields #[.ref l, .int 0 0] }, toks := tk } :=
    hs2.newOwn (fun b o e => Heap.get?_push_of_some _ e) ⟨_, Heap.get?_push_size _ rfl, rfl, rfl⟩ rfl rfl
  refine wpAny_pure ⟨Code.quiet_builtin _ (by decide +kernel), ?_⟩
  have hne : sysModules ≠ s.heap.objs.size := fun q => by
    have := hs.lowSize
    rw [← q] at this
    exact absurd this (by decide)
  refine codeAny_mono (dictLoop hN hx (S _ hne) h'.objs.size (A := A.in1) hr.h ?_ (List.mem_append_left _ hm) N 0 _ (by omega) hs3) fun r s4 hq => ?_
  · show A.units + 1 + 200 ≤ cLine
    have := hr.room; omega
  · obtain ⟨rfl, hs4⟩ := hq
    exact ⟨rfl, Φ, .raw (.ref s.heap.objs.size), (s.heap.objs.size, D s.heap.objs.size N) :: σ, .refl _, rfl, hs4, h _⟩
end
end Mine
set_option maxRecDepth 100000
set_option autoImplicit false
set_option maxHeartbeats 4000000
namespace Mine
open PySem PySem.W PyProof.Rows PySem.Calls PySem.SeqAt
noncomputable def addK {K : Type} [DecidableEq K] (acc : List K) (k : K) : List K := if k ∈ acc then acc else acc ++ [k]
noncomputable def dedup {K : Type} [DecidableEq K] (l : List K) : List K := l.foldl addK []
theorem dedup_snoc {K : Type} [DecidableEq K] (l : List K) (k : K) : dedup (l ++ [k]) = addK (dedup l) k := by unfold dedup; rw [List.foldl_append]; rfl
theorem dedup_take {K : Type} [DecidableEq K] {l : List K} {i : Nat} {k : K} (h : l[i]? = some k) : dedup (l.take (i + 1)) = addK (dedup (l.take i)) k := by
  rw [List.take_add_one, h, Option.toList_some, dedup_snoc]
theorem addK_nodup {K : Type} [DecidableEq K] {acc : List K} {k : K} (h : acc.Nodup) : (addK acc k).Nodup := by
  unfold addK
  split
  · exact h
  · rename_i hn
    rw [List.nodup_append]
    exact ⟨h, by simp, fun a ha b hb e => by rw [List.mem_singleton] at hb; subst hb; exact hn (e ▸ ha)⟩
theorem addK_mem {K : Type} [DecidableEq K] {acc : List K} {k x : K} : x ∈ addK acc k ↔ x ∈ acc ∨ x = k := by
  unfold addK
  split
  · rename_i h
    exact ⟨.inl, fun q => q.elim id fun e => e ▸ h⟩
  · rw [List.mem_append, List.mem_singleton]
theorem dedup_spec {K : Type} [DecidableEq K] (l : List K) : (dedup l).Nodup ∧ ∀ x, x ∈ dedup l ↔ x ∈ l := by
  have : ∀ (l acc : List K), acc.Nodup → (l.foldl addK acc).Nodup ∧ ∀ x, x ∈ l.foldl addK acc ↔ x ∈ acc ∨ x ∈ l := by
    intro l
    induction l with
    | nil => intro acc h; exact ⟨h, fun x => by simp⟩
    | cons y r ih =>
      intro acc h
      obtain ⟨a, b⟩ := ih (addK acc y) (addK_nodup h)
      refine ⟨a, fun x => ?_⟩
      rw [List.foldl_cons, b, addK_mem, List.mem_cons, or_assoc]
  obtain ⟨a, b⟩ := this l [] (by simp)
  exact ⟨a, fun x => by unfold dedup; rw [b]; simp⟩
theorem addK_len {K : Type} [DecidableEq K] (acc : List K) (k : K) : (addK acc k).length ≤ acc.length + 1 := by unfold addK; split <;> simp
theorem dedup_len {K : Type} [DecidableEq K] (l : List K) : (dedup l).length ≤ l.length := by
  have : ∀ (l acc : List K), (l.foldl addK acc).length ≤ acc.length + l.length := by
    intro l
    induction l with
    | nil => intro acc; simp
    | cons y r ih => intro acc; have := ih (addK acc y); have := addK_len acc y; simp only [List.foldl_cons, List.length_cons]; omega
  have := this l []
  unfold dedup; simpa using this
section
variable {G : Gd} {n : Nat} {σ σ' : Sig}
noncomputable def dI (ks : List Int) : List (AK × AV) := ks.map fun k => (.int k, .bool true)
theorem setA_dI (k : Int) : ∀ ks, setA (dI ks) (.int k) (.bool true) = dI (addK ks k)
  | [] => rfl
  | j :: r => by
    show (if AK.int j = .int k then _ else (AK.int j, AV.bool true) :: setA (dI r) (.int k) (.bool true)) = _
    by_cases h : j = k
    · subst h
      rw [if_pos rfl]
      have : addK (j :: r) j = j :: r := by unfold addK; rw [if_pos (.head _)]
      rw [this]; rfl
    · rw [if_neg (by intro e; injection e with e; exact h e), setA_dI k r]
      have h' : ¬ k = j := fun e => h e.symm
      unfold addK
      by_cases q : k ∈ r
      · rw [if_pos q, if_pos (.tail _ q)]; rfl
      · rw [if_neg q, if_neg (by simp [h', q])]; rfl
theorem setterI {d : Addr} (ks : List Int) (hks : ks.length ≤ 900) : Setter G d ks.length (fun i => .dict (dI (dedup (ks.take i)))) (fun i => .int (ks.getD i 0)) := fun i A Φ s F kv hi hu rk hs => by
  obtain ⟨t, rfl⟩ := rk
  obtain ⟨kvs, hd, r⟩ := hs.head
  have nd : (kvs.map (·.1)).Nodup := by obtain ⟨_, _, _, _, _, _, _, _, nd⟩ := hd; exact nd
  have hk : ks[i]? = some (ks.getD i 0) := by rw [List.getD_eq_getElem?_getD, List.getElem?_eq_getElem hi]; rfl
  have hl : kvs.length ≤ sizeLine := by
    rw [r.len]; unfold dI; rw [List.length_map]
    have := dedup_len (ks.take i)
    rw [List.length_take] at this
    exact Nat.le_trans (by omega : _ ≤ 900) (by decide)
  refine wpAny_dictSet_pairs (knd := mixKind G.prog G.w) (k := .int (ks.getD i 0)) (by show (_ == _) = true; exact beq_self_eq_true _) hd (fun h' hd' hsb => ?_) hl
  refine hs.updHead (s' := { s with heap := h', toks := s.toks + 1 }) hsb.extBut ⟨_, hd', ?_⟩ rfl rfl
  rw [dedup_take hk, ← setA_dI]
  exact KVRep.map (x := .bool true) rfl r nd
theorem WC.dict_ints {l : Addr} (ks : List Int) {Q : AV → Sig → Prop} (hks : ks.length ≤ 900) (hm : (l, .list (ks.map fun k => .tup [.int k, .bool true])) ∈ σ) (h : ∀ d, Q (.raw (.ref d)) ((d, .dict (dI (dedup ks))) :: σ)) : WC G n (.raw (.type "dict")) [.raw (.ref l)] σ Q :=
  WC.dict_pairs (N := ks.length) (D := fun d i => .dict (dI (dedup (ks.take i)))) (key := fun i => .int (ks.getD i 0)) (by simp) (fun i hi => by
    rw [List.getElem?_map, List.getElem?_eq_getElem hi]; simp [List.getD_eq_getElem?_getD, List.getElem?_eq_getElem hi]) (fun d _ => setterI ks hks) (fun d Φ h hd _ => ⟨[], hd, rfl⟩) hm (fun d => by rw [List.take_length]; exact h d)
theorem items_of {Φ : Frz} : ∀ {ks : List AK} {vs : List Value}, VReps Φ (ks.map AK.av) vs → ItemsAre (mixKind G.prog G.w) ks vs
  | [], _, r => by rw [show _ = [] from r]; exact .nil
  | k :: ks, _, ⟨v, vr, e, r1, r2⟩ => by
    rw [e]
    refine .cons ?_ (items_of r2)
    cases k with
    | int i => obtain ⟨t, rfl⟩ := r1; show (_ == _) = true; exact beq_self_eq_true _
    | str i => obtain ⟨t, rfl⟩ := r1; show (_ == _) = true; exact beq_self_eq_true _
theorem of_items {Φ : Frz} {ks : List AK} {vs : List Value} (h : ItemsAre (mixKind G.prog G.w) ks vs) : VReps Φ (ks.map AK.av) vs := by
  induction h with
  | nil => rfl
  | @cons k v ks vs h1 _ ih =>
    refine ⟨v, vs, rfl, ?_, ih⟩
    obtain ⟨t, rfl⟩ := AK.is_shape h1
    cases k <;> exact ⟨_, rfl⟩
noncomputable abbrev tK (k : List AK) : AV := .tup (k.map AK.av)
noncomputable def dT (ks : List (List AK)) : List (List AK × AV) := ks.map fun k => (k, .bool true)
theorem TKVRep.keys {Φ : Frz} : ∀ {ks : List (List AK)} {xs : List (List AK × Addr × Value)}, TKVRep G Φ (dT ks) xs → xs.map (·.1) = ks ∧ ∀ x ∈ xs, TKey G Φ x.1 x.2.1 ∧ x.2.2 = .bool true
  | [], _, h => by rw [show _ = [] from h]; exact ⟨rfl, fun x hx => by cases hx⟩
  | k :: ks, _, ⟨a, v, vr, e, h0, h1, h2⟩ => by
    obtain ⟨i1, i2⟩ := TKVRep.keys h2
    rw [e]
    refine ⟨by rw [List.map_cons, i1], fun x hx => ?_⟩
    rcases List.mem_cons.mp hx with rfl | hx
    · exact ⟨h0, h1⟩
    · exact i2 x hx
theorem TKVRep.mk {Φ : Frz} : ∀ {xs : List (List AK × Addr × Value)}, (∀ x ∈ xs, TKey G Φ x.1 x.2.1 ∧ x.2.2 = .bool true) → TKVRep G Φ (dT (xs.map (·.1))) xs
  | [], _ => rfl
  | (k, a, v) :: r, h => ⟨a, v, r, rfl, (h _ (.head _)).1, (h _ (.head _)).2, TKVRep.mk fun x hx => h x (.tail _ hx)⟩
theorem setterT {d : Addr} (ks : List (List AK)) (hks : ks.length ≤ 900) : Setter G d ks.length (fun i => .tdict (dT (dedup (ks.take i)))) (fun i => tK (ks.getD i [])) := fun i A Φ s F kv hi hu rk hs => by
  obtain ⟨a, vs, rfl, ea, rv⟩ := rk
  obtain ⟨xs, o, es, ep, e1, e2, e3, e4, e5, r⟩ := hs.head
  obtain ⟨hk1, hk2⟩ := r.keys
  have hk : ks[i]? = some (ks.getD i []) := by rw [List.getD_eq_getElem?_getD, List.getElem?_eq_getElem hi]; rfl
  have hl : xs.length ≤ sizeLine := by
    have h1 : xs.length = (dedup (ks.take i)).length := by rw [← hk1, List.length_map]
    have := dedup_len (ks.take i)
    rw [List.length_take] at this
    exact Nat.le_trans (by omega : _ ≤ 900) (by decide)
  have isk : ∀ x ∈ xs, IsTupleKey (mixKind G.prog G.w) s.heap x.1 x.2.1 := fun x hx => by
    obtain ⟨⟨items, ef, hi⟩, _⟩ := hk2 x hx
    exact ⟨_, items.toArray, 0, hs.frz _ _ ef, rfl, rfl, by simpa using hi⟩
  have hka : IsTupleKey (mixKind G.prog G.w) s.heap (ks.getD i []) a := ⟨_, vs.toArray, 0, hs.frz _ _ ea, rfl, rfl, by simpa using items_of rv⟩
  refine wpAny_dictSet_heap (knd := tupleKind (mixKind G.prog G.w)) (show A.units < cLine by omega) hka ⟨o, es, ep, e1, e2, e3, e4, isk, e5⟩ (fun h' hd' hsb => ?_) hl
  obtain ⟨o', es', ep', f1, f2, f3, f4, f5, f6⟩ := hd'
  refine hs.updHead (s' := { s with heap := h', toks := _ }) hsb.extBut ⟨_, o', es', ep', f1, f2, f3, f4, f6, ?_⟩ rfl rfl
  have fin : (storedH xs (ks.getD i []) a (.bool true)).map (·.1) = addK (xs.map (·.1)) (ks.getD i []) ∧ ∀ x ∈ storedH xs (ks.getD i []) a (.bool true), TKey G Φ x.1 x.2.1 ∧ x.2.2 = .bool true := by
    unfold storedH addK
    have hiff : (atKey xs (ks.getD i [])).isSome = true ↔ ks.getD i [] ∈ xs.map (·.1) := by
      unfold atKey
      rw [Option.isSome_map, List.find?_isSome, List.mem_map]
      exact ⟨fun ⟨x, hx, e⟩ => ⟨x, hx, by simpa using e⟩, fun ⟨x, hx, e⟩ => ⟨x, hx, by simpa using e⟩⟩
    by_cases c : ks.getD i [] ∈ xs.map (·.1)
    · rw [if_pos (hiff.mpr c), if_pos c]
      refine ⟨?_, fun x hx => ?_⟩
      · rw [List.map_map]
        refine List.map_congr_left fun x hx => ?_
        show (putAt _ _ x).1 = x.1
        unfold putAt; split <;> rfl
      · obtain ⟨y, hy, rfl⟩ := List.mem_map.mp hx
        unfold putAt
        split
        · exact ⟨(hk2 y hy).1, rfl⟩
        · exact hk2 y hy
    · rw [if_neg (fun q => c (hiff.mp q)), if_neg c]
      refine ⟨by simp, fun x hx => ?_⟩
      rcases List.mem_append.mp hx with hx | hx
      · exact hk2 x hx
      · rw [List.mem_singleton] at hx; subst hx
        exact ⟨⟨vs, ea, items_of rv⟩, rfl⟩
  rw [dedup_take hk, ← hk1, ← fin.1]
  exact TKVRep.mk fin.2
theorem WC.dict_tups {l : Addr} (ks : List (List AK)) {Q : AV → Sig → Prop} (hks : ks.length ≤ 900) (hm : (l, .list (ks.map fun k => .tup [tK k, .bool true])) ∈ σ) (h : ∀ d, Q (.raw (.ref d)) ((d, .tdict (dT (dedup ks))) :: σ)) : WC G n (.raw (.type "dict")) [.raw (.ref l)] σ Q :=
  WC.dict_pairs (N := ks.length) (D := fun d i => .tdict (dT (dedup (ks.take i)))) (key := fun i => tK (ks.getD i [])) (by simp) (fun i hi => by
    rw [List.getElem?_map, List.getElem?_eq_getElem hi]; simp [List.getD_eq_getElem?_getD, List.getElem?_eq_getElem hi]) (fun d _ => setterT ks hks)
    (fun d Φ h hd e => ⟨[], _, #[], 0, e, by obtain ⟨o, es, ep, e', r, _⟩ := hd; rw [e] at e'; cases e'; exact r, rfl, rfl, by simp, rfl⟩) hm (fun d => by rw [List.take_length]; exact h d)
end
end Mine
set_option maxRecDepth 100000
set_option autoImplicit false
set_option maxHeartbeats 4000000
namespace Mine
open PySem PySem.W PyProof.Rows PySem.Calls PySem.SeqAt
section
variable {prog : Program} {w : World} {A : Around} {E : Value → Shared → Prop} {s : Shared}
theorem pyIter_dRaw {d : Addr} {o : Obj} {es : Array DictEntry} {ep : Nat} {Q : Value → Shared → Prop} (hd : (d == sysModules) = false) (ho : s.heap.get? d = some o) (hc : o.cls = .type "dict") (hdat : o.data = .dict es ep)
    (hQ : Q (.ref s.heap.objs.size) { s with heap := s.heap.push { cls := .type "dict_keyiterator", data := .fields #[.ref d, .int 0 0, .int es.size 0, .int ep 0] } }) : wpAny (model prog w) A (pyIter (.ref d)) Q E s := by
  have hT : s.TypeIs (.ref d) "dict" := ⟨o, ho, hc⟩
  refine wpAny_pyIter_slot hT PySem.F.slot_dict_iter (wpAny_call_entry PySem.F.slot_dict_iter hT PySem.F.entry_dict_iter ?_ (PySem.F.args_dict_iter_1 _))
  wp_walk using wpAny_notOrdered_dict hT, wpAny_dictEntries ho hdat, wpAny_dictEpoch ho hdat
  exact ⟨_, rfl, "dict_keyiterator", _, ⟨_, Heap.get?_push_size _ rfl, rfl⟩, PySem.F.slot_dict_keyiterator_next.lookup, hQ⟩
theorem setField_as {a : Addr} {o : Obj} {vs : Array Value} {k j : Nat} {v : Value} {Q : Unit → Shared → Prop} (ho : s.heap.get? a = some o) (hd : o.data = .fields vs) (e : k = j) (hj : j < vs.size)
    (h : Q () { s with heap := s.heap.update a (Obj.mapFields (·.setIfInBounds j v)) }) : wpAny (model prog w) A (setField (.ref a) k v) Q E s := by
  subst e; exact wpAny_setField ho hd hj h
theorem next_dRaw {it d : Addr} {i ep : Nat} {od : Obj} {es : Array DictEntry} {Q : Option Value → Shared → Prop} (hh : A.handled = none) (hit : s.heap.IsKeyIter it d i es.size ep) (hod : s.heap.get? d = some od) (hdd : od.data = .dict es ep)
    (hi : ∀ h' (h : i < es.size), h'.IsKeyIter it d (i + 1) es.size ep → Heap.SameBut it s.heap h' → Q (some es[i].key) { s with heap := h' })
    (he : ∀ h', es.size ≤ i → Heap.ExtBut it s.heap h' → Q none { s with heap := h' }) : wpAny (model prog w) A (pyNext (.ref it)) Q E s := by
  have hT := hit.typeIs
  obtain ⟨⟨c, dt, dd, sl⟩, ho, hc, hd⟩ := hit
  cases hc; cases hd
  have z : (if Builtin.Dict_items.ownsTuple "dict_keyiterator" = true then 2 else 0) = 0 := by decide
  have z1 := congrArg (· + 1) z
  rw [Nat.zero_add] at z1
  unfold pyNext
  refine wpAny_bind (wpAny_attempt (wpAny_callSpecial?_slot (name := Str.ofString "__next__") hT PySem.F.slot_dict_keyiterator_next
    (wpAny_call_entry PySem.F.slot_dict_keyiterator_next hT PySem.F.entry_dict_keyiterator_next ?_ (PySem.F.args_dict_keyiterator_next_1 _))))
  wp_walk using wpAny_typeNameOfWhole_keyiter hT, wpAny_typeNameOf_keyiter hT, wpAny_fieldsOf ho rfl, wpAny_dictEntries hod hdd, wpAny_dictEpoch hod hdd
  rw [if_neg (Int.not_lt.mpr (Int.natCast_nonneg i))]
  cases hx : es[((i : Nat) : Int).toNat]? with
  | none =>
    wp_walk using wpAny_typeNameOfWhole_keyiter hT, wpAny_typeNameOf_keyiter hT, setField_as ho rfl z (by simp), stops (A := A.in1) hh
    intro h' x k ⟨ox, hx1, hx2⟩
    refine wpAny_bind (wpAny_isInstance (T := "StopIteration") (b := true) ⟨ox, hx1, hx2⟩ isSubtype_stop ?_)
    exact wpAny_pure (he h' (Array.getElem?_eq_none_iff.mp hx) fun b o hb y => k b o ((Heap.SameBut.update ..).extBut b o hb y))
  | some e =>
    wp_walk using wpAny_typeNameOfWhole_keyiter hT, wpAny_typeNameOf_keyiter hT, wpAny_isOneOf_keyiter hT, setField_as ho rfl z1 (by simp)
    obtain ⟨h, rfl⟩ := Array.getElem?_eq_some_iff.mp hx
    exact ⟨_, rfl, wpAny_pure (hi _ h ⟨_, Heap.get?_update_self _ ho rfl, rfl, rfl⟩ (Heap.SameBut.update ..))⟩
end
section
variable {G : Gd} {n : Nat} {σ σ' : Sig} {it : Addr} {target : Expr} {Qe : Sig → Prop} {Qi : AV → Sig → Prop}
theorem WN.key_item {x : AV} {xs : List AV} (U : Upd it (.keyIter (x :: xs)) (.keyIter xs) σ σ') (h : Qi x σ') : WN G n it target σ Qe Qi := fun A Φ s F hr hs => by
  obtain ⟨r, p1, p2⟩ := U.two (F := F)
  have hs1 := hs.perm p1
  obtain ⟨d, i, ep, o, hit, hd, hc, es, hdat, hv, hi⟩ := hs1.head
  have hlen := hv.length
  rw [List.length_drop, List.length_map, Array.length_toList] at hlen
  simp only [List.length_cons] at hlen hit
  have hlt : i < es.size := by omega
  rw [show xs.length + 1 + i = es.size by omega] at hit
  obtain ⟨v, vr, ev, rv, rr⟩ := hv
  have hv0 : es[i].key = v := by
    have := congrArg List.head? ev
    rw [List.head?_drop, List.getElem?_map, Array.getElem?_toList, Array.getElem?_eq_getElem hlt] at this
    simpa using this
  refine next_dRaw hr.h hit (hs1.frz _ _ hd) hdat (fun h' _ hit' hsb => ?_) (fun _ hge => absurd hlt (Nat.not_lt.mpr hge))
  obtain ⟨oi, e1, e2, e3⟩ := id hit'
  refine ownGo_of e1 e2 e3 (by decide) ⟨Φ, x, σ', .refl _, hv0 ▸ rv, ?_, h⟩
  refine (hs1.updHead (s' := { s with heap := h' }) (ao' := .keyIter xs) hsb.extBut ⟨d, i + 1, ep, o, ?_, hd, hc, es, hdat, ?_, hlt⟩ rfl rfl).perm p2.symm
  · rw [show xs.length + (i + 1) = es.size by omega]; exact hit'
  · have : (es.toList.map (·.key)).drop (i + 1) = vr := by rw [← List.drop_drop, ev]; rfl
    rw [this]; exact rr
theorem WN.key_end (U : At it (.keyIter []) σ' σ) (h : Qe σ') : WN G n it target σ Qe Qi := fun A Φ s F hr hs => by
  have hs1 := hs.perm (U.perm.append_right _)
  obtain ⟨d, i, ep, o, hit, hd, hc, es, hdat, hv, hi⟩ := hs1.head
  have hlen := hv.length
  rw [List.length_drop, List.length_map, Array.length_toList] at hlen
  simp only [List.length_nil] at hlen hit
  rw [show 0 + i = es.size by omega] at hit
  refine next_dRaw hr.h hit (hs1.frz _ _ hd) hdat (fun _ hlt => absurd hlt (by omega)) (fun h' _ he => ?_)
  exact ⟨Φ, σ', .refl _, hs1.dropHead (s' := { s with heap := h' }) he rfl rfl, h⟩
theorem W1.iter_tdict {d : Addr} {ks : List (List AK)} {Q : AV → Sig → Prop} (U : At d (.tdict (dT ks)) σ' σ) (h : ∀ it, Q (.raw (.ref it)) ((it, .keyIter (ks.map tK)) :: σ')) : W1 G n pyIter (.raw (.ref d)) σ Q := fun v A Φ s F hr e hs => by
  rw [show v = .ref d from e]
  have hbig := hs.big _ (List.mem_append_left F U.mem)
  have hds : (d == sysModules) = false := beq_eq_false_iff_ne.mpr fun q => by
    rw [q] at hbig
    exact absurd (show mainGlobals < sysModules from hbig) (by decide)
  have hs1 := hs.perm (U.perm.append_right F)
  obtain ⟨xs, o, es, ep, e1, e2, e3, e4, e5, r⟩ := hs1.head
  obtain ⟨hk1, hk2⟩ := r.keys
  obtain ⟨x1, hd, hs2⟩ := hs1.freezeHead e1
  have hcd : o.cls = .type "dict" := e2.1
  refine pyIter_dRaw hds e1 hcd e3 ⟨_, .raw (.ref s.heap.objs.size), (s.heap.objs.size, .keyIter (ks.map tK)) :: σ', x1, rfl, ?_, h _⟩
  have hsz : es.size = ks.length := by rw [← Array.length_toList, e4, List.length_map, ← hk1, List.length_map]
  refine hs2.newOwn (fun b o e => Heap.get?_push_of_some _ e) ⟨d, 0, ep, o, ⟨_, Heap.get?_push_size _ rfl, rfl, by rw [List.length_map, Nat.add_zero, ← hsz]; rfl⟩, hd, hcd, es, e3, ?_, Nat.zero_le _⟩ rfl rfl
  rw [List.drop_zero, e4, List.map_map, ← hk1, List.map_map]
  clear e4 e5 hk1 r hsz
  induction xs with
  | nil => rfl
  | cons p q ih =>
    obtain ⟨⟨items, ei, hi⟩, _⟩ := hk2 p (.head _)
    exact ⟨_, _, rfl, ⟨p.2.1, items, rfl, x1 _ _ ei, (of_items hi)⟩, ih fun y hy => hk2 y (.tail _ hy)⟩
theorem Src.key (xs : List AV) : Src G n it target xs.length (fun i => xs.getD i .none) (fun i => [(it, .keyIter (xs.drop i))]) [] (fun _ => True) where
  item := fun i σ Qe Qi hi _ h => by
    rw [show xs.drop i = xs.getD i .none :: xs.drop (i + 1) from by rw [List.drop_eq_getElem_cons hi, List.getD_eq_getElem?_getD, List.getElem?_eq_getElem hi]; rfl]
    exact WN.key_item (.here ..) h
  done := fun σ Qe Qi _ h => by
    rw [List.drop_length]
    exact WN.key_end (.here ..) h
end
end Mine
set_option maxRecDepth 100000
set_option autoImplicit false
set_option maxHeartbeats 4000000
namespace Mine
open PySem PySem.W PyProof.Rows PySem.Calls PySem.SeqAt
section
variable {G : Gd} {n : Nat} {σ σ' : Sig}
theorem St.addOwn {Φ : Frz} {s : Shared} {a : Addr} {ao : AObj} (h : St G σ Φ s) (hn : Φ a = none) (hna : a ∉ σ.map (·.1)) (r : ARep G Φ s.heap a ao) (hb : mainGlobals < a) : St G ((a, ao) :: σ) Φ s :=
  ⟨h.base, h.frz, fun p hp => (List.mem_cons.mp hp).elim (fun e => e ▸ ⟨r, hn⟩) (h.own p), List.nodup_cons.mpr ⟨hna, h.nd⟩, fun p hp => (List.mem_cons.mp hp).elim (fun e => e ▸ hb) (h.big p), h.gens, h.os⟩
theorem St.backNew {Φ : Frz} {s : Shared} {F : Sig} {L : Addr} {m : Loc} {mm : Str → Option Value} (hs : St G F Φ s) (hm : (L, .ns m) ∈ F) (F0 : Fr noHeap L s.heap mm) {h' : Heap} {tk : Nat} {mm' : Str → Option Value} {D : Addr} {vs : List Value} {c : Nat} {l : List AV}
    (F' : Fr noHeap L h' mm) (N' : News noHeap L h' ((D, { cls := .type "list", data := .seq vs.toArray c }) :: allBut s.heap L)) (hD : ∀ q ∈ allBut s.heap L, q.1 < D) (r : VReps Φ l vs) : St G ((D, .list l) :: F) Φ { s with heap := h', toks := tk } := by
  have hb : St G F Φ { s with heap := h', toks := tk } := hs.back hm F0.ns F'.ns fun b o hb e => (N' (b, o) (.tail _ (mem_allBut.mpr ⟨hb, e⟩))).1
  have h1 := N' (D, { cls := .type "list", data := .seq vs.toArray c }) (.head _)
  have hno : ∀ o, s.heap.get? D ≠ some o := fun o e => absurd (hD (D, o) (mem_allBut.mpr ⟨h1.2.1, e⟩)) (Nat.lt_irrefl _)
  refine hb.addOwn ?_ ?_ ⟨vs.toArray, ⟨c, h1.1⟩, by simpa using r⟩ ?_
  · cases q : Φ D with
    | none => rfl
    | some o => exact absurd (hs.frz _ _ q) (hno o)
  · intro q
    obtain ⟨p, hp, e⟩ := List.mem_map.mp q
    obtain ⟨o, eo⟩ := (hs.own p hp).1.ex
    rw [e] at eo
    exact hno o eo
  · obtain ⟨o, es, ep, e, _⟩ := G.T.g
    have e1 := hs.baseK _ _ e
    by_cases hL : mainGlobals = L
    · have := (hs.own _ hm).2
      rw [← hL, hs.base _ _ e] at this; cases this
    · exact hD (mainGlobals, o) (mem_allBut.mpr ⟨hL, e1⟩)
theorem WC.sorted_dict {d : Addr} {ks : List Int} {Q : AV → Sig → Prop} (hm : (d, .dict (dI ks)) ∈ σ) (h64 : ks.length < 64) (h : ∀ b ms, List.Perm ms ks → ms.Pairwise (· ≤ ·) → Q (.raw (.ref b)) ((b, .list (ms.map .int)) :: σ)) :
    WC G n (.raw (.builtin "sorted")) [.raw (.ref d)] σ Q := fun fv vs A Φ s F hr hK r1 r2 hs => by
  rw [show fv = .builtin "sorted" from r1]
  obtain ⟨v1, vr, rfl, e1, e2⟩ := r2
  rw [show v1 = .ref d from e1, show vr = [] from e2]
  obtain ⟨kvs, hd, rk⟩ := hs.mem (List.mem_append_left _ hm)
  obtain ⟨L, mL, hmL⟩ := hK
  have hmF : (L, AObj.ns mL) ∈ σ ++ F := List.mem_append_right _ hmL
  obtain ⟨mm, F0, N0⟩ := hs.ledger hmF
  obtain ⟨ep, hat⟩ := hd.dictAt
  have hlen : kvs.length = ks.length := by rw [rk.len]; simp [dI]
  refine kdu_sorted (kdl_dict (knd := mixKind G.prog G.w) (kvs := kvs) (ep := ep) (hs.notMods hm)) hr.h F0 N0 hat (by rw [hlen]; exact Nat.le_trans (by omega : _ ≤ 900) (by decide)) fun D h' tk vs F' N' hD l1 hv => ?_
  -- the values are the keys
  have hk : ∀ (ks : List Int) (kvs : List (AK × Value)), KVRep Φ (dI ks) kvs → ∀ (j : Nat) k x, kvs[j]? = some (k, x) → ∃ i, ks[j]? = some i ∧ k = .int i := by
    intro ks
    induction ks with
    | nil => intro kvs h j k x e; rw [show kvs = [] from h] at e; simp at e
    | cons i r ih =>
      intro kvs ⟨v, vr, e0, _, h⟩ j k x e
      rw [e0] at e
      cases j with
      | zero => simp at e; exact ⟨i, rfl, e.1.symm⟩
      | succ j => simp at e; obtain ⟨i', a, b⟩ := ih vr h j k x e; exact ⟨i', by simpa using a, b⟩
  have hI : IntsAre vs ks := by
    have key : ∀ (vs : List Value) (ks : List Int), vs.length = ks.length → (∀ (j : Nat) v, vs[j]? = some v → ∃ i t, ks[j]? = some i ∧ v = .int i t) → IntsAre vs ks := by
      intro vs
      induction vs with
      | nil => intro ks hl _; cases ks with | nil => exact .nil | cons => simp at hl
      | cons v r ih =>
        intro ks hl hv
        cases ks with
        | nil => simp at hl
        | cons i q =>
          obtain ⟨i', t, a, rfl⟩ := hv 0 v rfl
          simp at a; subst a
          exact .cons _ _ (ih q (by simpa using hl) fun j v e => by simpa using hv (j + 1) v (by simpa using e))
    refine key vs ks (by rw [l1, hlen]) fun j v e => ?_
    obtain ⟨k, x, hx, hkv⟩ := hv j v e
    obtain ⟨i, a, rfl⟩ := hk ks kvs rk j k x hx
    obtain ⟨t, rfl⟩ := AK.is_shape (k := .int i) (v := v) hkv
    exact ⟨i, t, a, rfl⟩
  have st1 : St G ((D, .list (ks.map .int)) :: (σ ++ F)) Φ { s with heap := h', toks := tk } := hs.backNew (mm' := mm) hmF F0 F' N' hD (VReps.of_ints hI)
  have ho := (N' _ (.head _)).1
  refine wpAny_call_entry PyProof.Rows.slot_list_sort ⟨_, ho, rfl⟩ PyProof.Rows.entry_list_sort (list_sort_tree (n := 0) (vs := vs) ho hI (by rw [l1, hlen]; exact h64) fun out ns' hI' hp hP => ⟨.none, rfl, ?_⟩) (PyProof.Rows.args_list_sort _)
  obtain ⟨e', he'⟩ := sortedHeap_at (out := out) ho
  have st2 : St G ((D, .list (ns'.map .int)) :: (σ ++ F)) Φ { s with heap := sortedHeap h' D vs out, toks := tk } :=
    st1.updHead (s' := { s with heap := sortedHeap h' D vs out, toks := tk }) (ao' := .list (ns'.map .int)) (fun b o hb e => by rw [← e]; exact sortedHeap_old hb (Heap.lt_size e)) ⟨out, ⟨e', he'⟩, VReps.of_ints hI'⟩ rfl rfl
  exact ⟨Φ, .raw (.ref D), (D, .list (ns'.map .int)) :: σ, .refl _, rfl, st2, h D ns' hp hP⟩
noncomputable abbrev pI (p : Int × Int) : AV := .tup [.int p.1, .int p.2]
noncomputable def ltP (p q : Int × Int) : Prop := p.1 < q.1 ∨ (p.1 = q.1 ∧ p.2 < q.2)
theorem asc_sort {n : Nat} {ask : Nat → Nat → (Bool → Shared → Prop) → Shared → Prop} {R : Array Nat → Shared → Prop} {s : Shared} (h1 : 1 ≤ n) (h : ∀ j, 1 ≤ j → j < n → ∀ C : Bool → Shared → Prop, C false s → ask j (j - 1) C s)
    (hR : R (List.range n).toArray s) : (kas_sort n).kasWp ask R s := by
  have hp : ∀ k, k < n → (List.toArray (List.range n)).getD k 0 = k := fun k hk => by simp [hk]
  have loop : ∀ (f m : Nat) (R' : Nat → Shared → Prop), m + f = n → 1 ≤ m → R' n s → (kas_asc (List.toArray (List.range n)) f m).kasWp ask R' s := by
    intro f
    induction f with
    | zero => intro m R' hm _ hr; show R' m s; rw [show m = n by omega]; exact hr
    | succ f ih =>
      intro m R' hm h1 hr
      show ask _ _ _ s
      rw [hp m (by omega), hp (m - 1) (by omega)]
      refine h m h1 (by omega) _ ?_
      simp only [Bool.false_eq_true, if_false]
      exact ih (m + 1) R' (by omega) (by omega) hr
  unfold kas_sort
  rw [KasT.kasWp_bind]
  unfold kas_count
  rw [KasT.kasWp_bind]
  refine loop (n - 1) 1 _ (by omega) (Nat.le_refl _) ?_
  simp only [beq_self_eq_true, if_true]
  show (if n < n then _ else KasT.ret _ : KasT (Array Nat)).kasWp ask R s
  rw [if_neg (Nat.lt_irrefl _)]
  exact hR
theorem pair_lt {prog : Program} {w : World} {A : Around} {s : Shared} {x y : Addr} {a b c d : Int} {ta tb tc td : Tok} {C : Bool → Shared → Prop} (hx : s.heap.get? x = some (tupO [.int a ta, .int b tb])) (hy : s.heap.get? y = some (tupO [.int c tc, .int d td]))
    (hlt : ltP (c, d) (a, b)) (h : C false s) : wpAny (model prog w) A (keyLt' (tuples' true) (.ref x) (.ref y)) C (fun _ _ => False) s := by
  refine kat_lt hx rfl hy rfl ?_
  refine kat_cons (wpAny_eqBool_int ?_)
  by_cases e : a = c
  · subst e
    rw [show (a == a) = true from beq_self_eq_true a]
    refine kat_yes ?_
    rcases hlt with q | ⟨_, q⟩
    · exact absurd q (Int.lt_irrefl _)
    · have hne : b ≠ d := fun e => by rw [e] at q; exact absurd q (Int.lt_irrefl _)
      refine kat_cons (wpAny_eqBool_int ?_)
      rw [show (b == d) = false from beq_eq_false_iff_ne.mpr hne]
      refine kat_no ?_
      refine kat_one _ _ (lt_int ?_)
      show C (decide (b < d)) s
      have q' : d < b := q
      rw [decide_eq_false (by omega)]
      exact h
  · rw [show (a == c) = false from beq_eq_false_iff_ne.mpr e]
    refine kat_no ?_
    refine oneLt_int ?_
    rcases hlt with q | ⟨q, _⟩
    · have q' : c < a := q
      rw [decide_eq_false (by omega)]
      exact h
    · exact absurd (show a = c from q.symm) e
theorem small_sort {prog : Program} {w : World} {A : Around} {E : Value → Shared → Prop} {s : Shared} {a : Addr} {vs : List Value} {n : Nat} {P : PySem.Fin → Shared → Prop} (ho : s.heap.get? a = some (seqObj "list" vs.toArray n)) (h2 : vs.length < 2)
    (h : P (.done (.ret .none)) { s with heap := sortedHeap s.heap a vs vs.toArray }) : wpAny (model prog w) A (Builtin.«list.sort» ⟨[.ref a], []⟩) P E s := by
  have hz : vs.length ≤ sizeLine := Nat.le_trans (Nat.le_of_lt h2) (by decide)
  have hz1 : vs.toArray.size ≤ sizeLine := hz
  have hz2 : vs.toArray.size ≤ sizeLine + 1 := Nat.le_succ_of_le hz
  have hk := get?_update_seq ho fun _ => (#[] : Array Value)
  generalize (if (#[] : Array Value).size == vs.toArray.size then n else n + 1) = k at hk
  have hk' := Heap.get?_push_of_some (seqObj "list" #[] 0) (Heap.get?_push_of_some (seqObj "tuple" vs.toArray 0) hk)
  have hm : (arrOf (SortSt.mk' general' (vs.toArray.zip vs.toArray) #[] 7 none)).map (·.2) = vs.toArray := Array.map_snd_zip (Nat.le_refl _)
  rw [list_sort_plain]
  wp_walk using listItems_at ho rfl, listUpdate_at ho rfl (hsz := hz1) (hsz2 := Nat.zero_le _), seqEpoch_at hk rfl, wpAny_newTuple (hsz := hz), wpAny_newList (hsz := Nat.zero_le _), wpAny_ite_true (c := vs.toArray.size < 2) (decide_eq_true h2)
  rw [if_pos (show vs.toArray.size < 2 from h2)]
  refine wpAny_pure ?_
  dsimp only
  rw [hm]
  wp_walk using seqEpoch_at hk' rfl, listUpdate_at hk' rfl (hsz := Nat.zero_le _) (hsz2 := hz2)
  exact h
theorem WC.sorted_pairs {l : Addr} {ps : List (Int × Int)} {Q : AV → Sig → Prop} (hm : (l, .list (ps.map pI)) ∈ σ) (hasc : ps.Pairwise ltP) (h64 : ps.length < 64) (h : ∀ b, Q (.raw (.ref b)) ((b, .list (ps.map pI)) :: σ)) :
    WC G n (.raw (.builtin "sorted")) [.raw (.ref l)] σ Q := fun fv vs A Φ s F hr hK r1 r2 hs => by
  rw [show fv = .builtin "sorted" from r1]
  obtain ⟨v1, vr, rfl, e1, e2⟩ := r2
  rw [show v1 = .ref l from e1, show vr = [] from e2]
  obtain ⟨items, hL, rl⟩ := hs.mem (List.mem_append_left _ hm)
  have hlen : items.toList.length = ps.length := by rw [rl.length, List.length_map]
  obtain ⟨L, mL, hmL⟩ := hK
  have hmF : (L, AObj.ns mL) ∈ σ ++ F := List.mem_append_right _ hmL
  obtain ⟨mm, F0, N0⟩ := hs.ledger hmF
  have hL' : s.heap.IsList l items.toList.toArray := by rw [Array.toArray_toList]; exact hL.isList
  -- what the j-th value is
  have hat : ∀ (j : Nat) p, ps[j]? = some p → ∃ x ta tb, items.toList[j]? = some (.ref x) ∧ Φ x = some (tupO [.int p.1 ta, .int p.2 tb]) := fun j p hj => by
    obtain ⟨y, hy, x, ws, rfl, ex, u1, ur, rfl, ⟨ta, rfl⟩, u2, ur2, rfl, ⟨tb, rfl⟩, e3⟩ := rl.get (i := j) (a := pI p) (by rw [List.getElem?_map, hj]; rfl)
    rw [show ur2 = [] from e3] at ex
    exact ⟨x, ta, tb, hy, ex⟩
  rcases Nat.lt_or_ge ps.length 2 with h2 | h2
  · have hz : items.toList.length ≤ sizeLine := Nat.le_trans (by omega : _ ≤ 63) (by decide)
    have hn : items.toList.length < 2 := by omega
    -- the list that is sorted and given back
    obtain ⟨h1, e1⟩ : ∃ h1, h1 = (s.heap.push (seqObj "list" #[] 0)).update s.heap.objs.size (Obj.mapSeq (· ++ items.toList.toArray)) := ⟨_, rfl⟩
    have z1 : h1.objs.size = s.heap.objs.size + 1 := by rw [e1, Heap.size_update, size_push']
    have o1 : (h1.push (seqObj "list" items.toList.toArray 0)).get? h1.objs.size = some (seqObj "list" items.toList.toArray 0) := Heap.get?_push_size _ rfl
    rw [z1] at o1
    refine call_function_entry kind_sorted plain_sorted entry_sorted (args_sorted1 _) ?_
    have fin : ∀ Q' : PySem.Fin → Shared → Prop, Q' (.done (.ret (.ref (s.heap.objs.size + 1)))) { s with heap := sortedAll s.heap items.toList items.toList.toArray } → wpAny (model G.prog G.w) A.in1 (Builtin.«sorted» ⟨[.ref l], []⟩) Q' NoE s := by
      intro Q' hQ'
      unfold Builtin.«sorted»
      refine wpAny_bind (m := checkCount "sorted" 1 1 _) (wpAny_pure (wpAny_bind (collect_list hL' (wpAny_bind (wpAny_newList ?_ hz)) hz)))
      dsimp only
      rw [← e1, z1]
      refine wpAny_bind (wpAny_holding (wpAny_call_entry slot_list_sort ⟨_, o1, rfl⟩ entry_list_sort (small_sort o1 hn ⟨_, rfl, ?_⟩) (args_list_sort _)))
      subst e1
      exact wpAny_pure hQ'
    obtain ⟨e', he'⟩ := sortedAll_at s.heap items.toList items.toList.toArray
    have st : St G ((s.heap.objs.size + 1, .list (ps.map pI)) :: (σ ++ F)) Φ { s with heap := sortedAll s.heap items.toList items.toList.toArray } :=
      hs.newOwns (news := [(s.heap.objs.size + 1, .list (ps.map pI))]) (fun b o e => sortedAll_old e) (fun p hp => by
        rw [List.mem_singleton] at hp; subst hp
        exact ⟨Nat.le_succ _, ⟨_, ⟨e', he'⟩, by simpa using rl⟩⟩) (by simp) rfl rfl
    exact fin _ ⟨_, rfl, Φ, .raw (.ref (s.heap.objs.size + 1)), (s.heap.objs.size + 1, .list (ps.map pI)) :: σ, .refl _, rfl, st, h _⟩
  · refine kat_sorted F0 N0 hL' (by omega) (by omega) fun D e1 h' F' N' hD => ?_
    have keep : ∀ b o, Φ b = some o → h'.get? b = some o := fun b o e => by
      refine (N' (b, o) (.tail _ (mem_allBut.mpr ⟨fun q => ?_, hs.frz _ _ e⟩))).1
      have := (hs.own _ hmF).2
      rw [q] at e; rw [this] at e; cases e
    refine kat_kind (fs := items.toList.map fun v => match v with | .ref x => (match Φ x with | some o => (match o.data with | .seq xs _ => xs.getD 0 .none | _ => .none) | none => .none) | _ => .none) (T := .type "int") ?_ (by rw [List.length_map]; omega) ?_ rfl ?_
    · -- the first parts
      have key : ∀ (vs : List Value), (∀ v ∈ vs, ∃ x a b ta tb, v = .ref x ∧ Φ x = some (tupO [.int a ta, .int b tb])) → KatTups h' vs (vs.map fun v => match v with | .ref x => (match Φ x with | some o => (match o.data with | .seq xs _ => xs.getD 0 .none | _ => .none) | none => .none) | _ => .none) := by
        intro vs
        induction vs with
        | nil => intro _; exact KatTups.nil
        | cons v r ih =>
          intro hv
          obtain ⟨x, a, b, ta, tb, rfl, ex⟩ := hv v (.head _)
          rw [List.map_cons]
          refine KatTups.cons (keep _ _ ex) rfl rfl ?_ (ih fun u hu => hv u (.tail _ hu))
          simp [ex]
      refine key _ fun v hv => ?_
      obtain ⟨j, hj⟩ := List.mem_iff_getElem?.mp hv
      have hjl : j < ps.length := by rw [← hlen]; exact (List.getElem?_eq_some_iff.mp hj).1
      obtain ⟨x, ta, tb, hx, ex⟩ := hat j ps[j] (List.getElem?_eq_getElem hjl)
      rw [hj] at hx
      exact ⟨x, _, _, ta, tb, Option.some.inj hx, ex⟩
    · intro v hv
      obtain ⟨u, hu, rfl⟩ := List.mem_map.mp hv
      obtain ⟨j, hj⟩ := List.mem_iff_getElem?.mp hu
      have hjl : j < ps.length := by rw [← hlen]; exact (List.getElem?_eq_some_iff.mp hj).1
      obtain ⟨x, ta, tb, hx, ex⟩ := hat j ps[j] (List.getElem?_eq_getElem hjl)
      rw [hj] at hx
      rw [Option.some.inj hx]
      simp only [ex]
      exact Looks.now
    · rw [show (Value.type "int" != Value.type "tuple") = true from by decide]
      refine asc_sort (by omega) (fun j h1 hj C hC => ?_) ?_
      · unfold kas_ask
        have hjl : j < ps.length := by omega
        have hjl' : j - 1 < ps.length := by omega
        obtain ⟨x, ta, tb, hx, ex⟩ := hat j ps[j] (List.getElem?_eq_getElem hjl)
        obtain ⟨y, tc, td, hy, ey⟩ := hat (j - 1) ps[j - 1] (List.getElem?_eq_getElem hjl')
        rw [List.getD_eq_getElem?_getD, List.getD_eq_getElem?_getD, hx, hy]
        refine pair_lt (s := { s with heap := h' }) (keep _ _ ex) (keep _ _ ey) ?_ hC
        exact List.pairwise_iff_getElem.mp hasc (j - 1) j hjl' hjl (by omega)
      · have hout : ((List.range items.toList.length).toArray.toList.map fun i => items.toList.getD i Value.none) = items.toList := by
          apply List.ext_getElem
          · simp
          · intro i h1 h2
            simp [List.getD_eq_getElem?_getD]
            rw [Array.getElem?_eq_getElem (by simpa using h2)]; simp
        rw [hout]
        refine KasFin.intro (s := { s with heap := h' }) F' N' (.head fun p hp => Nat.ne_of_lt (hD p hp)) fun h2 c F2 N2 => ?_
        have st := hs.backNew (mm' := mm) (tk := s.toks) hmF F0 F2 N2 hD rl
        exact ⟨Φ, .raw (.ref D), (D, .list (ps.map pI)) :: σ, .refl _, rfl, st, h D⟩
end
end Mine
set_option maxRecDepth 100000
set_option autoImplicit false
set_option maxHeartbeats 4000000
namespace Mine
open PySem PySem.W PyProof.Rows PySem.Calls PySem.SeqAt
section
variable {prog : Program} {w : World} {A : Around} {E : Value → Shared → Prop} {s : Shared}
theorem setItem_plain {l : Addr} {items : Array Value} {n : Nat} {k : Int} {t : Tok} {v : Value} {Q : Unit → Shared → Prop} (hl : s.heap.get? l = some { cls := .type "list", data := .seq items n })
    (h0 : 0 ≤ k) (hfit : k < 2 ^ 63) (hn : k < items.size)
    (hQ : ∀ h', h'.PlainList l (items.setIfInBounds k.toNat v) → Heap.SameBut l s.heap h' → Q () { s with heap := h' }) : wpAny (model prog w) A (setItem (.ref l) (.int k t) v) Q E s :=
  ki_setAt hl h0 hfit hn (hQ _ ⟨_, get?_update_seq hl (·.setIfInBounds k.toNat v)⟩ (Heap.SameBut.update ..))
theorem getItem_to3 {t sl : Addr} {x y z : Value} {u : Tok} {Q : Value → Shared → Prop} (ht : IsTup s.heap t #[x, y, z]) (hs : s.heap.IsSliceOf sl .none (.int 2 u) .none)
    (h : Q (.ref s.heap.objs.size) { s with heap := s.heap.push { cls := .type "tuple", data := .seq #[x, y] } }) : wpAny (model prog w) A (getItem (.ref t) (.ref sl)) Q E s := by
  obtain ⟨o, ho, hc, hd⟩ := hs
  unfold getItem
  wp_walk using wpAny_sequenceKey ht.typeIs (by decide), wpAny_callSpecial?_slot (name := Str.ofString "__getitem__") ht.typeIs slot_tuple_getitem, wpAny_call_entry slot_tuple_getitem ht.typeIs entry_tuple_getitem (ha := args_tuple_getitem _ _), tupleItemsOf_ ht, wpAny_typeOf (T := .type "slice") ⟨o, ho, hc⟩, wpAny_field ho hd (x := .none) rfl, wpAny_field ho hd (x := .int 2 u) rfl, slicePart_none, slicePart_int
  exact ⟨_, rfl, wpAny_pure h⟩
end
section
variable {G : Gd} {n : Nat} {env : Env} {K σ σ' : Sig} {m : Loc}
theorem W3.set_list {l : Addr} {xs : List AV} {k : Nat} {y : AV} {Q : Sig → Prop} (U : Upd l (.list xs) (.list (xs.set k y)) σ σ') (hk : k < xs.length) (hkk : k < 900) (h : Q σ') : W3 G n setItem (.raw (.ref l)) (.int k) y σ Q := fun u v w A Φ s F hr ⟨r1, ⟨t, e⟩, r3⟩ hs => by
  subst e
  rw [show u = .ref l from r1]
  obtain ⟨r, p1, p2⟩ := U.two (F := F)
  have hs1 := hs.perm p1
  obtain ⟨items, ⟨c, hL⟩, rl⟩ := hs1.head
  have hlen : items.size = xs.length := by rw [← Array.length_toList, rl.length]
  refine setItem_plain hL (Int.natCast_nonneg _) (by omega) (by omega) fun h' hpl hsb => ⟨Φ, (), σ', .refl _, trivial, ?_, h⟩
  refine (hs1.updHead (s' := { s with heap := h' }) (ao' := .list (xs.set k y)) hsb.extBut ⟨_, hpl, ?_⟩ rfl rfl).perm p2.symm
  rw [Int.toNat_natCast, Array.toList_setIfInBounds]
  have key : ∀ (xs : List AV) (vs : List Value) (k : Nat), VReps Φ xs vs → VReps Φ (xs.set k y) (vs.set k w) := by
    intro xs
    induction xs with
    | nil => intro vs k h; rw [show vs = [] from h]; exact rfl
    | cons a r ih =>
      intro vs k ⟨v, vr, e, h1, h2⟩
      subst e
      cases k with
      | zero => exact ⟨w, vr, rfl, r3, h2⟩
      | succ k => exact ⟨v, _, rfl, h1, ih vr k h2⟩
  exact key xs _ k rl
theorem W2.add_list {a b : Addr} {xs ys : List AV} {Q : AV → Sig → Prop} (ha : (a, .list xs) ∈ σ) (hb : (b, .list ys) ∈ σ) (hl : xs.length + ys.length ≤ sizeLine) (h : ∀ c, Q (.raw (.ref c)) ((c, .list (xs ++ ys)) :: σ)) : W2 G n (binaryOp .Add) (.raw (.ref a)) (.raw (.ref b)) σ Q := fun v w A Φ s F hr ⟨r1, r2⟩ hs => by
  rw [show v = .ref a from r1, show w = .ref b from r2]
  obtain ⟨i1, ⟨c1, h1⟩, l1⟩ := hs.mem (List.mem_append_left _ ha)
  obtain ⟨i2, ⟨c2, h2⟩, l2⟩ := hs.mem (List.mem_append_left _ hb)
  refine PySem.P.add_list (n := c1) (n2 := c2) h1 h2 ⟨Φ, .raw (.ref s.heap.objs.size), _, .refl _, rfl, ?_, h _⟩ (by rw [← Array.length_toList, ← Array.length_toList, l1.length, l2.length]; exact hl)
  exact hs.newOwn (fun b o e => Heap.get?_push_of_some _ e) ⟨i1 ++ i2, ⟨0, Heap.get?_push_size _ rfl⟩, by rw [Array.toList_append]; exact l1.append l2⟩ rfl rfl
theorem WE.mulBit {l r : Expr} {pos : Pos} {Q : AV → Sig → Prop} (hK : HasNs K) (h : WE G n env K σ l fun a σ₁ => WE G n env K σ₁ r fun b σ₂ => ∃ (ad : Addr) (xs : List AV) (t : Bool), a = .raw (.ref ad) ∧ b = .int (if t then 1 else 0) ∧ (ad, .list xs) ∈ σ₂ ∧ 0 < xs.length ∧ xs.length ≤ 900 ∧ ∀ c, Q (.raw (.ref c)) ((c, .list (if t then xs else [])) :: σ₂)) :
    WE G n env K σ (.BinOp l .Mult r pos) Q := fun A Φ s F hr hc hs =>
  wpAny_BinOp (h.go hr hc hs fun v s1 Φ1 a σ1 x1 r1 h1 q1 => q1.go hr tt h1 fun w s2 Φ2 b σ2 x2 r2 h2 q2 => by
    obtain ⟨ad, xs, t, rfl, rfl, hm, h0, h9, q⟩ := q2
    obtain ⟨tk, rfl⟩ := r2
    rw [show v = .ref ad from r1]
    obtain ⟨items, ⟨c1, hL⟩, rl⟩ := h2.mem (List.mem_append_left _ hm)
    have hlen : items.size = xs.length := by rw [← Array.length_toList, rl.length]
    obtain ⟨L, mL, hmL⟩ := hK
    have hmF : (L, AObj.ns mL) ∈ σ2 ++ (K ++ F) := List.mem_append_right _ (List.mem_append_left _ hmL)
    obtain ⟨mm, F0, N0⟩ := h2.ledger hmF
    have hD : ∀ p ∈ allBut s2.heap L, p.1 < s2.heap.objs.size := fun p hp => Heap.lt_size (mem_allBut.mp hp).2
    refine PyProof.Rows.mul_list F0 N0 hL (by cases t <;> decide) (by cases t <;> decide) ?_ fun h' F' N' => ?_
    · cases t
      · simp
      · simp; exact Nat.le_trans (by omega : _ ≤ 900) (by decide)
    have hne : items.isEmpty = false := by
      rw [Array.isEmpty_eq_false_iff]; intro e; rw [e] at hlen; simp at hlen; omega
    cases t with
    | true =>
      have e : (List.foldl (fun x1 x2 => x1 ++ x2) #[] (List.replicate (if items.isEmpty = true then 0 else (if true = true then 1 else 0 : Int).toNat) items)) = items := by
        rw [hne]; simp
      rw [e] at N'
      have st := h2.backNew (mm' := mm) (tk := s2.toks) (vs := items.toList) (l := xs) hmF F0 F' (by rw [Array.toArray_toList]; exact N') hD rl
      exact ⟨Φ2, .raw (.ref s2.heap.objs.size), _, x1.trans x2, rfl, st, q _⟩
    | false =>
      have e : (List.foldl (fun x1 x2 => x1 ++ x2) #[] (List.replicate (if items.isEmpty = true then 0 else (if false = true then 1 else 0 : Int).toNat) items)) = #[] := by
        rw [hne]; simp
      rw [e] at N'
      have st := h2.backNew (mm' := mm) (tk := s2.toks) (vs := []) (l := []) hmF F0 F' N' hD rfl
      exact ⟨Φ2, .raw (.ref s2.heap.objs.size), _, x1.trans x2, rfl, st, q _⟩)
theorem W2.add_str {x y : Str} {Q : AV → Sig → Prop} (hl : x.length + y.length ≤ sizeLine) (h : Q (.str (x ++ y)) σ) : W2 G n (binaryOp .Add) (.str x) (.str y) σ Q := fun v w A Φ s F hr ⟨⟨t, e⟩, ⟨u, e'⟩⟩ hs => by
  subst e; subst e'
  exact PyProof.Rows.add_str (fun t' tk => ⟨Φ, .str _, σ, .refl _, ⟨_, rfl⟩, hs.toks _, h⟩) hl
theorem WE.slice2 {value upper : Expr} {p1 p2 : Pos} {Q : AV → Sig → Prop} (hu : ∀ (s : Shared) (A : Around) (R : Value → Shared → Prop) (E : Value → Shared → Prop), (∀ t, R (.int 2 t) { s with toks := s.toks + 1 }) → wpAny (model G.prog G.w) A (eval upper env) R E s)
    (h : WE G n env K σ value fun a σ₁ => ∃ x y z, a = .tup [x, y, z] ∧ Q (.tup [x, y]) σ₁) : WE G n env K σ (.Subscript value (.Slice none (some upper) none p1) p2) Q := fun A Φ s F hr hc hs => by
  rw [arm_eval_Subscript]
  refine wpAny_bind (h.go hr hc hs fun v s1 Φ1 a σ1 x1 r1 h1 q1 => wpAny_bind (wpAny_holding ?_))
  obtain ⟨x, y, z, rfl, q⟩ := q1
  obtain ⟨t, vs, rfl, et, u1, ur, rfl, ra, u2, ur2, rfl, rb, u3, ur3, rfl, rc, e3⟩ := r1
  rw [show ur3 = [] from e3] at et
  rw [arm_eval_Slice]
  refine wpAny_bind (m := valueOrNone (evalOpt none env)) (wpAny_pure (wpAny_bind (wpAny_holding (m := valueOrNone (evalOpt (some upper) env)) ?_)))
  show wpAny _ A (eval upper env) _ _ s1
  refine hu s1 A _ _ fun tu => ?_
  refine wpAny_bind (wpAny_holding (m := valueOrNone (evalOpt none env)) (wpAny_pure ?_))
  refine wpAny_newObj_type ?_ (by size_fits)
  refine wpAny_bind (wpAny_standAt ?_)
  have h2 := h1.keeps (s' := { s1 with heap := s1.heap.push { cls := .type "slice", data := .fields #[.none, .int 2 tu, .none] }, toks := s1.toks + 1 }) (fun b o e => Heap.get?_push_of_some _ e) rfl rfl
  have ht : IsTup (s1.heap.push { cls := .type "slice", data := .fields #[.none, .int 2 tu, .none] }) t #[u1, u2, u3] := ⟨_, h2.frz _ _ et, rfl, 0, rfl⟩
  refine tail_any ht.typeIs slot_tuple_getitem.lookup (getItem_to3 ht (Heap.IsSliceOf.new ..) ?_) (by with_unfolding_all rfl)
  obtain ⟨x3, e3, h3⟩ := h2.newFrz (s' := { s1 with heap := (s1.heap.push { cls := .type "slice", data := .fields #[.none, .int 2 tu, .none] }).push { cls := .type "tuple", data := .seq #[u1, u2] }, toks := s1.toks + 1 }) (o := tupO [u1, u2]) (fun b o e => Heap.get?_push_of_some _ e) (Nat.le_refl _) (Heap.get?_push_size _ rfl) rfl rfl
  exact ⟨_, .tup [x, y], σ1, x1.trans x3, ⟨_, _, rfl, e3, _, _, rfl, ra.ext x3, _, _, rfl, rb.ext x3, rfl⟩, h3, q⟩
end
end Mine
set_option maxRecDepth 100000
set_option autoImplicit false
set_option maxHeartbeats 4000000
namespace Mine
open PySem PySem.W PyProof.Rows PySem.Calls PySem.SeqAt
section
variable {G : Gd} {n : Nat} {σ : Sig}
theorem CTurn2.mk {env : Env} {m : Loc} {it acc : Addr} {e target i' : Expr} {ifs : List Expr} {Q : Loc → Sig → Prop} (h : WN G n it target σ (fun σ₁ => Q m σ₁) fun x σ₁ => WA G n env m σ₁ target x fun m₁ σ₂ => WIfs G n env m₁ ifs σ₂ fun b σ₃ =>
    if b then WEF G n env m₁ σ₃ i' fun a σ₄ => W1 G n pyIter a σ₄ fun bb σ₅ => ∃ it', bb = .raw (.ref it') ∧ WCS G n e 1 it' acc env m₁ σ₅ fun m₂ σ₆ => WCL G n e 0 it acc env m₂ σ₆ Q
    else WCL G n e 0 it acc env m₁ σ₃ Q) : CTurn2 G n e it acc env target i' ifs m σ Q := h
theorem WN.listI {it l : Addr} {i : Nat} {xs : List AV} {x : AV} {σ' : Sig} {target : Expr} {Qe : Sig → Prop} {Qi : AV → Sig → Prop} (U : Upd it (.listIter l i) (.listIter l (i + 1)) σ σ') (hm : (l, .list xs) ∈ σ) (hx : xs[i]? = some x) (h : Qi x σ') : WN G n it target σ Qe Qi := .list_item hx U hm h
theorem WN.listE {it l : Addr} {i : Nat} {xs : List AV} {σ' : Sig} {target : Expr} {Qe : Sig → Prop} {Qi : AV → Sig → Prop} (U : At it (.listIter l i) σ' σ) (hm : (l, .list xs) ∈ σ) (hx : Nat.ble xs.length i = true) (h : Qe σ') : WN G n it target σ Qe Qi := .list_end (Nat.le_of_ble_eq_true hx) U hm h
theorem WCS.list1 {env : Env} {m : Loc} {it acc l : Addr} {e : Expr} {depth i : Nat} {Q : Loc → Sig → Prop} (hm : (it, .listIter l i) ∈ σ) (h : WCL G n e depth it acc env m σ Q) : WCS G n e depth it acc env m σ Q := .list hm h
end
end Mine
namespace Mine
open PySem PySem.W PyProof.Rows PySem.Calls PySem.SeqAt
section
variable {G : Gd} {n : Nat} {σ : Sig}
theorem nty_ht : ∀ t : List (Int × Bool), (nty t).ht = t.length
  | [] => rfl
  | (r, m) :: t => by show (nty t).ht + 1 = t.length + 1; rw [nty_ht t]
theorem nty_regs : ∀ t : List (Int × Bool), (nty t).regs.map Rg.av = (t.map (·.1)).map AV.int
  | [] => rfl
  | (r, m) :: t => by show AV.int r :: (nty t).regs.map Rg.av = _; rw [nty_regs t]; rfl
theorem nty_regs_len (t : List (Int × Bool)) : (nty t).regs.length = t.length := by
  have := congrArg List.length (nty_regs t); simpa using this
structure CallT where
  nm : Str
  p : List (Int × Bool)
  mv : Bool
  first : Nat
  target : Int
structure Blk where
  b : Addr
  s : Addr
  st : Bool
  tm : Option CallT
noncomputable def mvAV (b : Bool) : AV := if b then .str "move" else .str "copy"
noncomputable abbrev opAV (w : AV) (k : Int) : AV := .tup [w, .tup [.int k, .tup []]]
noncomputable abbrev calleeAV (nm : Str) (p : List (Int × Bool)) : AV := .tup [.str "fn", .str nm, .tup [(nty p).av]]
noncomputable def CallT.av (c : CallT) : AV := .tup [.str "call", calleeAV c.nm c.p, .tup [opAV (.str "copy") (c.first : Nat), opAV (mvAV c.mv) ((c.first + 1 : Nat))], .tup [.int ((c.first + 2 : Nat)), .tup []], .int c.target]
noncomputable def termAV : Option CallT → AV
  | some c => c.av
  | none => .tup [.str "return"]
noncomputable def stAV (b : Bool) : List AV := if b then [.tup [.str "nop"]] else []
noncomputable def BlkIn (σ : Sig) (bs : List Blk) : Prop := ∀ b ∈ bs, (b.b, AObj.list [.raw (.ref b.s), termAV b.tm]) ∈ σ ∧ (b.s, AObj.list (stAV b.st)) ∈ σ
noncomputable abbrev nP : AObj := .tab notedPos "regions_in.<locals>.noted"
theorem c_callee_regions (hK : KOk G) (nm : Str) (p : List (Int × Bool)) (hp : p.length ≤ 1) (hn : 7 ≤ n) (hP : (68, nP) ∈ σ) {Q : AV → Sig → Prop} (h : ∀ a, Q (.raw (.ref a)) ((a, .list ((p.map (·.1)).map .int)) :: σ)) :
    WCall G n (.raw (.ref 360)) [calleeAV nm p] σ Q := by
  refine ⟨WK.fn (by rw [hK]; rfl), .of (.le (k := 6+1) ?_ (by omega))⟩
  refine WCd.def [("callee", calleeAV nm p)] [("callee", calleeAV nm p)] (fun _ => []) (fun _ => σ) (by rw [hK]; rfl) (by rw [hK]; rfl) (HB.plain (names := ["callee"]) ?hb rfl rfl) rfl rfl ?nd (by decide) rfl (fun _ => rfl) (fun _ => rfl) ?_
  case hb => exact len1 fun _ => rfl
  case nd => exact (by decide : (["callee"] : List Str).Nodup)
  intro L
  walk_at "v*"
  refine c_regions_in hK (nty p) (by rw [nty_ht]; omega) (by rw [nty_regs_len]; omega) (by walk_at "w mem") ?_
  intro a
  match p, hp with
  | [], _ =>
    show W1 G 6 pyIter (.raw (.ref a)) ((a, .list []) :: _) _
    walk_at "v*"
    exact Fin.sub (Fin.ret (h _)) (.cons _ (.cons_cons _ (.refl _)))
  | [(r, m)], _ =>
    show W1 G 6 pyIter (.raw (.ref a)) ((a, .list [.int r]) :: _) _
    walk_at "v*"
    exact Fin.sub (Fin.ret (h _)) (.cons _ (.cons_cons _ (.refl _)))
end
end Mine
set_option maxRecDepth 100000
set_option autoImplicit false
set_option maxHeartbeats 4000000
namespace Mine
open PySem PySem.W PyProof.Rows PySem.Calls PySem.SeqAt
section
variable {G : Gd} {n : Nat} {σ : Sig}
theorem flat_take {α β : Type} (f : α → List β) {xs : List α} {i : Nat} {x : α} (h : xs[i]? = some x) : (xs.take (i + 1)).flatMap f = (xs.take i).flatMap f ++ f x := by
  rw [List.take_add_one, h]; simp
theorem map_take {α β : Type} (f : α → β) {xs : List α} {i : Nat} {x : α} (h : xs[i]? = some x) : (xs.take (i + 1)).map f = (xs.take i).map f ++ [f x] := by
  rw [List.take_add_one, h]; simp
theorem getD_map {α : Type} (f : α → AV) {xs : List α} {i : Nat} {x : α} (h : xs[i]? = some x) : (xs.map f).getD i .none = f x := by
  rw [List.getD_eq_getElem?_getD, List.getElem?_map, h]; rfl
theorem get_of_lt {α β : Type} {f : α → β} {xs : List α} {i : Nat} (h : i < (xs.map f).length) : ∃ x, xs[i]? = some x := by
  rw [List.length_map] at h
  exact ⟨xs[i], List.getElem?_eq_getElem h⟩
theorem flat_len {α β : Type} {f : α → List β} {k : Nat} : ∀ {xs : List α}, (∀ x ∈ xs, (f x).length ≤ k) → (xs.flatMap f).length ≤ xs.length * k
  | [], _ => by simp
  | x :: r, h => by
    have h1 := h x (.head _)
    have h2 := flat_len (f := f) (xs := r) fun y hy => h y (.tail _ hy)
    rw [List.flatMap_cons, List.length_append, List.length_cons, Nat.add_mul]
    omega
noncomputable def locAV (t : List (Int × Bool)) : AV := .tup [(nty t).av, .bool true, .none]
noncomputable def rgs (t : List (Int × Bool)) : List Int := t.map (·.1)
noncomputable def callRgs (b : Blk) : List Int := match b.tm with
  | some c => rgs c.p
  | none => []
noncomputable def blkRef (b : Blk) : AV := .raw (.ref b.b)
theorem WCL.pull {env : Env} {m : Loc} {it acc : Addr} {e : Expr} {depth : Nat} {Q : Loc → Sig → Prop} {r : Sig} (a : Addr) {o : AObj} (p : At a o r σ) (h : WCL G n e depth it acc env m ((a, o) :: r) Q) : WCL G n e depth it acc env m σ Q :=
  WCL.pre (R := []) h (by rw [List.append_nil]; exact p.perm) fun _ _ e => e
theorem stAV_item {b : Bool} {i : Nat} (h : i < (stAV b).length) : (stAV b).getD i .none = .tup [.str "nop"] := by
  cases b with
  | false => exact absurd h (by simp [stAV])
  | true =>
    have : i = 0 := by simp [stAV] at h; omega
    subst this; rfl
theorem c_greatest (hK : KOk G) (hn : 9 ≤ n) (x dx lc bl sp : Addr) (a1 a2 : AV) (ks : List (List (Int × Bool))) (bs : List Blk) (hm : (dx, .attrs (bodyA a1 a2 lc bl sp)) ∈ σ) (hl : (lc, .list (ks.map locAV)) ∈ σ)
    (hbl : (bl, .list (bs.map blkRef)) ∈ σ) (hbs : BlkIn σ bs) (hP : (68, nP) ∈ σ) (b1 : ∀ t ∈ ks, t.length ≤ 3) (b2 : ks.length ≤ 20) (b3 : bs.length ≤ 10) (b4 : ∀ b ∈ bs, ∀ c, b.tm = some c → c.p.length ≤ 1) {Q : AV → Sig → Prop}
    (h : ∀ M : Int, 0 ≤ M → (∀ t ∈ ks, ∀ q ∈ rgs t, q ≤ M) → (∀ b ∈ bs, ∀ q ∈ callRgs b, q ≤ M) → Q (.int M) σ) : WCall G n (.raw (.ref 365)) [.obj x (instObj 146 dx)] σ Q := by
  refine ⟨WK.fn (by rw [hK]; rfl), .of (.le (k := 8+1) ?_ (by omega))⟩
  refine WCd.def [("body", .obj x (instObj 146 dx))] [("body", .obj x (instObj 146 dx))] (fun _ => []) (fun _ => σ) (by rw [hK]; rfl) (by rw [hK]; rfl) (HB.plain (names := ["body"]) ?hb rfl rfl) rfl rfl ?nd (by decide) rfl (fun _ => rfl) (fun _ => rfl) ?_
  case hb => exact len1 fun _ => rfl
  case nd => exact (by decide : (["body"] : List Str).Nodup)
  intro L
  walk_at "u*"
  rename_i fa it
  refine WF.each (Src.list (ks.map locAV)) (fun i => (fa, .list ((0 :: (ks.take i).flatMap rgs).map .int)) :: σ) (fun i _ => .tail _ hl) ?_ ?_
  · intro i hi
    obtain ⟨t, ht⟩ := get_of_lt hi
    rw [getD_map locAV ht]
    have htm := List.mem_of_getElem? ht
    dsimp only [List.cons_append, List.nil_append]
    unfold locAV
    walk_at "v*"
    refine WM.list (by walk_at "w mem") PySem.F.slot_list_extend PySem.F.type_list_extend ?_
    walk_at "v*"
    refine c_regions_in hK (nty t) (by rw [nty_ht]; have := b1 t htm; omega) (by rw [nty_regs_len]; have := b1 t htm; omega) (by walk_at "w mem") ?_
    intro a
    rw [nty_regs]
    walk_at "v*"
    refine WCall.mk (WK.builtin _) (WC.extendNew (by walk_at "w upd") ?_ ?_)
    · have l1 := flat_len (f := rgs) (k := 3) (xs := ks.take i) (fun y hy => by simp only [rgs, List.length_map]; exact b1 y (List.mem_of_mem_take hy))
      have l2 : (ks.take i).length ≤ ks.length := by rw [List.length_take]; omega
      have l3 := b1 t htm
      simp only [List.length_map, List.length_cons]
      exact Nat.le_trans (by omega : _ ≤ 900) (by decide)
    walk_at "v*"
    refine LoopK.skip ?_
    rw [flat_take rgs ht]
    have e : ((0 :: (ks.take i).flatMap rgs).map AV.int) ++ ((t.map (·.1)).map AV.int) = (0 :: ((ks.take i).flatMap rgs ++ rgs t)).map AV.int := by simp [rgs]
    rw [e]
    exact LoopK.same (look_new rfl)
  · dsimp only [List.cons_append, List.nil_append]
    rw [show (List.map locAV ks).length = ks.length from List.length_map .., List.take_length]
    walk_at "u*"
    rename_i it2
    generalize hL0 : (0 :: ks.flatMap rgs) = L0
    have hL0len : L0.length ≤ 61 := by
      have l1 := flat_len (f := rgs) (k := 3) (xs := ks) (fun y hy => by simp only [rgs, List.length_map]; exact b1 y hy)
      rw [← hL0, List.length_cons]; omega
    rw [show L0 = L0 ++ (bs.take 0).flatMap callRgs from by simp]
    refine WF.each (Src.list (bs.map blkRef)) (fun i => (fa, .list ((L0 ++ (bs.take i).flatMap callRgs).map .int)) :: σ) (fun i _ => .tail _ hbl) ?_ ?_
    · intro i hi
      obtain ⟨b, hb⟩ := get_of_lt hi
      rw [getD_map blkRef hb]
      have hbm := List.mem_of_getElem? hb
      obtain ⟨m1, m2⟩ := hbs b hbm
      dsimp only [List.cons_append, List.nil_append]
      unfold blkRef
      walk_at "u*"
      rename_i it3
      refine WF.each (Src.list (stAV b.st)) (fun _ => (it2, .listIter bl (i + 1)) :: (fa, .list ((L0 ++ (bs.take i).flatMap callRgs).map .int)) :: σ) (fun i _ => .tail _ (.tail _ m2)) ?_ ?_
      · intro j hj
        rw [stAV_item hj]
        dsimp only [List.cons_append, List.nil_append]
        walk_at "u*"
        exact LoopK.same (look_new rfl)
      · dsimp only [List.cons_append, List.nil_append]
        rw [flat_take callRgs hb]
        cases hc : b.tm with
        | none =>
          have e : callRgs b = [] := by unfold callRgs; rw [hc]
          rw [e, List.append_nil]
          unfold termAV
          walk_at "u*"
          exact LoopK.same (look_new2 rfl rfl)
        | some c =>
          have e : callRgs b = rgs c.p := by unfold callRgs; rw [hc]
          rw [e]
          unfold termAV CallT.av
          walk_at "u*"
          refine WM.list (by walk_at "w mem") PySem.F.slot_list_extend PySem.F.type_list_extend ?_
          walk_at "u*"
          refine c_callee_regions hK c.nm c.p (b4 b hbm c hc) (by omega) (by walk_at "w mem") ?_
          intro a
          walk_at "u*"
          refine WCall.mk (WK.builtin _) (WC.extendNew (by walk_at "w upd") ?_ ?_)
          · have l1 := flat_len (f := callRgs) (k := 1) (xs := bs.take i) (fun y hy => by
              unfold callRgs
              cases hy2 : y.tm with
              | none => simp
              | some c => simp only [rgs, List.length_map]; exact b4 y (List.mem_of_mem_take hy) c hy2)
            have l2 : (bs.take i).length ≤ bs.length := by rw [List.length_take]; omega
            have l3 := b4 b hbm c hc
            simp only [List.length_map, List.length_append]
            exact Nat.le_trans (by omega : _ ≤ 900) (by decide)
          walk_at "u*"
          refine LoopK.skip ?_
          have e2 : ((L0 ++ (bs.take i).flatMap callRgs).map AV.int) ++ ((c.p.map (·.1)).map AV.int) = (L0 ++ ((bs.take i).flatMap callRgs ++ rgs c.p)).map AV.int := by simp [rgs]
          rw [e2]
          exact LoopK.same (look_new2 rfl rfl)
    · dsimp only [List.cons_append, List.nil_append]
      rw [show (List.map blkRef bs).length = bs.length from List.length_map .., List.take_length]
      walk_at "u*"
      rename_i it4 acc C
      generalize hL1 : L0 ++ bs.flatMap callRgs = L1
      have hL1len : L1.length ≤ 100 := by
        have l1 := flat_len (f := callRgs) (k := 1) (xs := bs) (fun y hy => by
          unfold callRgs
          cases hy2 : y.tm with
          | none => simp
          | some c => simp only [rgs, List.length_map]; exact b4 y hy c hy2)
        rw [← hL1, List.length_append]; omega
      refine WCL.pull it4 (by walk_at "w at") ?_
      refine WCL.each WCL.turn1 (Src.list (L1.map .int)) (fun i => (acc, .list ((L1.take i).map .int)) :: (fa, .list (L1.map .int)) :: σ) (fun i _ => .tail _ (.head _)) ?_ ?_
      · intro i hi
        obtain ⟨v, hv⟩ := get_of_lt hi
        rw [getD_map AV.int hv, map_take AV.int hv]
        dsimp only [List.cons_append, List.nil_append]
        unfold ItemK
        walk_at "u*"
        refine EmitK.mk (by walk_at "w upd") ?_ ?_
        · rw [List.length_map, List.length_take]; exact Nat.le_trans (by omega : _ ≤ 900) (by decide)
        · exact CompK.same (fun y v e => by cases e)
      · dsimp only [List.cons_append, List.nil_append]
        rw [show (List.map AV.int L1).length = L1.length from List.length_map .., List.take_length]
        walk_at "u*"
        refine WCall.mk (WK.builtin _) (WC.max_list (ns := L1) (by walk_at "w mem") (by rw [← hL1, ← hL0]; simp) ?_)
        intro M hM hle
        walk_at "u*"
        refine Fin.skip (Fin.skip (Fin.ret (h M (hle 0 ?_) ?_ ?_)))
        · rw [← hL1, ← hL0]; simp
        · intro t ht q hq
          exact hle q (by rw [← hL1, ← hL0]; exact List.mem_append_left _ (.tail _ (List.mem_flatMap.mpr ⟨t, ht, hq⟩)))
        · intro b hb q hq
          exact hle q (by rw [← hL1, ← hL0]; exact List.mem_append_right _ (List.mem_flatMap.mpr ⟨b, hb, hq⟩))
end
end Mine
set_option maxRecDepth 100000
set_option autoImplicit false
set_option maxHeartbeats 4000000
namespace Mine
open PySem PySem.W PyProof.Rows PySem.Calls PySem.SeqAt
section
variable {G : Gd} {n : Nat} {σ : Sig}
noncomputable abbrev Row := Int × Int × Int × Int
noncomputable def rowAV (r : Row) : AV := .tup [.int r.1, .int r.2.1, .tup [.int r.2.2.1, .int r.2.2.2]]
noncomputable abbrev conA (b w v : AV) (rl : Addr) (nx : Int) : Loc := [("body", b), ("world", w), ("varied", v), ("rows", .raw (.ref rl)), ("next", .int nx)]
theorem belowL_len : ∀ (w : Bool) (t t' : List (Int × Bool)) (l : List (Int × Int)), (belowL w t t' l).length ≤ l.length + 2 * t.length
  | w, (r, m) :: t, (r', m') :: t', l => by
    show (belowL _ t t' (regn w l r r')).length ≤ _
    have := belowL_len (w || m') t t' (regn w l r r')
    have := regn_len w l r r'
    simp only [List.length_cons]; omega
  | w, [], _, l => by unfold belowL; simp
  | w, _ :: _, [], l => by unfold belowL; simp
noncomputable def toRow (p q : Int) (x : Int × Int) : Row := (x.1, x.2, p, q)
theorem c_note (hK : KOk G) (x dx rl : Addr) (bv wv v : AV) (hv : v.hand = true) (nx : Int) (R : List Row) (t t' : List (Int × Bool)) (p q : Int) (hn : t.length + 6 ≤ n) (ht : t.length = t'.length) (hm : (dx, .attrs (conA bv wv v rl nx)) ∈ σ)
    (hl : R.length ≤ 600) (htl : t.length ≤ 3) {Q : AV → Sig → Prop} (h : Q .none ((rl, .list ((R ++ (relatedL t t').map (toRow p q)).map rowAV)) :: σ)) :
    WCall G n (.raw (.ref 294)) [.obj x (instObj 344 dx), (nty t).av, (nty t').av, .tup [.int p, .int q]] ((rl, .list (R.map rowAV)) :: σ) Q := by
  refine ⟨WK.fn (by rw [hK]; rfl), .of (.le (k := (t.length+5)+1) ?_ (by omega))⟩
  refine WCd.def [("self", .obj x (instObj 344 dx)), ("one", (nty t).av), ("other", (nty t').av), ("point", .tup [.int p, .int q])] [("self", .obj x (instObj 344 dx)), ("one", (nty t).av), ("other", (nty t').av), ("point", .tup [.int p, .int q])] (fun _ => []) (fun _ => (rl, .list (R.map rowAV)) :: σ) (by rw [hK]; rfl) (by rw [hK]; rfl) (HB.plain (names := ["self", "one", "other", "point"]) ?hb rfl rfl) rfl rfl ?nd (by decide) rfl (fun _ => rfl) (fun _ => rfl) ?_
  case hb => exact len4 fun _ _ _ _ => rfl
  case nd => exact (by decide : (["self", "one", "other", "point"] : List Str).Nodup)
  intro L
  walk_at "u*"
  refine W1.attrK hK (am := conA bv wv v rl nx) (a := v) (by walk_at "w mem") (by walk_at "r") (by walk_at "r") hv ?_
  walk_at "u*"
  refine c_related hK (by omega) v hv ht (by omega) ?_
  intro a
  have hrl : (relatedL t t').length ≤ 6 := by
    have := belowL_len false t t' []
    simp only [List.length_nil] at this
    unfold relatedL; omega
  generalize relatedL t t' = ps at hrl h ⊢
  walk_at "u*"
  rename_i it
  rw [show R = R ++ (ps.take 0).map (toRow p q) from by simp]
  refine WF.each (Src.list (ps.map prI)) (fun i => (a, .list (ps.map prI)) :: (rl, .list ((R ++ (ps.take i).map (toRow p q)).map rowAV)) :: σ) (fun i _ => .head _) ?_ ?_
  · intro i hi
    obtain ⟨y, hy⟩ := get_of_lt hi
    rw [getD_map prI hy, map_take (toRow p q) hy]
    dsimp only [List.cons_append, List.nil_append]
    walk_at "u*"
    refine WM.list (by walk_at "w mem") PySem.slot_list_append PySem.F.type_list_append ?_
    walk_at "u*"
    refine WCall.mk (WK.builtin _) (WC.append (by walk_at "w upd") ?_ ?_)
    · have l2 : (ps.take i).length ≤ ps.length := by rw [List.length_take]; omega
      simp only [List.length_map, List.length_append]
      exact Nat.le_trans (by omega : _ ≤ 900) (by decide)
    walk_at "u*"
    have e2 : ((R ++ (ps.take i).map (toRow p q)).map rowAV) ++ [AV.tup [.int y.1, .int y.2, .tup [.int p, .int q]]] = (R ++ ((ps.take i).map (toRow p q) ++ [toRow p q y])).map rowAV := by simp [rowAV, toRow]
    rw [e2]
    exact LoopK.same (look_new2 rfl rfl)
  · dsimp only [List.cons_append, List.nil_append]
    rw [show (List.map prI ps).length = ps.length from List.length_map .., List.take_length]
    walk_at "u*"
    exact Fin.skip (Fin.of h)
theorem c_con_type_of (hK : KOk G) (hn : 3 ≤ n) (x dx bx bdx lc bl sp rl : Addr) (a1 a2 wv v : AV) (hw : wv.hand = true) (nx : Int) (l : List AV) (k : Nat) (t : AV) (r : List AV) (hm : (dx, .attrs (conA (.obj bx (instObj 146 bdx)) wv v rl nx)) ∈ σ)
    (hb : (bdx, .attrs (bodyA a1 a2 lc bl sp)) ∈ σ) (hl : (lc, .list l) ∈ σ) (hk : l[k]? = some (.tup (t :: r))) (hkk : k < 900) {Q : AV → Sig → Prop} (h : Q t σ) :
    WCall G n (.raw (.ref 301)) [.obj x (instObj 344 dx), .tup [.int k, .tup []]] σ Q := by
  refine ⟨WK.fn (by rw [hK]; rfl), .of (.le (k := 2+1) ?_ (by omega))⟩
  refine WCd.def [("self", .obj x (instObj 344 dx)), ("place", .tup [.int k, .tup []])] [("self", .obj x (instObj 344 dx)), ("place", .tup [.int k, .tup []])] (fun _ => []) (fun _ => σ) (by rw [hK]; rfl) (by rw [hK]; rfl) (HB.plain (names := ["self", "place"]) ?hb rfl rfl) rfl rfl ?nd (by decide) rfl (fun _ => rfl) (fun _ => rfl) ?_
  case hb => exact len2 fun _ _ => rfl
  case nd => exact (by decide : (["self", "place"] : List Str).Nodup)
  intro L
  walk_at "u*"
  refine W1.attrK hK (am := conA (.obj bx (instObj 146 bdx)) wv v rl nx) (a := wv) (by walk_at "w mem") (by walk_at "r") (by walk_at "r") hw ?_
  walk_at "u*"
  refine c_place_type hK (by omega) bx bdx lc bl sp a1 a2 l k t r wv hb hl hk hkk ?_
  walk_at "u*"
  exact Fin.ret h
theorem c_operand_type (hK : KOk G) (hn : 4 ≤ n) (x dx bx bdx lc bl sp rl : Addr) (a1 a2 wv v : AV) (hw : wv.hand = true) (nx : Int) (l : List AV) (k : Nat) (t : AV) (r : List AV) (mv : Bool) (hm : (dx, .attrs (conA (.obj bx (instObj 146 bdx)) wv v rl nx)) ∈ σ)
    (hb : (bdx, .attrs (bodyA a1 a2 lc bl sp)) ∈ σ) (hl : (lc, .list l) ∈ σ) (hk : l[k]? = some (.tup (t :: r))) (hkk : k < 900) {Q : AV → Sig → Prop} (h : Q t σ) :
    WCall G n (.raw (.ref 308)) [.obj x (instObj 344 dx), opAV (mvAV mv) k] σ Q := by
  cases mv with
  | false =>
    show WCall G n (.raw (.ref 308)) [.obj x (instObj 344 dx), opAV (.str "copy") k] σ Q
    refine ⟨WK.fn (by rw [hK]; rfl), .of (.le (k := 3+1) ?_ (by omega))⟩
    refine WCd.def [("self", .obj x (instObj 344 dx)), ("operand", opAV (.str "copy") k)] [("self", .obj x (instObj 344 dx)), ("operand", opAV (.str "copy") k)] (fun _ => []) (fun _ => σ) (by rw [hK]; rfl) (by rw [hK]; rfl) (HB.plain (names := ["self", "operand"]) ?hb rfl rfl) rfl rfl ?nd (by decide) rfl (fun _ => rfl) (fun _ => rfl) ?_
    case hb => exact len2 fun _ _ => rfl
    case nd => exact (by decide : (["self", "operand"] : List Str).Nodup)
    intro L
    walk_at "u*"
    refine c_con_type_of hK (by omega) x dx bx bdx lc bl sp rl a1 a2 wv v hw nx l k t r hm hb hl hk hkk ?_
    walk_at "u*"
    exact Fin.ret h
  | true =>
    show WCall G n (.raw (.ref 308)) [.obj x (instObj 344 dx), opAV (.str "move") k] σ Q
    refine ⟨WK.fn (by rw [hK]; rfl), .of (.le (k := 3+1) ?_ (by omega))⟩
    refine WCd.def [("self", .obj x (instObj 344 dx)), ("operand", opAV (.str "move") k)] [("self", .obj x (instObj 344 dx)), ("operand", opAV (.str "move") k)] (fun _ => []) (fun _ => σ) (by rw [hK]; rfl) (by rw [hK]; rfl) (HB.plain (names := ["self", "operand"]) ?hb rfl rfl) rfl rfl ?nd (by decide) rfl (fun _ => rfl) (fun _ => rfl) ?_
    case hb => exact len2 fun _ _ => rfl
    case nd => exact (by decide : (["self", "operand"] : List Str).Nodup)
    intro L
    walk_at "u*"
    refine c_con_type_of hK (by omega) x dx bx bdx lc bl sp rl a1 a2 wv v hw nx l k t r hm hb hl hk hkk ?_
    walk_at "u*"
    exact Fin.ret h
end
end Mine
set_option maxRecDepth 100000
set_option autoImplicit false
set_option maxHeartbeats 4000000
namespace Mine
open PySem PySem.W PyProof.Rows PySem.Calls PySem.SeqAt
theorem Turn.next_ {G : Gd} {n : Nat} {env : Env} {target : Expr} {it : Addr} {body : List Stmt} {Q : AFl → Loc → Sig → Prop} {m : Loc} {σ : Sig} (h : WF G n env target it body m σ Q) : Turn G n env target it body Q .next m σ := h
end Mine
namespace Mine
open PySem PySem.W PyProof.Rows PySem.Calls PySem.SeqAt
section
variable {G : Gd} {n : Nat} {σ : Sig}
noncomputable def seenL : Ty → List (Int × Bool) → List (Str × Int) → Int → List (Int × Bool)
  | .u8, _, _, _ => []
  | .param, pl, _, _ => pl
  | .ref r m t, pl, es, nx => ((fr r es nx).1, m) :: seenL t pl (fr r es nx).2.1 (fr r es nx).2.2
theorem nty_seenL : ∀ (t : Ty) (pl : List (Int × Bool)) (es : List (Str × Int)) (nx : Int), nty (seenL t pl es nx) = (frT t es nx).1.subst (nty pl)
  | .u8, _, _, _ => rfl
  | .param, _, _, _ => rfl
  | .ref r m t, pl, es, nx => by
    show Ty.ref _ m (nty (seenL t pl _ _)) = Ty.ref _ m _
    rw [nty_seenL t]
structure SL where
  i0 : List (Int × Bool)
  i1 : List (Int × Bool)
  o : List (Int × Bool)
  nx : Int
noncomputable def sgL (w0 w1 w2 : Ty) (pl : List (Int × Bool)) (first : Int) : SL :=
  let a := frT w0 [("'static", 0)] first
  let b := frT w1 a.2.1 a.2.2
  let c := frT w2 b.2.1 b.2.2
  ⟨seenL w0 pl [("'static", 0)] first, seenL w1 pl a.2.1 a.2.2, seenL w2 pl b.2.1 b.2.2, c.2.2⟩
theorem sgn_sgL (w0 w1 w2 : Ty) (pl : List (Int × Bool)) (first : Int) : sgn w0 w1 w2 (nty pl) first = ⟨nty (sgL w0 w1 w2 pl first).i0, nty (sgL w0 w1 w2 pl first).i1, nty (sgL w0 w1 w2 pl first).o, (sgL w0 w1 w2 pl first).nx⟩ := by
  unfold sgn sgL
  simp only [nty_seenL]
structure CallOk (ks : List (List (Int × Bool))) (c : CallT) (g0 g1 g2 : List (Int × Bool)) : Prop where
  k0 : ks[c.first]? = some g0
  k1 : ks[c.first + 1]? = some g1
  k2 : ks[c.first + 2]? = some g2
  kk : c.first < 100
theorem c_operands (hK : KOk G) (hn : 10 ≤ n) (x dx bx bdx lc bl sp rl li : Addr) (a1 a2 wv v : AV) (hw : wv.hand = true) (hv : v.hand = true) (nx : Int) (ks : List (List (Int × Bool))) (c : CallT) (g0 g1 g2 s0 s1 : List (Int × Bool)) (ck : CallOk ks c g0 g1 g2) (R : List Row) (p q : Int)
    (hm : (dx, .attrs (conA (.obj bx (instObj 146 bdx)) wv v rl nx)) ∈ σ) (hb : (bdx, .attrs (bodyA a1 a2 lc bl sp)) ∈ σ) (hl : (lc, .list (ks.map locAV)) ∈ σ) (hli : (li, .list [(nty s0).av, (nty s1).av]) ∈ σ)
    (e0 : g0.length = s0.length) (e1 : g1.length = s1.length) (b0 : g0.length ≤ 3) (b1 : g1.length ≤ 3) (hR : R.length ≤ 500) {Q : AV → Sig → Prop}
    (h : Q .none ((rl, .list ((R ++ (relatedL g0 s0 ++ relatedL g1 s1).map (toRow p q)).map rowAV)) :: σ)) :
    WCall G n (.raw (.ref 315)) [.obj x (instObj 344 dx), .tup [opAV (.str "copy") c.first, opAV (mvAV c.mv) ((c.first + 1 : Nat))], .raw (.ref li), .tup [.int p, .int q]] ((rl, .list (R.map rowAV)) :: σ) Q := by
  refine ⟨WK.fn (by rw [hK]; rfl), .of (.le (k := 9+1) ?_ (by omega))⟩
  refine WCd.def [("self", .obj x (instObj 344 dx)), ("operands", .tup [opAV (.str "copy") c.first, opAV (mvAV c.mv) ((c.first + 1 : Nat))]), ("types", .raw (.ref li)), ("point", .tup [.int p, .int q])] [("self", .obj x (instObj 344 dx)), ("operands", .tup [opAV (.str "copy") c.first, opAV (mvAV c.mv) ((c.first + 1 : Nat))]), ("types", .raw (.ref li)), ("point", .tup [.int p, .int q])] (fun _ => []) (fun _ => (rl, .list (R.map rowAV)) :: σ) (by rw [hK]; rfl) (by rw [hK]; rfl) (HB.plain (names := ["self", "operands", "types", "point"]) ?hb rfl rfl) rfl rfl ?nd (by decide) rfl (fun _ => rfl) (fun _ => rfl) ?_
  case hb => exact len4 fun _ _ _ _ => rfl
  case nd => exact (by decide : (["self", "operands", "types", "point"] : List Str).Nodup)
  intro L
  walk_at "t*"
  refine c_operand_type hK (by omega) x dx bx bdx lc bl sp rl a1 a2 wv v hw nx (ks.map locAV) c.first (nty g0).av [.bool true, .none] false (by walk_at "w mem") (by walk_at "w mem") (by walk_at "w mem") (by rw [List.getElem?_map, ck.k0]; rfl) (by have := ck.kk; omega) ?_
  walk_at "t*"
  refine WCall.pull rl (by walk_at "w at") ?_
  refine c_note hK x dx rl (.obj bx (instObj 146 bdx)) wv v hv nx R g0 s0 p q (by omega) e0 (by walk_at "w mem") (by omega) b0 ?_
  walk_at "t*"
  refine c_operand_type hK (by omega) x dx bx bdx lc bl sp rl a1 a2 wv v hw nx (ks.map locAV) (c.first + 1) (nty g1).av [.bool true, .none] c.mv (by walk_at "w mem") (by walk_at "w mem") (by walk_at "w mem") (by rw [List.getElem?_map, ck.k1]; rfl) (by have := ck.kk; omega) ?_
  walk_at "t*"
  refine WCall.pull rl (by walk_at "w at") ?_
  have hr0 : (relatedL g0 s0).length ≤ 6 := by
    have := belowL_len false g0 s0 []
    simp only [List.length_nil] at this
    unfold relatedL; omega
  refine c_note hK x dx rl (.obj bx (instObj 146 bdx)) wv v hv nx (R ++ (relatedL g0 s0).map (toRow p q)) g1 s1 p q (by omega) e1 (by walk_at "w mem") (by simp only [List.length_append, List.length_map]; omega) b1 ?_
  walk_at "t*"
  rw [List.append_assoc, ← List.map_append]
  refine Fin.swap (Fin.skip (Fin.of h))
structure CallIn (σ : Sig) (ks : List (List (Int × Bool))) (c : CallT) (ds : Addr) (sd : List (AK × AV)) (sx sdx : Addr) (nv rg : AV) (w0 w1 w2 : Ty) : Prop where
  hg : getA sd (.str c.nm) = some (.obj sx (instObj 389 sdx))
  hsa : (sdx, .attrs (sigA nv rg w0 w1 w2)) ∈ σ
  ok0 : w0.okR
  ok1 : w1.okR
  ok2 : w2.okR
  hb0 : w0.ht ≤ 2
  hb1 : w1.ht ≤ 2
  hb2 : w2.ht ≤ 2
  hp : c.p.length ≤ 1
noncomputable def callRows (s : SL) (g0 g1 g2 : List (Int × Bool)) : List (Int × Int) := relatedL g0 s.i0 ++ relatedL g1 s.i1 ++ relatedL s.o g2
theorem seenL_len : ∀ (t : Ty) (pl : List (Int × Bool)) (es : List (Str × Int)) (nx : Int), (seenL t pl es nx).length ≤ t.ht + pl.length
  | .u8, _, _, _ => Nat.zero_le _
  | .param, pl, _, _ => by show pl.length ≤ 0 + pl.length; omega
  | .ref r m t, pl, es, nx => by
    show (seenL t pl _ _).length + 1 ≤ t.ht + 1 + pl.length
    have := seenL_len t pl (fr r es nx).2.1 (fr r es nx).2.2
    omega
theorem c_con_call (hK : KOk G) (hn : 14 ≤ n) (x dx bx bdx lc bl sp rl wx wdx d1 d2 ds d4 l d5 d6 sx sdx : Addr) (a1 a2 v nv rg : AV) (hv : v.hand = true) (nx : Int) (ks : List (List (Int × Bool))) (c : CallT) (g0 g1 g2 : List (Int × Bool)) (ck : CallOk ks c g0 g1 g2) (sd : List (AK × AV)) (w0 w1 w2 : Ty)
    (ci : CallIn σ ks c ds sd sx sdx nv rg w0 w1 w2) (R : List Row) (p q : Int) (hw : (wdx, .attrs (worldA d1 d2 ds d4 l d5 d6)) ∈ σ) (hs : (ds, .dict sd) ∈ σ)
    (hb : (bdx, .attrs (bodyA a1 a2 lc bl sp)) ∈ σ) (hl : (lc, .list (ks.map locAV)) ∈ σ)
    (e0 : g0.length = (sgL w0 w1 w2 c.p nx).i0.length) (e1 : g1.length = (sgL w0 w1 w2 c.p nx).i1.length) (e2 : g2.length = (sgL w0 w1 w2 c.p nx).o.length) (hR : R.length ≤ 400) {Q : AV → Sig → Prop}
    (h : Q .none ((rl, .list ((R ++ (callRows (sgL w0 w1 w2 c.p nx) g0 g1 g2).map (toRow p q)).map rowAV)) :: (dx, .attrs (conA (.obj bx (instObj 146 bdx)) (.obj wx (instObj 418 wdx)) v rl (sgL w0 w1 w2 c.p nx).nx)) :: σ)) :
    WCall G n (.raw (.ref 341)) [.obj x (instObj 344 dx), c.av, .tup [.int p, .int q]] ((rl, .list (R.map rowAV)) :: (dx, .attrs (conA (.obj bx (instObj 146 bdx)) (.obj wx (instObj 418 wdx)) v rl nx)) :: σ) Q := by
  refine ⟨WK.fn (by rw [hK]; rfl), .of (.le (k := 13+1) ?_ (by omega))⟩
  refine WCd.def [("self", .obj x (instObj 344 dx)), ("terminator", c.av), ("point", .tup [.int p, .int q])] [("self", .obj x (instObj 344 dx)), ("terminator", c.av), ("point", .tup [.int p, .int q])] (fun _ => []) (fun _ => (rl, .list (R.map rowAV)) :: (dx, .attrs (conA (.obj bx (instObj 146 bdx)) (.obj wx (instObj 418 wdx)) v rl nx)) :: σ) (by rw [hK]; rfl) (by rw [hK]; rfl) (HB.plain (names := ["self", "terminator", "point"]) ?hb rfl rfl) rfl rfl ?nd (by decide) rfl (fun _ => rfl) (fun _ => rfl) ?_
  case hb => exact len3 fun _ _ _ => rfl
  case nd => exact (by decide : (["self", "terminator", "point"] : List Str).Nodup)
  intro L
  unfold CallT.av
  walk_at "t*"
  refine c_callee_sig hK (by omega) wx wdx d1 d2 ds d4 l d5 d6 sx sdx c.nm nv rg w0 w1 w2 (nty c.p) sd (by walk_at "w mem") (by walk_at "w mem") ci.hg (.tail _ (.tail _ ci.hsa)) ?_
  intro tb
  walk_at "t*"
  have h0 := ci.hb0; have h1 := ci.hb1; have h2 := ci.hb2; have hp := ci.hp
  refine c_Signature hK sx sdx tb nv rg w0 w1 w2 (nty c.p) nx (by omega) (.tail _ (.tail _ (.tail _ ci.hsa))) (by walk_at "w mem") ci.ok0 ci.ok1 ci.ok2 (by omega) ?_
  intro yx ydx D li
  rw [sgn_sgL]
  have l0 : (sgL w0 w1 w2 c.p nx).i0.length ≤ 3 := Nat.le_trans (seenL_len ..) (by omega)
  have l1 : (sgL w0 w1 w2 c.p nx).i1.length ≤ 3 := Nat.le_trans (seenL_len ..) (by omega)
  have l2 : (sgL w0 w1 w2 c.p nx).o.length ≤ 3 := Nat.le_trans (seenL_len ..) (by omega)
  generalize sgL w0 w1 w2 c.p nx = S at *
  dsimp only
  walk_at "t*"
  refine WCall.pull rl (by walk_at "w at") ?_
  refine c_operands hK (by omega) x dx bx bdx lc bl sp rl li a1 a2 (.obj wx (instObj 418 wdx)) v rfl hv S.nx ks c g0 g1 g2 S.i0 S.i1 ck R p q (by walk_at "w mem") (by walk_at "w mem") (by walk_at "w mem") (by walk_at "w mem") e0 e1 (by omega) (by omega) (by omega) ?_
  walk_at "t*"
  refine W1.attrK hK (am := sgF D S.nx li (nty S.o).av) (a := (nty S.o).av) (by walk_at "w mem") (by walk_at "r") (by walk_at "r") (Ty.av_hand _) ?_
  walk_at "t*"
  refine c_con_type_of hK (by omega) x dx bx bdx lc bl sp rl a1 a2 (.obj wx (instObj 418 wdx)) v rfl S.nx (ks.map locAV) (c.first + 2) (nty g2).av [.bool true, .none] (by walk_at "w mem") (by walk_at "w mem") (by walk_at "w mem") (by rw [List.getElem?_map, ck.k2]; rfl) (by have := ck.kk; omega) ?_
  walk_at "t*"
  have hr0 : (relatedL g0 S.i0).length ≤ 6 := by
    have := belowL_len false g0 S.i0 []
    simp only [List.length_nil] at this
    unfold relatedL; omega
  have hr1 : (relatedL g1 S.i1).length ≤ 6 := by
    have := belowL_len false g1 S.i1 []
    simp only [List.length_nil] at this
    unfold relatedL; omega
  refine c_note hK x dx rl (.obj bx (instObj 146 bdx)) (.obj wx (instObj 418 wdx)) v hv S.nx (R ++ (relatedL g0 S.i0 ++ relatedL g1 S.i1).map (toRow p q)) S.o g2 p q (by omega) e2.symm (by walk_at "w mem") (by simp only [List.length_append, List.length_map]; omega) (by omega) ?_
  walk_at "t*"
  rw [List.append_assoc, ← List.map_append]
  exact Fin.sub (Fin.of h) (.cons_cons _ (.cons _ (.cons _ (.cons _ (.cons_cons _ (.refl _))))))
end
end Mine
set_option maxRecDepth 100000
set_option autoImplicit false
set_option maxHeartbeats 4000000
namespace Mine
open PySem PySem.W PyProof.Rows PySem.Calls PySem.SeqAt
section
variable {G : Gd} {n : Nat} {σ : Sig}
theorem c_Constraints (hK : KOk G) (hn : 11 ≤ n) (bx bdx lc bl sp : Addr) (a1 a2 wv v : AV) (ks : List (List (Int × Bool))) (bs : List Blk) (hm : (bdx, .attrs (bodyA a1 a2 lc bl sp)) ∈ σ) (hl : (lc, .list (ks.map locAV)) ∈ σ)
    (hbl : (bl, .list (bs.map blkRef)) ∈ σ) (hbs : BlkIn σ bs) (hP : (68, nP) ∈ σ) (b1 : ∀ t ∈ ks, t.length ≤ 3) (b2 : ks.length ≤ 20) (b3 : bs.length ≤ 10) (b4 : ∀ b ∈ bs, ∀ c, b.tm = some c → c.p.length ≤ 1) {Q : AV → Sig → Prop}
    (h : ∀ M : Int, 0 ≤ M → (∀ t ∈ ks, ∀ q ∈ rgs t, q ≤ M) → (∀ b ∈ bs, ∀ q ∈ callRgs b, q ≤ M) → ∀ x dx rl, Q (.obj x (instObj 344 dx)) ((rl, .list []) :: (dx, .attrs (conA (.obj bx (instObj 146 bdx)) wv v rl (M + 1))) :: σ)) :
    WCall G n (.raw (.ref 344)) [.obj bx (instObj 146 bdx), wv, v] σ Q := by
  refine .le (k := 10+1) ?_ hn
  refine .make hK (by walk_at "r") (by walk_at "r") (by walk_at "r") (by walk_at "r") fun x dx => ?_
  refine .le (k := 9+1) ?_ (by omega)
  refine WCd.def [("self", .obj x (instObj 344 dx)), ("body", .obj bx (instObj 146 bdx)), ("world", wv), ("varied", v)] [("self", .obj x (instObj 344 dx)), ("body", .obj bx (instObj 146 bdx)), ("world", wv), ("varied", v)] (fun _ => []) (fun _ => (dx, .attrs []) :: σ) (by rw [hK]; rfl) (by rw [hK]; rfl) (HB.plain (names := ["self", "body", "world", "varied"]) ?hb rfl rfl) rfl rfl ?nd (by decide) rfl (fun _ => rfl) (fun _ => rfl) ?_
  case hb => exact len4 fun _ _ _ _ => rfl
  case nd => exact (by decide : (["self", "body", "world", "varied"] : List Str).Nodup)
  intro L
  walk_at "t*"
  refine c_greatest hK (by omega) bx bdx lc bl sp a1 a2 ks bs (by walk_at "w mem") (by walk_at "w mem") (by walk_at "w mem") (fun b hb => ⟨.tail _ (.tail _ (hbs b hb).1), .tail _ (.tail _ (hbs b hb).2)⟩) (by walk_at "w mem") b1 b2 b3 b4 ?_
  intro M h0 h1 h2
  walk_at "t*"
  exact Fin.of ⟨rfl, h M h0 h1 h2 x dx _⟩
noncomputable def stepBlk (F : CallT → Int → List (Int × Int) × Int) (i : Nat) (b : Blk) (acc : List Row × Int) : List Row × Int := match b.tm with
  | some c => (acc.1 ++ (F c acc.2).1.map (toRow i ((stAV b.st).length : Nat)), (F c acc.2).2)
  | none => acc
noncomputable def runTo (F : CallT → Int → List (Int × Int) × Int) (bs : List Blk) (first : Int) : Nat → List Row × Int
  | 0 => ([], first)
  | i + 1 => match bs[i]? with
    | some b => stepBlk F i b (runTo F bs first i)
    | none => runTo F bs first i
structure CallFull (σ : Sig) (ks : List (List (Int × Bool))) (ds : Addr) (sd : List (AK × AV)) (F : CallT → Int → List (Int × Int) × Int) (c : CallT) (sx sdx : Addr) (nv rg : AV) (w0 w1 w2 : Ty) (g0 g1 g2 : List (Int × Bool)) : Prop where
  ck : CallOk ks c g0 g1 g2
  ci : CallIn σ ks c ds sd sx sdx nv rg w0 w1 w2
  e0 : ∀ nx, g0.length = (sgL w0 w1 w2 c.p nx).i0.length
  e1 : ∀ nx, g1.length = (sgL w0 w1 w2 c.p nx).i1.length
  e2 : ∀ nx, g2.length = (sgL w0 w1 w2 c.p nx).o.length
  f : ∀ nx, F c nx = (callRows (sgL w0 w1 w2 c.p nx) g0 g1 g2, (sgL w0 w1 w2 c.p nx).nx)
theorem relatedL_len (g s : List (Int × Bool)) (h : g.length ≤ 3) : (relatedL g s).length ≤ 6 := by
  have := belowL_len false g s []
  simp only [List.length_nil] at this
  unfold relatedL; omega
theorem CallFull.len {ks : List (List (Int × Bool))} {ds : Addr} {sd : List (AK × AV)} {F : CallT → Int → List (Int × Int) × Int} {c : CallT} {sx sdx : Addr} {nv rg : AV} {w0 w1 w2 : Ty} {g0 g1 g2 : List (Int × Bool)} (h : CallFull σ ks ds sd F c sx sdx nv rg w0 w1 w2 g0 g1 g2) (nx : Int) : (F c nx).1.length ≤ 18 := by
  have h0 := h.ci.hb0; have h1 := h.ci.hb1; have h2 := h.ci.hb2; have hp := h.ci.hp
  rw [h.f]
  have l0 : g0.length ≤ 3 := by rw [h.e0 nx]; exact Nat.le_trans (seenL_len ..) (by omega)
  have l1 : g1.length ≤ 3 := by rw [h.e1 nx]; exact Nat.le_trans (seenL_len ..) (by omega)
  have l2 : (sgL w0 w1 w2 c.p nx).o.length ≤ 3 := Nat.le_trans (seenL_len ..) (by omega)
  have a0 := relatedL_len g0 (sgL w0 w1 w2 c.p nx).i0 l0
  have a1 := relatedL_len g1 (sgL w0 w1 w2 c.p nx).i1 l1
  have a2 := relatedL_len (sgL w0 w1 w2 c.p nx).o g2 l2
  simp only [callRows, List.length_append]; omega
theorem c_constraints_of (hK : KOk G) (hn : 16 ≤ n) (bx bdx lc bl sp wx wdx d1 d2 ds d4 l d5 d6 : Addr) (a1 a2 v : AV) (hv : v.hand = true) (ks : List (List (Int × Bool))) (bs : List Blk) (sd : List (AK × AV)) (F : CallT → Int → List (Int × Int) × Int)
    (hm : (bdx, .attrs (bodyA a1 a2 lc bl sp)) ∈ σ) (hl : (lc, .list (ks.map locAV)) ∈ σ) (hw : (wdx, .attrs (worldA d1 d2 ds d4 l d5 d6)) ∈ σ) (hs : (ds, .dict sd) ∈ σ)
    (hbl : (bl, .list (bs.map blkRef)) ∈ σ) (hbs : BlkIn σ bs) (hP : (68, nP) ∈ σ) (b1 : ∀ t ∈ ks, t.length ≤ 3) (b2 : ks.length ≤ 20) (b3 : bs.length ≤ 10)
    (hc : ∀ b ∈ bs, ∀ c, b.tm = some c → ∃ sx sdx nv rg w0 w1 w2 g0 g1 g2, CallFull σ ks ds sd F c sx sdx nv rg w0 w1 w2 g0 g1 g2) {Q : AV → Sig → Prop}
    (h : ∀ M : Int, 0 ≤ M → (∀ t ∈ ks, ∀ q ∈ rgs t, q ≤ M) → (∀ b ∈ bs, ∀ q ∈ callRgs b, q ≤ M) → ∀ rl, Q (.raw (.ref rl)) ((rl, .list ((runTo F bs (M + 1) bs.length).1.map rowAV)) :: σ)) :
    WCall G n (.raw (.ref 372)) [.obj bx (instObj 146 bdx), .obj wx (instObj 418 wdx), v] σ Q := by
  refine ⟨WK.fn (by rw [hK]; rfl), .of (.le (k := 15+1) ?_ (by omega))⟩
  refine WCd.def [("body", .obj bx (instObj 146 bdx)), ("world", .obj wx (instObj 418 wdx)), ("varied", v)] [("body", .obj bx (instObj 146 bdx)), ("world", .obj wx (instObj 418 wdx)), ("varied", v)] (fun _ => []) (fun _ => σ) (by rw [hK]; rfl) (by rw [hK]; rfl) (HB.plain (names := ["body", "world", "varied"]) ?hb rfl rfl) rfl rfl ?nd (by decide) rfl (fun _ => rfl) (fun _ => rfl) ?_
  case hb => exact len3 fun _ _ _ => rfl
  case nd => exact (by decide : (["body", "world", "varied"] : List Str).Nodup)
  intro L
  walk_at "u*"
  refine c_Constraints hK (by omega) bx bdx lc bl sp a1 a2 (.obj wx (instObj 418 wdx)) v ks bs hm hl hbl hbs hP b1 b2 b3 ?_ ?_
  · intro b hb c hbc
    obtain ⟨sx, sdx, nv, rg, w0, w1, w2, g0, g1, g2, hf⟩ := hc b hb c hbc
    exact hf.ci.hp
  intro M h0 h1 h2 x dx rl
  walk_at "u*"
  rename_i e it
  refine WF.each (Src.enumList (bs.map blkRef) (by walk_at "r")) (fun i => (rl, .list ((runTo F bs (M + 1) i).1.map rowAV)) :: (dx, .attrs (conA (.obj bx (instObj 146 bdx)) (.obj wx (instObj 418 wdx)) v rl (runTo F bs (M + 1) i).2)) :: σ) (fun i _ => .tail _ (.tail _ hbl)) ?_ ?_
  · intro i hi
    obtain ⟨b, hb⟩ := get_of_lt hi
    rw [getD_map blkRef hb]
    have hib : i < bs.length := by rw [List.length_map] at hi; exact hi
    have hlen : ∀ j, j ≤ bs.length → (runTo F bs (M + 1) j).1.length ≤ 18 * j := by
      intro j
      induction j with
      | zero => intro _; exact Nat.le_refl _
      | succ j ih =>
        intro hj
        have ih' := ih (by omega)
        have e1 : bs[j]? = some bs[j] := List.getElem?_eq_getElem (by omega)
        show (match bs[j]? with | some b => stepBlk F j b (runTo F bs (M + 1) j) | none => runTo F bs (M + 1) j).1.length ≤ _
        rw [e1]
        dsimp only
        unfold stepBlk
        cases hbc : (bs[j]).tm with
        | none => dsimp only; omega
        | some c =>
          obtain ⟨sx, sdx, nv, rg, w0, w1, w2, g0, g1, g2, hf⟩ := hc bs[j] (List.getElem_mem _) c hbc
          have := hf.len (runTo F bs (M + 1) j).2
          simp only [List.length_append, List.length_map]; omega
    have hbm := List.mem_of_getElem? hb
    obtain ⟨m1, m2⟩ := hbs b hbm
    have hrl := hlen i (by omega)
    have hrun : runTo F bs (M + 1) (i + 1) = stepBlk F i b (runTo F bs (M + 1) i) := by
      show (match bs[i]? with | some b => stepBlk F i b (runTo F bs (M + 1) i) | none => runTo F bs (M + 1) i) = _
      rw [hb]
    rw [hrun]
    generalize runTo F bs (M + 1) i = acc at hrl ⊢
    dsimp only [List.cons_append, List.nil_append]
    unfold blkRef
    walk_at "u*"
    rename_i e2 it2
    refine WF.each (Src.enumList (stAV b.st) (by walk_at "r")) (fun _ => (e, .enumIter it (i + 1)) :: (it, .listIter bl (i + 1)) :: (rl, .list (acc.1.map rowAV)) :: (dx, .attrs (conA (.obj bx (instObj 146 bdx)) (.obj wx (instObj 418 wdx)) v rl acc.2)) :: σ) (fun i _ => .tail _ (.tail _ (.tail _ (.tail _ m2)))) ?_ ?_
    · intro j hj
      rw [stAV_item hj]
      dsimp only [List.cons_append, List.nil_append]
      walk_at "u*"
      exact LoopK.same (look_new2 rfl rfl)
    · dsimp only [List.cons_append, List.nil_append]
      cases hbc : b.tm with
      | none =>
        have es : stepBlk F i b acc = acc := by unfold stepBlk; rw [hbc]
        rw [es]
        unfold termAV
        walk_at "u*"
        exact LoopK.skip (LoopK.same (fun y v e => look_new rfl y v (look_new rfl y v (look_new rfl y v e))))
      | some c =>
        have es : stepBlk F i b acc = (acc.1 ++ (F c acc.2).1.map (toRow i ((stAV b.st).length : Nat)), (F c acc.2).2) := by unfold stepBlk; rw [hbc]
        rw [es]
        obtain ⟨sx, sdx, nv, rg, w0, w1, w2, g0, g1, g2, hf⟩ := hc b hbm c hbc
        unfold termAV CallT.av
        walk_at "u*"
        refine WCall.mk (WK.builtin _) (WC.len_list (by walk_at "w mem") (by have : (stAV b.st).length ≤ 1 := by (unfold stAV; split <;> simp)
                                                                             omega) ?_)
        walk_at "u*"
        refine WCall.pull dx (by walk_at "w at") (WCall.pull rl (by walk_at "w at") ?_)
        have hci := hf.ci
        refine c_con_call hK (by omega) x dx bx bdx lc bl sp rl wx wdx d1 d2 ds d4 l d5 d6 sx sdx a1 a2 v nv rg hv acc.2 ks c g0 g1 g2 hf.ck sd w0 w1 w2 ⟨hci.hg, .tail _ (.tail _ (.tail _ hci.hsa)), hci.ok0, hci.ok1, hci.ok2, hci.hb0, hci.hb1, hci.hb2, hci.hp⟩ acc.1 _ _ (by walk_at "w mem") (by walk_at "w mem") (by walk_at "w mem") (by walk_at "w mem") (hf.e0 _) (hf.e1 _) (hf.e2 _) (by omega) ?_
        rw [hf.f]
        walk_at "u*"
        refine LoopK.perm (LoopK.skip (LoopK.same (fun y v e => look_new rfl y v (look_new rfl y v (look_new rfl y v e))))) ((List.perm_append_comm (l₁ := [_, _]) (l₂ := [_, _, _])).append_right σ)
  · dsimp only [List.cons_append, List.nil_append]
    rw [show (List.map blkRef bs).length = bs.length from List.length_map ..]
    walk_at "u*"
    exact Fin.sub (Fin.ret (h M h0 h1 h2 _)) (.cons _ (.cons_cons _ (.cons _ (.refl _))))
end
end Mine
set_option maxRecDepth 100000
set_option autoImplicit false
set_option maxHeartbeats 4000000
namespace Mine
open PySem PySem.W PyProof.Rows PySem.Calls PySem.SeqAt
theorem WE.u8 {G : Gd} {n : Nat} {env : Env} {K σ : Sig} {pos : Pos} {Q : AV → Sig → Prop} (hK : KOk G) (h : Q (.tup [.str "int", .str "u8"]) σ)
    (hg : env.globals = mainGlobals) (hl : env.kindOf "_law_U8" = some .globalImplicit) (hk : env.scope.kind = .function) : WE G n env K σ (.Name "_law_U8" pos) Q :=
  WE.globalV (v := .ref 444) (by rw [hK]; rfl) (fun Φ hb => by
    refine ⟨444, _, rfl, hb _ _ (G.X 444 (tupO [.str "int" _, .str "u8" _]) (by rw [hK]; rfl)), _, _, rfl, ⟨_, rfl⟩, _, _, rfl, ⟨_, rfl⟩, rfl⟩) h hg hl hk rfl
end Mine
namespace Mine
open PySem PySem.W PyProof.Rows PySem.Calls PySem.SeqAt
section
variable {G : Gd} {n : Nat} {σ : Sig}
theorem c_inside (hK : KOk G) : ∀ (t : List (Int × Bool)) {n : Nat} {σ : Sig} (hn : t.length + 1 ≤ n) (hl : t.length ≤ 100) {Q : AV → Sig → Prop} (h : ∀ a, Q (.raw (.ref a)) ((a, .list ((rgs t).map .int)) :: σ)), WCall G n (.raw (.ref 501)) [(nty t).av] σ Q
  | [], n, σ, hn, hl, Q, h => by
    show WCall G n (.raw (.ref 501)) [.tup [.str "int", .str "u8"]] σ Q
    refine ⟨WK.fn (by rw [hK]; rfl), .of (.le (k := 0+1) ?_ (by omega))⟩
    refine WCd.def [("kind", .tup [.str "int", .str "u8"])] [("kind", .tup [.str "int", .str "u8"])] (fun _ => []) (fun _ => σ) (by rw [hK]; rfl) (by rw [hK]; rfl) (HB.plain (names := ["kind"]) ?hb rfl rfl) rfl rfl ?nd (by decide) rfl (fun _ => rfl) (fun _ => rfl) ?_
    case hb => exact len1 fun _ => rfl
    case nd => exact (by decide : (["kind"] : List Str).Nodup)
    intro L
    walk_at "x*"
    exact Fin.ret (h _)
  | (r, m) :: t, n, σ, hn, hl, Q, h => by
    simp only [List.length_cons] at hn hl
    show WCall G n (.raw (.ref 501)) [.tup [.str "ref", .int r, .bool m, (nty t).av]] σ Q
    refine ⟨WK.fn (by rw [hK]; rfl), .of (.le (k := (t.length+1)+1) ?_ (by omega))⟩
    refine WCd.def [("kind", .tup [.str "ref", .int r, .bool m, (nty t).av])] [("kind", .tup [.str "ref", .int r, .bool m, (nty t).av])] (fun _ => []) (fun _ => σ) (by rw [hK]; rfl) (by rw [hK]; rfl) (HB.plain (names := ["kind"]) ?hb rfl rfl) rfl rfl ?nd (by decide) rfl (fun _ => rfl) (fun _ => rfl) ?_
    case hb => exact len1 fun _ => rfl
    case nd => exact (by decide : (["kind"] : List Str).Nodup)
    intro L
    walk_at "x*"
    refine c_inside hK t (Nat.le_refl _) (by omega) ?_
    intro a
    refine W2.add_list (by walk_at "w mem") (by walk_at "w mem") (by simp only [List.length_map, rgs, List.length_cons, List.length_nil]; exact Nat.le_trans (by omega : _ ≤ 900) (by decide)) ?_
    intro c
    exact Fin.sub (Fin.ret (h c)) (.cons_cons _ (.cons _ (.cons _ (.refl _))))
noncomputable abbrev srcL (a b : Int) : AObj := .list [.int a, .int b]
theorem fmodN (i : Int) {j : Int} (hj : 0 < j) : ∃ v : Nat, (v : Int) < j ∧ i.fmod j = v := by
  rw [Int.fmod_eq_emod_of_nonneg i (Int.le_of_lt hj)]
  have h0 := Int.emod_nonneg i (Int.ne_of_gt hj)
  have h1 := Int.emod_lt_of_pos i hj
  exact ⟨(i % j).toNat, by omega, by omega⟩
theorem bits31 {b : Int} (h0 : 0 ≤ b) (h1 : b < 2147483647) : Builtin.Int.intBits b ≤ 64 := intBits_le_64 (by omega) (by omega)
theorem c_take (hK : KOk G) (hn : 1 ≤ n) (sr : Addr) (a b : Int) (top : Nat) (ht1 : 1 ≤ top) (ht2 : top ≤ 9) (hb0 : 0 ≤ b) (hb1 : b < 2147483647) {Q : AV → Sig → Prop}
    (h : ∀ (v : Nat) (a' b' : Int), v < top → 0 ≤ b' → b' < 2147483647 → Q (.int v) ((sr, srcL a' b') :: σ)) : WCall G n (.raw (.ref 436)) [.raw (.ref sr), .int top] ((sr, srcL a b) :: σ) Q := by
  refine ⟨WK.fn (by rw [hK]; rfl), .of (.le (k := 0+1) ?_ (by omega))⟩
  refine WCd.def [("source", .raw (.ref sr)), ("top", .int top)] [("source", .raw (.ref sr)), ("top", .int top)] (fun _ => []) (fun _ => (sr, srcL a b) :: σ) (by rw [hK]; rfl) (by rw [hK]; rfl) (HB.plain (names := ["source", "top"]) ?hb rfl rfl) rfl rfl ?nd (by decide) rfl (fun _ => rfl) (fun _ => rfl) ?_
  case hb => exact len2 fun _ _ => rfl
  case nd => exact (by decide : (["source", "top"] : List Str).Nodup)
  intro L
  walk_at "x*"
  by_cases ha : 0 < a
  · refine ite_t (decide_eq_true ha) ?_
    walk_at "x*"
    refine W2.mod (by omega) ?_
    obtain ⟨v, hv, ev⟩ := fmodN a (j := (top : Int)) (by omega)
    rw [ev]
    walk_at "x*"
    refine W2.fdiv (by omega) (by omega) ?_
    walk_at "x*"
    refine W3.set_list (k := 0) (.here ..) (Nat.le_of_ble_eq_true rfl) (by decide) ?_
    walk_at "x*"
    exact Fin.ret (h v _ b (by omega) hb0 hb1)
  · refine ite_f (decide_eq_false ha) ?_
    walk_at "x*"
    refine W2.mul (IntMulOk.of_right (by decide)) ?_
    walk_at "x*"
    refine W2.mod (by decide) ?_
    obtain ⟨b', hb', eb'⟩ := fmodN (b * 39373 + 7) (j := 2147483647) (by decide)
    rw [eb']
    walk_at "x*"
    refine W3.set_list (k := 1) (.here ..) (Nat.le_of_ble_eq_true rfl) (by decide) ?_
    walk_at "x*"
    refine W2.mul (IntMulOk.of_left (bits31 (by omega) (by omega))) ?_
    walk_at "x*"
    refine W2.mod (by decide) ?_
    walk_at "x*"
    refine W2.fdiv (by decide) (by decide) ?_
    walk_at "x*"
    refine W2.mod (by omega) ?_
    obtain ⟨v, hv, ev⟩ := fmodN ((((b' : Int) * b').fmod 2147483629).fdiv 32) (j := (top : Int)) (by omega)
    rw [ev]
    exact Fin.ret (h v a b' (by omega) (by omega) (by omega))
theorem c_one (hK : KOk G) (hn : 2 ≤ n) (sr tl : Addr) (a b : Int) (xs : List AV) (hx1 : 1 ≤ xs.length) (hx2 : xs.length ≤ 9) (hm : (tl, .list xs) ∈ σ) (hb0 : 0 ≤ b) (hb1 : b < 2147483647) {Q : AV → Sig → Prop}
    (h : ∀ (x : AV) (a' b' : Int), x ∈ xs → 0 ≤ b' → b' < 2147483647 → Q x ((sr, srcL a' b') :: σ)) : WCall G n (.raw (.ref 443)) [.raw (.ref sr), .raw (.ref tl)] ((sr, srcL a b) :: σ) Q := by
  refine ⟨WK.fn (by rw [hK]; rfl), .of (.le (k := 1+1) ?_ (by omega))⟩
  refine WCd.def [("source", .raw (.ref sr)), ("things", .raw (.ref tl))] [("source", .raw (.ref sr)), ("things", .raw (.ref tl))] (fun _ => []) (fun _ => (sr, srcL a b) :: σ) (by rw [hK]; rfl) (by rw [hK]; rfl) (HB.plain (names := ["source", "things"]) ?hb rfl rfl) rfl rfl ?nd (by decide) rfl (fun _ => rfl) (fun _ => rfl) ?_
  case hb => exact len2 fun _ _ => rfl
  case nd => exact (by decide : (["source", "things"] : List Str).Nodup)
  intro L
  walk_at "x*"
  refine WCall.mk (WK.builtin _) (WC.len_list (List.mem_cons_of_mem _ hm) (by omega) ?_)
  walk_at "x*"
  refine c_take hK (by omega) sr a b xs.length hx1 hx2 hb0 hb1 ?_
  intro v a' b' hv h0 h1
  obtain ⟨x, hx⟩ : ∃ x, xs[v]? = some x := ⟨_, List.getElem?_eq_getElem hv⟩
  refine W2.item_list (List.mem_cons_of_mem _ hm) (by omega) (by omega) (by rw [Int.toNat_natCast]; exact hx) ?_ (by with_unfolding_all exact fun _ _ => rfl)
  exact Fin.ret (h x a' b' (List.mem_of_getElem? hx) h0 h1)
noncomputable def okN : List Rg := [.name "'a", .name "'b", .name "'static", .anon]
noncomputable def WantRef (w : Ty) : Prop := ∃ r m, r ∈ okN ∧ (w = .ref r m .u8 ∨ ∃ r', r' ∈ okN ∧ w = .ref r m (.ref r' false .u8))
noncomputable def WantOk (hp : Bool) (w : Ty) : Prop := (hp = true ∧ w = .param) ∨ WantRef w
noncomputable abbrev namesL : List Rg := [.name "'a", .name "'b", .name "'a", .name "'static", .anon]
theorem namesL_ok {x : AV} (h : x ∈ namesL.map Rg.av) : ∃ r, r ∈ okN ∧ x = r.av := by
  simp only [List.map_cons, List.map_nil, List.mem_cons, List.not_mem_nil, or_false] at h
  rcases h with h | h | h | h | h <;> first
    | exact ⟨.name "'a", .head _, h⟩
    | exact ⟨.name "'b", .tail _ (.head _), h⟩
    | exact ⟨.name "'static", .tail _ (.tail _ (.head _)), h⟩
    | exact ⟨.anon, .tail _ (.tail _ (.tail _ (.head _))), h⟩
theorem c_wanted (hK : KOk G) (hn : 3 ≤ n) (sr : Addr) (a b : Int) (hp : Bool) (hb0 : 0 ≤ b) (hb1 : b < 2147483647) {Q : AV → Sig → Prop}
    (h : ∀ (w : Ty) (a' b' : Int), WantOk hp w → 0 ≤ b' → b' < 2147483647 → Q w.av ((sr, srcL a' b') :: σ)) : WCall G n (.raw (.ref 451)) [.raw (.ref sr), .bool hp] ((sr, srcL a b) :: σ) Q := by
  refine ⟨WK.fn (by rw [hK]; rfl), .of (.le (k := 2+1) ?_ (by omega))⟩
  refine WCd.def [("source", .raw (.ref sr)), ("has_param", .bool hp)] [("source", .raw (.ref sr)), ("has_param", .bool hp)] (fun _ => []) (fun _ => (sr, srcL a b) :: σ) (by rw [hK]; rfl) (by rw [hK]; rfl) (HB.plain (names := ["source", "has_param"]) ?hb rfl rfl) rfl rfl ?nd (by decide) rfl (fun _ => rfl) (fun _ => rfl) ?_
  case hb => exact len2 fun _ _ => rfl
  case nd => exact (by decide : (["source", "has_param"] : List Str).Nodup)
  intro L
  walk_at "x*"
  rename_i nl
  refine WCall.pull sr (by walk_at "w at") (c_take hK (by omega) sr a b 5 (by decide) (by decide) hb0 hb1 ?_)
  intro v a1 b1 hv h0 h1
  walk_at "x*"
  refine W2.eq_int ?_
  refine kbool ?_
  by_cases hv0 : (v : Int) = 0
  · refine ite_t (decide_eq_true hv0) ?_
    cases hp with
    | true =>
      walk_at "x*"
      exact Fin.sub (Fin.ret (h .param a1 b1 (.inl ⟨rfl, rfl⟩) h0 h1)) (.cons_cons _ (.cons _ (.refl _)))
    | false =>
      walk_at "x*"
      by_cases hv3 : (v : Int) < 3
      · refine ite_t (decide_eq_true hv3) ?_
        walk_at "x*"
        refine c_one hK (by omega) sr nl a1 b1 (namesL.map Rg.av) (by decide) (by decide) (by walk_at "w mem") h0 h1 ?_
        intro x a2 b2 hx h0 h1
        obtain ⟨r, hr, rfl⟩ := namesL_ok hx
        walk_at "x*"
        refine c_take hK (by omega) sr a2 b2 2 (by decide) (by decide) h0 h1 ?_
        intro v2 a3 b3 hv2 h0 h1
        walk_at "x*"
        refine W2.eq_int ?_
        walk_at "x*"
        exact Fin.sub (Fin.ret (h (.ref r (decide ((v2 : Int) = 0)) .u8) a3 b3 (.inr ⟨r, _, hr, .inl rfl⟩) h0 h1)) (.cons_cons _ (.cons _ (.refl _)))
      · refine ite_f (decide_eq_false hv3) ?_
        walk_at "x*"
        refine c_one hK (by omega) sr nl a1 b1 (namesL.map Rg.av) (by decide) (by decide) (by walk_at "w mem") h0 h1 ?_
        intro x a2 b2 hx h0 h1
        obtain ⟨r', hr', rfl⟩ := namesL_ok hx
        walk_at "x*"
        refine c_one hK (by omega) sr nl a2 b2 (namesL.map Rg.av) (by decide) (by decide) (by walk_at "w mem") h0 h1 ?_
        intro x a3 b3 hx h0 h1
        obtain ⟨r, hr, rfl⟩ := namesL_ok hx
        walk_at "x*"
        refine c_take hK (by omega) sr a3 b3 2 (by decide) (by decide) h0 h1 ?_
        intro v2 a4 b4 hv2 h0 h1
        walk_at "x*"
        refine W2.eq_int ?_
        walk_at "x*"
        exact Fin.sub (Fin.ret (h (.ref r (decide ((v2 : Int) = 0)) (.ref r' false .u8)) a4 b4 (.inr ⟨r, _, hr, .inr ⟨r', hr', rfl⟩⟩) h0 h1)) (.cons_cons _ (.cons _ (.refl _)))
  · refine ite_f (decide_eq_false hv0) ?_
    refine ite_f rfl ?_
    walk_at "x*"
    by_cases hv3 : (v : Int) < 3
    · refine ite_t (decide_eq_true hv3) ?_
      walk_at "x*"
      refine c_one hK (by omega) sr nl a1 b1 (namesL.map Rg.av) (by decide) (by decide) (by walk_at "w mem") h0 h1 ?_
      intro x a2 b2 hx h0 h1
      obtain ⟨r, hr, rfl⟩ := namesL_ok hx
      walk_at "x*"
      refine c_take hK (by omega) sr a2 b2 2 (by decide) (by decide) h0 h1 ?_
      intro v2 a3 b3 hv2 h0 h1
      walk_at "x*"
      refine W2.eq_int ?_
      walk_at "x*"
      exact Fin.sub (Fin.ret (h (.ref r (decide ((v2 : Int) = 0)) .u8) a3 b3 (.inr ⟨r, _, hr, .inl rfl⟩) h0 h1)) (.cons_cons _ (.cons _ (.refl _)))
    · refine ite_f (decide_eq_false hv3) ?_
      walk_at "x*"
      refine c_one hK (by omega) sr nl a1 b1 (namesL.map Rg.av) (by decide) (by decide) (by walk_at "w mem") h0 h1 ?_
      intro x a2 b2 hx h0 h1
      obtain ⟨r', hr', rfl⟩ := namesL_ok hx
      walk_at "x*"
      refine c_one hK (by omega) sr nl a2 b2 (namesL.map Rg.av) (by decide) (by decide) (by walk_at "w mem") h0 h1 ?_
      intro x a3 b3 hx h0 h1
      obtain ⟨r, hr, rfl⟩ := namesL_ok hx
      walk_at "x*"
      refine c_take hK (by omega) sr a3 b3 2 (by decide) (by decide) h0 h1 ?_
      intro v2 a4 b4 hv2 h0 h1
      walk_at "x*"
      refine W2.eq_int ?_
      walk_at "x*"
      exact Fin.sub (Fin.ret (h (.ref r (decide ((v2 : Int) = 0)) (.ref r' false .u8)) a4 b4 (.inr ⟨r, _, hr, .inr ⟨r', hr', rfl⟩⟩) h0 h1)) (.cons_cons _ (.cons _ (.refl _)))
end
end Mine
set_option maxRecDepth 100000
set_option autoImplicit false
set_option maxHeartbeats 4000000
namespace Mine
open PySem PySem.W PyProof.Rows PySem.Calls PySem.SeqAt
section
variable {G : Gd} {n : Nat} {σ : Sig}
noncomputable abbrev rgAB : AV := .tup [.str "'a", .str "'b"]
theorem c_sigs (hK : KOk G) (hn : 5 ≤ n) (sr : Addr) (a b : Int) (hb0 : 0 ≤ b) (hb1 : b < 2147483647) {Q : AV → Sig → Prop}
    (h : ∀ (wx wdx d1 d2 ds d4 l d5 d6 fx fdx gx gdx : Addr) (u0 u1 u2 w0 w1 w2 : Ty) (a' b' : Int), WantOk true u0 → WantOk false u1 → WantOk true u2 → WantOk true w0 → WantOk false w1 → WantOk true w2 → 0 ≤ b' → b' < 2147483647 →
      Q (.obj wx (instObj 418 wdx)) ((gdx, .attrs (sigA (.str "g") rgAB w0 w1 w2)) :: (sr, srcL a' b') :: (fdx, .attrs (sigA (.str "f") rgAB u0 u1 u2)) :: (ds, .dict [(.str "f", .obj fx (instObj 389 fdx)), (.str "g", .obj gx (instObj 389 gdx))]) :: (wdx, .attrs (worldA d1 d2 ds d4 l d5 d6)) :: σ)) :
    WCall G n (.raw (.ref 489)) [.raw (.ref sr)] ((sr, srcL a b) :: σ) Q := by
  refine ⟨WK.fn (by rw [hK]; rfl), .of (.le (k := 4+1) ?_ (by omega))⟩
  refine WCd.def [("source", .raw (.ref sr))] [("source", .raw (.ref sr))] (fun _ => []) (fun _ => (sr, srcL a b) :: σ) (by rw [hK]; rfl) (by rw [hK]; rfl) (HB.plain (names := ["source"]) ?hb rfl rfl) rfl rfl ?nd (by decide) rfl (fun _ => rfl) (fun _ => rfl) ?_
  case hb => exact len1 fun _ => rfl
  case nd => exact (by decide : (["source"] : List Str).Nodup)
  intro L
  walk_at "t*"
  refine c_World hK (by omega) ?_
  intro wx wdx d1 d2 ds d4 l d5 d6
  walk_at "t*"
  refine WCall.pull sr (by walk_at "w at") (c_wanted hK (by omega) sr a b true hb0 hb1 ?_)
  intro u0 a1 b1 o0 h0 h1
  walk_at "t*"
  refine c_wanted hK (by omega) sr a1 b1 false h0 h1 ?_
  intro u1 a2 b2 o1 h0 h1
  walk_at "t*"
  refine c_wanted hK (by omega) sr a2 b2 true h0 h1 ?_
  intro u2 a3 b3 o2 h0 h1
  walk_at "t*"
  refine c_Sig hK (by omega) _ _ _ _ _ _ _ _ ?_
  intro fx fdx
  walk_at "t*"
  refine W3.set_dict (k := .str "f") (by walk_at "w upd") rfl (Nat.le_of_ble_eq_true rfl) ?_
  rw [show setA [] (.str "f") (.obj fx (instObj 389 fdx)) = [(AK.str "f", AV.obj fx (instObj 389 fdx))] from rfl]
  walk_at "t*"
  refine WCall.pull sr (by walk_at "w at") (c_wanted hK (by omega) sr a3 b3 true h0 h1 ?_)
  intro w0 a4 b4 p0 h0 h1
  walk_at "t*"
  refine c_wanted hK (by omega) sr a4 b4 false h0 h1 ?_
  intro w1 a5 b5 p1 h0 h1
  walk_at "t*"
  refine c_wanted hK (by omega) sr a5 b5 true h0 h1 ?_
  intro w2 a6 b6 p2 h0 h1
  walk_at "t*"
  refine c_Sig hK (by omega) _ _ _ _ _ _ _ _ ?_
  intro gx gdx
  walk_at "t*"
  refine W3.set_dict (k := .str "g") (by walk_at "w upd") rfl (Nat.le_of_ble_eq_true rfl) ?_
  rw [show setA [(AK.str "f", AV.obj fx (instObj 389 fdx))] (.str "g") (.obj gx (instObj 389 gdx)) = [(AK.str "f", AV.obj fx (instObj 389 fdx)), (AK.str "g", AV.obj gx (instObj 389 gdx))] from rfl]
  walk_at "t*"
  exact Fin.sub (Fin.ret (h wx wdx d1 d2 ds d4 l d5 d6 fx fdx gx gdx u0 u1 u2 w0 w1 w2 a6 b6 o0 o1 o2 p0 p1 p2 h0 h1)) (.cons_cons _ (.cons_cons _ (.cons_cons _ (.cons _ (.cons_cons _ (.cons_cons _ (.refl _)))))))
noncomputable def ListB (G : Gd) (a : Addr) (l : List AV) : Prop := ∃ items, G.B.IsList a items ∧ ∀ Φ, VReps Φ l items.toList
theorem WC.len_base {a : Addr} {l : List AV} {Q : AV → Sig → Prop} (hb : ListB G a l) (hl : (l.length : Int) < 2 ^ 63) (h : Q (.int l.length) σ) : WC G n (.raw (.builtin "len")) [.raw (.ref a)] σ Q := fun fv vs A Φ s F hr hK r1 r2 hs => by
  rw [show fv = .builtin "len" from r1]
  obtain ⟨v1, vr, rfl, e1, e2⟩ := r2
  rw [show v1 = .ref a from e1, show vr = [] from e2]
  obtain ⟨items, ⟨o, e, r⟩, rl⟩ := hb
  have hL : s.heap.IsList a items := ⟨o, hs.baseK _ _ e, r⟩
  have hlen : items.size = l.length := by rw [← Array.length_toList, (rl Φ).length]
  exact Calls.call_len_list hL (by rw [hlen]; exact hl) ⟨Φ, .int l.length, σ, .refl _, ⟨_, by rw [hlen]⟩, hs.toks _, h⟩
theorem W2.item_base {value slice : Expr} {a : Addr} {l : List AV} {k : Int} {x : AV} {Q : AV → Sig → Prop} (hb : ListB G a l) (h0 : 0 ≤ k) (hk : k < 2 ^ 63) (hx : l[k.toNat]? = some x) (h : Q x σ)
    (hp : plainSlice slice) : W2 G n (subscriptTail value slice) (.raw (.ref a)) (.int k) σ Q := fun v w A Φ s F hr ⟨e, ⟨u, e'⟩⟩ hs => by
  subst e'; rw [show v = Value.ref a from e]
  obtain ⟨items, ⟨o, e1, r⟩, rl⟩ := hb
  have hl : s.heap.IsList a items := ⟨o, hs.baseK _ _ e1, r⟩
  obtain ⟨y, hy, ry⟩ := (rl Φ).get hx
  refine tail_any hl.typeIs slot_list_getitem.lookup (wpAny_getItem_list hl h0 hk (by rw [← Array.getElem?_toList]; exact hy) ⟨Φ, x, σ, .refl _, ry, hs, h⟩) (hp _ _)
theorem W2.modN {i j : Int} {Q : AV → Sig → Prop} (hj : 0 < j) (h : ∀ v : Nat, (v : Int) < j → Q (.int v) σ) : W2 G n (binaryOp .Mod) (.int i) (.int j) σ Q := by
  obtain ⟨v, hv, e⟩ := fmodN i hj
  exact W2.mod (by omega) (by rw [e]; exact h v hv)
theorem c_pool (hK : KOk G) (hn : 2 ≤ n) (sc : Addr) (xs : List Int) (hm : ListB G sc (xs.map .int)) (hl : (xs.length : Int) < 2 ^ 63) {Q : AV → Sig → Prop}
    (h : ∀ (sr : Addr) (a b : Int), 0 ≤ b → b < 2147483647 → Q (.raw (.ref sr)) ((sr, srcL a b) :: σ)) :
    WCall G n (.raw (.ref 429)) [.raw (.ref sc), .int (0 : Nat)] σ Q := by
  refine ⟨WK.fn (by rw [hK]; rfl), .of (.le (k := 1+1) ?_ (by omega))⟩
  refine WCd.def [("script", .raw (.ref sc)), ("k", .int (0 : Nat))] [("script", .raw (.ref sc)), ("k", .int (0 : Nat))] (fun _ => []) (fun _ => σ) (by rw [hK]; rfl) (by rw [hK]; rfl) (HB.plain (names := ["script", "k"]) ?hb rfl rfl) rfl rfl ?nd (by decide) rfl (fun _ => rfl) (fun _ => rfl) ?_
  case hb => exact len2 fun _ _ => rfl
  case nd => exact (by decide : (["script", "k"] : List Str).Nodup)
  intro L
  walk_at "x*"
  refine WCall.mk (WK.builtin _) (WC.len_base hm (by rw [List.length_map]; exact hl) ?_)
  walk_at "x*"
  cases xs with
  | nil =>
    refine ite_f rfl ?_
    walk_at "x*"
    refine W1.neg ?_
    walk_at "x*"
    refine WCall.mk (WK.builtin _) (WC.max2 ?_)
    generalize (if (-1 : Int) - (0 : Int) > (0 : Int) then (-1 : Int) - (0 : Int) else (0 : Int)) = big
    walk_at "x*"
    refine W2.mod (by decide) ?_
    walk_at "x*"
    refine W2.mul (IntMulOk.of_left (by decide)) ?_
    walk_at "x*"
    refine W2.mul (IntMulOk.of_left (by decide)) ?_
    walk_at "x*"
    refine W2.mul (IntMulOk.of_left (by decide)) ?_
    walk_at "x*"
    refine W2.mul (IntMulOk.of_right (by decide)) ?_
    walk_at "x*"
    refine W2.modN (by decide) fun mx hmx => ?_
    walk_at "x*"
    refine W2.pow (by decide) (by decide) ?_
    walk_at "x*"
    generalize decide (_ ≤ big) = bb
    refine W2.mul (IntMulOk.of_right (by cases bb <;> decide)) ?_
    walk_at "x*"
    exact Fin.ret (h _ _ mx (by omega) hmx)
  | cons x r =>
    refine ite_t (decide_eq_true (by simp only [List.map_cons, List.length_cons]; omega)) ?_
    walk_at "x*"
    refine W2.item_base (k := ((0 : Nat) : Int)) hm (by decide) (by decide) rfl ?_ (by with_unfolding_all exact fun _ _ => rfl)
    walk_at "x*"
    walk_at "x*"
    refine W1.neg ?_
    walk_at "x*"
    refine WCall.mk (WK.builtin _) (WC.max2 ?_)
    generalize (if (-1 : Int) - x > x then (-1 : Int) - x else x) = big
    walk_at "x*"
    refine W2.mod (by decide) ?_
    walk_at "x*"
    refine W2.mul (IntMulOk.of_left (by decide)) ?_
    walk_at "x*"
    refine W2.mul (IntMulOk.of_left (by decide)) ?_
    walk_at "x*"
    refine W2.mul (IntMulOk.of_left (by decide)) ?_
    walk_at "x*"
    refine W2.mul (IntMulOk.of_right (by decide)) ?_
    walk_at "x*"
    refine W2.modN (by decide) fun mx hmx => ?_
    walk_at "x*"
    refine W2.pow (by decide) (by decide) ?_
    walk_at "x*"
    generalize decide (_ ≤ big) = bb
    refine W2.mul (IntMulOk.of_right (by cases bb <;> decide)) ?_
    walk_at "x*"
    exact Fin.ret (h _ _ mx (by omega) hmx)
end
end Mine
set_option maxRecDepth 100000
set_option autoImplicit false
set_option maxHeartbeats 4000000
namespace Mine
open PySem PySem.W PyProof.Rows PySem.Calls PySem.SeqAt
section
variable {G : Gd} {n : Nat} {σ : Sig}
noncomputable def Giv (pm : Bool) : Ty → List (Int × Bool) → Prop
  | .u8, g => g = []
  | .param, g => ∃ k : Int, 1 ≤ k ∧ k ≤ 9 ∧ g = [(k, pm)]
  | .ref r m t, g => ∃ (k : Int) (g' : List (Int × Bool)), 1 ≤ k ∧ k ≤ 9 ∧ g = (k, m) :: g' ∧ Giv pm t g'
theorem c_given (hK : KOk G) (sr : Addr) (p : Int) (pm : Bool) : ∀ (w : Ty) {n : Nat} {σ : Sig} (hn : w.ht + 2 ≤ n) (a b : Int) (hb0 : 0 ≤ b) (hb1 : b < 2147483647) {Q : AV → Sig → Prop}
    (h : ∀ (g : List (Int × Bool)) (a' b' : Int), Giv pm w g → 0 ≤ b' → b' < 2147483647 → Q (nty g).av ((sr, srcL a' b') :: σ)),
    WCall G n (.raw (.ref 458)) [.raw (.ref sr), w.av, (nty [(p, pm)]).av] ((sr, srcL a b) :: σ) Q
  | .u8, n, σ, hn, a, b, hb0, hb1, Q, h => by
    show WCall G n (.raw (.ref 458)) [.raw (.ref sr), .tup [.str "int", .str "u8"], .tup [.str "ref", .int p, .bool pm, .tup [.str "int", .str "u8"]]] _ Q
    refine ⟨WK.fn (by rw [hK]; rfl), .of (.le (k := 0+1) ?_ (by omega))⟩
    refine WCd.def [("source", .raw (.ref sr)), ("wanted", .tup [.str "int", .str "u8"]), ("put_in", .tup [.str "ref", .int p, .bool pm, .tup [.str "int", .str "u8"]])] [("source", .raw (.ref sr)), ("wanted", .tup [.str "int", .str "u8"]), ("put_in", .tup [.str "ref", .int p, .bool pm, .tup [.str "int", .str "u8"]])] (fun _ => []) (fun _ => (sr, srcL a b) :: σ) (by rw [hK]; rfl) (by rw [hK]; rfl) (HB.plain (names := ["source", "wanted", "put_in"]) ?hb rfl rfl) rfl rfl ?nd (by decide) rfl (fun _ => rfl) (fun _ => rfl) ?_
    case hb => exact len3 fun _ _ _ => rfl
    case nd => exact (by decide : (["source", "wanted", "put_in"] : List Str).Nodup)
    intro L
    walk_at "x*"
    exact Fin.ret (h [] a b rfl hb0 hb1)
  | .param, n, σ, hn, a, b, hb0, hb1, Q, h => by
    simp only [Ty.ht] at hn
    show WCall G n (.raw (.ref 458)) [.raw (.ref sr), .tup [.str "param", .str "T"], .tup [.str "ref", .int p, .bool pm, .tup [.str "int", .str "u8"]]] _ Q
    refine ⟨WK.fn (by rw [hK]; rfl), .of (.le (k := 1+1) ?_ (by omega))⟩
    refine WCd.def [("source", .raw (.ref sr)), ("wanted", .tup [.str "param", .str "T"]), ("put_in", .tup [.str "ref", .int p, .bool pm, .tup [.str "int", .str "u8"]])] [("source", .raw (.ref sr)), ("wanted", .tup [.str "param", .str "T"]), ("put_in", .tup [.str "ref", .int p, .bool pm, .tup [.str "int", .str "u8"]])] (fun _ => []) (fun _ => (sr, srcL a b) :: σ) (by rw [hK]; rfl) (by rw [hK]; rfl) (HB.plain (names := ["source", "wanted", "put_in"]) ?hb rfl rfl) rfl rfl ?nd (by decide) rfl (fun _ => rfl) (fun _ => rfl) ?_
    case hb => exact len3 fun _ _ _ => rfl
    case nd => exact (by decide : (["source", "wanted", "put_in"] : List Str).Nodup)
    intro L
    walk_at "x*"
    refine c_take hK (by omega) sr a b 9 (by decide) (by decide) hb0 hb1 ?_
    intro v a1 b1 hv h0 h1
    walk_at "x*"
    exact Fin.ret (h [((1 : Int) + v, pm)] a1 b1 ⟨1 + v, by omega, by omega, rfl⟩ h0 h1)
  | .ref r m t, n, σ, hn, a, b, hb0, hb1, Q, h => by
    simp only [Ty.ht] at hn
    show WCall G n (.raw (.ref 458)) [.raw (.ref sr), .tup [.str "ref", r.av, .bool m, t.av], .tup [.str "ref", .int p, .bool pm, .tup [.str "int", .str "u8"]]] _ Q
    refine ⟨WK.fn (by rw [hK]; rfl), .of (.le (k := (t.ht+2)+1) ?_ (by omega))⟩
    refine WCd.def [("source", .raw (.ref sr)), ("wanted", .tup [.str "ref", r.av, .bool m, t.av]), ("put_in", .tup [.str "ref", .int p, .bool pm, .tup [.str "int", .str "u8"]])] [("source", .raw (.ref sr)), ("wanted", .tup [.str "ref", r.av, .bool m, t.av]), ("put_in", .tup [.str "ref", .int p, .bool pm, .tup [.str "int", .str "u8"]])] (fun _ => []) (fun _ => (sr, srcL a b) :: σ) (by rw [hK]; rfl) (by rw [hK]; rfl) (HB.plain (names := ["source", "wanted", "put_in"]) ?hb rfl rfl) rfl rfl ?nd (by decide) rfl (fun _ => rfl) (fun _ => rfl) ?_
    case hb => exact len3 fun _ _ _ => rfl
    case nd => exact (by decide : (["source", "wanted", "put_in"] : List Str).Nodup)
    intro L
    walk_at "x*"
    refine c_take hK (by omega) sr a b 9 (by decide) (by decide) hb0 hb1 ?_
    intro v a1 b1 hv h0 h1
    walk_at "x*"
    refine c_given hK sr p pm t (Nat.le_refl _) a1 b1 h0 h1 ?_
    intro g a2 b2 hg h0 h1
    walk_at "x*"
    exact Fin.ret (h (((1 : Int) + v, m) :: g) a2 b2 ⟨1 + v, g, by omega, by omega, rfl, hg⟩ h0 h1)
noncomputable def mty : List (Rg × Bool) → Ty
  | [] => .u8
  | (r, m) :: t => .ref r m (mty t)
noncomputable def numL (g : List (Int × Bool)) : List (Rg × Bool) := g.map fun x => (.num x.1, x.2)
theorem mty_num : ∀ g, mty (numL g) = nty g
  | [] => rfl
  | (k, m) :: g => by show Ty.ref _ m (mty (numL g)) = _; rw [mty_num g]; rfl
noncomputable abbrev prR (p : Rg × Rg) : AV := .tup [p.1.av, p.2.av]
noncomputable def edgesL (fx : Bool) : List (Rg × Bool) → List (Rg × Bool) → List (Rg × Rg)
  | (a, _) :: g, (b, m') :: t => (a, b) :: ((if fx then [(b, a)] else []) ++ edgesL (fx || m') g t)
  | _, _ => []
theorem edgesL_cons (fx : Bool) (a b : Rg) (m m' : Bool) (g t : List (Rg × Bool)) : edgesL fx ((a, m) :: g) ((b, m') :: t) = (a, b) :: ((if fx then [(b, a)] else []) ++ edgesL (fx || m') g t) := by rw [edgesL]
theorem edgesL_len : ∀ (fx : Bool) (g t : List (Rg × Bool)), (edgesL fx g t).length ≤ 2 * g.length
  | fx, (a, _) :: g, (b, m') :: t => by
    have := edgesL_len (fx || m') g t
    unfold edgesL
    cases fx <;> simp at this ⊢ <;> omega
  | _, [], _ => by unfold edgesL; simp
  | _, _ :: _, [] => by unfold edgesL; simp
theorem c_edges (hK : KOk G) : ∀ (g t : List (Rg × Bool)) (fx : Bool) {n : Nat} {σ : Sig} (hn : g.length + 1 ≤ n) (ht : g.length = t.length) (hl : g.length ≤ 100) {Q : AV → Sig → Prop} (h : ∀ c, Q (.raw (.ref c)) ((c, .list ((edgesL fx g t).map prR)) :: σ)),
    WCall G n (.raw (.ref 465)) [(mty g).av, (mty t).av, .bool fx] σ Q
  | [], [], fx, n, σ, hn, ht, hl, Q, h => by
    show WCall G n (.raw (.ref 465)) [.tup [.str "int", .str "u8"], .tup [.str "int", .str "u8"], .bool fx] σ Q
    refine ⟨WK.fn (by rw [hK]; rfl), .of (.le (k := 0+1) ?_ (by omega))⟩
    refine WCd.def [("one", .tup [.str "int", .str "u8"]), ("other", .tup [.str "int", .str "u8"]), ("is_fixed", .bool fx)] [("one", .tup [.str "int", .str "u8"]), ("other", .tup [.str "int", .str "u8"]), ("is_fixed", .bool fx)] (fun _ => []) (fun _ => σ) (by rw [hK]; rfl) (by rw [hK]; rfl) (HB.plain (names := ["one", "other", "is_fixed"]) ?hb rfl rfl) rfl rfl ?nd (by decide) rfl (fun _ => rfl) (fun _ => rfl) ?_
    case hb => exact len3 fun _ _ _ => rfl
    case nd => exact (by decide : (["one", "other", "is_fixed"] : List Str).Nodup)
    intro L
    walk_at "x*"
    exact Fin.ret (h _)
  | (a, m) :: g, (b, m') :: t, fx, n, σ, hn, ht, hl, Q, h => by
    simp only [List.length_cons] at hn ht hl
    show WCall G n (.raw (.ref 465)) [.tup [.str "ref", a.av, .bool m, (mty g).av], .tup [.str "ref", b.av, .bool m', (mty t).av], .bool fx] σ Q
    refine ⟨WK.fn (by rw [hK]; rfl), .of (.le (k := (g.length+1)+1) ?_ (by omega))⟩
    refine WCd.def [("one", .tup [.str "ref", a.av, .bool m, (mty g).av]), ("other", .tup [.str "ref", b.av, .bool m', (mty t).av]), ("is_fixed", .bool fx)] [("one", .tup [.str "ref", a.av, .bool m, (mty g).av]), ("other", .tup [.str "ref", b.av, .bool m', (mty t).av]), ("is_fixed", .bool fx)] (fun _ => []) (fun _ => σ) (by rw [hK]; rfl) (by rw [hK]; rfl) (HB.plain (names := ["one", "other", "is_fixed"]) ?hb rfl rfl) rfl rfl ?nd (by decide) rfl (fun _ => rfl) (fun _ => rfl) ?_
    case hb => exact len3 fun _ _ _ => rfl
    case nd => exact (by decide : (["one", "other", "is_fixed"] : List Str).Nodup)
    intro L
    walk_at "y*"
    refine ⟨_, [AV.tup [b.av, a.av]], fx, rfl, rfl, by walk_at "w mem", Nat.le_of_ble_eq_true rfl, Nat.le_of_ble_eq_true rfl, ?_⟩
    intro c1
    refine W2.add_list (by walk_at "w mem") (by walk_at "w mem") (Nat.le_trans (by cases fx <;> exact Nat.le_of_ble_eq_true rfl) (by decide : 900 ≤ sizeLine)) ?_
    intro c2
    walk_at "y*"
    have fin : ∀ (fx' : Bool), fx' = (fx || m') → ∀ {Q' : AV → Sig → Prop} {σ' : Sig}, (∀ c, Q' (.raw (.ref c)) ((c, .list ((edgesL (fx || m') g t).map prR)) :: σ')) → WCall G (g.length + 1) (.raw (.ref 465)) [(mty g).av, (mty t).av, .bool fx'] σ' Q' := fun fx' e Q' σ' hq => by
      rw [e]; exact c_edges hK g t (fx || m') (Nat.le_refl _) (by omega) (by omega) hq
    have hlen := edgesL_len (fx || m') g t
    have heq : ([AV.tup [a.av, b.av]] ++ (if fx then [AV.tup [b.av, a.av]] else [])) ++ (edgesL (fx || m') g t).map prR = (edgesL fx ((a, m) :: g) ((b, m') :: t)).map prR := by
      rw [edgesL_cons]
      cases fx <;> rfl
    cases fx with
    | true =>
      walk_at "y*"
      refine fin true rfl ?_
      intro c3
      refine W2.add_list (by walk_at "w mem") (by walk_at "w mem") (by simp only [List.length_map, List.length_append, List.length_cons, List.length_nil]; exact Nat.le_trans (by simp at hlen ⊢; omega : _ ≤ 900) (by decide)) ?_
      intro c4
      rw [heq]
      exact Fin.sub (Fin.ret (h _)) (.cons_cons _ (.cons _ (.cons _ (.cons _ (.cons _ (.cons _ (.refl _)))))))
    | false =>
      walk_at "y*"
      refine fin m' (by rfl) ?_
      intro c3
      refine W2.add_list (by walk_at "w mem") (by walk_at "w mem") (by simp only [List.length_map, List.length_append, List.length_cons, List.length_nil]; exact Nat.le_trans (by simp at hlen ⊢; omega : _ ≤ 900) (by decide)) ?_
      intro c4
      rw [heq]
      exact Fin.sub (Fin.ret (h _)) (.cons_cons _ (.cons _ (.cons _ (.cons _ (.cons _ (.cons _ (.refl _)))))))
  | [], _ :: _, _, _, _, _, ht, _, _, _ => by simp at ht
  | _ :: _, [], _, _, _, _, ht, _, _, _ => by simp at ht
end
end Mine
set_option maxRecDepth 100000
set_option autoImplicit false
set_option maxHeartbeats 4000000
namespace Mine
open PySem PySem.W PyProof.Rows PySem.Calls PySem.SeqAt
section
variable {G : Gd} {n : Nat} {σ : Sig}
noncomputable def sI (i : Int) : Str := Str.ofString (toString i)
theorem sI_len : ∀ k : Nat, k < 30 → (sI k).length ≤ 3 := by decide +kernel
theorem sI_log : ∀ k : Nat, k < 30 → (k : Int).natAbs.log2 < 1920 := by decide +kernel
noncomputable def markR (N : Nat) : Rg → Nat → Rg × Nat
  | .anon, k => (.name ((("call" ++ sI N) ++ ".") ++ sI ((k + 1 : Nat))), k + 1)
  | .name s, k => (if s = "'static" then .num 0 else .name (("call" ++ sI N) ++ s), k)
  | .num _, k => (.num 0, k)
noncomputable def markT (N : Nat) (pl : List (Int × Bool)) : Ty → Nat → List (Rg × Bool) × Nat
  | .u8, k => ([], k)
  | .param, k => (numL pl, k)
  | .ref r m t, k => (((markR N r k).1, m) :: (markT N pl t (markR N r k).2).1, (markT N pl t (markR N r k).2).2)
noncomputable def Rg.okM : Rg → Prop
  | .anon => True
  | .name s => PyData.strOk s = true ∧ s.length ≤ 100
  | .num _ => False
noncomputable def Ty.okM : Ty → Prop
  | .ref r _ t => r.okM ∧ t.okM
  | _ => True
theorem markR_le (N : Nat) (r : Rg) (k : Nat) : (markR N r k).2 ≤ k + 1 := by cases r <;> simp [markR]
theorem len_add (x y : Str) : (x ++ y).length = x.length + y.length := strLen_append x y
theorem c_marked (hK : KOk G) (tb : Addr) (N : Nat) (hN : N < 20) (p : Int) (pm : Bool) : ∀ (w : Ty) {n : Nat} {σ : Sig} (hn : w.ht + 1 ≤ n) (k : Nat) (hk : k + w.ht ≤ 20) (ok : w.okM) {Q : AV → Sig → Prop}
    (h : Q (mty (markT N [(p, pm)] w k).1).av ((tb, .dict [(.str "many", .int (markT N [(p, pm)] w k).2)]) :: σ)),
    WCall G n (.raw (.ref 472)) [w.av, .int N, .raw (.ref tb), (nty [(p, pm)]).av] ((tb, .dict [(.str "many", .int k)]) :: σ) Q
  | .u8, n, σ, hn, k, hk, ok, Q, h => by
    show WCall G n (.raw (.ref 472)) [.tup [.str "int", .str "u8"], .int N, .raw (.ref tb), .tup [.str "ref", .int p, .bool pm, .tup [.str "int", .str "u8"]]] _ Q
    refine ⟨WK.fn (by rw [hK]; rfl), .of (.le (k := 0+1) ?_ (by omega))⟩
    refine WCd.def [("wanted", .tup [.str "int", .str "u8"]), ("number", .int N), ("table", .raw (.ref tb)), ("put_in", .tup [.str "ref", .int p, .bool pm, .tup [.str "int", .str "u8"]])] [("wanted", .tup [.str "int", .str "u8"]), ("number", .int N), ("table", .raw (.ref tb)), ("put_in", .tup [.str "ref", .int p, .bool pm, .tup [.str "int", .str "u8"]])] (fun _ => []) (fun _ => (tb, .dict [(.str "many", .int k)]) :: σ) (by rw [hK]; rfl) (by rw [hK]; rfl) (HB.plain (names := ["wanted", "number", "table", "put_in"]) ?hb rfl rfl) rfl rfl ?nd (by decide) rfl (fun _ => rfl) (fun _ => rfl) ?_
    case hb => exact len4 fun _ _ _ _ => rfl
    case nd => exact (by decide : (["wanted", "number", "table", "put_in"] : List Str).Nodup)
    intro L
    walk_at "x*"
    exact Fin.ret h
  | .param, n, σ, hn, k, hk, ok, Q, h => by
    show WCall G n (.raw (.ref 472)) [.tup [.str "param", .str "T"], .int N, .raw (.ref tb), .tup [.str "ref", .int p, .bool pm, .tup [.str "int", .str "u8"]]] _ Q
    refine ⟨WK.fn (by rw [hK]; rfl), .of (.le (k := 0+1) ?_ (by omega))⟩
    refine WCd.def [("wanted", .tup [.str "param", .str "T"]), ("number", .int N), ("table", .raw (.ref tb)), ("put_in", .tup [.str "ref", .int p, .bool pm, .tup [.str "int", .str "u8"]])] [("wanted", .tup [.str "param", .str "T"]), ("number", .int N), ("table", .raw (.ref tb)), ("put_in", .tup [.str "ref", .int p, .bool pm, .tup [.str "int", .str "u8"]])] (fun _ => []) (fun _ => (tb, .dict [(.str "many", .int k)]) :: σ) (by rw [hK]; rfl) (by rw [hK]; rfl) (HB.plain (names := ["wanted", "number", "table", "put_in"]) ?hb rfl rfl) rfl rfl ?nd (by decide) rfl (fun _ => rfl) (fun _ => rfl) ?_
    case hb => exact len4 fun _ _ _ _ => rfl
    case nd => exact (by decide : (["wanted", "number", "table", "put_in"] : List Str).Nodup)
    intro L
    walk_at "x*"
    exact Fin.ret h
  | .ref .anon m t, n, σ, hn, k, hk, ok, Q, h => by
    simp only [Ty.ht] at hn hk
    show WCall G n (.raw (.ref 472)) [.tup [.str "ref", .none, .bool m, t.av], .int N, .raw (.ref tb), .tup [.str "ref", .int p, .bool pm, .tup [.str "int", .str "u8"]]] _ Q
    refine ⟨WK.fn (by rw [hK]; rfl), .of (.le (k := (t.ht+1)+1) ?_ (by omega))⟩
    refine WCd.def [("wanted", .tup [.str "ref", .none, .bool m, t.av]), ("number", .int N), ("table", .raw (.ref tb)), ("put_in", .tup [.str "ref", .int p, .bool pm, .tup [.str "int", .str "u8"]])] [("wanted", .tup [.str "ref", .none, .bool m, t.av]), ("number", .int N), ("table", .raw (.ref tb)), ("put_in", .tup [.str "ref", .int p, .bool pm, .tup [.str "int", .str "u8"]])] (fun _ => []) (fun _ => (tb, .dict [(.str "many", .int k)]) :: σ) (by rw [hK]; rfl) (by rw [hK]; rfl) (HB.plain (names := ["wanted", "number", "table", "put_in"]) ?hb rfl rfl) rfl rfl ?nd (by decide) rfl (fun _ => rfl) (fun _ => rfl) ?_
    case hb => exact len4 fun _ _ _ _ => rfl
    case nd => exact (by decide : (["wanted", "number", "table", "put_in"] : List Str).Nodup)
    intro L
    walk_at "x*"
    rw [show ((k : Int) + 1) = ((k + 1 : Nat) : Int) by omega]
    refine W3.set_dict (k := .str "many") (.here ..) rfl (Nat.le_trans (Nat.le_of_ble_eq_true rfl : _ ≤ 900) (by decide)) ?_
    rw [show setA [(AK.str "many", AV.int (k : Int))] (.str "many") (.int ((k + 1 : Nat) : Int)) = [(AK.str "many", AV.int ((k + 1 : Nat) : Int))] from rfl]
    walk_at "x*"
    refine WCall.mk (WK.type _) (WC.str_int (sI_log N (by omega)) ?_)
    have l1 := sI_len N (by omega)
    have l2 := sI_len (k + 1) (by omega)
    have c4 : Str.length "call" = 4 := by decide +kernel
    have c1 : Str.length "." = 1 := by decide +kernel
    refine W2.add_str (x := "call") (y := sI N) (by rw [c4]; exact Nat.le_trans (by omega : _ ≤ 900) (by decide)) ?_
    walk_at "x*"
    refine W2.add_str (x := "call" ++ sI N) (y := ".") (by rw [len_add, c4, c1]; exact Nat.le_trans (by omega : _ ≤ 900) (by decide)) ?_
    walk_at "x*"
    refine WCall.mk (WK.type _) (WC.str_int (sI_log (k + 1) (by omega)) ?_)
    refine W2.add_str (x := ("call" ++ sI N) ++ ".") (y := sI ((k + 1 : Nat))) (by rw [len_add, len_add, c4, c1]; exact Nat.le_trans (by omega : _ ≤ 900) (by decide)) ?_
    walk_at "x*"
    refine c_marked hK tb N hN p pm t (Nat.le_refl _) (k + 1) (by omega) ok.2 ?_
    walk_at "x*"
    exact Fin.ret h
  | .ref (.name s) m t, n, σ, hn, k, hk, ok, Q, h => by
    simp only [Ty.ht] at hn hk
    show WCall G n (.raw (.ref 472)) [.tup [.str "ref", .str s, .bool m, t.av], .int N, .raw (.ref tb), .tup [.str "ref", .int p, .bool pm, .tup [.str "int", .str "u8"]]] _ Q
    refine ⟨WK.fn (by rw [hK]; rfl), .of (.le (k := (t.ht+1)+1) ?_ (by omega))⟩
    refine WCd.def [("wanted", .tup [.str "ref", .str s, .bool m, t.av]), ("number", .int N), ("table", .raw (.ref tb)), ("put_in", .tup [.str "ref", .int p, .bool pm, .tup [.str "int", .str "u8"]])] [("wanted", .tup [.str "ref", .str s, .bool m, t.av]), ("number", .int N), ("table", .raw (.ref tb)), ("put_in", .tup [.str "ref", .int p, .bool pm, .tup [.str "int", .str "u8"]])] (fun _ => []) (fun _ => (tb, .dict [(.str "many", .int k)]) :: σ) (by rw [hK]; rfl) (by rw [hK]; rfl) (HB.plain (names := ["wanted", "number", "table", "put_in"]) ?hb rfl rfl) rfl rfl ?nd (by decide) rfl (fun _ => rfl) (fun _ => rfl) ?_
    case hb => exact len4 fun _ _ _ _ => rfl
    case nd => exact (by decide : (["wanted", "number", "table", "put_in"] : List Str).Nodup)
    intro L
    walk_at "x*"
    obtain ⟨ok1, ok2⟩ := ok.1
    refine W2.eq_str ok1 (by walk_at "r") ?_
    have l1 := sI_len N (by omega)
    have c4 : Str.length "call" = 4 := by decide +kernel
    by_cases hs : s = "'static"
    · have e : markR N (.name s) k = (.num 0, k) := by simp [markR, hs]
      rw [decide_eq_true hs]
      refine kbool (ite_t rfl ?_)
      walk_at "x*"
      have h' : Q (mty ((Rg.num 0, m) :: (markT N [(p, pm)] t k).1)).av ((tb, .dict [(.str "many", .int (markT N [(p, pm)] t k).2)]) :: σ) := by
        have := h; unfold markT at this; rw [e] at this; exact this
      refine c_marked hK tb N hN p pm t (Nat.le_refl _) k (by omega) ok.2 ?_
      walk_at "x*"
      exact Fin.ret h'
    · have e : markR N (.name s) k = (.name (("call" ++ sI N) ++ s), k) := by simp [markR, hs]
      rw [decide_eq_false hs]
      refine kbool (ite_f rfl ?_)
      walk_at "x*"
      refine WCall.mk (WK.type _) (WC.str_int (sI_log N (by omega)) ?_)
      refine W2.add_str (x := "call") (y := sI N) (by rw [c4]; exact Nat.le_trans (by omega : _ ≤ 900) (by decide)) ?_
      walk_at "x*"
      refine W2.add_str (x := "call" ++ sI N) (y := s) (by rw [len_add, c4]; exact Nat.le_trans (by omega : _ ≤ 900) (by decide)) ?_
      walk_at "x*"
      have h' : Q (mty ((Rg.name (("call" ++ sI N) ++ s), m) :: (markT N [(p, pm)] t k).1)).av ((tb, .dict [(.str "many", .int (markT N [(p, pm)] t k).2)]) :: σ) := by
        have := h; unfold markT at this; rw [e] at this; exact this
      refine c_marked hK tb N hN p pm t (Nat.le_refl _) k (by omega) ok.2 ?_
      walk_at "x*"
      exact Fin.ret h'
  | .ref (.num i) m t, n, σ, hn, k, hk, ok, Q, h => ok.1.elim
end
end Mine
set_option maxRecDepth 100000
set_option autoImplicit false
set_option maxHeartbeats 4000000
namespace Mine
open PySem PySem.W PyProof.Rows PySem.Calls PySem.SeqAt
noncomputable def Rg.key : Rg → AK
  | .num i => .int i
  | .name s => .str s
  | .anon => .int 0
noncomputable def Rg.okP : Rg → Prop
  | .num _ => True
  | .name s => PyData.strOk s = true
  | .anon => False
theorem Rg.av_key {r : Rg} (h : r.okP) : r.key.av = r.av := by cases r <;> first | rfl | exact h.elim
theorem Rg.isD {r : Rg} (h : r.okP) : r.av.isD = true := by cases r <;> first | rfl | exact h | exact h.elim
theorem eqv_rg {a b : Rg} (ha : a.okP) (hb : b.okP) : PyData.eqv a.av.py b.av.py = decide (a = b) := by
  cases a with
  | anon => exact ha.elim
  | num i =>
    cases b with
    | anon => exact hb.elim
    | num j => show PyData.eqv (.int i) (.int j) = _; rw [eqv_int]; simp
    | name s => show PyData.eqv (.int i) (.str s) = _; simp; rfl
  | name s =>
    cases b with
    | anon => exact hb.elim
    | num j => show PyData.eqv (.str s) (.int j) = _; simp; rfl
    | name s' => show PyData.eqv (.str s) (.str s') = _; rw [eqv_str]; simp
theorem any_rg {l : List Rg} {q : Rg} (hl : ∀ x ∈ l, x.okP) (hq : q.okP) : (AV.pys (l.map Rg.av)).any (fun y => PyData.eqv y q.av.py) = decide (q ∈ l) := by
  induction l with
  | nil => rfl
  | cons p r ih =>
    show (PyData.eqv p.av.py q.av.py || _) = _
    rw [eqv_rg (hl p (.head _)) hq]
    rw [show (AV.pys (r.map Rg.av)).any (fun y => PyData.eqv y q.av.py) = decide (q ∈ r) from ih fun x hx => hl x (.tail _ hx)]
    by_cases h1 : p = q
    · simp [h1]
    · have h2 : ¬ q = p := fun e => h1 e.symm
      simp [h1, h2]
theorem areD_rg {l : List Rg} (hl : ∀ x ∈ l, x.okP) : AV.areD (l.map Rg.av) = true := by
  induction l with
  | nil => rfl
  | cons p r ih =>
    show (p.av.isD && AV.areD (r.map Rg.av)) = true
    rw [Rg.isD (hl p (.head _)), ih fun x hx => hl x (.tail _ hx)]; rfl
theorem depth_rg {q : Rg} : q.av.py.depth ≤ 300 := by cases q <;> exact Nat.zero_le _
section
variable {G : Gd} {n : Nat} {σ : Sig} {env : Env} {K : Sig}
theorem W2.in_rg {a : Addr} {l : List Rg} {q : Rg} {Q : AV → Sig → Prop} (hm : (a, .list (l.map Rg.av)) ∈ σ) (hl : ∀ x ∈ l, x.okP) (hq : q.okP) (h : Q (.bool (decide (q ∈ l))) σ) : W2 G n (compareOp .In) q.av (.raw (.ref a)) σ Q := by
  refine W2.in_list hm (areD_rg hl) (Rg.isD hq) (Nat.le_trans (Nat.min_le_right _ _) depth_rg) ?_
  rw [any_rg hl hq]; exact h
theorem W2.notin_rg {a : Addr} {l : List Rg} {q : Rg} {Q : AV → Sig → Prop} (hm : (a, .list (l.map Rg.av)) ∈ σ) (hl : ∀ x ∈ l, x.okP) (hq : q.okP) (h : Q (.bool (!decide (q ∈ l))) σ) : W2 G n (compareOp .NotIn) q.av (.raw (.ref a)) σ Q := by
  refine W2.notin_list hm (areD_rg hl) (Rg.isD hq) (Nat.le_trans (Nat.min_le_right _ _) depth_rg) ?_
  rw [any_rg hl hq]; exact h
theorem W2.eq_rg {a b : Rg} {Q : AV → Sig → Prop} (ha : a.okP) (hb : b.okP) (h : Q (.bool (decide (a = b))) σ) : W2 G n (compareOp .Eq) a.av b.av σ Q := by
  refine W2.eq (.av (Rg.isD ha)) (.av (Rg.isD hb)) (Nat.le_trans (Nat.min_le_right _ _) depth_rg) ?_
  rw [eqv_rg ha hb]; exact h
inductive Reach {α : Type} (E : List (α × α)) : α → α → Prop
  | refl (a : α) : Reach E a a
  | step {a b c : α} : Reach E a b → (b, c) ∈ E → Reach E a c
open Classical in
noncomputable def reachL (E : List (Rg × Rg)) (ws : List Int) : List (Int × Int) := ws.flatMap fun b => (ws.filter fun e => decide (Reach E (.num b) (.num e)) && !decide (e = b)).map fun e => (b, e)
theorem nodup_len {α : Type} [DecidableEq α] : ∀ {l m : List α}, l.Nodup → (∀ x ∈ l, x ∈ m) → l.length ≤ m.length
  | [], _, _, _ => Nat.zero_le _
  | x :: r, m, nd, h => by
    rw [List.nodup_cons] at nd
    have hx := h x (.head _)
    have := nodup_len (l := r) (m := m.erase x) nd.2 fun y hy => (List.mem_erase_of_ne (fun (e : y = x) => nd.1 (e ▸ hy))).mpr (h y (.tail _ hy))
    rw [List.length_erase_of_mem hx] at this
    have : 0 < m.length := List.length_pos_of_mem hx
    simp only [List.length_cons]; omega
end
end Mine
set_option maxRecDepth 100000
set_option autoImplicit false
namespace Mine
open PySem PySem.W PyProof.Rows PySem.Calls PySem.SeqAt
section
variable {G : Gd} {n : Nat} {env : Env} {σ : Sig} {m : Loc} {it : Addr} {target : Expr} {N : Nat} {item : Nat → AV} {I : Nat → Sig} {E : Sig} {ok : Sig → Prop}
noncomputable def LoopP (m : Loc) (I : Sig) (J : Sig → Prop) (fl : AFl) (m₂ : Loc) (σ₃ : Sig) : Prop := (fl = .next ∨ fl = .cont) ∧ (∀ y v, m.lookup y = some v → m₂.lookup y = some v) ∧ ∃ σ' R, J σ' ∧ σ₃.Perm ((I ++ σ') ++ R)
theorem WF.eachP {body : List Stmt} {Q : AFl → Loc → Sig → Prop} (S : Src G n it target N item I E ok) (J : Nat → Sig → Prop) (hok : ∀ i σ, J i σ → ok σ)
    (step : ∀ i σ, i < N → J i σ → WA G n env m (I (i + 1) ++ σ) target (item i) fun m₁ σ₂ => WS G n env m₁ σ₂ body (LoopP m (I (i + 1)) (J (i + 1))))
    (fin : ∀ σ, J N σ → Q .next m (E ++ σ)) (h0 : J 0 σ) : WF G n env target it body m (I 0 ++ σ) Q := by
  have key : ∀ k i σ, i + k = N → J i σ → WF G n env target it body m (I i ++ σ) Q := by
    intro k
    induction k with
    | zero => intro i σ hi hj; have : i = N := by omega
              subst this; exact WF.turn (S.done _ _ _ (hok _ _ hj) (fin _ hj))
    | succ k ih =>
      intro i σ hi hj
      refine WF.turn (S.item i _ _ _ (by omega) (hok _ _ hj) ?_)
      have hs := step i σ (by omega) hj
      intro v A Φ s F hr rv hst
      refine wpAny_mono (hs v A Φ s F hr rv hst) (fun _ s2 h2 => ?_) noE
      obtain ⟨Φ2, m2, σ2, x2, st2, q2⟩ := h2
      refine ⟨Φ2, m2, σ2, x2, st2, WT1.mono q2 fun fl m3 σ3 hq => ?_⟩
      obtain ⟨hfl, hm, σ', R, hj', p⟩ := hq
      rcases hfl with rfl | rfl
      · exact WF.pre (ih (i + 1) σ' (by omega) hj') p hm
      · exact WF.pre (ih (i + 1) σ' (by omega) hj') p hm
  exact key N 0 σ (by omega) h0
theorem WF.eachG {a : Addr} {body : List Stmt} {Q : AFl → Loc → Sig → Prop} (B : Nat) (J : Nat → Sig → Prop)
    (step : ∀ i σ, J i σ → ∃ xs, (a, .list xs) ∈ σ ∧ ((∃ x, xs[i]? = some x ∧ i < B ∧ WA G n env m ((it, .listIter a (i + 1)) :: σ) target x fun m₁ σ₂ => WS G n env m₁ σ₂ body (LoopP m [(it, .listIter a (i + 1))] (J (i + 1)))) ∨ (xs.length ≤ i ∧ Q .next m σ)))
    (h0 : J 0 σ) : WF G n env target it body m ((it, .listIter a 0) :: σ) Q := by
  have key : ∀ k i σ, B + 1 ≤ i + k → J i σ → WF G n env target it body m ((it, .listIter a i) :: σ) Q := by
    intro k
    induction k with
    | zero =>
      intro i σ hi hj
      obtain ⟨xs, hm, h⟩ := step i σ hj
      rcases h with ⟨x, hx, hB, _⟩ | ⟨hx, hq⟩
      · omega
      · exact WF.turn (WN.list_end hx (.here ..) (.tail _ hm) hq)
    | succ k ih =>
      intro i σ hi hj
      obtain ⟨xs, hm, h⟩ := step i σ hj
      rcases h with ⟨x, hx, hB, hs⟩ | ⟨hx, hq⟩
      · refine WF.turn (WN.list_item hx (.here ..) (.tail _ hm) ?_)
        intro v A Φ s F hr rv hst
        refine wpAny_mono (hs v A Φ s F hr rv hst) (fun _ s2 h2 => ?_) noE
        obtain ⟨Φ2, m2, σ2, x2, st2, q2⟩ := h2
        refine ⟨Φ2, m2, σ2, x2, st2, WT1.mono q2 fun fl m3 σ3 hq => ?_⟩
        obtain ⟨hfl, hm, σ', R, hj', p⟩ := hq
        rcases hfl with rfl | rfl
        · exact WF.pre (ih (i + 1) σ' (by omega) hj') p hm
        · exact WF.pre (ih (i + 1) σ' (by omega) hj') p hm
      · exact WF.turn (WN.list_end hx (.here ..) (.tail _ hm) hq)
  exact key (B + 1) 0 σ (by omega) h0
end
end Mine
set_option maxRecDepth 100000
set_option autoImplicit false
set_option maxHeartbeats 4000000
namespace Mine
open PySem PySem.W PyProof.Rows PySem.Calls PySem.SeqAt
open Classical in
noncomputable def endsL (E : List (Rg × Rg)) (ws : List Int) (b : Int) : List (Int × Int) := (ws.filter fun e => decide (Reach E (.num b) (.num e)) && !decide (e = b)).map fun e => (b, e)
theorem reachL_ends (E : List (Rg × Rg)) (ws : List Int) : reachL E ws = ws.flatMap (endsL E ws) := rfl
theorem endsL_len (E : List (Rg × Rg)) {ws : List Int} (h8 : ws.length ≤ 8) (b : Int) : (endsL E ws b).length ≤ 8 := by
  unfold endsL; rw [List.length_map]; exact Nat.le_trans (List.length_filter_le ..) h8
open Classical in
theorem endsL_len7 (E : List (Rg × Rg)) {ws : List Int} (h8 : ws.length ≤ 8) {b : Int} (hb : b ∈ ws) : (endsL E ws b).length ≤ 7 := by
  unfold endsL; rw [List.length_map]
  generalize hf : (fun e => decide (Reach E (.num b) (.num e)) && !decide (e = b)) = f
  have hfb : f b = false := by rw [← hf]; simp
  have : (ws.filter f).length < ws.length := by
    rw [← List.countP_eq_length_filter]
    rcases Nat.lt_or_ge (List.countP f ws) ws.length with h | h
    · exact h
    · have := List.countP_eq_length.mp (Nat.le_antisymm List.countP_le_length h) b hb
      rw [hfb] at this; cases this
  omega
theorem reachL_len (E : List (Rg × Rg)) {ws : List Int} (h8 : ws.length ≤ 8) : (reachL E ws).length ≤ 56 := by
  rw [reachL_ends]
  have := flat_len (f := endsL E ws) (k := 7) (xs := ws) fun x hx => endsL_len7 E h8 hx
  omega
theorem reachL_asc (E : List (Rg × Rg)) {ws : List Int} (hs : ws.Pairwise (· < ·)) : (reachL E ws).Pairwise ltP := by
  rw [reachL_ends]
  rw [List.pairwise_flatMap]
  refine ⟨fun b hb => ?_, ?_⟩
  · unfold endsL
    rw [List.pairwise_map]
    exact (hs.filter _).imp fun h => .inr ⟨rfl, h⟩
  · refine hs.imp fun {a b} hab x hx y hy => ?_
    unfold endsL at hx hy
    obtain ⟨e, _, rfl⟩ := List.mem_map.mp hx
    obtain ⟨e', _, rfl⟩ := List.mem_map.mp hy
    exact .inl hab
noncomputable def keyP (q : Rg × Rg) : List AK := [q.1.key, q.2.key]
theorem key_inj {a b : Rg} (ha : a.okP) (hb : b.okP) (h : a.key = b.key) : a = b := by
  cases a <;> cases b <;> first | exact ha.elim | exact hb.elim | (simp only [Rg.key] at h; injection h with h; rw [h]) | (simp only [Rg.key] at h; cases h)
theorem keyP_inj {p q : Rg × Rg} (hp : p.1.okP ∧ p.2.okP) (hq : q.1.okP ∧ q.2.okP) (h : keyP p = keyP q) : p = q := by
  unfold keyP at h
  simp only [List.cons.injEq, and_true] at h
  exact Prod.ext (key_inj hp.1 hq.1 h.1) (key_inj hp.2 hq.2 h.2)
theorem tK_keyP {q : Rg × Rg} (h : q.1.okP ∧ q.2.okP) : tK (keyP q) = prR q := by
  show AV.tup [q.1.key.av, q.2.key.av] = AV.tup [q.1.av, q.2.av]
  rw [Rg.av_key h.1, Rg.av_key h.2]
theorem dedup_map {α β : Type} [DecidableEq α] [DecidableEq β] (f : α → β) (E : List α) (hf : ∀ x ∈ E, ∀ y ∈ E, f x = f y → x = y) : dedup (E.map f) = (dedup E).map f := by
  have key : ∀ (l acc : List α), (∀ x ∈ l, x ∈ E) → (∀ x ∈ acc, x ∈ E) → (l.map f).foldl addK (acc.map f) = (l.foldl addK acc).map f := by
    intro l
    induction l with
    | nil => intro acc _ _; rfl
    | cons y r ih =>
      intro acc hl ha
      rw [List.map_cons, List.foldl_cons, List.foldl_cons]
      have e : addK (acc.map f) (f y) = (addK acc y).map f := by
        unfold addK
        by_cases h : y ∈ acc
        · rw [if_pos h, if_pos (List.mem_map_of_mem h)]
        · rw [if_neg h, if_neg (fun q => by
            obtain ⟨x, hx, ex⟩ := List.mem_map.mp q
            exact h (hf x (ha x hx) y (hl y (.head _)) ex ▸ hx))]
          simp
      rw [e]
      refine ih _ (fun x hx => hl x (.tail _ hx)) fun x hx => ?_
      rcases addK_mem.mp hx with h | rfl
      · exact ha x h
      · exact hl _ (.head _)
  exact key E [] (fun _ h => h) (fun _ h => by cases h)
structure SInv (E : List (Rg × Rg)) (b : Int) (sl : List Rg) (j : Nat) : Prop where
  nd : sl.Nodup
  len : j ≤ sl.length
  beg : Rg.num b ∈ sl
  rch : ∀ x ∈ sl, Reach E (.num b) x
  okp : ∀ x ∈ sl, x.okP
  sub : ∀ x ∈ sl, x ∈ Rg.num b :: E.map (·.2)
  cls : ∀ k x y, k < j → sl[k]? = some x → (x, y) ∈ E → y ∈ sl
theorem SInv.bound {E : List (Rg × Rg)} {b : Int} {sl : List Rg} {j : Nat} (h : SInv E b sl j) : sl.length ≤ E.length + 1 := by
  have := nodup_len h.nd h.sub
  simpa using this
theorem SInv.start (E : List (Rg × Rg)) (b : Int) : SInv E b [.num b] 0 where
  nd := by simp
  len := Nat.zero_le _
  beg := .head _
  rch := fun x hx => by rw [List.mem_singleton] at hx; subst hx; exact .refl _
  okp := fun x hx => by rw [List.mem_singleton] at hx; subst hx; exact trivial
  sub := fun x hx => by rw [List.mem_singleton] at hx; subst hx; exact .head _
  cls := fun k _ _ h => by omega
noncomputable def outsL (E' : List (Rg × Rg)) (x : Rg) (sl : List Rg) : List Rg := (E'.filter fun q => decide (q.1 = x) && !decide (q.2 ∈ sl)).map (·.2)
theorem SInv.step {E : List (Rg × Rg)} {b : Int} {sl : List Rg} {j : Nat} (h : SInv E b sl j) (hE : ∀ x ∈ E, x.1.okP ∧ x.2.okP) {x : Rg} (hx : sl[j]? = some x) : SInv E b (sl ++ outsL (dedup E) x sl) (j + 1) := by
  obtain ⟨dn, dm⟩ := dedup_spec E
  have hj : j < sl.length := (List.getElem?_eq_some_iff.mp hx).1
  have hxm := List.mem_of_getElem? hx
  have hout : ∀ y, y ∈ outsL (dedup E) x sl ↔ (x, y) ∈ E ∧ y ∉ sl := by
    intro y
    unfold outsL
    rw [List.mem_map]
    constructor
    · rintro ⟨q, hq, rfl⟩
      rw [List.mem_filter] at hq
      simp only [Bool.and_eq_true, decide_eq_true_eq, Bool.not_eq_true', decide_eq_false_iff_not] at hq
      obtain ⟨h1, h2, h3⟩ := hq
      exact ⟨by rw [← h2]; exact (dm q).mp h1, h3⟩
    · rintro ⟨h1, h2⟩
      exact ⟨(x, y), List.mem_filter.mpr ⟨(dm _).mpr h1, by simp [h2]⟩, rfl⟩
  refine ⟨?_, by rw [List.length_append]; omega, List.mem_append_left _ h.beg, fun y hy => ?_, fun y hy => ?_, fun y hy => ?_, fun k u v hk hu hv => ?_⟩
  · rw [List.nodup_append]
    refine ⟨h.nd, ?_, fun a ha c hc e => ?_⟩
    · unfold outsL
      refine List.Pairwise.map (R := fun p q : Rg × Rg => p ≠ q ∧ p.1 = x ∧ q.1 = x) _ (fun p q hpq e => hpq.1 (Prod.ext (hpq.2.1.trans hpq.2.2.symm) e)) ?_
      have hf : ∀ q ∈ (dedup E).filter fun q => decide (q.1 = x) && !decide (q.2 ∈ sl), q.1 = x := fun q hq => by
        have := (List.mem_filter.mp hq).2
        simp only [Bool.and_eq_true, decide_eq_true_eq] at this
        exact this.1
      exact List.Pairwise.imp_of_mem (fun {p q} hp hq hne => ⟨hne, hf p hp, hf q hq⟩) (List.Pairwise.filter _ dn)
    · subst e; exact ((hout a).mp hc).2 ha
  · rcases List.mem_append.mp hy with hy | hy
    · exact h.rch y hy
    · exact .step (h.rch x hxm) ((hout y).mp hy).1
  · rcases List.mem_append.mp hy with hy | hy
    · exact h.okp y hy
    · exact (hE _ ((hout y).mp hy).1).2
  · rcases List.mem_append.mp hy with hy | hy
    · exact h.sub y hy
    · exact .tail _ (List.mem_map.mpr ⟨_, ((hout y).mp hy).1, rfl⟩)
  · rcases Nat.lt_or_ge k j with q | q
    · rw [List.getElem?_append_left (by omega)] at hu
      exact List.mem_append_left _ (h.cls k u v q hu hv)
    · have : k = j := by omega
      subst this
      rw [List.getElem?_append_left (by omega), hx] at hu
      cases hu
      by_cases hv' : v ∈ sl
      · exact List.mem_append_left _ hv'
      · exact List.mem_append_right _ ((hout v).mpr ⟨hv, hv'⟩)
theorem SInv.done {E : List (Rg × Rg)} {b : Int} {sl : List Rg} {j : Nat} (h : SInv E b sl j) (hj : sl.length ≤ j) (x : Rg) : x ∈ sl ↔ Reach E (.num b) x := by
  refine ⟨h.rch x, fun hr => ?_⟩
  generalize ha : Rg.num b = a at hr
  induction hr with
  | refl => rw [← ha]; exact h.beg
  | step _ hbc ih =>
    obtain ⟨k, hk⟩ := List.mem_iff_getElem?.mp ih
    exact h.cls k _ _ (Nat.lt_of_lt_of_le (List.getElem?_eq_some_iff.mp hk).1 hj) hk hbc
end Mine
set_option maxRecDepth 100000
set_option autoImplicit false
set_option maxHeartbeats 4000000
namespace Mine
open PySem PySem.W PyProof.Rows PySem.Calls PySem.SeqAt
structure Sim {α β : Type} (R : α → β → Prop) (E : List (α × α)) (E' : List (β × β)) : Prop where
  to : ∀ x ∈ E, ∃ y ∈ E', R x.1 y.1 ∧ R x.2 y.2
  of : ∀ y ∈ E', ∃ x ∈ E, R x.1 y.1 ∧ R x.2 y.2
theorem Sim.nil {α β : Type} {R : α → β → Prop} : Sim R [] [] := ⟨fun _ h => (by cases h), fun _ h => (by cases h)⟩
theorem Sim.append {α β : Type} {R : α → β → Prop} {E F : List (α × α)} {E' F' : List (β × β)} (h : Sim R E E') (k : Sim R F F') : Sim R (E ++ F) (E' ++ F') where
  to := fun x hx => (List.mem_append.mp hx).elim (fun q => let ⟨y, a, b⟩ := h.to x q; ⟨y, List.mem_append_left _ a, b⟩) (fun q => let ⟨y, a, b⟩ := k.to x q; ⟨y, List.mem_append_right _ a, b⟩)
  of := fun x hx => (List.mem_append.mp hx).elim (fun q => let ⟨y, a, b⟩ := h.of x q; ⟨y, List.mem_append_left _ a, b⟩) (fun q => let ⟨y, a, b⟩ := k.of x q; ⟨y, List.mem_append_right _ a, b⟩)
theorem Sim.one {α β : Type} {R : α → β → Prop} {a c : α} {b d : β} (h : R a b) (k : R c d) : Sim R [(a, c)] [(b, d)] where
  to := fun x hx => by rw [List.mem_singleton] at hx; subst hx; exact ⟨_, .head _, h, k⟩
  of := fun x hx => by rw [List.mem_singleton] at hx; subst hx; exact ⟨_, .head _, h, k⟩
theorem Reach.sim {α β : Type} {R : α → β → Prop} {E : List (α × α)} {E' : List (β × β)} (hs : ∀ x ∈ E, ∃ y ∈ E', R x.1 y.1 ∧ R x.2 y.2) (fn : ∀ a b c, R a b → R a c → b = c) {a b : α} (h : Reach E a b) : ∀ {i : β}, R a i → ∃ j, R b j ∧ Reach E' i j := by
  induction h with
  | refl => intro i hi; exact ⟨i, hi, .refl _⟩
  | step _ hbc ih =>
    intro i hi
    obtain ⟨j, hj, hr⟩ := ih hi
    obtain ⟨y, hy, h1, h2⟩ := hs _ hbc
    have e := fn _ _ _ hj h1
    subst e
    exact ⟨y.2, h2, .step hr hy⟩
theorem Reach.iff {α β : Type} {R : α → β → Prop} {E : List (α × α)} {E' : List (β × β)} (hs : Sim R E E') (fn : ∀ a b c, R a b → R a c → b = c) (inj : ∀ a b c, R a c → R b c → a = b) {a b : α} {i j : β} (h1 : R a i) (h2 : R b j) : Reach E a b ↔ Reach E' i j := by
  constructor
  · intro h
    obtain ⟨j', q, r⟩ := h.sim hs.to fn h1
    rw [fn _ _ _ h2 q]; exact r
  · intro h
    obtain ⟨b', q, r⟩ := Reach.sim (R := fun x y => R y x) hs.of (fun x y z a b => inj _ _ _ a b) h h1
    rw [inj _ _ _ h2 q]; exact r
theorem Reach.diag {α : Type} {E E' : List (α × α)} (h1 : ∀ x ∈ E, x ∈ E' ∨ x.1 = x.2) {a b : α} (h : Reach E a b) : Reach E' a b := by
  induction h with
  | refl => exact .refl _
  | step _ hbc ih =>
    rcases h1 _ hbc with q | q
    · exact .step ih q
    · have q' := q
      dsimp only at q'
      rw [← q']; exact ih
noncomputable def rawL (w : Bool) : List (Int × Bool) → List (Int × Bool) → List (Int × Int)
  | (a, _) :: g, (b, m') :: t => (a, b) :: ((if w then [(b, a)] else []) ++ rawL (w || m') g t)
  | _, _ => []
theorem rawL_cons (w : Bool) (a b : Int) (m m' : Bool) (g t : List (Int × Bool)) : rawL w ((a, m) :: g) ((b, m') :: t) = (a, b) :: ((if w then [(b, a)] else []) ++ rawL (w || m') g t) := by rw [rawL]
theorem mem_ins {l : List (Int × Int)} {a b : Int} {x : Int × Int} : x ∈ ins l a b ↔ x ∈ l ∨ (a ≠ b ∧ x = (a, b)) := by
  unfold ins
  split
  · rename_i h
    rw [List.mem_append, List.mem_singleton]
    exact or_congr Iff.rfl ⟨fun q => ⟨h.1, q⟩, fun q => q.2⟩
  · rename_i h
    constructor
    · exact .inl
    · rintro (q | ⟨q1, rfl⟩)
      · exact q
      · exact Classical.byContradiction fun hn => h ⟨q1, hn⟩
theorem mem_regn {w : Bool} {l : List (Int × Int)} {a b : Int} {x : Int × Int} : x ∈ regn w l a b ↔ x ∈ l ∨ (x.1 ≠ x.2 ∧ (x = (a, b) ∨ (w = true ∧ x = (b, a)))) := by
  unfold regn
  cases w with
  | false =>
    rw [if_neg (by simp), mem_ins]
    constructor
    · rintro (h | ⟨h, rfl⟩)
      · exact .inl h
      · exact .inr ⟨h, .inl rfl⟩
    · rintro (h | ⟨h, rfl | ⟨h2, _⟩⟩)
      · exact .inl h
      · exact .inr ⟨h, rfl⟩
      · cases h2
  | true =>
    rw [if_pos rfl, mem_ins, mem_ins]
    constructor
    · rintro ((h | ⟨h, rfl⟩) | ⟨h, rfl⟩)
      · exact .inl h
      · exact .inr ⟨h, .inl rfl⟩
      · exact .inr ⟨h, .inr ⟨rfl, rfl⟩⟩
    · rintro (h | ⟨h, rfl | ⟨_, rfl⟩⟩)
      · exact .inl (.inl h)
      · exact .inl (.inr ⟨h, rfl⟩)
      · exact .inr ⟨h, rfl⟩
theorem mem_belowL {x : Int × Int} : ∀ {w : Bool} {g s : List (Int × Bool)} {l : List (Int × Int)}, x ∈ belowL w g s l ↔ x ∈ l ∨ (x.1 ≠ x.2 ∧ x ∈ rawL w g s)
  | w, (a, m) :: g, (b, m') :: s, l => by
    show x ∈ belowL (w || m') g s (regn w l a b) ↔ _
    rw [mem_belowL, mem_regn, rawL_cons]
    have e : x ∈ (if w = true then [(b, a)] else []) ↔ w = true ∧ x = (b, a) := by cases w <;> simp
    rw [List.mem_cons, List.mem_append, e]
    constructor
    · rintro ((h | ⟨h, h1 | h1⟩) | ⟨h, h1⟩)
      · exact .inl h
      · exact .inr ⟨h, .inl h1⟩
      · exact .inr ⟨h, .inr (.inl h1)⟩
      · exact .inr ⟨h, .inr (.inr h1)⟩
    · rintro (h | ⟨h, h1 | h1 | h1⟩)
      · exact .inl (.inl h)
      · exact .inl (.inr ⟨h, .inl h1⟩)
      · exact .inl (.inr ⟨h, .inr h1⟩)
      · exact .inr ⟨h, h1⟩
  | w, [], _, l => by unfold belowL rawL; simp
  | w, _ :: _, [], l => by unfold belowL rawL; simp
theorem mem_relatedL {x : Int × Int} {g s : List (Int × Bool)} : x ∈ relatedL g s ↔ x.1 ≠ x.2 ∧ x ∈ rawL false g s := by
  unfold relatedL; rw [mem_belowL]; simp
noncomputable def Pw (R : Rg → Int → Prop) : List (Rg × Bool) → List (Int × Bool) → Prop
  | [], [] => True
  | (r, b) :: t, (i, c) :: t' => R r i ∧ b = c ∧ Pw R t t'
  | _, _ => False
theorem Pw.mono {R R' : Rg → Int → Prop} (h : ∀ r i, R r i → R' r i) : ∀ {g : List (Rg × Bool)} {g' : List (Int × Bool)}, Pw R g g' → Pw R' g g'
  | [], [], _ => trivial
  | (r, b) :: t, (i, c) :: t', q => ⟨h _ _ q.1, q.2.1, Pw.mono h q.2.2⟩
  | [], _ :: _, q => q.elim
  | _ :: _, [], q => q.elim
theorem Pw.num {R : Rg → Int → Prop} : ∀ {g : List (Int × Bool)}, (∀ i ∈ rgs g, R (.num i) i) → Pw R (numL g) g
  | [], _ => trivial
  | (i, c) :: t, h => ⟨h i (.head _), rfl, Pw.num fun j hj => h j (.tail _ hj)⟩
theorem Pw.edges {R : Rg → Int → Prop} : ∀ {fx : Bool} {g t : List (Rg × Bool)} {g' t' : List (Int × Bool)}, Pw R g g' → Pw R t t' → Sim R (edgesL fx g t) (rawL fx g' t')
  | fx, (a, m) :: g, (b, n) :: t, (a', m') :: g', (b', n') :: t', h, k => by
    obtain ⟨h1, rfl, h2⟩ := h
    obtain ⟨k1, rfl, k2⟩ := k
    rw [edgesL_cons, rawL_cons]
    refine Sim.append (E := [_]) (E' := [_]) (.one h1 k1) (.append ?_ (Pw.edges h2 k2))
    cases fx with
    | true => exact .one k1 h1
    | false => exact .nil
  | fx, [], _, [], _, _, _ => by unfold edgesL rawL; exact .nil
  | fx, _ :: _, [], _ :: _, [], _, _ => by unfold edgesL rawL; exact .nil
  | fx, [], _, _ :: _, _, h, _ => h.elim
  | fx, _ :: _, _, [], _, h, _ => h.elim
  | fx, _ :: _, _ :: _, _ :: _, [], _, k => k.elim
  | fx, _ :: _, [], _ :: _, _ :: _, _, k => k.elim
noncomputable abbrev mkN (N : Nat) (s : Str) : Str := ("call" ++ sI N) ++ s
noncomputable abbrev mkA (N j : Nat) : Str := (("call" ++ sI N) ++ ".") ++ sI j
theorem mk_ne : ∀ N : Nat, N < 3 → ∀ j : Nat, j < 11 → mkA N j ≠ mkN N "'a" ∧ mkA N j ≠ mkN N "'b" := by decide +kernel
theorem mk_ab : ∀ N : Nat, N < 3 → mkN N "'a" ≠ mkN N "'b" := by decide +kernel
theorem mk_inj : ∀ N : Nat, N < 3 → ∀ j : Nat, j < 11 → ∀ j' : Nat, j' < 11 → mkA N j = mkA N j' → j = j' := by decide +kernel
set_option genInjectivity true in
structure AssB (nx0 : Int) (A : List (Str × Int)) (nx : Int) : Prop where
  le : nx0 ≤ nx
  lo : ∀ x ∈ A, nx0 ≤ x.2 ∧ x.2 < nx
  fn : ∀ x ∈ A, ∀ y ∈ A, x.1 = y.1 → x = y
  inj : ∀ x ∈ A, ∀ y ∈ A, x.2 = y.2 → x = y
theorem AssB.add {nx0 nx : Int} {A : List (Str × Int)} (h : AssB nx0 A nx) {q : Str} (hq : ∀ i, (q, i) ∉ A) : AssB nx0 ((q, nx) :: A) (nx + 1) where
  le := by have := h.le; omega
  lo := fun x hx => by
    rcases List.mem_cons.mp hx with rfl | hx
    · have := h.le; dsimp only; omega
    · have := h.lo x hx; omega
  fn := fun x hx y hy e => by
    rcases List.mem_cons.mp hx with rfl | hx <;> rcases List.mem_cons.mp hy with rfl | hy
    · rfl
    · exact absurd (show (q, y.2) ∈ A by have e' : q = y.1 := e; rw [e']; exact hy) (hq _)
    · exact absurd (show (q, x.2) ∈ A by have e' : x.1 = q := e; rw [← e']; exact hx) (hq _)
    · exact h.fn x hx y hy e
  inj := fun x hx y hy e => by
    rcases List.mem_cons.mp hx with rfl | hx <;> rcases List.mem_cons.mp hy with rfl | hy
    · rfl
    · have := h.lo y hy; dsimp only at e; omega
    · have := h.lo x hx; dsimp only at e; omega
    · exact h.inj x hx y hy e
structure Ass (N : Nat) (nx0 : Int) (A : List (Str × Int)) (es : List (Str × Int)) (nx : Int) (k : Nat) : Prop where
  b : AssB nx0 A nx
  st : es.lookup ("'static" : Str) = some 0
  ea : ∀ i, es.lookup ("'a" : Str) = some i ↔ (mkN N "'a", i) ∈ A
  eb : ∀ i, es.lookup ("'b" : Str) = some i ↔ (mkN N "'b", i) ∈ A
  an : ∀ j, k + 1 ≤ j → j < 11 → ∀ i, (mkA N j, i) ∉ A
noncomputable def RelM (mo : Int) (A : List (Str × Int)) (r : Rg) (i : Int) : Prop := (r = .num i ∧ i ≤ mo) ∨ ∃ s, r = .name s ∧ (s, i) ∈ A
theorem RelM.mono {mo : Int} {A A' : List (Str × Int)} (h : ∀ x ∈ A, x ∈ A') (r : Rg) (i : Int) (q : RelM mo A r i) : RelM mo A' r i := q.elim .inl fun ⟨s, a, b⟩ => .inr ⟨s, a, h _ b⟩
theorem lookup_snoc {es : List (Str × Int)} {s t : Str} {i : Int} (h : t ≠ s) : (es ++ [(s, i)]).lookup t = es.lookup t := by
  rw [List.lookup_append]
  have : ([(s, i)] : List (Str × Int)).lookup t = none := by
    rw [List.lookup_cons, show (t == s) = false from beq_eq_false_iff_ne.mpr h]; rfl
  rw [this, Option.or_none]
theorem lookup_snoc_eq {es : List (Str × Int)} {s : Str} {i : Int} (h : es.lookup s = none) : (es ++ [(s, i)]).lookup s = some i := by
  rw [List.lookup_append, h]
  rw [Option.none_or, List.lookup_cons, beq_self_eq_true]
theorem Ass.step {N : Nat} {nx0 nx mo : Int} {A es : List (Str × Int)} {k : Nat} (h : Ass N nx0 A es nx k) (hN : N < 3) (hk : k < 10) (h0 : 0 ≤ mo) {r : Rg} (hr : r ∈ okN) :
    ∃ A', (∀ x ∈ A, x ∈ A') ∧ Ass N nx0 A' (fr r es nx).2.1 (fr r es nx).2.2 (markR N r k).2 ∧ RelM mo A' (markR N r k).1 (fr r es nx).1 := by
  have ab : ("'a" : Str) ≠ "'b" := by decide +kernel
  have as : ("'static" : Str) ≠ "'a" := by decide +kernel
  have bs : ("'static" : Str) ≠ "'b" := by decide +kernel
  have hr' : r = .name "'a" ∨ r = .name "'b" ∨ r = .name "'static" ∨ r = .anon := by simpa [okN] using hr
  rcases hr' with rfl | rfl | rfl | rfl
  · have e1 : markR N (.name "'a") k = (.name (mkN N "'a"), k) := by show ((if _ then _ else _ : Rg), k) = _; rw [if_neg (Ne.symm as)]
    rw [e1]
    cases hl : es.lookup ("'a" : Str) with
    | some i =>
      have e2 : fr (.name "'a") es nx = (i, es, nx) := by show (match es.lookup _ with | some i => _ | none => _) = _; rw [hl]
      rw [e2]
      exact ⟨A, fun _ h => h, h, .inr ⟨_, rfl, (h.ea i).mp hl⟩⟩
    | none =>
      have e2 : fr (.name "'a") es nx = (nx, es ++ [(("'a" : Str), nx)], nx + 1) := by show (match es.lookup _ with | some i => _ | none => _) = _; rw [hl]
      rw [e2]
      have hq : ∀ i, (mkN N "'a", i) ∉ A := fun i q => by have := (h.ea i).mpr q; rw [hl] at this; cases this
      refine ⟨(mkN N "'a", nx) :: A, fun _ h => .tail _ h, ⟨h.b.add hq, ?_, fun i => ?_, fun i => ?_, fun j h1 h2 i q => ?_⟩, .inr ⟨_, rfl, .head _⟩⟩
      · rw [lookup_snoc as]; exact h.st
      · rw [lookup_snoc_eq hl, List.mem_cons]
        constructor
        · intro e; cases e; exact .inl rfl
        · rintro (e | e)
          · cases e; rfl
          · exact absurd e (hq i)
      · rw [lookup_snoc (Ne.symm ab), h.eb, List.mem_cons]
        constructor
        · exact .inr
        · rintro (e | e)
          · injection e with e _; exact absurd e.symm (mk_ab N hN)
          · exact e
      · rcases List.mem_cons.mp q with e | e
        · injection e with e _; exact (mk_ne N hN j h2).1 e
        · exact h.an j h1 h2 i e
  · have e1 : markR N (.name "'b") k = (.name (mkN N "'b"), k) := by show ((if _ then _ else _ : Rg), k) = _; rw [if_neg (Ne.symm bs)]
    rw [e1]
    cases hl : es.lookup ("'b" : Str) with
    | some i =>
      have e2 : fr (.name "'b") es nx = (i, es, nx) := by show (match es.lookup _ with | some i => _ | none => _) = _; rw [hl]
      rw [e2]
      exact ⟨A, fun _ h => h, h, .inr ⟨_, rfl, (h.eb i).mp hl⟩⟩
    | none =>
      have e2 : fr (.name "'b") es nx = (nx, es ++ [(("'b" : Str), nx)], nx + 1) := by show (match es.lookup _ with | some i => _ | none => _) = _; rw [hl]
      rw [e2]
      have hq : ∀ i, (mkN N "'b", i) ∉ A := fun i q => by have := (h.eb i).mpr q; rw [hl] at this; cases this
      refine ⟨(mkN N "'b", nx) :: A, fun _ h => .tail _ h, ⟨h.b.add hq, ?_, fun i => ?_, fun i => ?_, fun j h1 h2 i q => ?_⟩, .inr ⟨_, rfl, .head _⟩⟩
      · rw [lookup_snoc bs]; exact h.st
      · rw [lookup_snoc ab, h.ea, List.mem_cons]
        constructor
        · exact .inr
        · rintro (e | e)
          · injection e with e _; exact absurd e (mk_ab N hN)
          · exact e
      · rw [lookup_snoc_eq hl, List.mem_cons]
        constructor
        · intro e; cases e; exact .inl rfl
        · rintro (e | e)
          · cases e; rfl
          · exact absurd e (hq i)
      · rcases List.mem_cons.mp q with e | e
        · injection e with e _; exact (mk_ne N hN j h2).2 e
        · exact h.an j h1 h2 i e
  · have e1 : markR N (.name "'static") k = (.num 0, k) := by show ((if _ then _ else _ : Rg), k) = _; rw [if_pos rfl]
    have e2 : fr (.name "'static") es nx = (0, es, nx) := by show (match es.lookup _ with | some i => _ | none => _) = _; rw [h.st]
    rw [e1, e2]
    exact ⟨A, fun _ h => h, h, .inl ⟨rfl, h0⟩⟩
  · show ∃ A' : List (Str × Int), (∀ x ∈ A, x ∈ A') ∧ Ass N nx0 A' es (nx + 1) (k + 1) ∧ RelM mo A' (.name (mkA N (k + 1))) nx
    have hq : ∀ i, (mkA N (k + 1), i) ∉ A := h.an (k + 1) (Nat.le_refl _) (by omega)
    refine ⟨(mkA N (k + 1), nx) :: A, fun _ h => .tail _ h, ⟨h.b.add hq, h.st, fun i => ?_, fun i => ?_, fun j h1 h2 i q => ?_⟩, .inr ⟨_, rfl, .head _⟩⟩
    · rw [h.ea, List.mem_cons]
      constructor
      · exact .inr
      · rintro (e | e)
        · injection e with e _; exact absurd e.symm (mk_ne N hN (k + 1) (by omega)).1
        · exact e
    · rw [h.eb, List.mem_cons]
      constructor
      · exact .inr
      · rintro (e | e)
        · injection e with e _; exact absurd e.symm (mk_ne N hN (k + 1) (by omega)).2
        · exact e
    · rcases List.mem_cons.mp q with e | e
      · injection e with e _
        have := mk_inj N hN j h2 (k + 1) (by omega) e
        omega
      · exact h.an j (by omega) h2 i e
noncomputable def okW : Ty → Prop
  | .ref r _ t => r ∈ okN ∧ okW t
  | _ => True
theorem Ass.ty {N : Nat} {nx0 mo p : Int} {pm : Bool} (hN : N < 3) (h0 : 0 ≤ mo) (hp : p ≤ mo) : ∀ {w : Ty} {A es : List (Str × Int)} {nx : Int} {k : Nat} (h : Ass N nx0 A es nx k) (hw : okW w) (hk : k + w.ht ≤ 10),
    ∃ A', (∀ x ∈ A, x ∈ A') ∧ Ass N nx0 A' (frT w es nx).2.1 (frT w es nx).2.2 (markT N [(p, pm)] w k).2 ∧ Pw (RelM mo A') (markT N [(p, pm)] w k).1 (seenL w [(p, pm)] es nx)
  | .u8, A, es, nx, k, h, hw, hk => ⟨A, fun _ h => h, h, trivial⟩
  | .param, A, es, nx, k, h, hw, hk => ⟨A, fun _ h => h, h, Pw.num fun i hi => by rw [show i = p from by simpa [rgs] using hi]; exact .inl ⟨rfl, hp⟩⟩
  | .ref r m t, A, es, nx, k, h, hw, hk => by
    simp only [Ty.ht] at hk
    obtain ⟨A1, s1, a1, r1⟩ := h.step hN (by omega) h0 hw.1
    have := markR_le N r k
    obtain ⟨A2, s2, a2, r2⟩ := Ass.ty hN h0 hp (pm := pm) a1 hw.2 (by omega)
    exact ⟨A2, fun x hx => s2 x (s1 x hx), a2, RelM.mono s2 _ _ r1, rfl, r2⟩
noncomputable abbrev numP (x : Int × Int) : Rg × Rg := (.num x.1, .num x.2)
structure CallPlain (mo nx nx' : Int) (P : List (Rg × Rg)) (mine : List (Int × Int)) : Prop where
  le : nx ≤ nx'
  nodes : ∀ x ∈ mine, ∀ i, (i = x.1 ∨ i = x.2) → (nx ≤ i ∧ i < nx') ∨ (i ≤ mo ∧ ∃ y ∈ P, y.1 = .num i ∨ y.2 = .num i)
  reach : ∀ ws : List Int, (∀ i ∈ ws, i ≤ mo) → reachL (mine.map numP) ws = reachL P ws
theorem Reach.nums {E : List (Int × Int)} {b e : Int} : Reach (E.map numP) (.num b) (.num e) ↔ Reach E b e := by
  refine (Reach.iff (R := fun i r => r = Rg.num i) ⟨fun x hx => ⟨numP x, List.mem_map_of_mem hx, rfl, rfl⟩, fun y hy => ?_⟩ (fun a b c h k => by rw [h, k]) (fun a b c h k => by rw [h] at k; injection k) rfl rfl).symm
  obtain ⟨x, hx, rfl⟩ := List.mem_map.mp hy
  exact ⟨x, hx, rfl, rfl⟩
theorem call_plain {N : Nat} {mo p nx : Int} {pm : Bool} (hN : N < 3) (h0 : 0 ≤ mo) (hp : p ≤ mo) (hnx : mo < nx) {w0 w1 w2 : Ty} (o0 : okW w0) (o1 : okW w1) (o2 : okW w2) (t0 : w0.ht ≤ 2) (t1 : w1.ht ≤ 2) (t2 : w2.ht ≤ 2) {g0 g1 g2 : List (Int × Bool)}
    (b0 : ∀ i ∈ rgs g0, i ≤ mo) (b1 : ∀ i ∈ rgs g1, i ≤ mo) (b2 : ∀ i ∈ rgs g2, i ≤ mo) (m0 m1 m2 : List (Rg × Bool)) (k1 k2 k3 : Nat) (e0 : markT N [(p, pm)] w0 0 = (m0, k1)) (e1 : markT N [(p, pm)] w1 k1 = (m1, k2)) (e2 : markT N [(p, pm)] w2 k2 = (m2, k3)) (hk1 : k1 ≤ 2) (hk2 : k2 ≤ 4) :
    CallPlain mo nx (sgL w0 w1 w2 [(p, pm)] nx).nx (edgesL false (numL g0) m0 ++ edgesL false (numL g1) m1 ++ edgesL false m2 (numL g2)) (callRows (sgL w0 w1 w2 [(p, pm)] nx) g0 g1 g2) := by
  have a0 : Ass N nx [] [("'static", 0)] nx 0 := by
    refine ⟨⟨Int.le_refl _, fun _ h => (by cases h), fun _ h => (by cases h), fun _ h => (by cases h)⟩, rfl, fun i => ⟨fun h => ?_, fun h => (by cases h)⟩, fun i => ⟨fun h => ?_, fun h => (by cases h)⟩, fun _ _ _ _ h => (by cases h)⟩
    · rw [show ([("'static", (0 : Int))] : List (Str × Int)).lookup ("'a" : Str) = none from by decide +kernel] at h; cases h
    · rw [show ([("'static", (0 : Int))] : List (Str × Int)).lookup ("'b" : Str) = none from by decide +kernel] at h; cases h
  obtain ⟨A1, s1, a1, r1⟩ := a0.ty (pm := pm) hN h0 hp o0 (by omega)
  rw [e0] at a1 r1
  obtain ⟨A2, s2, a2, r2⟩ := a1.ty (pm := pm) hN h0 hp o1 (by show k1 + _ ≤ _; omega)
  rw [show markT N [(p, pm)] w1 (m0, k1).2 = (m1, k2) from e1] at a2 r2
  obtain ⟨A3, s3, a3, r3⟩ := a2.ty (pm := pm) hN h0 hp o2 (by show k2 + _ ≤ _; omega)
  rw [show markT N [(p, pm)] w2 (m1, k2).2 = (m2, k3) from e2] at a3 r3
  have q0 : Pw (RelM mo A3) m0 (sgL w0 w1 w2 [(p, pm)] nx).i0 := Pw.mono (RelM.mono fun x h => s3 x (s2 x h)) r1
  have q1 : Pw (RelM mo A3) m1 (sgL w0 w1 w2 [(p, pm)] nx).i1 := Pw.mono (RelM.mono s3) r2
  have q2 : Pw (RelM mo A3) m2 (sgL w0 w1 w2 [(p, pm)] nx).o := r3
  have hb : AssB nx A3 (sgL w0 w1 w2 [(p, pm)] nx).nx := a3.b
  clear r1 r2 r3 a1 a2 a3 a0 s1 s2 s3
  generalize sgL w0 w1 w2 [(p, pm)] nx = S at *
  have num : ∀ {g : List (Int × Bool)}, (∀ i ∈ rgs g, i ≤ mo) → Pw (RelM mo A3) (numL g) g := fun h => Pw.num fun i hi => .inl ⟨rfl, h i hi⟩
  have sim := ((Pw.edges (fx := false) (num b0) q0).append (Pw.edges (fx := false) (num b1) q1)).append (Pw.edges (fx := false) q2 (num b2))
  have hmine : ∀ x, x ∈ callRows S g0 g1 g2 ↔ x.1 ≠ x.2 ∧ x ∈ rawL false g0 S.i0 ++ rawL false g1 S.i1 ++ rawL false S.o g2 := fun x => by
    unfold callRows
    simp only [List.mem_append, mem_relatedL]
    constructor
    · rintro ((h | h) | h)
      · exact ⟨h.1, .inl (.inl h.2)⟩
      · exact ⟨h.1, .inl (.inr h.2)⟩
      · exact ⟨h.1, .inr h.2⟩
    · rintro ⟨h, (k | k) | k⟩
      · exact .inl (.inl ⟨h, k⟩)
      · exact .inl (.inr ⟨h, k⟩)
      · exact .inr ⟨h, k⟩
  generalize rawL false g0 S.i0 ++ rawL false g1 S.i1 ++ rawL false S.o g2 = raw at sim hmine
  generalize callRows S g0 g1 g2 = mine at hmine ⊢
  generalize (edgesL false (numL g0) m0 ++ edgesL false (numL g1) m1 ++ edgesL false m2 (numL g2)) = P at sim ⊢
  have fn : ∀ a b c, RelM mo A3 a b → RelM mo A3 a c → b = c := by
    rintro a b c (⟨rfl, _⟩ | ⟨s, rfl, h⟩) (⟨h1, _⟩ | ⟨s', h1, h'⟩)
    · injection h1
    · cases h1
    · cases h1
    · injection h1 with h1
      have := hb.fn _ h _ h' h1
      injection this
  have inj : ∀ a b c, RelM mo A3 a c → RelM mo A3 b c → a = b := by
    rintro a b c (⟨rfl, h0⟩ | ⟨s, rfl, h⟩) (⟨rfl, h1⟩ | ⟨s', rfl, h'⟩)
    · rfl
    · have := hb.lo _ h'; dsimp only at this; omega
    · have := hb.lo _ h; dsimp only at this; omega
    · have := hb.inj _ h _ h' rfl
      injection this with e _; rw [e]
  have nd : ∀ r i, RelM mo A3 r i → (nx ≤ i ∧ i < S.nx) ∨ (i ≤ mo ∧ r = .num i) := by
    rintro r i (⟨h1, h2⟩ | ⟨s, h1, h2⟩)
    · exact .inr ⟨h2, h1⟩
    · exact .inl (hb.lo _ h2)
  refine ⟨hb.le, fun x hx i hi => ?_, fun ws hws => ?_⟩
  · obtain ⟨y, hy, c1, c2⟩ := sim.of x ((hmine x).mp hx).2
    rcases hi with rfl | rfl
    · exact (nd _ _ c1).elim .inl fun q => .inr ⟨q.1, y, hy, .inl q.2⟩
    · exact (nd _ _ c2).elim .inl fun q => .inr ⟨q.1, y, hy, .inr q.2⟩
  · have key : ∀ b e, b ∈ ws → e ∈ ws → (Reach (mine.map numP) (.num b) (.num e) ↔ Reach P (.num b) (.num e)) := fun b e hb' he => by
      rw [Reach.nums, Reach.iff sim fn inj (.inl ⟨rfl, hws b hb'⟩) (.inl ⟨rfl, hws e he⟩)]
      constructor
      · exact fun h => h.diag fun x hx => .inl ((hmine x).mp hx).2
      · refine fun h => h.diag fun x hx => ?_
        by_cases q : x.1 = x.2
        · exact .inr q
        · exact .inl ((hmine x).mpr ⟨q, hx⟩)
    unfold reachL
    have fl : ∀ (f g : Int → List (Int × Int)) (l : List Int), (∀ b ∈ l, f b = g b) → l.flatMap f = l.flatMap g := by
      intro f g l
      induction l with
      | nil => intro _; rfl
      | cons x r ih =>
        intro h
        rw [List.flatMap_cons, List.flatMap_cons, h x (.head _), ih fun y hy => h y (.tail _ hy)]
    refine fl _ _ ws fun b hb' => ?_
    congr 1
    refine List.filter_congr fun e he => ?_
    rw [decide_eq_decide.mpr (key b e hb' he)]
end Mine
set_option maxRecDepth 100000
set_option autoImplicit false
set_option maxHeartbeats 4000000
namespace Mine
open PySem PySem.W PyProof.Rows PySem.Calls PySem.SeqAt
noncomputable def Ty.gl : Ty → Nat
  | .u8 => 0
  | .param => 1
  | .ref _ _ t => t.gl + 1
theorem Giv.len {pm : Bool} : ∀ {w : Ty} {g : List (Int × Bool)}, Giv pm w g → g.length = w.gl
  | .u8, g, h => by rw [show g = [] from h]; rfl
  | .param, g, ⟨k, _, _, h⟩ => by rw [h]; rfl
  | .ref r m t, g, ⟨k, g', _, _, h, q⟩ => by rw [h]; show g'.length + 1 = t.gl + 1; rw [q.len]
theorem seenL_gl (p : Int) (pm : Bool) : ∀ (w : Ty) (es : List (Str × Int)) (nx : Int), (seenL w [(p, pm)] es nx).length = w.gl
  | .u8, _, _ => rfl
  | .param, _, _ => rfl
  | .ref r m t, es, nx => by show (seenL t _ _ _).length + 1 = t.gl + 1; rw [seenL_gl p pm t]
theorem markT_gl (N : Nat) (p : Int) (pm : Bool) : ∀ (w : Ty) (k : Nat), (markT N [(p, pm)] w k).1.length = w.gl
  | .u8, _ => rfl
  | .param, _ => rfl
  | .ref r m t, k => by show (markT N _ t _).1.length + 1 = t.gl + 1; rw [markT_gl N p pm t]
theorem markT_k (N : Nat) (pl : List (Int × Bool)) : ∀ (w : Ty) (k : Nat), (markT N pl w k).2 ≤ k + w.ht
  | .u8, _ => Nat.le_add_right _ _
  | .param, _ => Nat.le_add_right _ _
  | .ref r m t, k => by
    show (markT N pl t (markR N r k).2).2 ≤ k + (t.ht + 1)
    have := markT_k N pl t (markR N r k).2
    have := markR_le N r k
    omega
theorem WantOk.okW {hp : Bool} {w : Ty} (h : WantOk hp w) : okW w := by
  rcases h with ⟨_, rfl⟩ | ⟨r, m, hr, rfl | ⟨r', hr', rfl⟩⟩
  · exact trivial
  · exact ⟨hr, trivial⟩
  · exact ⟨hr, hr', trivial⟩
theorem WantOk.ht {hp : Bool} {w : Ty} (h : WantOk hp w) : w.ht ≤ 2 := by
  rcases h with ⟨_, rfl⟩ | ⟨r, m, hr, rfl | ⟨r', hr', rfl⟩⟩ <;> simp [Ty.ht]
theorem WantOk.gl {hp : Bool} {w : Ty} (h : WantOk hp w) : w.gl ≤ 2 := by
  rcases h with ⟨_, rfl⟩ | ⟨r, m, hr, rfl | ⟨r', hr', rfl⟩⟩ <;> simp [Ty.gl]
theorem okN_M {r : Rg} (hr : r ∈ okN) : r.okM := by
  have hr' : r = .name "'a" ∨ r = .name "'b" ∨ r = .name "'static" ∨ r = .anon := by simpa [okN] using hr
  have l1 : Str.length "'a" ≤ 100 := by decide +kernel
  have l2 : Str.length "'b" ≤ 100 := by decide +kernel
  have l3 : Str.length "'static" ≤ 100 := by decide +kernel
  rcases hr' with rfl | rfl | rfl | rfl
  · exact ⟨by decide +kernel, l1⟩
  · exact ⟨by decide +kernel, l2⟩
  · exact ⟨by decide +kernel, l3⟩
  · exact trivial
theorem okN_R {r : Rg} (hr : r ∈ okN) : r.ok := by
  have hr' : r = .name "'a" ∨ r = .name "'b" ∨ r = .name "'static" ∨ r = .anon := by simpa [okN] using hr
  rcases hr' with rfl | rfl | rfl | rfl
  · exact ⟨by decide +kernel, by decide +kernel⟩
  · exact ⟨by decide +kernel, by decide +kernel⟩
  · exact ⟨by decide +kernel, by decide +kernel⟩
  · exact trivial
theorem WantOk.okM {hp : Bool} {w : Ty} (h : WantOk hp w) : w.okM := by
  rcases h with ⟨_, rfl⟩ | ⟨r, m, hr, rfl | ⟨r', hr', rfl⟩⟩
  · exact trivial
  · exact ⟨okN_M hr, trivial⟩
  · exact ⟨okN_M hr, okN_M hr', trivial⟩
theorem WantOk.okR {hp : Bool} {w : Ty} (h : WantOk hp w) : w.okR := by
  rcases h with ⟨_, rfl⟩ | ⟨r, m, hr, rfl | ⟨r', hr', rfl⟩⟩
  · exact trivial
  · exact ⟨okN_R hr, trivial⟩
  · exact ⟨okN_R hr, okN_R hr', trivial⟩
structure CS where
  c : CallT
  w0 : Ty
  w1 : Ty
  w2 : Ty
  g0 : List (Int × Bool)
  g1 : List (Int × Bool)
  g2 : List (Int × Bool)
  P : List (Rg × Rg)
noncomputable def CS.ks (s : CS) : List (List (Int × Bool)) := [s.g0, s.g1, s.g2]
structure CSOk (i : Nat) (s : CS) (p : Int) (pm : Bool) (m0 m1 m2 : List (Rg × Bool)) (k1 k2 k3 : Nat) : Prop where
  pe : s.c.p = [(p, pm)]
  p1 : 1 ≤ p
  i0 : Giv pm s.w0 s.g0
  i1 : Giv pm s.w1 s.g1
  i2 : Giv pm s.w2 s.g2
  e0 : markT i [(p, pm)] s.w0 0 = (m0, k1)
  e1 : markT i [(p, pm)] s.w1 k1 = (m1, k2)
  e2 : markT i [(p, pm)] s.w2 k2 = (m2, k3)
  P : s.P = edgesL false (numL s.g0) m0 ++ edgesL false (numL s.g1) m1 ++ edgesL false m2 (numL s.g2)
  o0 : WantOk true s.w0
  o1 : WantOk false s.w1
  o2 : WantOk true s.w2
  first : s.c.first = 3 * i
  mv : s.c.mv = true
  target : s.c.target = i + 1
noncomputable def CallsOk (cs : List CS) : Prop := ∀ i s, cs[i]? = some s → ∃ p pm m0 m1 m2 k1 k2 k3, CSOk i s p pm m0 m1 m2 k1 k2 k3
noncomputable def FF (cs : List CS) (c : CallT) (nx : Int) : List (Int × Int) × Int := match cs[c.first / 3]? with
  | some s => (callRows (sgL s.w0 s.w1 s.w2 c.p nx) s.g0 s.g1 s.g2, (sgL s.w0 s.w1 s.w2 c.p nx).nx)
  | none => ([], nx)
noncomputable def mineOf (R : List Row) (i : Nat) : List (Int × Int) := (R.filter fun r => decide (r.2.2 = ((i : Int), (1 : Int)))).map fun r => (r.1, r.2.1)
theorem mineOf_append (R S : List Row) (i : Nat) : mineOf (R ++ S) i = mineOf R i ++ mineOf S i := by unfold mineOf; rw [List.filter_append, List.map_append]
theorem mineOf_same (l : List (Int × Int)) (i : Nat) : mineOf (l.map (toRow i 1)) i = l := by
  induction l with
  | nil => rfl
  | cons x r ih =>
    show mineOf ([toRow i 1 x] ++ r.map (toRow i 1)) i = x :: r
    rw [mineOf_append, ih]
    simp [mineOf, toRow]
theorem mineOf_other (l : List (Int × Int)) {i j : Nat} (h : j ≠ i) : mineOf (l.map (toRow j 1)) i = [] := by
  unfold mineOf
  rw [List.map_eq_nil_iff, List.filter_eq_nil_iff]
  intro r hr
  obtain ⟨x, _, rfl⟩ := List.mem_map.mp hr
  simp only [toRow, decide_eq_true_eq, Prod.mk.injEq, and_true]
  omega
structure RunOk (F : CallT → Int → List (Int × Int) × Int) (bs : List Blk) (first : Int) (k : Nat) (R : List Row) : Prop where
  pt : ∀ r ∈ R, ∃ (j : Nat) (b : Blk) (c : CallT), j < k ∧ bs[j]? = some b ∧ b.tm = some c ∧ r.2.2 = ((j : Int), (1 : Int))
  mine : ∀ i b c, i < k → bs[i]? = some b → b.tm = some c → mineOf R i = (F c (runTo F bs first i).2).1
  zero : ∀ i, k ≤ i → mineOf R i = []
theorem run_ok (F : CallT → Int → List (Int × Int) × Int) (bs : List Blk) (first : Int) (hst : ∀ b ∈ bs, ∀ c, b.tm = some c → b.st = true) : ∀ k, k ≤ bs.length → RunOk F bs first k (runTo F bs first k).1
  | 0, _ => ⟨fun r hr => (by cases hr), fun i _ _ hi => by omega, fun i _ => rfl⟩
  | k + 1, hk => by
    have ih := run_ok F bs first hst k (by omega)
    have e1 : bs[k]? = some bs[k] := List.getElem?_eq_getElem (by omega)
    have e2 : runTo F bs first (k + 1) = stepBlk F k bs[k] (runTo F bs first k) := by
      show (match bs[k]? with | some b => stepBlk F k b (runTo F bs first k) | none => runTo F bs first k) = _
      rw [e1]
    rw [e2]
    unfold stepBlk
    cases hc : (bs[k]).tm with
    | none =>
      dsimp only
      refine ⟨fun r hr => ?_, fun i b c hi hb hbc => ?_, fun i hi => ih.zero i (by omega)⟩
      · obtain ⟨j, b, c, h1, h2⟩ := ih.pt r hr
        exact ⟨j, b, c, by omega, h2⟩
      · by_cases q : i = k
        · subst q
          rw [e1] at hb
          injection hb with hb
          rw [← hb, hc] at hbc; cases hbc
        · exact ih.mine i b c (by omega) hb hbc
    | some c0 =>
      have hs : ((stAV (bs[k]).st).length : Int) = 1 := by rw [hst bs[k] (List.getElem_mem _) c0 hc]; rfl
      dsimp only
      rw [hs]
      refine ⟨fun r hr => ?_, fun i b c hi hb hbc => ?_, fun i hi => ?_⟩
      · rcases List.mem_append.mp hr with hr | hr
        · obtain ⟨j, b, c, h1, h2⟩ := ih.pt r hr
          exact ⟨j, b, c, by omega, h2⟩
        · obtain ⟨x, hx, rfl⟩ := List.mem_map.mp hr
          exact ⟨k, bs[k], c0, by omega, e1, hc, rfl⟩
      · rw [mineOf_append]
        by_cases q : i = k
        · subst q
          rw [e1] at hb
          injection hb with hb
          rw [← hb, hc] at hbc
          injection hbc with hbc
          rw [ih.zero i (Nat.le_refl _), mineOf_same, hbc, List.nil_append]
        · rw [mineOf_other _ (fun e => q e.symm), List.append_nil]
          exact ih.mine i b c (by omega) hb hbc
      · rw [mineOf_append, ih.zero i (by omega), mineOf_other _ (by omega), List.append_nil]
structure RowsOk (mo : Int) (cs : List CS) (R : List Row) (lo : Nat → Int) : Prop where
  lo0 : mo < lo 0
  mono : ∀ i, i < cs.length → lo i ≤ lo (i + 1)
  pt : ∀ r ∈ R, ∃ j : Nat, j < cs.length ∧ r.2.2 = ((j : Int), (1 : Int))
  mine : ∀ i s, cs[i]? = some s → CallPlain mo (lo i) (lo (i + 1)) s.P (mineOf R i)
theorem mem_mineOf {R : List Row} {i : Nat} {r : Row} (hr : r ∈ R) (h : r.2.2 = ((i : Int), (1 : Int))) : (r.1, r.2.1) ∈ mineOf R i :=
  List.mem_map.mpr ⟨r, List.mem_filter.mpr ⟨hr, decide_eq_true h⟩, rfl⟩
theorem RowsOk.chain {mo : Int} {cs : List CS} {R : List Row} {lo : Nat → Int} (h : RowsOk mo cs R lo) {i : Nat} : ∀ {j : Nat}, i ≤ j → j ≤ cs.length → lo i ≤ lo j
  | 0, h1, h2 => by rw [show i = 0 by omega]; exact Int.le_refl _
  | j + 1, h1, h2 => by
    by_cases q : i = j + 1
    · rw [q]; exact Int.le_refl _
    · exact Int.le_trans (h.chain (j := j) (by omega) (by omega)) (h.mono j (by omega))
theorem RowsOk.fresh {mo : Int} {cs : List CS} {R : List Row} {lo : Nat → Int} (h : RowsOk mo cs R lo) {i : Nat} (hi : i < cs.length) {x : Int × Int} (hx : x ∈ mineOf R i) {a : Int} (ha : a = x.1 ∨ a = x.2) (hm : mo < a) {r : Row} (hr : r ∈ R) (hn : r.2.2 ≠ ((i : Int), (1 : Int))) : a ≠ r.1 ∧ a ≠ r.2.1 := by
  obtain ⟨j, hj, ej⟩ := h.pt r hr
  have hij : j ≠ i := fun e => hn (by rw [ej, e])
  have h1 := (h.mine i _ (List.getElem?_eq_getElem hi)).nodes x hx a ha
  have h2 := fun b hb => (h.mine j _ (List.getElem?_eq_getElem hj)).nodes (r.1, r.2.1) (mem_mineOf hr ej) b hb
  have r1 : lo i ≤ a ∧ a < lo (i + 1) := h1.elim id fun q => absurd q.1 (by omega)
  have key : ∀ b, (b = r.1 ∨ b = r.2.1) → a ≠ b := fun b hb e => by
    subst e
    have q : lo j ≤ a ∧ a < lo (j + 1) := (h2 a hb).elim id fun q => absurd q.1 (by omega)
    rcases Nat.lt_or_ge i j with c | c
    · have := h.chain (i := i + 1) (j := j) (by omega) (by omega); omega
    · have := h.chain (i := j + 1) (j := i) (by omega) (by omega); omega
  exact ⟨key _ (.inl rfl), key _ (.inr rfl)⟩
noncomputable def blksOf (cs : List CS) (addr : List (Addr × Addr)) (last : Addr × Addr) : List Blk := (cs.zip addr).map (fun x => ⟨x.2.1, x.2.2, true, some x.1.c⟩) ++ [⟨last.1, last.2, false, none⟩]
theorem rows_ok {cs : List CS} {bs : List Blk} {mo M : Int} (hcs : CallsOk cs) (hn : cs.length ≤ 3) (hlen : bs.length = cs.length + 1) (hb : ∀ (i : Nat) (s : CS), cs[i]? = some s → ∃ b : Blk, bs[i]? = some b ∧ b.tm = some s.c ∧ b.st = true)
    (hl : ∀ b : Blk, bs[cs.length]? = some b → b.tm = none) (h0 : 0 ≤ mo) (hM : mo ≤ M) (hg : ∀ s ∈ cs, ∀ g ∈ s.ks, ∀ i ∈ rgs g, i ≤ mo) (hp : ∀ s ∈ cs, ∀ x ∈ s.c.p, x.1 ≤ mo) :
    RowsOk mo cs (runTo (FF cs) bs (M + 1) bs.length).1 (fun i => (runTo (FF cs) bs (M + 1) i).2) := by
  have hst : ∀ b ∈ bs, ∀ c, b.tm = some c → b.st = true := fun b hbm c hc => by
    obtain ⟨i, hi⟩ := List.mem_iff_getElem?.mp hbm
    have hil := (List.getElem?_eq_some_iff.mp hi).1
    by_cases q : i = cs.length
    · subst q; rw [hl b hi] at hc; cases hc
    · obtain ⟨b', e1, _, e3⟩ := hb i _ (List.getElem?_eq_getElem (show i < cs.length by omega))
      rw [hi] at e1; injection e1 with e1; rw [e1]; exact e3
  have hrun := run_ok (FF cs) bs (M + 1) hst bs.length (Nat.le_refl _)
  have step : ∀ i s, cs[i]? = some s → runTo (FF cs) bs (M + 1) (i + 1) = stepBlk (FF cs) i (bs[i]?.getD ⟨0, 0, false, none⟩) (runTo (FF cs) bs (M + 1) i) := fun i s hs => by
    obtain ⟨b, e1, e2, e3⟩ := hb i s hs
    show (match bs[i]? with | some b => stepBlk (FF cs) i b (runTo (FF cs) bs (M + 1) i) | none => runTo (FF cs) bs (M + 1) i) = _
    rw [e1]; rfl
  have call : ∀ i s, cs[i]? = some s → mo < (runTo (FF cs) bs (M + 1) i).2 → CallPlain mo (runTo (FF cs) bs (M + 1) i).2 (runTo (FF cs) bs (M + 1) (i + 1)).2 s.P (FF cs s.c (runTo (FF cs) bs (M + 1) i).2).1 := fun i s hs hlo => by
    obtain ⟨p, pm, m0, m1, m2, k1, k2, k3, ok⟩ := hcs i s hs
    have hi : i < cs.length := (List.getElem?_eq_some_iff.mp hs).1
    have hsm := List.mem_of_getElem? hs
    obtain ⟨b, e1, e2, e3⟩ := hb i s hs
    have eF : ∀ nx, FF cs s.c nx = (callRows (sgL s.w0 s.w1 s.w2 [(p, pm)] nx) s.g0 s.g1 s.g2, (sgL s.w0 s.w1 s.w2 [(p, pm)] nx).nx) := fun nx => by
      unfold FF
      rw [ok.first, Nat.mul_div_cancel_left _ (by decide), hs, ok.pe]
    rw [step i s hs, e1]
    simp only [Option.getD_some]
    unfold stepBlk
    rw [e2]
    dsimp only
    rw [eF, ok.P]
    have t0 := ok.o0.ht; have t1 := ok.o1.ht; have t2 := ok.o2.ht
    have q1 := markT_k i [(p, pm)] s.w0 0
    rw [ok.e0] at q1
    have q2 := markT_k i [(p, pm)] s.w1 k1
    rw [ok.e1] at q2
    dsimp only at q1 q2
    exact call_plain (by omega) h0 (hp s hsm (p, pm) (by rw [ok.pe]; exact .head _)) hlo ok.o0.okW ok.o1.okW ok.o2.okW t0 t1 t2 (hg s hsm _ (.head _)) (hg s hsm _ (.tail _ (.head _))) (hg s hsm _ (.tail _ (.tail _ (.head _)))) m0 m1 m2 k1 k2 k3 ok.e0 ok.e1 ok.e2 (by omega) (by omega)
  have low : ∀ i, i ≤ cs.length → mo < (runTo (FF cs) bs (M + 1) i).2 := by
    intro i
    induction i with
    | zero => intro _; show mo < M + 1; omega
    | succ i ih =>
      intro hi
      have h1 := ih (by omega)
      have := (call i _ (List.getElem?_eq_getElem (show i < cs.length by omega)) h1).le
      omega
  refine ⟨low 0 (Nat.zero_le _), fun i hi => (call i _ (List.getElem?_eq_getElem hi) (low i (by omega))).le, fun r hr => ?_, fun i s hs => ?_⟩
  · obtain ⟨j, b, c, h1, h2, h3, h4⟩ := hrun.pt r hr
    by_cases q : j = cs.length
    · subst q; rw [hl b h2] at h3; cases h3
    · exact ⟨j, by omega, h4⟩
  · have hi : i < cs.length := (List.getElem?_eq_some_iff.mp hs).1
    obtain ⟨b, e1, e2, e3⟩ := hb i s hs
    rw [hrun.mine i b s.c (by omega) e1 e2]
    exact call i s hs (low i (by omega))
end Mine
set_option maxRecDepth 100000
set_option autoImplicit false
namespace Mine
open PySem PySem.W PyProof.Rows PySem.Calls PySem.SeqAt
section
variable {G : Gd} {n : Nat} {env : Env} {σ : Sig} {m : Loc} {it acc : Addr} {target elt e : Expr} {ifs : List Expr} {depth N : Nat} {item : Nat → AV} {I : Nat → Sig} {E : Sig} {ok : Sig → Prop}
noncomputable def CompP (m : Loc) (I : Sig) (J : Sig → Prop) (m₂ : Loc) (σ₃ : Sig) : Prop := (∀ y v, m.lookup y = some v → m₂.lookup y = some v) ∧ ∃ σ' R, J σ' ∧ σ₃.Perm ((I ++ σ') ++ R)
noncomputable def ItemP (G : Gd) (n : Nat) (env : Env) (target elt : Expr) (ifs : List Expr) (acc : Addr) (m : Loc) (σ : Sig) (x : AV) (I : Sig) (J : Sig → Prop) : Prop :=
  WA G n env m σ target x fun m₁ σ₂ => WIfs G n env m₁ ifs σ₂ fun b σ₃ => if b then Emit G n env m₁ σ₃ acc elt fun σ₄ => CompP m I J m₁ σ₄ else CompP m I J m₁ σ₃
theorem WCL.eachP {Q : Loc → Sig → Prop} (turn : ∀ {m σ}, CTurn G n e depth it acc env target elt ifs m σ Q → WCL G n e depth it acc env m σ Q) (S : Src G n it target N item I E ok) (J : Nat → Sig → Prop) (hok : ∀ i σ, J i σ → ok σ)
    (step : ∀ i σ, i < N → J i σ → ItemP G n env target elt ifs acc m (I (i + 1) ++ σ) (item i) (I (i + 1)) (J (i + 1)))
    (fin : ∀ σ, J N σ → Q m (E ++ σ)) (h0 : J 0 σ) : WCL G n e depth it acc env m (I 0 ++ σ) Q := by
  have key : ∀ k i σ, i + k = N → J i σ → WCL G n e depth it acc env m (I i ++ σ) Q := by
    intro k
    induction k with
    | zero => intro i σ hi hj; have : i = N := by omega
              subst this; exact turn (S.done _ _ _ (hok i _ hj) (fin _ hj))
    | succ k ih =>
      intro i σ hi hj
      refine turn (S.item i _ _ _ (by omega) (hok i _ hj) ?_)
      have hs := step i σ (by omega) hj
      intro v A Φ s F hr rv hst
      refine wpAny_mono (hs v A Φ s F hr rv hst) (fun _ s2 h2 => ?_) noE
      obtain ⟨Φ2, m2, σ2, x2, st2, q2⟩ := h2
      refine ⟨Φ2, m2, σ2, x2, st2, WIfs.mono (fun b σ3 q3 => ?_) q2⟩
      cases b with
      | true => exact Emit.mono q3 fun σ4 ⟨hm, σ', R, hj', p⟩ => WCL.pre (ih (i + 1) σ' (by omega) hj') p hm
      | false => obtain ⟨hm, σ', R, hj', p⟩ := q3; exact WCL.pre (ih (i + 1) σ' (by omega) hj') p hm
  exact key N 0 σ (by omega) h0
end
end Mine
set_option maxRecDepth 100000
set_option autoImplicit false
set_option maxHeartbeats 4000000
namespace Mine
open PySem PySem.W PyProof.Rows PySem.Calls PySem.SeqAt
section
variable {G : Gd} {n : Nat} {σ : Sig}
theorem WCL.flat1 {α : Type} {env : Env} {m : Loc} {it acc : Addr} {target elt e : Expr} {ifs : List Expr} {depth : Nat} {I : Nat → Sig} {E R : Sig} {ok : Sig → Prop} {Q : Loc → Sig → Prop} (turn : ∀ {m σ}, CTurn G n e depth it acc env target elt ifs m σ Q → WCL G n e depth it acc env m σ Q)
    {xs : List α} {f : α → AV} (S : Src G n it target (xs.map f).length (fun i => (xs.map f).getD i .none) I E ok) (g : α → List AV) (k : Nat) (hz : xs.length * k ≤ 900) (hk : ∀ x ∈ xs, (g x).length ≤ k) (hok : ∀ l, ok ((acc, .list l) :: R))
    (step : ∀ i x l, x ∈ xs → l.length ≤ sizeLine → ItemK G n env target elt ifs acc m (I (i + 1) ++ (acc, .list l) :: R) (f x) (I (i + 1) ++ (acc, .list (l ++ g x)) :: R))
    (fin : Q m (E ++ (acc, .list (xs.flatMap g)) :: R)) : WCL G n e depth it acc env m (I 0 ++ (acc, .list []) :: R) Q := by
  have hl : ∀ i, ((xs.take i).flatMap g).length ≤ sizeLine := fun i => by
    have := flat_len (f := g) (k := k) (xs := xs.take i) fun y hy => hk y (List.mem_of_mem_take hy)
    have h2 : (xs.take i).length * k ≤ xs.length * k := Nat.mul_le_mul_right _ (by rw [List.length_take]; omega)
    exact Nat.le_trans (by omega : _ ≤ 900) (by decide)
  refine WCL.each turn S (fun i => (acc, .list ((xs.take i).flatMap g)) :: R) (fun i _ => hok _) ?_ ?_
  · intro i hi
    obtain ⟨x, hx⟩ := get_of_lt hi
    rw [getD_map f hx, flat_take g hx]
    exact step i x _ (List.mem_of_getElem? hx) (hl i)
  · rw [List.length_map, List.take_length]; exact fin
theorem WCL.flat2 {α : Type} {env : Env} {m : Loc} {it acc : Addr} {target e i' : Expr} {ifs : List Expr} {I : Nat → Sig} {E R : Sig} {ok : Sig → Prop} {Q : Loc → Sig → Prop} (turn : ∀ {m σ}, CTurn2 G n e it acc env target i' ifs m σ Q → WCL G n e 0 it acc env m σ Q)
    {xs : List α} {f : α → AV} (S : Src G n it target (xs.map f).length (fun i => (xs.map f).getD i .none) I E ok) (g : α → List AV) (k : Nat) (hz : xs.length * k ≤ 900) (hk : ∀ x ∈ xs, (g x).length ≤ k) (hok : ∀ l, ok ((acc, .list l) :: R))
    (step : ∀ i x l, x ∈ xs → l.length ≤ 900 → WA G n env m (I (i + 1) ++ (acc, .list l) :: R) target (f x) fun m₁ σ₂ => WIfs G n env m₁ ifs σ₂ fun b σ₃ =>
      if b then WEF G n env m₁ σ₃ i' fun a σ₄ => W1 G n pyIter a σ₄ fun bb σ₅ => ∃ it', bb = .raw (.ref it') ∧ WCS G n e 1 it' acc env m₁ σ₅ fun m₂ σ₆ => CompK m (I (i + 1) ++ (acc, .list (l ++ g x)) :: R) m₂ σ₆
      else CompK m (I (i + 1) ++ (acc, .list (l ++ g x)) :: R) m₁ σ₃)
    (fin : Q m (E ++ (acc, .list (xs.flatMap g)) :: R)) : WCL G n e 0 it acc env m (I 0 ++ (acc, .list []) :: R) Q := by
  have hl : ∀ i, ((xs.take i).flatMap g).length ≤ 900 := fun i => by
    have := flat_len (f := g) (k := k) (xs := xs.take i) fun y hy => hk y (List.mem_of_mem_take hy)
    have h2 : (xs.take i).length * k ≤ xs.length * k := Nat.mul_le_mul_right _ (by rw [List.length_take]; omega)
    omega
  refine WCL.each2 turn S (fun i => (acc, .list ((xs.take i).flatMap g)) :: R) (fun i _ => hok _) ?_ ?_
  · intro i hi
    obtain ⟨x, hx⟩ := get_of_lt hi
    rw [getD_map f hx, flat_take g hx]
    exact step i x _ (List.mem_of_getElem? hx) (hl i)
  · rw [List.length_map, List.take_length]; exact fin
theorem LoopP.skip {m m₂ : Loc} {I : Sig} {J : Sig → Prop} {fl : AFl} {g : Addr × AObj} (h : LoopP m I J fl m₂ σ) : LoopP m I J fl m₂ (g :: σ) :=
  ⟨h.1, h.2.1, let ⟨σ', R, hj, p⟩ := h.2.2; ⟨σ', g :: R, hj, (p.cons g).trans List.perm_middle.symm⟩⟩
theorem LoopP.same {m m₂ : Loc} {I : Sig} {J : Sig → Prop} {σ' : Sig} (h : ∀ y v, m.lookup y = some v → m₂.lookup y = some v) (hj : J σ') : LoopP m I J .next m₂ (I ++ σ') := ⟨.inl rfl, h, σ', [], hj, by rw [List.append_nil]⟩
theorem CompP.same {m m₂ : Loc} {I : Sig} {J : Sig → Prop} {σ' : Sig} (h : ∀ y v, m.lookup y = some v → m₂.lookup y = some v) (hj : J σ') : CompP m I J m₂ (I ++ σ') := ⟨h, σ', [], hj, by rw [List.append_nil]⟩
theorem CompP.perm {m m₂ : Loc} {I σ' : Sig} {J : Sig → Prop} (h : CompP m I J m₂ σ') (p : σ.Perm σ') : CompP m I J m₂ σ := ⟨h.1, let ⟨s, R, hj, q⟩ := h.2; ⟨s, R, hj, p.trans q⟩⟩
theorem flat_one {α β : Type} (f : α → β) (xs : List α) : (xs.flatMap fun x => [f x]) = xs.map f := by induction xs <;> simp_all
theorem flat_if {α β : Type} (p : α → Bool) (f : α → β) (xs : List α) : (xs.flatMap fun x => if p x then [f x] else []) = (xs.filter p).map f := by
  induction xs with
  | nil => rfl
  | cons x r ih => rw [List.flatMap_cons, ih, List.filter_cons]; cases p x <;> rfl
end
end Mine
set_option maxRecDepth 100000
set_option autoImplicit false
set_option maxHeartbeats 4000000
namespace Mine
open PySem PySem.W PyProof.Rows PySem.Calls PySem.SeqAt
section
variable {G : Gd} {n : Nat} {σ : Sig}
theorem c_reached (hK : KOk G) (hn : 3 ≤ n) (p w : Addr) (E : List (Rg × Rg)) (ws : List Int) (hp : (p, .list (E.map prR)) ∈ σ) (hw : (w, .list (ws.map .int)) ∈ σ) (hE : ∀ x ∈ E, x.1.okP ∧ x.2.okP) (hEl : E.length ≤ 100)
    (hs : ws.Pairwise (· < ·)) (h8 : ws.length ≤ 8) {Q : AV → Sig → Prop} (h : ∀ c, Q (.raw (.ref c)) ((c, .list ((reachL E ws).map prI)) :: σ)) :
    WCall G n (.raw (.ref 477)) [.raw (.ref p), .raw (.ref w)] σ Q := by
  refine ⟨WK.fn (by rw [hK]; rfl), .of (.le (k := 2+1) ?_ (by omega))⟩
  refine WCd.def [("pairs", .raw (.ref p)), ("wanted", .raw (.ref w))] [("pairs", .raw (.ref p)), ("wanted", .raw (.ref w))] (fun L => [("here", L + 3), ("seen", L + 2), ("begin", L + 1)]) (fun L => (L + 3, AObj.cell (none)) :: (L + 2, AObj.cell (none)) :: (L + 1, AObj.cell (none)) :: σ) (by rw [hK]; rfl) (by rw [hK]; rfl) (HB.plain (names := ["pairs", "wanted"]) ?hb rfl rfl) rfl rfl ?nd (by decide) rfl (fun _ => rfl) (fun _ => rfl) ?_
  case hb => exact len2 fun _ _ => rfl
  case nd => exact (by decide : (["pairs", "wanted"] : List Str).Nodup)
  intro L
  walk_at "x*"
  rename_i fa it
  refine WF.eachP (Src.list (ws.map .int)) (fun i σ' => ∃ x1 x2 x3, σ' = (fa, .list (((ws.take i).flatMap (endsL E ws)).map prI)) :: (L + 3, .cell x3) :: (L + 2, .cell x2) :: (L + 1, .cell x1) :: σ) (fun i σ' ⟨x1, x2, x3, e⟩ => by subst e; exact .tail _ (.tail _ (.tail _ (.tail _ hw)))) ?_ ?_ ⟨_, _, _, rfl⟩
  · rintro i _ hi ⟨x1, x2, x3, rfl⟩
    obtain ⟨b, hb⟩ := get_of_lt hi
    rw [getD_map AV.int hb]
    dsimp only [List.cons_append, List.nil_append]
    walk_at "x*"
    rename_i sa it2
    refine WF.eachG (E.length + 1) (fun j σ' => ∃ sl x3, SInv E b sl j ∧ σ' = (sa, .list (sl.map Rg.av)) :: (it, .listIter w (i + 1)) :: (fa, .list (((ws.take i).flatMap (endsL E ws)).map prI)) :: (L + 3, .cell x3) :: (L + 2, .cell (some (.raw (.ref sa)))) :: (L + 1, .cell (some (.int b))) :: σ) ?_ ⟨[.num b], _, SInv.start E b, rfl⟩
    rintro j _ ⟨sl, x3', inv, rfl⟩
    refine ⟨sl.map Rg.av, .head _, ?_⟩
    have hbd := inv.bound
    rcases Nat.lt_or_ge j sl.length with hj | hj
    · left
      have hx : sl[j]? = some sl[j] := List.getElem?_eq_getElem hj
      generalize sl[j] = x at hx
      have hxm := List.mem_of_getElem? hx
      have hinv' := inv.step hE hx
      refine ⟨x.av, by rw [List.getElem?_map, hx]; rfl, by omega, ?_⟩
      walk_at "x*"
      refine WM.list (by walk_at "w mem") PySem.F.slot_list_extend PySem.F.type_list_extend ?_
      walk_at "x*"
      rename_i ita acc C
      refine WCL.pull ita (by walk_at "w at") ?_
      refine WCL.flat1 WCL.turn1 (Src.list (E.map prR)) (fun q => [.tup [prR q, .bool true]]) 1 (by omega) (fun _ _ => Nat.le_refl _) (fun l => by walk_at "w mem") ?_ ?_
      · intro k q l hq hl
        dsimp only [List.cons_append, List.nil_append]
        unfold ItemK
        walk_at "x*"
        refine EmitK.mk (by walk_at "w upd") hl ?_
        exact CompK.same (fun y v e => by cases e)
      dsimp only [List.cons_append, List.nil_append]
      have e1 : (E.flatMap fun q => [AV.tup [prR q, .bool true]]) = (E.map keyP).map fun k => .tup [tK k, .bool true] := by
        rw [flat_one, List.map_map]
        exact List.map_congr_left fun q hq => by show AV.tup [prR q, .bool true] = .tup [tK (keyP q), .bool true]; rw [tK_keyP (hE q hq)]
      rw [e1]
      walk_at "x*"
      refine WCall.mk (WK.type _) (WC.dict_tups (E.map keyP) (by rw [List.length_map]; omega) (by walk_at "w mem") ?_)
      intro d
      rw [dedup_map keyP E fun a ha c hc e => keyP_inj (hE a ha) (hE c hc) e]
      obtain ⟨dn, dm⟩ := dedup_spec E
      have hD : ∀ q ∈ dedup E, q.1.okP ∧ q.2.okP := fun q hq => hE q ((dm q).mp hq)
      have hDl := dedup_len E
      have e2 : ((dedup E).map keyP).map tK = (dedup E).map prR := by
        rw [List.map_map]
        exact List.map_congr_left fun q hq => tK_keyP (hD q hq)
      refine W1.iter_tdict (.here ..) ?_
      intro itk
      rw [e2]
      refine ⟨itk, rfl, ?_⟩
      walk_at "x*"
      rename_i acc2 C2
      refine WCL.pull itk (by walk_at "w at") ?_
      have hokx := inv.okp x hxm
      refine WCL.flat1 WCL.turn1 (Src.key ((dedup E).map prR)) (fun q => if decide (q.1 = x) && !decide (q.2 ∈ sl) then [q.2.av] else []) 1 (by omega) (fun _ _ => by split <;> simp) (fun l => trivial) ?_ ?_
      · intro k q l hq hl
        dsimp only [List.cons_append, List.nil_append]
        obtain ⟨hq1, hq2⟩ := hD q hq
        unfold ItemK
        walk_at "x*"
        refine W2.eq_rg hq1 hokx ?_
        by_cases c1 : q.1 = x
        · rw [decide_eq_true c1]
          walk_at "x*"
          refine W2.notin_rg (by walk_at "w mem") (inv.okp) hq2 ?_
          by_cases c2 : q.2 ∈ sl
          · rw [decide_eq_true c2]
            walk_at "x*"
            simp only [Bool.not_true, Bool.and_false, Bool.false_and, Bool.false_eq_true, if_false, List.append_nil]
            exact CompK.same (fun y v e => by cases e)
          · rw [decide_eq_false c2]
            walk_at "x*"
            refine EmitK.mk (by walk_at "w upd") hl ?_
            exact CompK.same (fun y v e => by cases e)
        · rw [decide_eq_false c1]
          walk_at "x*"
          simp only [Bool.not_true, Bool.and_false, Bool.false_and, Bool.false_eq_true, if_false, List.append_nil]
          exact CompK.same (fun y v e => by cases e)
      dsimp only [List.cons_append, List.nil_append]
      rw [flat_if]
      have e3 : ((dedup E).filter fun q => decide (q.1 = x) && !decide (q.2 ∈ sl)).map (fun q => q.2.av) = (outsL (dedup E) x sl).map Rg.av := by
        unfold outsL; rw [List.map_map]; rfl
      rw [e3]
      walk_at "x*"
      refine WCall.mk (WK.builtin _) (WC.extendNew (by walk_at "w upd") ?_ ?_)
      · have l1 : (outsL (dedup E) x sl).length ≤ (dedup E).length := by unfold outsL; rw [List.length_map]; exact List.length_filter_le ..
        simp only [List.length_map]
        exact Nat.le_trans (by omega : _ ≤ 900) (by decide)
      rw [← List.map_append]
      walk_at "x*"
      exact LoopP.skip (LoopP.skip (LoopP.same (fun _ _ h => h) ⟨_, some x.av, hinv', rfl⟩))
    · right
      refine ⟨by rw [List.length_map]; exact hj, ?_⟩
      walk_at "x*"
      refine WM.list (by walk_at "w mem") PySem.F.slot_list_extend PySem.F.type_list_extend ?_
      walk_at "x*"
      rename_i ita acc C
      refine WCL.pull ita (by walk_at "w at") ?_
      refine WCL.flat1 WCL.turn1 (Src.list (ws.map .int)) (fun e => if decide (Rg.num e ∈ sl) && !decide (e = b) then [prI (b, e)] else []) 1 (by omega) (fun _ _ => by split <;> simp) (fun l => by walk_at "w mem") ?_ ?_
      · intro k q l hq hl
        dsimp only [List.cons_append, List.nil_append]
        unfold ItemK
        walk_at "x*"
        refine W2.in_rg (q := .num q) (by walk_at "w mem") (inv.okp) trivial ?_
        by_cases c1 : Rg.num q ∈ sl
        · rw [decide_eq_true c1]
          walk_at "x*"
          refine W2.ne_int ?_
          by_cases c2 : q = b
          · rw [decide_eq_true c2]
            walk_at "x*"
            simp only [Bool.not_true, Bool.and_false, Bool.false_and, Bool.false_eq_true, if_false, List.append_nil]
            exact CompK.same (fun y v e => by cases e)
          · rw [decide_eq_false c2]
            walk_at "x*"
            refine EmitK.mk (by walk_at "w upd") hl ?_
            exact CompK.same (fun y v e => by cases e)
        · rw [decide_eq_false c1]
          walk_at "x*"
          simp only [Bool.not_true, Bool.and_false, Bool.false_and, Bool.false_eq_true, if_false, List.append_nil]
          exact CompK.same (fun y v e => by cases e)
      dsimp only [List.cons_append, List.nil_append]
      rw [flat_if]
      have e3 : (ws.filter fun e => decide (Rg.num e ∈ sl) && !decide (e = b)).map (fun e => prI (b, e)) = (endsL E ws b).map prI := by
        unfold endsL
        rw [List.map_map]
        congr 1
        refine List.filter_congr fun e _ => ?_
        congr 1
        exact decide_eq_decide.mpr (inv.done hj _)
      rw [e3]
      walk_at "x*"
      refine WCall.mk (WK.builtin _) (WC.extendNew (by walk_at "w upd") ?_ ?_)
      · have l1 := flat_len (f := endsL E ws) (k := 8) (xs := ws.take i) (fun y hy => endsL_len E h8 y)
        have l2 : (ws.take i).length ≤ 8 := by rw [List.length_take]; omega
        have l3 := endsL_len E h8 b
        simp only [List.length_map]
        exact Nat.le_trans (by omega : _ ≤ 900) (by decide)
      rw [← List.map_append, ← flat_take (endsL E ws) hb]
      walk_at "x*"
      exact LoopP.skip (LoopP.skip (LoopP.same (fun _ _ h => h) ⟨_, _, _, rfl⟩))
  · rintro _ ⟨x1, x2, x3, rfl⟩
    dsimp only [List.cons_append, List.nil_append]
    rw [show (List.map AV.int ws).length = ws.length from List.length_map .., List.take_length]
    walk_at "x*"
    rw [← reachL_ends] 
    refine WCall.mk (WK.builtin _) (WC.sorted_pairs (ps := reachL E ws) (by walk_at "w mem") (reachL_asc E hs) (by have := reachL_len E h8; omega) ?_)
    intro c
    exact Fin.sub (Fin.ret (h c)) (.cons_cons _ (.cons _ (.cons _ (.cons _ (.cons _ (.refl _))))))
end
end Mine
set_option maxRecDepth 100000
set_option autoImplicit false
set_option maxHeartbeats 4000000
namespace Mine
open PySem PySem.W PyProof.Rows PySem.Calls PySem.SeqAt
section
variable {G : Gd} {n : Nat} {σ : Sig}
noncomputable def ntyAV (t : List (Int × Bool)) : AV := (nty t).av
structure SigIn (σ : Sig) (sd : List (AK × AV)) (nm : Str) (sx sdx : Addr) (nv rg : AV) (w0 w1 w2 : Ty) : Prop where
  hg : getA sd (.str nm) = some (.obj sx (instObj 389 sdx))
  hsa : (sdx, .attrs (sigA nv rg w0 w1 w2)) ∈ σ
  o0 : WantOk true w0
  o1 : WantOk false w1
  o2 : WantOk true w2
theorem Fin.pull {Q : AV → Sig → Prop} {fl : AFl} {m : Loc} {r : Sig} (a : Addr) {o : AObj} (p : At a o r σ) (h : Fin Q fl m ((a, o) :: r)) : Fin Q fl m σ := let ⟨S, R, q, z⟩ := h; ⟨S, R, p.perm.trans q, z⟩
theorem c_marked_ (hK : KOk G) (tb : Addr) (N : Nat) (hN : N < 20) (p : Int) (pm : Bool) (w : Ty) (hn : w.ht + 1 ≤ n) (k : Nat) (hk : k + w.ht ≤ 20) (ok : w.okM) {m : List (Rg × Bool)} {k' : Nat} (e : markT N [(p, pm)] w k = (m, k')) {Q : AV → Sig → Prop}
    (h : Q (mty m).av ((tb, .dict [(.str "many", .int k')]) :: σ)) :
    WCall G n (.raw (.ref 472)) [w.av, .int N, .raw (.ref tb), (nty [(p, pm)]).av] ((tb, .dict [(.str "many", .int k)]) :: σ) Q := c_marked hK tb N hN p pm w hn k hk ok (by rw [e]; exact h)
theorem numL_len (g : List (Int × Bool)) : (numL g).length = g.length := List.length_map ..
theorem c_edges1 (hK : KOk G) (g : List (Int × Bool)) (t : List (Rg × Bool)) (hn : g.length + 1 ≤ n) (ht : g.length = t.length) (hl : g.length ≤ 100) {Q : AV → Sig → Prop} (h : ∀ c, Q (.raw (.ref c)) ((c, .list ((edgesL false (numL g) t).map prR)) :: σ)) :
    WCall G n (.raw (.ref 465)) [(nty g).av, (mty t).av, .bool false] σ Q := by
  rw [← mty_num g]
  exact c_edges hK (numL g) t false (by rw [numL_len]; exact hn) (by rw [numL_len]; exact ht) (by rw [numL_len]; exact hl) h
theorem c_edges2 (hK : KOk G) (g : List (Int × Bool)) (t : List (Rg × Bool)) (hn : g.length + 1 ≤ n) (ht : g.length = t.length) (hl : g.length ≤ 100) {Q : AV → Sig → Prop} (h : ∀ c, Q (.raw (.ref c)) ((c, .list ((edgesL false t (numL g)).map prR)) :: σ)) :
    WCall G n (.raw (.ref 465)) [(mty t).av, (nty g).av, .bool false] σ Q := by
  rw [← mty_num g]
  exact c_edges hK t (numL g) false (by omega) (by rw [numL_len]; omega) (by omega) h
theorem c_call (hK : KOk G) (hn : 8 ≤ n) (sr wx wdx d1 d2 ds d4 l d5 d6 kl : Addr) (N : Nat) (hN : N < 3) (a b : Int) (hb0 : 0 ≤ b) (hb1 : b < 2147483647) (ks : List (List (Int × Bool))) (hks : ks.length = 3 * N) (sd : List (AK × AV)) (hw : (wdx, .attrs (worldA d1 d2 ds d4 l d5 d6)) ∈ σ) (hs : (ds, .dict sd) ∈ σ)
    (hsg : ∀ nm : Str, (nm = "f" ∨ nm = "g") → ∃ sx sdx nv rg w0 w1 w2, SigIn σ sd nm sx sdx nv rg w0 w1 w2) {Q : AV → Sig → Prop}
    (h : ∀ (s : CS) (p : Int) (pm : Bool) (m0 m1 m2 : List (Rg × Bool)) (k1 k2 k3 : Nat) (pl : Addr) (a' b' : Int), CSOk N s p pm m0 m1 m2 k1 k2 k3 → (s.c.nm = "f" ∨ s.c.nm = "g") → (∃ sx sdx nv rg, SigIn σ sd s.c.nm sx sdx nv rg s.w0 s.w1 s.w2) → 0 ≤ b' → b' < 2147483647 →
      Q (.tup [s.c.av, .raw (.ref pl)]) ((kl, .list ((ks ++ s.ks).map ntyAV)) :: (sr, srcL a' b') :: (pl, .list (s.P.map prR)) :: σ)) :
    WCall G n (.raw (.ref 482)) [.raw (.ref sr), .obj wx (instObj 418 wdx), .int N, .raw (.ref kl)] ((kl, .list (ks.map ntyAV)) :: (sr, srcL a b) :: σ) Q := by
  refine ⟨WK.fn (by rw [hK]; rfl), .of (.le (k := 7+1) ?_ (by omega))⟩
  refine WCd.def [("source", .raw (.ref sr)), ("world", .obj wx (instObj 418 wdx)), ("number", .int N), ("kinds", .raw (.ref kl))] [("world", .obj wx (instObj 418 wdx)), ("kinds", .raw (.ref kl))] (fun L => [("table", L + 4), ("put_in", L + 3), ("number", L + 2), ("source", L + 1)]) (fun L => (L + 4, AObj.cell (none)) :: (L + 3, AObj.cell (none)) :: (L + 2, AObj.cell (some (.int N))) :: (L + 1, AObj.cell (some (.raw (.ref sr)))) :: (kl, .list (ks.map ntyAV)) :: (sr, srcL a b) :: σ) (by rw [hK]; rfl) (by rw [hK]; rfl) (HB.plain (names := ["source", "world", "number", "kinds"]) ?hb rfl rfl) rfl rfl ?nd (by decide) rfl (fun _ => rfl) (fun _ => rfl) ?_
  case hb => exact len4 fun _ _ _ _ => rfl
  case nd => exact (by decide : (["source", "world", "number", "kinds"] : List Str).Nodup)
  intro L
  walk_at "x*"
  rename_i nl
  refine WCall.pull sr (by walk_at "w at") (c_one hK (by omega) sr nl a b [.str "f", .str "g"] (by decide) (by decide) (by walk_at "w mem") hb0 hb1 ?_)
  intro x a1 b1 hx h0 h1
  obtain ⟨nm, hnm, rfl⟩ : ∃ nm : Str, (nm = "f" ∨ nm = "g") ∧ x = .str nm := by
    simp only [List.mem_cons, List.not_mem_nil, or_false] at hx
    exact hx.elim (fun e => ⟨_, .inl rfl, e⟩) (fun e => ⟨_, .inr rfl, e⟩)
  obtain ⟨sx, sdx, nv, rg, w0, w1, w2, hS⟩ := hsg nm hnm
  have hSa := hS.hsa
  walk_at "x*"
  refine W2.item_dict (k := .str nm) (by walk_at "w mem") rfl hS.hg ?_ (by with_unfolding_all exact fun _ _ => rfl)
  walk_at "x*"
  refine c_take hK (by omega) sr a1 b1 9 (by decide) (by decide) h0 h1 ?_
  intro v1 a2 b2 hv1 h0 h1
  walk_at "x*"
  refine c_take hK (by omega) sr a2 b2 2 (by decide) (by decide) h0 h1 ?_
  intro v2 a3 b3 hv2 h0 h1
  walk_at "x*"
  refine W2.eq_int ?_
  generalize decide ((v2 : Int) = ((0 : Nat) : Int)) = pm
  have hp1 : (1 : Int) ≤ 1 + v1 := by omega
  generalize (1 : Int) + v1 = p at hp1 ⊢
  walk_at "x*"
  refine WCall.mk (WK.type _) (WC.list_tup (Nat.le_of_ble_eq_true rfl) ?_)
  intro wl0
  walk_at "x*"
  refine W1.attrK hK (by walk_at "w mem") (by walk_at "r") (by walk_at "r") (Ty.av_hand w2) ?_
  walk_at "x*"
  refine W2.add_list (by walk_at "w mem") (by walk_at "w mem") (Nat.le_of_ble_eq_true rfl) ?_
  intro wl
  walk_at "z*"
  walk_at "v*"
  refine WCall.pull sr (by walk_at "w at") (c_given hK sr p pm w0 (by have := hS.o0.ht; omega) a3 b3 h0 h1 ?_)
  intro g0 a4 b4 hg0 h0 h1
  walk_at "v*"
  refine WCall.pull sr (by walk_at "w at") (c_given hK sr p pm w1 (by have := hS.o1.ht; omega) a4 b4 h0 h1 ?_)
  intro g1 a5 b5 hg1 h0 h1
  walk_at "v*"
  refine WCall.pull sr (by walk_at "w at") (c_given hK sr p pm w2 (by have := hS.o2.ht; omega) a5 b5 h0 h1 ?_)
  intro g2 a6 b6 hg2 h0 h1
  walk_at "v*"
  walk_at "z*"
  walk_at "v*"
  rename_i tb ita acm CC
  obtain ⟨m0, k1, e0⟩ : ∃ m k, markT N [(p, pm)] w0 0 = (m, k) := ⟨_, _, rfl⟩
  obtain ⟨m1, k2, e1⟩ : ∃ m k, markT N [(p, pm)] w1 k1 = (m, k) := ⟨_, _, rfl⟩
  obtain ⟨m2, k3, e2⟩ : ∃ m k, markT N [(p, pm)] w2 k2 = (m, k) := ⟨_, _, rfl⟩
  have t0 := hS.o0.ht; have t1 := hS.o1.ht; have t2 := hS.o2.ht
  have q0 := markT_k N [(p, pm)] w0 0; rw [e0] at q0
  have q1 := markT_k N [(p, pm)] w1 k1; rw [e1] at q1
  have r0 := markT_gl N p pm w0 0; rw [e0, ← hg0.len] at r0
  have r1 := markT_gl N p pm w1 k1; rw [e1, ← hg1.len] at r1
  have r2 := markT_gl N p pm w2 k2; rw [e2, ← hg2.len] at r2
  have z0 := hS.o0.gl; rw [← hg0.len] at z0
  have z1 := hS.o1.gl; rw [← hg1.len] at z1
  have z2 := hS.o2.gl; rw [← hg2.len] at z2
  dsimp only at q0 q1 r0 r1 r2
  refine WCall.pull _ (by walk_at "w at") (c_marked_ hK _ N (by omega) p pm w0 (by omega) 0 (by omega) hS.o0.okM e0 ?_)
  walk_at "v*"
  refine WCall.pull _ (by walk_at "w at") (c_marked_ hK _ N (by omega) p pm w1 (by omega) k1 (by omega) hS.o1.okM e1 ?_)
  walk_at "v*"
  refine WCall.pull _ (by walk_at "w at") (c_marked_ hK _ N (by omega) p pm w2 (by omega) k2 (by omega) hS.o2.okM e2 ?_)
  walk_at "v*"
  have y0 := edgesL_len false (numL g0) m0; rw [numL_len] at y0
  have y1 := edgesL_len false (numL g1) m1; rw [numL_len] at y1
  have y2 := edgesL_len false m2 (numL g2)
  refine WCall.mk (WK.type _) (WC.range1 fun ra ro hro => ?_)
  refine W1.iter_range hro (by decide) fun itr => ?_
  rw [show Builtin.Range.rangeSize 0 2 1 = 2 from rfl]
  refine ⟨itr, rfl, ?_⟩
  refine WF.turn ?_
  refine WN.range_item (left := 2) (by decide) (by walk_at "w upd") ?_
  walk_at "x*"
  refine c_edges1 hK g0 m0 (by omega) (by omega) (by omega) ?_
  intro c0
  walk_at "x*"
  refine W2.add_list (by walk_at "w mem") (by walk_at "w mem") (by simp only [List.length_map, List.length_append, List.length_nil]; exact Nat.le_trans (by omega : _ ≤ 900) (by decide)) ?_
  intro pl1
  walk_at "x*"
  refine WF.turn ?_
  refine WN.range_item (left := 2 - 1) (by decide) (by walk_at "w upd") ?_
  walk_at "x*"
  refine c_edges1 hK g1 m1 (by omega) (by omega) (by omega) ?_
  intro c1
  walk_at "x*"
  refine W2.add_list (by walk_at "w mem") (by walk_at "w mem") (by simp only [List.length_map, List.length_append, List.length_nil]; exact Nat.le_trans (by omega : _ ≤ 900) (by decide)) ?_
  intro pl2
  walk_at "x*"
  refine WF.turn ?_
  refine WN.range_end (left := 2 - 1 - 1) (by decide) (by walk_at "w at") ?_
  walk_at "x*"
  refine c_edges2 hK g2 m2 (by omega) (by omega) (by omega) ?_
  intro c2
  walk_at "x*"
  refine W2.add_list (by walk_at "w mem") (by walk_at "w mem") (by simp only [List.length_map, List.length_append, List.length_nil]; exact Nat.le_trans (by omega : _ ≤ 900) (by decide)) ?_
  intro pl
  walk_at "x*"
  refine WCall.mk (WK.builtin _) (WC.len_list (by walk_at "w mem") (by rw [List.length_map]; omega) ?_)
  rw [show ((ks.map ntyAV).length : Int) = ((3 * N : Nat) : Int) by rw [List.length_map, hks]]
  walk_at "x*"
  refine WM.list (by walk_at "w mem") PySem.F.slot_list_extend PySem.F.type_list_extend ?_
  walk_at "x*"
  refine WCall.pull _ (by walk_at "w at") (WCall.mk (WK.builtin _) (WC.extendNew (by walk_at "w upd") (by simp only [List.length_map, List.length_append, List.length_cons, List.length_nil]; exact Nat.le_trans (by omega : _ ≤ 900) (by decide)) ?_))
  walk_at "x*"
  have eP : ([] ++ (edgesL false (numL g0) m0).map prR ++ (edgesL false (numL g1) m1).map prR ++ (edgesL false m2 (numL g2)).map prR) = (edgesL false (numL g0) m0 ++ edgesL false (numL g1) m1 ++ edgesL false m2 (numL g2)).map prR := by
    simp only [List.map_append, List.nil_append]
  have eK : ks.map ntyAV ++ ([] ++ [(nty g0).av] ++ [(nty g1).av] ++ [(nty g2).av]) = (ks ++ [g0, g1, g2]).map ntyAV := by
    simp only [List.map_append, List.nil_append]; rfl
  rw [eP, eK]
  refine Fin.pull pl (by walk_at "w at") (Fin.pull sr (by walk_at "w at") (Fin.pull kl (by walk_at "w at") ?_))
  refine Fin.sub (Fin.ret (h ⟨⟨nm, [(p, pm)], true, 3 * N, (N : Int) + 1⟩, w0, w1, w2, g0, g1, g2, edgesL false (numL g0) m0 ++ edgesL false (numL g1) m1 ++ edgesL false m2 (numL g2)⟩ p pm m0 m1 m2 k1 k2 k3 pl a6 b6 ⟨rfl, hp1, hg0, hg1, hg2, e0, e1, e2, rfl, hS.o0, hS.o1, hS.o2, rfl, rfl, rfl⟩ hnm ⟨sx, sdx, nv, rg, hS⟩ h0 h1)) ?_
  refine .cons_cons _ (.cons_cons _ (.cons_cons _ ?_))
  repeat (first | exact List.Sublist.refl _ | apply List.Sublist.cons)
end
end Mine
set_option maxRecDepth 100000
set_option autoImplicit false
set_option maxHeartbeats 4000000
namespace Mine
open PySem PySem.W PyProof.Rows PySem.Calls PySem.SeqAt
theorem edges_all {Pd : Rg → Prop} : ∀ (fx : Bool) (g t : List (Rg × Bool)), (∀ x ∈ g, Pd x.1) → (∀ x ∈ t, Pd x.1) → ∀ y ∈ edgesL fx g t, Pd y.1 ∧ Pd y.2
  | fx, (a, m) :: g, (b, m') :: t, hg, ht, y, hy => by
    rw [edgesL_cons] at hy
    have ha := hg (a, m) (.head _)
    have hb := ht (b, m') (.head _)
    rcases List.mem_cons.mp hy with rfl | hy
    · exact ⟨ha, hb⟩
    rcases List.mem_append.mp hy with hy | hy
    · cases fx
      · simp at hy
      · simp only [if_true, List.mem_singleton] at hy
        subst hy; exact ⟨hb, ha⟩
    · exact edges_all _ g t (fun x hx => hg x (.tail _ hx)) (fun x hx => ht x (.tail _ hx)) y hy
  | _, [], _, _, _, y, hy => by unfold edgesL at hy; cases hy
  | _, _ :: _, [], _, _, y, hy => by unfold edgesL at hy; cases hy
theorem dot_ok : ∀ N < 3, ∀ k < 9, PyData.strOk ((("call" ++ sI (N : Nat)) ++ ".") ++ sI ((k : Nat) : Int)) = true := by decide +kernel
theorem nm_ok : ∀ N < 3, PyData.strOk (("call" ++ sI (N : Nat)) ++ "'a") = true ∧ PyData.strOk (("call" ++ sI (N : Nat)) ++ "'b") = true := by decide +kernel
noncomputable def MkOk (p : Int) (r : Rg) : Prop := r.okP ∧ ∀ i, r = .num i → i = p ∨ i = 0
theorem markR_ok {N k : Nat} (hN : N < 3) (hk : k < 8) {r : Rg} (hr : r ∈ okN) (p : Int) : MkOk p (markR N r k).1 := by
  have hr' : r = .name "'a" ∨ r = .name "'b" ∨ r = .name "'static" ∨ r = .anon := by simpa [okN] using hr
  rcases hr' with rfl | rfl | rfl | rfl
  · have e : markR N (.name "'a") k = (.name (("call" ++ sI N) ++ "'a"), k) := by
      show ((if ("'a" : Str) = "'static" then Rg.num 0 else _), k) = _
      rw [if_neg (by decide +kernel)]
    rw [e]; exact ⟨(nm_ok N hN).1, fun i h => by cases h⟩
  · have e : markR N (.name "'b") k = (.name (("call" ++ sI N) ++ "'b"), k) := by
      show ((if ("'b" : Str) = "'static" then Rg.num 0 else _), k) = _
      rw [if_neg (by decide +kernel)]
    rw [e]; exact ⟨(nm_ok N hN).2, fun i h => by cases h⟩
  · have e : markR N (.name "'static") k = (.num 0, k) := by
      show ((if ("'static" : Str) = "'static" then Rg.num 0 else _), k) = _
      rw [if_pos rfl]
    rw [e]; exact ⟨trivial, fun i h => by injection h with h; exact .inr h.symm⟩
  · exact ⟨dot_ok N hN (k + 1) (by omega), fun i h => by cases h⟩
noncomputable def Ty.okW' : Ty → Prop
  | .ref r _ t => r ∈ okN ∧ t.okW'
  | _ => True
theorem WantOk.okW' {hp : Bool} {w : Ty} (h : WantOk hp w) : w.okW' := by
  rcases h with ⟨_, rfl⟩ | ⟨r, m, hr, rfl | ⟨r', hr', rfl⟩⟩
  · exact trivial
  · exact ⟨hr, trivial⟩
  · exact ⟨hr, hr', trivial⟩
theorem markT_ok {N : Nat} (hN : N < 3) (p : Int) (pm : Bool) : ∀ (w : Ty) (k : Nat), w.okW' → k + w.ht ≤ 8 → ∀ x ∈ (markT N [(p, pm)] w k).1, MkOk p x.1
  | .u8, k, _, _, x, hx => by cases hx
  | .param, k, _, _, x, hx => by
    have : x = (.num p, pm) := by simpa [markT, numL] using hx
    subst this
    exact ⟨trivial, fun i h => by injection h with h; exact .inl h.symm⟩
  | .ref r m t, k, h, hk, x, hx => by
    simp only [Ty.ht] at hk
    have hx' : x ∈ ((markR N r k).1, m) :: (markT N [(p, pm)] t (markR N r k).2).1 := hx
    have h2 := markR_le N r k
    rcases List.mem_cons.mp hx' with rfl | hx'
    · exact markR_ok hN (by omega) h.1 p
    · exact markT_ok hN p pm t _ h.2 (by omega) x hx'
noncomputable def NodeOk (L : List Int) (r : Rg) : Prop := r.okP ∧ ∀ i, r = .num i → i ∈ L
theorem numL_ok {L : List Int} {g : List (Int × Bool)} (h : ∀ i ∈ rgs g, i ∈ L) : ∀ x ∈ numL g, NodeOk L x.1 := fun x hx => by
  obtain ⟨y, hy, rfl⟩ := List.mem_map.mp hx
  exact ⟨trivial, fun i e => by injection e with e; subst e; exact h _ (List.mem_map_of_mem hy)⟩
noncomputable def CS.L8 (s : CS) (p : Int) : List Int := rgs s.g0 ++ rgs s.g1 ++ rgs s.g2 ++ [p, 0]
theorem CSOk.nodes {i : Nat} {s : CS} {p : Int} {pm : Bool} {m0 m1 m2 : List (Rg × Bool)} {k1 k2 k3 : Nat} (ok : CSOk i s p pm m0 m1 m2 k1 k2 k3) (hi : i < 3) : ∀ y ∈ s.P, NodeOk (s.L8 p) y.1 ∧ NodeOk (s.L8 p) y.2 := by
  have t0 := ok.o0.ht; have t1 := ok.o1.ht; have t2 := ok.o2.ht
  have q1 := markT_k i [(p, pm)] s.w0 0; rw [ok.e0] at q1
  have q2 := markT_k i [(p, pm)] s.w1 k1; rw [ok.e1] at q2
  dsimp only at q1 q2
  have u : ∀ r, MkOk p r → NodeOk (s.L8 p) r := fun r h => ⟨h.1, fun j e => by rcases h.2 j e with rfl | rfl <;> simp [CS.L8]⟩
  have a0 := markT_ok hi p pm s.w0 0 ok.o0.okW' (by omega); rw [ok.e0] at a0
  have a1 := markT_ok hi p pm s.w1 k1 ok.o1.okW' (by omega); rw [ok.e1] at a1
  have a2 := markT_ok hi p pm s.w2 k2 ok.o2.okW' (by omega); rw [ok.e2] at a2
  have b0 : ∀ x ∈ numL s.g0, NodeOk (s.L8 p) x.1 := numL_ok fun j h => by simp [CS.L8, h]
  have b1 : ∀ x ∈ numL s.g1, NodeOk (s.L8 p) x.1 := numL_ok fun j h => by simp [CS.L8, h]
  have b2 : ∀ x ∈ numL s.g2, NodeOk (s.L8 p) x.1 := numL_ok fun j h => by simp [CS.L8, h]
  intro y hy
  rw [ok.P] at hy
  rcases List.mem_append.mp hy with hy | hy
  · rcases List.mem_append.mp hy with hy | hy
    · exact edges_all _ _ _ b0 (fun x hx => u _ (a0 x hx)) y hy
    · exact edges_all _ _ _ b1 (fun x hx => u _ (a1 x hx)) y hy
  · exact edges_all _ _ _ (fun x hx => u _ (a2 x hx)) b2 y hy
theorem CSOk.glen {i : Nat} {s : CS} {p : Int} {pm : Bool} {m0 m1 m2 : List (Rg × Bool)} {k1 k2 k3 : Nat} (ok : CSOk i s p pm m0 m1 m2 k1 k2 k3) : ∀ g ∈ s.ks, g.length ≤ 2 := fun g hg => by
  have z0 := ok.o0.gl; rw [← ok.i0.len] at z0
  have z1 := ok.o1.gl; rw [← ok.i1.len] at z1
  have z2 := ok.o2.gl; rw [← ok.i2.len] at z2
  simp only [CS.ks, List.mem_cons, List.not_mem_nil, or_false] at hg
  rcases hg with rfl | rfl | rfl <;> assumption
theorem CSOk.L8len {i : Nat} {s : CS} {p : Int} {pm : Bool} {m0 m1 m2 : List (Rg × Bool)} {k1 k2 k3 : Nat} (ok : CSOk i s p pm m0 m1 m2 k1 k2 k3) : (s.L8 p).length ≤ 8 := by
  have h0 := ok.glen s.g0 (.head _)
  have h1 := ok.glen s.g1 (.tail _ (.head _))
  have h2 := ok.glen s.g2 (.tail _ (.tail _ (.head _)))
  simp only [CS.L8, rgs, List.length_append, List.length_map, List.length_cons, List.length_nil]
  omega
theorem CSOk.Plen {i : Nat} {s : CS} {p : Int} {pm : Bool} {m0 m1 m2 : List (Rg × Bool)} {k1 k2 k3 : Nat} (ok : CSOk i s p pm m0 m1 m2 k1 k2 k3) : s.P.length ≤ 12 := by
  have h0 := ok.glen s.g0 (.head _)
  have h1 := ok.glen s.g1 (.tail _ (.head _))
  have h2 := ok.glen s.g2 (.tail _ (.tail _ (.head _)))
  have r2 := markT_gl i p pm s.w2 k2; rw [ok.e2, ← ok.i2.len] at r2
  have y0 := edgesL_len false (numL s.g0) m0
  have y1 := edgesL_len false (numL s.g1) m1
  have y2 := edgesL_len false m2 (numL s.g2)
  have n0 : (numL s.g0).length = s.g0.length := List.length_map ..
  have n1 : (numL s.g1).length = s.g1.length := List.length_map ..
  dsimp only at r2
  rw [ok.P]; simp only [List.length_append]; omega
noncomputable def numsR : Rg → List Int
  | .num i => [i]
  | _ => []
theorem mem_numsR {r : Rg} {i : Int} : i ∈ numsR r ↔ r = .num i := by
  cases r <;> simp [numsR]
  exact eq_comm
noncomputable def intsP (P : List (Rg × Rg)) : List Int := P.flatMap fun y => numsR y.1 ++ numsR y.2
theorem mem_intsP {P : List (Rg × Rg)} {i : Int} : i ∈ intsP P ↔ ∃ y ∈ P, y.1 = .num i ∨ y.2 = .num i := by
  simp only [intsP, List.mem_flatMap, List.mem_append, mem_numsR]
theorem intsP_len (P : List (Rg × Rg)) : (intsP P).length ≤ P.length * 2 := by
  refine flat_len fun y _ => ?_
  rw [List.length_append]
  have h : ∀ r, (numsR r).length ≤ 1 := fun r => by cases r <;> simp [numsR]
  have h1 := h y.1; have h2 := h y.2
  omega
theorem wanted_ok {i : Nat} {s : CS} {p : Int} {pm : Bool} {m0 m1 m2 : List (Rg × Bool)} {k1 k2 k3 : Nat} (ok : CSOk i s p pm m0 m1 m2 k1 k2 k3) (hi : i < 3) {ms : List Int} (h1 : ms.Perm (dedup (intsP s.P))) (h2 : ms.Pairwise (· ≤ ·)) :
    ms.Pairwise (· < ·) ∧ ms.length ≤ 8 ∧ ∀ j, j ∈ ms ↔ ∃ y ∈ s.P, y.1 = .num j ∨ y.2 = .num j := by
  obtain ⟨dn, dm⟩ := dedup_spec (intsP s.P)
  have hn : ms.Nodup := h1.nodup_iff.mpr dn
  have hm : ∀ j, j ∈ ms ↔ ∃ y ∈ s.P, y.1 = .num j ∨ y.2 = .num j := fun j => by rw [h1.mem_iff, dm, mem_intsP]
  refine ⟨?_, ?_, hm⟩
  · refine (List.pairwise_and_iff.mpr ⟨h2, hn⟩ : ms.Pairwise fun a b => a ≤ b ∧ a ≠ b).imp fun ⟨a, b⟩ => by omega
  · refine Nat.le_trans (nodup_len hn fun j hj => ?_) ok.L8len
    obtain ⟨y, hy, e⟩ := (hm j).mp hj
    obtain ⟨n1, n2⟩ := ok.nodes hi y hy
    exact e.elim (n1.2 j) (n2.2 j)
end Mine
set_option maxRecDepth 100000
set_option autoImplicit false
namespace Mine
open PySem PySem.W PyProof.Rows PySem.Calls PySem.SeqAt
section
variable {G : Gd} {n : Nat} {σ : Sig} {env : Env} {K : Sig}
theorem W2.eq_pt {a b c d : Int} {Q : AV → Sig → Prop} (h : Q (.bool (decide ((a, b) = (c, d)))) σ) : W2 G n (compareOp .Eq) (.tup [.int a, .int b]) (.tup [.int c, .int d]) σ Q := by
  refine W2.eq (.av rfl) (.av rfl) (Nat.le_trans (Nat.min_le_right _ _) (Nat.le_of_ble_eq_true rfl)) ?_
  rw [show PyData.eqv (AV.py (.tup [.int a, .int b])) (AV.py (.tup [.int c, .int d])) = _ from eqv_prI (a, b) (c, d)]; exact h
theorem W2.ne_pt {a b c d : Int} {Q : AV → Sig → Prop} (h : Q (.bool (!decide ((a, b) = (c, d)))) σ) : W2 G n (compareOp .NotEq) (.tup [.int a, .int b]) (.tup [.int c, .int d]) σ Q := by
  refine W2.ne (.av rfl) (.av rfl) (Nat.le_trans (Nat.min_le_right _ _) (Nat.le_of_ble_eq_true rfl)) ?_
  rw [show PyData.eqv (AV.py (.tup [.int a, .int b])) (AV.py (.tup [.int c, .int d])) = _ from eqv_prI (a, b) (c, d)]; exact h
theorem depth_prI (l : List (Int × Int)) : PyData.depthAll (AV.pys (l.map prI)) ≤ 2 := by
  induction l with
  | nil => exact Nat.zero_le _
  | cons p r ih =>
    show max (PyData.depth (prI p).py) (PyData.depthAll (AV.pys (r.map prI))) ≤ 2
    exact Nat.max_le.mpr ⟨Nat.le_of_ble_eq_true rfl, ih⟩
theorem W2.ne_prI {a b : Addr} {l : List (Int × Int)} {Q : AV → Sig → Prop} (ha : (a, .list (l.map prI)) ∈ σ) (hb : (b, .list (l.map prI)) ∈ σ) (h : Q (.bool false) σ) : W2 G n (compareOp .NotEq) (.raw (.ref a)) (.raw (.ref b)) σ Q := by
  have hd := areD_prI l
  refine W2.ne (.list ha hd) (.list hb hd) (Nat.le_trans (Nat.min_le_right _ _) (by show PyData.depthAll (AV.pys (l.map prI)) + 1 ≤ 300; have := depth_prI l; omega)) ?_
  have e := PySem.SeqAt.eqv_refl (.list (AV.pys (l.map prI))) (show PyData.canLay0 (.list (AV.pys (l.map prI))) = true from AV.canLays _ hd)
  rw [e]; exact h
theorem W2.ne_nil {a b : Addr} {Q : AV → Sig → Prop} (ha : (a, .list []) ∈ σ) (hb : (b, .list []) ∈ σ) (h : Q (.bool false) σ) : W2 G n (compareOp .NotEq) (.raw (.ref a)) (.raw (.ref b)) σ Q := W2.ne_prI (l := []) ha hb h
theorem WE.slice2c {value : Expr} {k : Nat} {p0 p1 p2 : Pos} {Q : AV → Sig → Prop}
    (h : WE G n env K σ value fun a σ₁ => ∃ x y z, a = .tup [x, y, z] ∧ Q (.tup [x, y]) σ₁) : WE G n env K σ (.Subscript value (.Slice none (some (.Constant (.int 2) k p0)) none p1) p2) Q :=
  WE.slice2 (fun s A R E hr => by
    exact wpAny_Constant_int (hr _)) h
end
end Mine
set_option maxRecDepth 100000
set_option autoImplicit false
set_option maxHeartbeats 4000000
namespace Mine
open PySem PySem.W PyProof.Rows PySem.Calls PySem.SeqAt
section
variable {G : Gd} {n : Nat} {σ : Sig}
noncomputable def callAV (x : CS × Addr) : AV := .tup [x.1.c.av, .raw (.ref x.2)]
noncomputable def blkSig (bs : List Blk) : Sig := bs.flatMap fun b => [(b.b, .list [.raw (.ref b.s), termAV b.tm]), (b.s, .list (stAV b.st))]
theorem blkSig_snoc (bs : List Blk) (b : Blk) : blkSig (bs ++ [b]) = blkSig bs ++ [(b.b, .list [.raw (.ref b.s), termAV b.tm]), (b.s, .list (stAV b.st))] := by
  unfold blkSig; rw [List.flatMap_append]; simp
theorem blkSig_in (bs : List Blk) (R : Sig) : BlkIn (blkSig bs ++ R) bs := fun b hb =>
  ⟨List.mem_append_left _ (List.mem_flatMap.mpr ⟨b, hb, .head _⟩), List.mem_append_left _ (List.mem_flatMap.mpr ⟨b, hb, .tail _ (.head _)⟩)⟩
theorem front2 {p q : Addr × AObj} (l X r : Sig) : (p :: q :: (l ++ (X ++ r))).Perm (l ++ ((X ++ [p, q]) ++ r)) := by
  have : (p :: q :: (l ++ (X ++ r))) = [p, q] ++ ((l ++ X) ++ r) := by simp
  rw [this, ← List.append_assoc, show l ++ ((X ++ [p, q]) ++ r) = ((l ++ X) ++ [p, q]) ++ r by simp]
  exact List.perm_append_comm.append_right _
theorem WF.sub {env : Env} {target : Expr} {it : Addr} {body : List Stmt} {m : Loc} {σ' : Sig} {Q : AFl → Loc → Sig → Prop} (h : WF G n env target it body m σ' Q) (p : σ'.Sublist σ) : WF G n env target it body m σ Q := let ⟨R', p2⟩ := p.exists_perm_append; WF.pre h p2 (fun _ _ h => h)
theorem sz {k : Nat} (h : k ≤ 2000) : k ≤ sizeLine := Nat.le_trans h (by decide)
theorem flat_get : ∀ (cs : List CS) (i : Nat) (s : CS), cs[i]? = some s → (cs.flatMap CS.ks)[3 * i]? = some s.g0 ∧ (cs.flatMap CS.ks)[3 * i + 1]? = some s.g1 ∧ (cs.flatMap CS.ks)[3 * i + 2]? = some s.g2
  | [], i, s, h => by simp at h
  | x :: r, 0, s, h => by
    simp only [List.getElem?_cons_zero, Option.some.injEq] at h
    subst h
    exact ⟨rfl, rfl, rfl⟩
  | x :: r, i + 1, s, h => by
    have h' := flat_get r i s (by simpa using h)
    have e : ∀ k, ((x :: r).flatMap CS.ks)[3 * (i + 1) + k]? = (r.flatMap CS.ks)[3 * i + k]? := fun k => by
      rw [List.flatMap_cons, List.getElem?_append_right (by show 3 ≤ _; omega)]
      congr 1
      show 3 * (i + 1) + k - 3 = _
      omega
    exact ⟨(e 0).trans h'.1, (e 1).trans h'.2.1, (e 2).trans h'.2.2⟩
theorem SigIn.up {σ' : Sig} {sd : List (AK × AV)} {nm : Str} {sx sdx : Addr} {nv rg : AV} {w0 w1 w2 : Ty} (h : SigIn σ sd nm sx sdx nv rg w0 w1 w2) (hs : (sdx, AObj.attrs (sigA nv rg w0 w1 w2)) ∈ σ') : SigIn σ' sd nm sx sdx nv rg w0 w1 w2 := ⟨h.hg, hs, h.o0, h.o1, h.o2⟩
theorem callFull_of {cs : List CS} {ks : List (List (Int × Bool))} {ds : Addr} {sd : List (AK × AV)} (hcs : CallsOk cs) (h3 : cs.length ≤ 3) (hks : ks = cs.flatMap CS.ks) {i : Nat} {s : CS} (hi : cs[i]? = some s) {sx sdx : Addr} {nv rg : AV} (hS : SigIn σ sd s.c.nm sx sdx nv rg s.w0 s.w1 s.w2) :
    CallFull σ ks ds sd (FF cs) s.c sx sdx nv rg s.w0 s.w1 s.w2 s.g0 s.g1 s.g2 := by
  obtain ⟨p, pm, m0, m1, m2, k1, k2, k3, ok⟩ := hcs i s hi
  have hil : i < cs.length := (List.getElem?_eq_some_iff.mp hi).1
  obtain ⟨f0, f1, f2⟩ := flat_get cs i s hi
  refine ⟨⟨?_, ?_, ?_, ?_⟩, ⟨hS.hg, hS.hsa, hS.o0.okR, hS.o1.okR, hS.o2.okR, hS.o0.ht, hS.o1.ht, hS.o2.ht, by rw [ok.pe]; exact Nat.le_refl _⟩, fun nx => ?_, fun nx => ?_, fun nx => ?_, fun nx => ?_⟩
  · rw [hks, ok.first]; exact f0
  · rw [hks, ok.first]; exact f1
  · rw [hks, ok.first]; exact f2
  · rw [ok.first]; omega
  · rw [ok.pe, ok.i0.len]; exact (seenL_gl p pm s.w0 _ _).symm
  · rw [ok.pe, ok.i1.len]; exact (seenL_gl p pm s.w1 _ _).symm
  · rw [ok.pe, ok.i2.len]; exact (seenL_gl p pm s.w2 _ _).symm
  · unfold FF
    rw [ok.first, Nat.mul_div_cancel_left _ (by decide), hi]
theorem runTo_len (F : CallT → Int → List (Int × Int) × Int) (bs : List Blk) (first : Int) (hF : ∀ b ∈ bs, ∀ c, b.tm = some c → ∀ nx, (F c nx).1.length ≤ 18) : ∀ k, (runTo F bs first k).1.length ≤ 18 * k
  | 0 => Nat.zero_le _
  | k + 1 => by
    have ih := runTo_len F bs first hF k
    show (match bs[k]? with | some b => stepBlk F k b (runTo F bs first k) | none => runTo F bs first k).1.length ≤ _
    cases hb : bs[k]? with
    | none => dsimp only; omega
    | some b =>
      dsimp only
      unfold stepBlk
      cases hc : b.tm with
      | none => dsimp only; omega
      | some c =>
        dsimp only
        have := hF b (List.mem_of_getElem? hb) c hc (runTo F bs first k).2
        rw [List.length_append, List.length_map]
        omega
theorem tm_get {cps : List (CS × Addr)} {bs0 : List Blk} (e2 : bs0.map (·.tm) = cps.map (fun x : CS × Addr => some x.1.c)) {b : Blk} (hb : b ∈ bs0) : ∃ (i : Nat) (x : CS × Addr), cps[i]? = some x ∧ b.tm = some x.1.c ∧ bs0[i]? = some b := by
  obtain ⟨i, hi⟩ := List.mem_iff_getElem?.mp hb
  have h1 : (bs0.map (·.tm))[i]? = some b.tm := by rw [List.getElem?_map, hi]; rfl
  rw [e2, List.getElem?_map] at h1
  cases hx : cps[i]? with
  | none => rw [hx] at h1; cases h1
  | some x => rw [hx] at h1; injection h1 with h1; exact ⟨i, x, hx, h1.symm, hi⟩
theorem get_tm {cps : List (CS × Addr)} {bs0 : List Blk} (e2 : bs0.map (·.tm) = cps.map (fun x : CS × Addr => some x.1.c)) {i : Nat} {x : CS × Addr} (hx : cps[i]? = some x) : ∃ b : Blk, bs0[i]? = some b ∧ b.tm = some x.1.c := by
  have h1 : (cps.map (fun x : CS × Addr => some x.1.c))[i]? = some (some x.1.c) := by rw [List.getElem?_map, hx]; rfl
  rw [← e2, List.getElem?_map] at h1
  cases hb : bs0[i]? with
  | none => rw [hb] at h1; cases h1
  | some b => rw [hb] at h1; injection h1 with h1; exact ⟨b, rfl, h1⟩
theorem c_right (hK : KOk G) (hn : 18 ≤ n) (wx wdx d1 d2 ds d4 l d5 d6 cl kl : Addr) (cps : List (CS × Addr)) (sd : List (AK × AV)) (hcs : CallsOk (cps.map (·.1))) (h3 : cps.length ≤ 3)
    (hcl : (cl, .list (cps.map callAV)) ∈ σ) (hpl : ∀ x ∈ cps, (x.2, AObj.list (x.1.P.map prR)) ∈ σ) (hkl : (kl, .list (((cps.map (·.1)).flatMap CS.ks).map ntyAV)) ∈ σ)
    (hw : (wdx, .attrs (worldA d1 d2 ds d4 l d5 d6)) ∈ σ) (hs : (ds, .dict sd) ∈ σ) (hsg : ∀ x ∈ cps, ∃ sx sdx nv rg, SigIn σ sd x.1.c.nm sx sdx nv rg x.1.w0 x.1.w1 x.1.w2) (hP : (68, nP) ∈ σ) {Q : AV → Sig → Prop}
    (h : Q (.bool true) σ) :
    WCall G n (.raw (.ref 494)) [.obj wx (instObj 418 wdx), .raw (.ref cl), .raw (.ref kl)] σ Q := by
  refine ⟨WK.fn (by rw [hK]; rfl), .of (.le (k := 17+1) ?_ (by omega))⟩
  refine WCd.def [("world", .obj wx (instObj 418 wdx)), ("calls", .raw (.ref cl)), ("kinds", .raw (.ref kl))] [("world", .obj wx (instObj 418 wdx)), ("kinds", .raw (.ref kl))] (fun L => [("others", L + 5), ("wanted", L + 4), ("number", L + 3), ("most", L + 2), ("calls", L + 1)]) (fun L => (L + 5, AObj.cell (none)) :: (L + 4, AObj.cell (none)) :: (L + 3, AObj.cell (none)) :: (L + 2, AObj.cell (none)) :: (L + 1, AObj.cell (some (.raw (.ref cl)))) :: σ) (by rw [hK]; rfl) (by rw [hK]; rfl) (HB.plain (names := ["world", "calls", "kinds"]) ?hb rfl rfl) rfl rfl ?nd (by decide) rfl (fun _ => rfl) (fun _ => rfl) ?_
  case hb => exact len3 fun _ _ _ => rfl
  case nd => exact (by decide : (["world", "calls", "kinds"] : List Str).Nodup)
  intro L
  walk_at "x*"
  rename_i ita acc CC
  refine WCL.pull ita (by walk_at "w at") ?_
  refine WCL.eachP WCL.turn1 (Src.list (cps.map callAV)) (fun i σ' => ∃ bs : List Blk, bs.length = i ∧ bs.map (·.tm) = (cps.take i).map (fun x => some x.1.c) ∧ (∀ b ∈ bs, b.st = true) ∧
    σ' = (acc, .list (bs.map blkRef)) :: (L + 5, .cell none) :: (L + 4, .cell none) :: (L + 3, .cell none) :: (L + 2, .cell none) :: (L + 1, .cell (some (.raw (.ref cl)))) :: (blkSig bs ++ σ)) ?_ ?_ ?_ ⟨[], rfl, rfl, fun _ h => (by cases h), rfl⟩
  · rintro i _ ⟨bs, _, _, _, rfl⟩
    have hcl' : (cl, AObj.list (cps.map callAV)) ∈ blkSig bs ++ σ := List.mem_append_right _ hcl
    walk_at "w mem"
  · rintro i _ hi ⟨bs, e1, e2, e3, rfl⟩
    obtain ⟨x, hx⟩ := get_of_lt hi
    have hi' : i < cps.length := by rw [List.length_map] at hi; exact hi
    rw [getD_map callAV hx]
    dsimp only [List.cons_append, List.nil_append]
    unfold ItemP callAV
    walk_at "x*"
    rename_i sA bA
    refine EmitK.mk (by walk_at "w upd") (by rw [List.length_map, e1]; exact Nat.le_trans (by omega : _ ≤ 900) (by decide)) ?_
    refine CompP.perm (CompP.same (fun y v e => by cases e) ⟨bs ++ [⟨bA, sA, true, some x.1.c⟩], by rw [List.length_append, e1]; rfl, by rw [map_take _ hx, List.map_append, e2]; rfl, fun b hb => ?_, rfl⟩) ?_
    · rcases List.mem_append.mp hb with hb | hb
      · exact e3 b hb
      · rw [List.mem_singleton.mp hb]
    · rw [blkSig_snoc, List.map_append]
      exact front2 [(_, _), (_, _), (_, _), (_, _), (_, _), (_, _), (_, _)] (blkSig bs) σ
  rintro _ ⟨bs0, e1, e2, e3, rfl⟩
  rw [List.length_map] at e1 e2
  rw [List.take_length] at e2
  obtain ⟨σ1, hσ1⟩ : ∃ s, s = blkSig bs0 ++ σ := ⟨_, rfl⟩
  have up : ∀ {p : Addr × AObj}, p ∈ σ → p ∈ σ1 := fun h => by rw [hσ1]; exact List.mem_append_right _ h
  have hcl1 := up hcl; have hkl1 := up hkl; have hw1 := up hw; have hs1 := up hs; have hP1 := up hP
  have hB1 : BlkIn σ1 bs0 := by rw [hσ1]; exact blkSig_in bs0 σ
  rw [← hσ1]
  dsimp only [List.cons_append, List.nil_append]
  walk_at "x*"
  rename_i ls lb lo
  refine W2.add_list (by walk_at "w mem") (by walk_at "w mem") (by simp only [List.length_map, List.length_cons, List.length_nil]; exact Nat.le_trans (by omega : _ ≤ 900) (by decide)) ?_
  intro bl
  obtain ⟨bs, hbs⟩ : ∃ b : List Blk, b = bs0 ++ [⟨lb, ls, false, none⟩] := ⟨_, rfl⟩
  rw [show bs0.map blkRef ++ [AV.raw (.ref lb)] = bs.map blkRef by rw [hbs, List.map_append]; rfl]
  obtain ⟨cs, hcsd⟩ : ∃ c : List CS, c = cps.map (·.1) := ⟨_, rfl⟩
  have hlen : cs.length = cps.length := by rw [hcsd, List.length_map]
  obtain ⟨ks, hks⟩ : ∃ k, k = cs.flatMap CS.ks := ⟨_, rfl⟩
  rw [← hcsd, ← hks] at hkl1
  rw [← hcsd] at hcs
  have hbl : bs.length = cs.length + 1 := by rw [hbs, List.length_append, e1, hlen]; rfl
  have hksl : ks.length ≤ 9 := by
    have := flat_len (f := CS.ks) (k := 3) (xs := cs) fun y _ => Nat.le_refl _
    rw [hks]; omega
  walk_at "x*"
  rename_i itk acc2 C2
  refine WCL.pull itk (by walk_at "w at") ?_
  refine WCL.flat1 WCL.turn1 (Src.list (ks.map ntyAV)) (fun t => [locAV t]) 1 (by omega) (fun _ _ => Nat.le_refl _) (fun l => by walk_at "w mem") ?_ ?_
  · intro k q l hq hl
    dsimp only [List.cons_append, List.nil_append]
    unfold ItemK
    walk_at "x*"
    refine EmitK.mk (by walk_at "w upd") hl ?_
    exact CompK.same (fun y v e => by cases e)
  rw [flat_one]
  dsimp only [List.cons_append, List.nil_append]
  walk_at "x*"
  refine c_Body hK (by omega) _ _ _ _ _ (ks.map locAV) (by walk_at "w mem") (by rw [List.length_map]; omega) ?_
  intro bx bdx lc
  walk_at "x*"
  have kin : ∀ t ∈ ks, ∃ s ∈ cs, t ∈ s.ks := fun t ht => by rw [hks] at ht; exact List.mem_flatMap.mp ht
  have hk2 : ∀ t ∈ ks, t.length ≤ 2 := fun t ht => by
    obtain ⟨s, hsm, hts⟩ := kin t ht
    obtain ⟨i, hi⟩ := List.mem_iff_getElem?.mp hsm
    obtain ⟨p, pm, m0, m1, m2, k1, k2, k3, ok⟩ := hcs i s hi
    exact ok.glen t hts
  have hfull : ∀ {τ : Sig}, (∀ p ∈ σ, p ∈ τ) → ∀ b ∈ bs, ∀ c, b.tm = some c → ∃ sx sdx nv rg w0 w1 w2 g0 g1 g2, CallFull τ ks ds sd (FF cs) c sx sdx nv rg w0 w1 w2 g0 g1 g2 := fun hτ b hb c hc => by
    rw [hbs] at hb
    rcases List.mem_append.mp hb with hb | hb
    · obtain ⟨i, x, hx, hbt, hbi⟩ := tm_get e2 hb
      rw [hbt] at hc; injection hc with hc
      obtain ⟨sx, sdx, nv, rg, hS⟩ := hsg x (List.mem_of_getElem? hx)
      have hxs : cs[i]? = some x.1 := by rw [hcsd, List.getElem?_map, hx]; rfl
      have hS' := hS.up (hτ _ hS.hsa)
      rw [← hc]
      exact ⟨sx, sdx, nv, rg, _, _, _, _, _, _, callFull_of hcs (by omega) hks hxs hS'⟩
    · rw [List.mem_singleton.mp hb] at hc; cases hc
  refine c_constraints_of hK (by omega) bx bdx lc bl _ wx wdx d1 d2 ds d4 l d5 d6 _ _ _ rfl ks bs sd (FF cs) (by walk_at "w mem") (by walk_at "w mem") (by walk_at "w mem") (by walk_at "w mem") (by walk_at "w mem") ?_ (by walk_at "w mem") (fun t ht => Nat.le_succ_of_le (hk2 t ht)) (by omega) (by omega) (hfull ?_) ?_
  · intro b hb
    rw [hbs] at hb
    rcases List.mem_append.mp hb with hb | hb
    · obtain ⟨u1, u2⟩ := hB1 b hb
      exact ⟨by walk_at "w mem", by walk_at "w mem"⟩
    · rw [List.mem_singleton.mp hb]
      exact ⟨by walk_at "w mem", by walk_at "w mem"⟩
  · intro q hq
    have hq1 := up hq
    walk_at "w mem"
  intro M hM0 hMk hMc rl
  obtain ⟨R, hR⟩ : ∃ R, R = (runTo (FF cs) bs (M + 1) bs.length).1 := ⟨_, rfl⟩
  have hRl : R.length ≤ 72 := by
    have := runTo_len (FF cs) bs (M + 1) (fun b hb c hc nx => by
      obtain ⟨sx, sdx, nv, rg, w0, w1, w2, g0, g1, g2, hf⟩ := hfull (τ := σ) (fun p h => h) b hb c hc
      exact hf.len nx) bs.length
    rw [hR]; omega
  rw [← hR]
  walk_at "x*"
  rename_i z0 it3 acc3 C3
  refine WCL.pull it3 (by walk_at "w at") ?_
  refine WCL.flat2 (fun h => WCL.turn2a h (fun _ => by with_unfolding_all rfl)) (Src.list (ks.map ntyAV)) (fun t => (rgs t).map .int) 2 (by omega) (fun t ht => by rw [List.length_map, rgs, List.length_map]; exact hk2 t ht) (fun l => by walk_at "w mem") ?_ ?_
  · intro k t l ht hl
    dsimp only [List.cons_append, List.nil_append]
    have ht2 := hk2 t ht
    walk_at "x*"
    refine c_inside hK t (n := 17) (by omega) (by omega) ?_
    intro ia
    match t, ht2 with
    | [], _ =>
      dsimp only [rgs, List.map]
      walk_at "v*"
      rw [List.append_nil]
      exact CompK.skip (CompK.same (fun y v e => by cases e))
    | [(a, m)], _ =>
      dsimp only [rgs, List.map]
      walk_at "v*"
      refine EmitK.mk (by walk_at "w upd") (sz (by omega)) ?_
      walk_at "v*"
      exact CompK.skip (CompK.same (fun y v e => by cases e))
    | [(a, m), (b, m')], _ =>
      dsimp only [rgs, List.map]
      walk_at "v*"
      refine EmitK.mk (by walk_at "w upd") (sz (by omega)) ?_
      walk_at "v*"
      refine EmitK.mk (by walk_at "w upd") (sz (by first | omega | (simp only [List.length_append, List.length_cons, List.length_nil]; omega))) ?_
      walk_at "v*"
      rw [List.append_assoc l]
      exact CompK.skip (CompK.same (fun y v e => by cases e))
  dsimp only [List.cons_append, List.nil_append]
  have f1 : (ks.flatMap fun t => (rgs t).map AV.int) = (ks.flatMap rgs).map AV.int := List.map_flatMap.symm
  have f1l := flat_len (f := rgs) (k := 2) (xs := ks) (fun t ht => by rw [rgs, List.length_map]; exact hk2 t ht)
  rw [f1]
  refine W2.add_list (by walk_at "w mem") (by walk_at "w mem") (sz (by simp only [List.length_map, List.length_cons, List.length_nil]; omega)) ?_
  intro z1
  walk_at "x*"
  rename_i it4 acc4 C4
  refine WCL.pull it4 (by walk_at "w at") ?_
  have hpe : ∀ x ∈ cps, ∃ (p : Int) (pm : Bool), x.1.c.p = [(p, pm)] := fun x hx => by
    obtain ⟨j, hj⟩ := List.mem_iff_getElem?.mp hx
    obtain ⟨p, pm, m0, m1, m2, k1, k2, k3, ok⟩ := hcs j x.1 (by rw [hcsd, List.getElem?_map, hj]; rfl)
    exact ⟨p, pm, ok.pe⟩
  refine WCL.flat1 WCL.turn1 (Src.list (cps.map callAV)) (fun x => (rgs x.1.c.p).map .int) 1 (by omega) (fun x hx => by obtain ⟨p, pm, e⟩ := hpe x hx; rw [e]; exact Nat.le_refl _) (fun l => by walk_at "w mem") ?_ ?_
  · intro k x l hx hl
    obtain ⟨p, pm, e⟩ := hpe x hx
    have eav : callAV x = .tup [.tup [.str "call", .tup [.str "fn", .str x.1.c.nm, .tup [.tup [.str "ref", .int p, .bool pm, .tup [.str "int", .str "u8"]]]], .tup [opAV (.str "copy") (x.1.c.first : Nat), opAV (mvAV x.1.c.mv) ((x.1.c.first + 1 : Nat))], .tup [.int ((x.1.c.first + 2 : Nat)), .tup []], .int x.1.c.target], .raw (.ref x.2)] := by
      unfold callAV CallT.av; rw [e]; rfl
    rw [eav, e]
    dsimp only [List.cons_append, List.nil_append]
    unfold ItemK
    walk_at "x*"
    refine EmitK.mk (by walk_at "w upd") hl ?_
    exact CompK.same (fun y v e => by cases e)
  dsimp only [List.cons_append, List.nil_append]
  have f2 : (cps.flatMap fun x => (rgs x.1.c.p).map AV.int) = (cps.flatMap fun x => rgs x.1.c.p).map AV.int := List.map_flatMap.symm
  have f2l := flat_len (f := fun x : CS × Addr => rgs x.1.c.p) (k := 1) (xs := cps) (fun x hx => by obtain ⟨p, pm, e⟩ := hpe x hx; rw [e]; exact Nat.le_refl _)
  rw [f2]
  walk_at "x*"
  refine W2.add_list (by walk_at "w mem") (by walk_at "w mem") (sz (by simp only [List.length_map, List.length_cons, List.length_nil, List.length_append]; omega)) ?_
  intro z2
  walk_at "x*"
  have f3 : (AV.int 0 :: (ks.flatMap rgs).map AV.int) ++ (cps.flatMap fun x : CS × Addr => rgs x.1.c.p).map AV.int = ((0 : Int) :: (ks.flatMap rgs ++ cps.flatMap fun x : CS × Addr => rgs x.1.c.p)).map AV.int := by
    rw [List.map_cons, List.map_append]; rfl
  rw [f3]
  refine WCall.mk (WK.builtin _) (WC.max_list (by walk_at "w mem") (by simp) ?_)
  intro mo hmo hmall
  walk_at "x*"
  have hget : ∀ (i : Nat) (s : CS), cs[i]? = some s → ∃ x : CS × Addr, cps[i]? = some x ∧ x.1 = s := fun i s hi => by
    rw [hcsd, List.getElem?_map] at hi
    cases hx : cps[i]? with
    | none => rw [hx] at hi; cases hi
    | some x => rw [hx] at hi; injection hi with hi; exact ⟨x, rfl, hi⟩
  have hRO : ∃ lo, RowsOk mo cs R lo := by
    rw [hR]
    refine ⟨_, rows_ok hcs (by omega) hbl ?_ ?_ (hmall 0 (.head _)) ?_ ?_ ?_⟩
    · intro i s hi
      obtain ⟨x, hx, rfl⟩ := hget i s hi
      obtain ⟨b, hb, hbt⟩ := get_tm e2 hx
      have hil := (List.getElem?_eq_some_iff.mp hb).1
      exact ⟨b, by rw [hbs, List.getElem?_append_left hil]; exact hb, hbt, e3 b (List.mem_of_getElem? hb)⟩
    · intro b hb
      rw [hbs, hlen, ← e1, List.getElem?_append_right (Nat.le_refl _), Nat.sub_self] at hb
      injection hb with hb
      rw [← hb]
    · rcases List.mem_cons.mp hmo with q | q
      · rw [q]; exact hM0
      rcases List.mem_append.mp q with q | q
      · obtain ⟨t, ht, hq⟩ := List.mem_flatMap.mp q
        exact hMk t ht mo hq
      · obtain ⟨x, hx, hq⟩ := List.mem_flatMap.mp q
        obtain ⟨i, hi⟩ := List.mem_iff_getElem?.mp hx
        obtain ⟨b, hb, hbt⟩ := get_tm e2 hi
        refine hMc b (by rw [hbs]; exact List.mem_append_left _ (List.mem_of_getElem? hb)) mo ?_
        unfold callRgs; rw [hbt]; exact hq
    · intro s hsm g hg i hi
      exact hmall i (.tail _ (List.mem_append_left _ (List.mem_flatMap.mpr ⟨g, by rw [hks]; exact List.mem_flatMap.mpr ⟨s, hsm, hg⟩, hi⟩)))
    · intro s hsm x hx
      rw [hcsd] at hsm
      obtain ⟨y, hy, rfl⟩ := List.mem_map.mp hsm
      exact hmall x.1 (.tail _ (List.mem_append_right _ (List.mem_flatMap.mpr ⟨y, hy, List.mem_map_of_mem hx⟩)))
  obtain ⟨lo, hRO⟩ := hRO
  rename_i ie ii
  have hpl1 : ∀ x ∈ cps, (x.2, AObj.list (x.1.P.map prR)) ∈ σ1 := fun x hx => up (hpl x hx)
  refine WF.sub (σ' := (ie, .enumIter ii 0) :: (ii, .listIter cl 0) :: (rl, .list (R.map rowAV)) :: (L + 5, .cell none) :: (L + 4, .cell none) :: (L + 3, .cell none) :: (L + 2, .cell (some (.int mo))) :: (L + 1, .cell (some (.raw (.ref cl)))) :: σ1) ?_ (by
    repeat (first | with_reducible exact List.Sublist.refl _ | with_reducible apply List.Sublist.cons_cons | with_reducible apply List.Sublist.cons))
  refine WF.eachP (Src.enumList (cps.map callAV) (by with_unfolding_all rfl)) (fun i σ' => ∃ x3 x4 x5, σ' = (rl, .list (R.map rowAV)) :: (L + 5, .cell x5) :: (L + 4, .cell x4) :: (L + 3, .cell x3) :: (L + 2, .cell (some (.int mo))) :: (L + 1, .cell (some (.raw (.ref cl)))) :: σ1) ?_ ?_ ?_ ⟨_, _, _, rfl⟩
  · rintro i _ ⟨x3, x4, x5, rfl⟩
    walk_at "w mem"
  · rintro i _ hi ⟨x3, x4, x5, rfl⟩
    obtain ⟨x, hx⟩ := get_of_lt hi
    have hi' : i < cps.length := by rw [List.length_map] at hi; exact hi
    have hxm := List.mem_of_getElem? hx
    have hpx := hpl1 x hxm
    have hxs : cs[i]? = some x.1 := by rw [hcsd, List.getElem?_map, hx]; rfl
    obtain ⟨p, pm, m0, m1, m2, k1, k2, k3, ok⟩ := hcs i x.1 hxs
    have hcp := hRO.mine i x.1 hxs
    rw [getD_map callAV hx]
    dsimp only [List.cons_append, List.nil_append]
    unfold callAV
    walk_at "z*"
    rename_i itm acm CM
    refine WCL.pull itm (by walk_at "w at") ?_
    refine WCL.flat1 WCL.turn1 (Src.list (R.map rowAV)) (fun r => if decide (r.2.2 = ((i : Int), (1 : Int))) then [prI (r.1, r.2.1)] else []) 1 (by omega) (fun _ _ => by split <;> simp) (fun l => by walk_at "w mem") ?_ ?_
    · intro k r l hr hl
      dsimp only [List.cons_append, List.nil_append]
      unfold ItemK rowAV
      walk_at "x*"
      refine W2.eq_pt ?_
      by_cases c1 : r.2.2 = ((i : Int), (1 : Int))
      · rw [decide_eq_true c1]
        walk_at "x*"
        refine EmitK.mk (by walk_at "w upd") hl ?_
        exact CompK.same (fun y v e => by cases e)
      · rw [decide_eq_false c1]
        walk_at "x*"
        simp only [Bool.false_eq_true, if_false, List.append_nil]
        exact CompK.same (fun y v e => by cases e)
    dsimp only [List.cons_append, List.nil_append]
    rw [flat_if (fun r : Row => decide (r.2.2 = ((i : Int), (1 : Int)))) (fun r : Row => prI (r.1, r.2.1))]
    obtain ⟨mi, hmi⟩ : ∃ l, l = mineOf R i := ⟨_, rfl⟩
    have e4 : (R.filter fun r : Row => decide (r.2.2 = ((i : Int), (1 : Int)))).map (fun r : Row => prI (r.1, r.2.1)) = mi.map prI := by
      rw [hmi]; unfold mineOf; rw [List.map_map]; rfl
    have hmil : mi.length ≤ 72 := by
      rw [hmi]; unfold mineOf; rw [List.length_map]; exact Nat.le_trans (List.length_filter_le ..) hRl
    rw [e4]
    rw [← hmi] at hcp
    walk_at "x*"
    rename_i itw acw CW
    refine WCL.pull itw (by walk_at "w at") ?_
    have hPl := ok.Plen
    have hnl : ∀ r, (numsR r).length ≤ 1 := fun r => by cases r <;> simp [numsR]
    refine WCL.flat2 (fun h => WCL.turn2a h (fun _ => by with_unfolding_all rfl)) (Src.list (x.1.P.map prR)) (fun y => (numsR y.1 ++ numsR y.2).map fun k => AV.tup [.int k, .bool true]) 2 (by omega) (fun y _ => by rw [List.length_map, List.length_append]; have := hnl y.1; have := hnl y.2; omega) (fun l => by walk_at "w mem") ?_ ?_
    · intro k y l hy hl
      obtain ⟨⟨o1, _⟩, ⟨o2, _⟩⟩ := ok.nodes (by omega) y hy
      obtain ⟨a, b⟩ := y
      cases a with
      | anon => exact o1.elim
      | num a =>
        cases b with
        | anon => exact o2.elim
        | num b =>
          rw [show prR (Rg.num a, Rg.num b) = .tup [.int a, .int b] from rfl, show ((numsR (Rg.num a, Rg.num b).1 ++ numsR (Rg.num a, Rg.num b).2).map fun k => AV.tup [.int k, .bool true]) = [AV.tup [.int a, .bool true], AV.tup [.int b, .bool true]] from rfl]
          dsimp only [List.cons_append, List.nil_append]
          walk_at "i*"
          refine EmitK.mk (by walk_at "w upd") (sz (by first | omega | (simp only [List.length_append, List.length_cons, List.length_nil]; omega))) ?_
          walk_at "i*"
          refine EmitK.mk (by walk_at "w upd") (sz (by first | omega | (simp only [List.length_append, List.length_cons, List.length_nil]; omega))) ?_
          walk_at "i*"
          rw [List.append_assoc l]
          exact CompK.same (fun y v e => by cases e)
        | name b =>
          rw [show prR (Rg.num a, Rg.name b) = .tup [.int a, .str b] from rfl, show ((numsR (Rg.num a, Rg.name b).1 ++ numsR (Rg.num a, Rg.name b).2).map fun k => AV.tup [.int k, .bool true]) = [AV.tup [.int a, .bool true]] from rfl]
          dsimp only [List.cons_append, List.nil_append]
          walk_at "i*"
          refine EmitK.mk (by walk_at "w upd") (sz (by first | omega | (simp only [List.length_append, List.length_cons, List.length_nil]; omega))) ?_
          walk_at "i*"
          exact CompK.same (fun y v e => by cases e)
      | name a =>
        cases b with
        | anon => exact o2.elim
        | num b =>
          rw [show prR (Rg.name a, Rg.num b) = .tup [.str a, .int b] from rfl, show ((numsR (Rg.name a, Rg.num b).1 ++ numsR (Rg.name a, Rg.num b).2).map fun k => AV.tup [.int k, .bool true]) = [AV.tup [.int b, .bool true]] from rfl]
          dsimp only [List.cons_append, List.nil_append]
          walk_at "i*"
          refine EmitK.mk (by walk_at "w upd") (sz (by first | omega | (simp only [List.length_append, List.length_cons, List.length_nil]; omega))) ?_
          walk_at "i*"
          exact CompK.same (fun y v e => by cases e)
        | name b =>
          rw [show prR (Rg.name a, Rg.name b) = .tup [.str a, .str b] from rfl, show ((numsR (Rg.name a, Rg.name b).1 ++ numsR (Rg.name a, Rg.name b).2).map fun k => AV.tup [.int k, .bool true]) = [] from rfl]
          dsimp only [List.cons_append, List.nil_append]
          walk_at "i*"
          rw [List.append_nil]
          exact CompK.same (fun y v e => by cases e)
    dsimp only [List.cons_append, List.nil_append]
    have e5 : (x.1.P.flatMap fun y => (numsR y.1 ++ numsR y.2).map fun k => AV.tup [.int k, .bool true]) = (intsP x.1.P).map fun k => AV.tup [.int k, .bool true] := List.map_flatMap.symm
    rw [e5]
    walk_at "x*"
    have hil := intsP_len x.1.P
    refine WCall.mk (WK.type _) (WC.dict_ints (intsP x.1.P) (by omega) (by walk_at "w mem") ?_)
    intro dd
    walk_at "x*"
    have hdl := dedup_len (intsP x.1.P)
    refine WCall.mk (WK.builtin _) (WC.sorted_dict (by walk_at "w mem") (by omega) ?_)
    intro wl ms hms hso
    obtain ⟨hlt, h8, hmem⟩ := wanted_ok ok (by omega) hms hso
    have hL8 : ∀ j ∈ x.1.L8 p, j ≤ mo := fun j hj => by
      have hg : ∀ g ∈ x.1.ks, ∀ j ∈ rgs g, j ≤ mo := fun g hg j hj => hmall j (.tail _ (List.mem_append_left _ (List.mem_flatMap.mpr ⟨g, by rw [hks]; exact List.mem_flatMap.mpr ⟨x.1, List.mem_of_getElem? hxs, hg⟩, hj⟩)))
      unfold CS.L8 at hj
      rcases List.mem_append.mp hj with hj | hj
      · rcases List.mem_append.mp hj with hj | hj
        · rcases List.mem_append.mp hj with hj | hj
          · exact hg _ (.head _) j hj
          · exact hg _ (.tail _ (.head _)) j hj
        · exact hg _ (.tail _ (.tail _ (.head _))) j hj
      · rcases List.mem_cons.mp hj with rfl | hj
        · exact hmall j (.tail _ (List.mem_append_right _ (List.mem_flatMap.mpr ⟨x, hxm, by rw [ok.pe]; exact .head _⟩)))
        · rw [List.mem_singleton.mp hj]; exact hmall 0 (.head _)
    have hlow : ∀ j ∈ ms, j ≤ mo := fun j hj => by
      obtain ⟨y, hy, e⟩ := (hmem j).mp hj
      obtain ⟨n1, n2⟩ := ok.nodes (by omega) y hy
      exact hL8 j (e.elim (n1.2 j) (n2.2 j))
    have eM : (mi.map numP).map prR = mi.map prI := by rw [List.map_map]; rfl
    have hlo : mo < lo i := Int.lt_of_lt_of_le hRO.lo0 (hRO.chain (Nat.zero_le _) (by omega))
    walk_at "x*"
    refine c_reached hK (by omega) acm wl (mi.map numP) ms (by rw [eM]; walk_at "w mem") (by walk_at "w mem") (fun y hy => by obtain ⟨z, _, rfl⟩ := List.mem_map.mp hy; exact ⟨trivial, trivial⟩) (by rw [List.length_map]; omega) hlt h8 ?_
    intro c1
    walk_at "x*"
    refine c_reached hK (by omega) x.2 wl x.1.P ms (by walk_at "w mem") (by walk_at "w mem") (fun y hy => ⟨(ok.nodes (by omega) y hy).1.1, (ok.nodes (by omega) y hy).2.1⟩) (by omega) hlt h8 ?_
    intro c2
    rw [hcp.reach ms hlow]
    walk_at "x*"
    refine W2.ne_prI (by walk_at "w mem") (by walk_at "w mem") ?_
    walk_at "z*"
    rename_i itf acf CF0
    refine WCL.pull itf (by walk_at "w at") ?_
    refine WCL.flat2 (fun h => WCL.turn2a h (fun _ => by with_unfolding_all rfl)) (Src.list (mi.map prI)) (fun y => ([y.1, y.2].filter fun a => decide (mo < a)).map AV.int) 2 (by omega) (fun y _ => by rw [List.length_map]; exact List.length_filter_le ..) (fun l => by walk_at "w mem") ?_ ?_
    · intro k y l hy hl
      dsimp only [List.cons_append, List.nil_append]
      walk_at "i*"
      by_cases u1 : mo < y.1
      · refine ite_t (decide_eq_true u1) ?_
        walk_at "i*"
        refine EmitK.mk (by walk_at "w upd") (sz (by first | omega | (simp only [List.length_append, List.length_cons, List.length_nil]; omega))) ?_
        walk_at "i*"
        by_cases u2 : mo < y.2
        · refine ite_t (decide_eq_true u2) ?_
          walk_at "i*"
          refine EmitK.mk (by walk_at "w upd") (sz (by first | omega | (simp only [List.length_append, List.length_cons, List.length_nil]; omega))) ?_
          walk_at "i*"
          rw [show (([y.1, y.2].filter fun a => decide (mo < a)).map AV.int) = [AV.int y.1, AV.int y.2] by simp [List.filter, u1, u2]]
          rw [List.append_assoc l]
          exact CompK.same (fun y v e => by cases e)
        · refine ite_f (decide_eq_false u2) ?_
          walk_at "i*"
          rw [show (([y.1, y.2].filter fun a => decide (mo < a)).map AV.int) = [AV.int y.1] by simp [List.filter, u1, u2]]
          exact CompK.same (fun y v e => by cases e)
      · refine ite_f (decide_eq_false u1) ?_
        walk_at "i*"
        by_cases u2 : mo < y.2
        · refine ite_t (decide_eq_true u2) ?_
          walk_at "i*"
          refine EmitK.mk (by walk_at "w upd") (sz (by first | omega | (simp only [List.length_append, List.length_cons, List.length_nil]; omega))) ?_
          walk_at "i*"
          rw [show (([y.1, y.2].filter fun a => decide (mo < a)).map AV.int) = [AV.int y.2] by simp [List.filter, u1, u2]]
          exact CompK.same (fun y v e => by cases e)
        · refine ite_f (decide_eq_false u2) ?_
          walk_at "i*"
          rw [show (([y.1, y.2].filter fun a => decide (mo < a)).map AV.int) = [] by simp [List.filter, u1, u2]]
          rw [List.append_nil]
          exact CompK.same (fun y v e => by cases e)
    dsimp only [List.cons_append, List.nil_append]
    have e6 : (mi.flatMap fun y => ([y.1, y.2].filter fun a => decide (mo < a)).map AV.int) = (mi.flatMap fun y => [y.1, y.2].filter fun a => decide (mo < a)).map AV.int := List.map_flatMap.symm
    rw [e6]
    obtain ⟨fr, hfr⟩ : ∃ f, f = mi.flatMap fun y => [y.1, y.2].filter fun a => decide (mo < a) := ⟨_, rfl⟩
    rw [← hfr]
    have hfrl : fr.length ≤ 144 := by
      have := flat_len (f := fun y : Int × Int => [y.1, y.2].filter fun a => decide (mo < a)) (k := 2) (xs := mi) (fun y _ => List.length_filter_le ..)
      rw [hfr]; omega
    walk_at "z*"
    rename_i ito aco CO
    refine WCL.pull ito (by walk_at "w at") ?_
    refine WCL.flat2 (fun h => WCL.turn2a h (fun _ => by with_unfolding_all rfl)) (Src.list (R.map rowAV)) (fun r => (if decide (r.2.2 = ((i : Int), (1 : Int))) then [] else [r.1, r.2.1]).map AV.int) 2 (by omega) (fun y _ => by split <;> simp) (fun l => by walk_at "w mem") ?_ ?_
    · intro k r l hr hl
      dsimp only [List.cons_append, List.nil_append]
      unfold rowAV
      walk_at "s*"
      refine W2.ne_pt ?_
      by_cases c1 : r.2.2 = ((i : Int), (1 : Int))
      · rw [decide_eq_true c1]
        walk_at "s*"
        rw [if_pos rfl, List.map_nil, List.append_nil]
        exact CompK.same (fun y v e => by cases e)
      · rw [decide_eq_false c1]
        walk_at "s*"
        refine ⟨_, _, _, rfl, ?_⟩
        walk_at "i*"
        refine EmitK.mk (by walk_at "w upd") (sz (by first | omega | (simp only [List.length_append, List.length_cons, List.length_nil]; omega))) ?_
        walk_at "i*"
        refine EmitK.mk (by walk_at "w upd") (sz (by first | omega | (simp only [List.length_append, List.length_cons, List.length_nil]; omega))) ?_
        walk_at "i*"
        rw [if_neg Bool.false_ne_true]
        dsimp only [List.map]
        rw [List.append_assoc l]
        exact CompK.same (fun y v e => by cases e)
    dsimp only [List.cons_append, List.nil_append]
    have e7 : (R.flatMap fun r => (if decide (r.2.2 = ((i : Int), (1 : Int))) then [] else [r.1, r.2.1]).map AV.int) = (R.flatMap fun r => if decide (r.2.2 = ((i : Int), (1 : Int))) then [] else [r.1, r.2.1]).map AV.int := List.map_flatMap.symm
    rw [e7]
    obtain ⟨oth, hoth⟩ : ∃ f, f = R.flatMap fun r : Row => if decide (r.2.2 = ((i : Int), (1 : Int))) then [] else [r.1, r.2.1] := ⟨_, rfl⟩
    rw [← hoth]
    have hno : ∀ a ∈ fr, Rg.num a ∉ oth.map Rg.num := fun a ha hm' => by
      obtain ⟨b, hb, e⟩ := List.mem_map.mp hm'
      injection e with e
      subst e
      rw [hfr] at ha
      obtain ⟨y, hy, ha⟩ := List.mem_flatMap.mp ha
      obtain ⟨q1, q2⟩ := List.mem_filter.mp ha
      have q3 : mo < b := of_decide_eq_true q2
      rw [hoth] at hb
      obtain ⟨r, hr, hb⟩ := List.mem_flatMap.mp hb
      by_cases c1 : r.2.2 = ((i : Int), (1 : Int))
      · rw [if_pos (decide_eq_true c1)] at hb; cases hb
      · rw [if_neg (by rw [decide_eq_false c1]; exact Bool.false_ne_true)] at hb
        have q4 : b = y.1 ∨ b = y.2 := by simpa using q1
        have q5 : b = r.1 ∨ b = r.2.1 := by simpa using hb
        obtain ⟨n1, n2⟩ := hRO.fresh (i := i) (by omega) (x := y) (by rw [← hmi]; exact hy) q4 q3 hr c1
        exact q5.elim n1 n2
    have eO : (oth.map Rg.num).map Rg.av = oth.map AV.int := by rw [List.map_map]; rfl
    have eW : (ms.map Rg.num).map Rg.av = ms.map AV.int := by rw [List.map_map]; rfl
    have hnW : ∀ z ∈ ms.map Rg.num, z.okP := fun z hz => by obtain ⟨a, _, rfl⟩ := List.mem_map.mp hz; exact trivial
    have hnO : ∀ z ∈ oth.map Rg.num, z.okP := fun z hz => by obtain ⟨a, _, rfl⟩ := List.mem_map.mp hz; exact trivial
    have hin : ∀ y ∈ mi, ∀ a, (a = y.1 ∨ a = y.2) → a ≤ mo → Rg.num a ∈ ms.map Rg.num := fun y hy a ha hl => by
      rcases hcp.nodes y hy a ha with q | ⟨_, z, hz, e⟩
      · omega
      · exact List.mem_map_of_mem ((hmem a).mpr ⟨z, hz, e⟩)
    walk_at "x*"
    rename_i itq acq CQ
    refine WCL.pull itq (by walk_at "w at") ?_
    refine WCL.flat1 WCL.turn1 (Src.list (fr.map .int)) (fun _ => []) 0 (by omega) (fun _ _ => Nat.le_refl _) (fun l => by walk_at "w mem") ?_ ?_
    · intro k a l ha hl
      rw [List.append_nil]
      dsimp only [List.cons_append, List.nil_append]
      unfold ItemK
      walk_at "x*"
      refine W2.in_rg (l := oth.map Rg.num) (q := .num a) (by rw [eO]; walk_at "w mem") hnO trivial ?_
      rw [decide_eq_false (hno a ha)]
      walk_at "x*"
      exact CompK.same (fun y v e => by cases e)
    rw [show (fr.flatMap fun _ => ([] : List AV)) = [] by simp]
    dsimp only [List.cons_append, List.nil_append]
    walk_at "x*"
    refine W2.ne_nil (by walk_at "w mem") (by walk_at "w mem") ?_
    walk_at "x*"
    rename_i itg acg CG
    refine WCL.pull itg (by walk_at "w at") ?_
    refine WCL.flat2 (fun h => WCL.turn2a h (fun _ => by with_unfolding_all rfl)) (Src.list (mi.map prI)) (fun _ => []) 0 (by omega) (fun y _ => Nat.le_refl _) (fun l => by walk_at "w mem") ?_ ?_
    · intro k y l hy hl
      rw [List.append_nil]
      dsimp only [List.cons_append, List.nil_append]
      walk_at "i*"
      by_cases u1 : y.1 ≤ mo
      · refine ite_t (decide_eq_true u1) ?_
        walk_at "i*"
        refine W2.notin_rg (l := ms.map Rg.num) (q := .num y.1) (by rw [eW]; walk_at "w mem") hnW trivial ?_
        rw [decide_eq_true (hin y hy y.1 (.inl rfl) u1)]
        walk_at "i*"
        by_cases u2 : y.2 ≤ mo
        · refine ite_t (decide_eq_true u2) ?_
          walk_at "i*"
          refine W2.notin_rg (l := ms.map Rg.num) (q := .num y.2) (by rw [eW]; walk_at "w mem") hnW trivial ?_
          rw [decide_eq_true (hin y hy y.2 (.inr rfl) u2)]
          walk_at "i*"
          exact CompK.same (fun y v e => by cases e)
        · refine ite_f (decide_eq_false u2) ?_
          walk_at "i*"
          exact CompK.same (fun y v e => by cases e)
      · refine ite_f (decide_eq_false u1) ?_
        walk_at "i*"
        by_cases u2 : y.2 ≤ mo
        · refine ite_t (decide_eq_true u2) ?_
          walk_at "i*"
          refine W2.notin_rg (l := ms.map Rg.num) (q := .num y.2) (by rw [eW]; walk_at "w mem") hnW trivial ?_
          rw [decide_eq_true (hin y hy y.2 (.inr rfl) u2)]
          walk_at "i*"
          exact CompK.same (fun y v e => by cases e)
        · refine ite_f (decide_eq_false u2) ?_
          walk_at "i*"
          exact CompK.same (fun y v e => by cases e)
    rw [show (mi.flatMap fun _ => ([] : List AV)) = [] by simp]
    dsimp only [List.cons_append, List.nil_append]
    walk_at "x*"
    refine W2.ne_nil (by walk_at "w mem") (by walk_at "w mem") ?_
    walk_at "x*"
    repeat (first | exact LoopP.same (fun y v e => look_new (by with_unfolding_all rfl) y v (look_new (by with_unfolding_all rfl) y v (look_new (by with_unfolding_all rfl) y v (look_new (by with_unfolding_all rfl) y v e)))) ⟨_, _, _, rfl⟩ | apply LoopP.skip)
  rintro _ ⟨x3, x4, x5, rfl⟩
  dsimp only [List.cons_append, List.nil_append]
  walk_at "x*"
  rename_i itl acl CL
  refine WCL.pull itl (by walk_at "w at") ?_
  refine WCL.flat1 WCL.turn1 (Src.list (R.map rowAV)) (fun _ => []) 0 (by omega) (fun _ _ => Nat.le_refl _) (fun l => by walk_at "w mem") ?_ ?_
  · intro k r l hr hl
    obtain ⟨j, hj, ej⟩ := hRO.pt r hr
    have er : rowAV r = .tup [.int r.1, .int r.2.1, .tup [.int j, .int 1]] := by unfold rowAV; rw [ej]
    rw [er, List.append_nil]
    dsimp only [List.cons_append, List.nil_append]
    unfold ItemK
    walk_at "x*"
    refine WCall.mk (WK.builtin _) (WC.len_list (by walk_at "w mem") (by rw [List.length_map]; omega) ?_)
    walk_at "x*"
    refine ite_f (decide_eq_false (by rw [List.length_map]; omega)) ?_
    walk_at "x*"
    exact CompK.same (fun y v e => by cases e)
  rw [show (R.flatMap fun _ => ([] : List AV)) = [] by simp]
  dsimp only [List.cons_append, List.nil_append]
  walk_at "x*"
  refine WCall.mk (WK.builtin _) (WC.len_list (by walk_at "w mem") (by decide) ?_)
  walk_at "x*"
  refine Fin.sub (Fin.ret h) ?_
  rw [hσ1]
  repeat (first | exact List.sublist_append_right _ _ | apply List.Sublist.cons)
end
end Mine
set_option maxRecDepth 100000
set_option autoImplicit false
set_option maxHeartbeats 4000000
namespace Mine
open PySem PySem.W PyProof.Rows PySem.Calls PySem.SeqAt
noncomputable def smallT : Ty := .ref (.name "'a") false .u8
noncomputable def c1st (k : Nat) : CallT := ⟨"f", [], false, 3 * k, (k : Int) + 1⟩
noncomputable def F1 (c : CallT) (nx : Int) : List (Int × Int) × Int := (callRows (sgL smallT smallT smallT c.p nx) [((c.first : Int) + 1, false)] [((c.first : Int) + 2, false)] [((c.first : Int) + 3, false)], (sgL smallT smallT smallT c.p nx).nx)
theorem sgL_small (nx : Int) : sgL smallT smallT smallT [] nx = ⟨[(nx, false)], [(nx, false)], [(nx, false)], nx + 1⟩ := by
  with_unfolding_all rfl
theorem related1 {a b : Int} (h : a ≠ b) : relatedL [(a, false)] [(b, false)] = [(a, b)] := by
  show regn false [] a b = _
  unfold regn
  rw [if_neg (by simp)]
  unfold ins
  rw [if_pos ⟨h, by simp⟩]; rfl
theorem F1_eq (k : Nat) {nx : Int} (h : (3 * k + 3 : Nat) < nx) : F1 (c1st k) nx = ([(((3 * k : Nat) : Int) + 1, nx), (((3 * k : Nat) : Int) + 2, nx), (nx, ((3 * k : Nat) : Int) + 3)], nx + 1) := by
  unfold F1 c1st
  dsimp only
  rw [sgL_small]
  unfold callRows
  dsimp only
  rw [related1 (by omega), related1 (by omega), related1 (by omega)]
  rfl
noncomputable def E6 (f : Int) : List (Int × Int) := [(1, f), (2, f), (f, 3), (4, f + 1), (5, f + 1), (f + 1, 6)]
noncomputable def R6 (f : Int) : List Row := [(1, f, 0, 0), (2, f, 0, 0), (f, 3, 0, 0), (4, f + 1, 1, 0), (5, f + 1, 1, 0), (f + 1, 6, 1, 0)]
theorem run6 (b0 s0 b1 s1 b2 s2 : Addr) {f : Int} (h : 6 < f) : (runTo F1 [⟨b0, s0, false, some (c1st 0)⟩, ⟨b1, s1, false, some (c1st 1)⟩, ⟨b2, s2, false, none⟩] f 3).1 = R6 f := by
  show ((([] : List Row) ++ (F1 (c1st 0) f).1.map (toRow ((0 : Nat) : Int) ((0 : Nat) : Int))) ++ (F1 (c1st 1) (F1 (c1st 0) f).2).1.map (toRow ((1 : Nat) : Int) ((0 : Nat) : Int))) = _
  rw [F1_eq 0 (by omega)]
  dsimp only
  rw [F1_eq 1 (by omega)]
  rfl
theorem Reach.closed {α : Type} {E : List (α × α)} {S : α → Prop} {a b : α} (h : Reach E a b) (h0 : S a) (hs : ∀ b c, S b → (b, c) ∈ E → S c) : S b := by
  induction h with
  | refl => exact h0
  | step _ e ih => exact hs _ _ ih e
noncomputable def nu (f : Int) (a : Nat) : Int := if a ≤ 6 then a else if a = 7 then f else f + 1
noncomputable def E8 : List (Nat × Nat) := [(1, 7), (2, 7), (7, 3), (4, 8), (5, 8), (8, 6)]
noncomputable def out (a c : Nat) : Bool := c == a || ((a == 1 || a == 2) && (c == 7 || c == 3)) || ((a == 4 || a == 5) && (c == 8 || c == 6))
theorem nu_low {f : Int} {a : Nat} (h : a ≤ 6) : nu f a = a := if_pos h
theorem nu_big {f : Int} (hf : 6 < f) {a c : Nat} (ha : a ≤ 6) (hc : ¬ c ≤ 6) : nu f a ≠ nu f c := by
  rw [nu_low ha]; unfold nu; rw [if_neg hc]; split <;> omega
theorem nu_inj {f : Int} (hf : 6 < f) {a c : Nat} (ha : a ≤ 8) (hc : c ≤ 8) (h : nu f a = nu f c) : a = c := by
  by_cases q : a ≤ 6 <;> by_cases r : c ≤ 6
  · rw [nu_low q, nu_low r] at h; exact Int.ofNat.inj h
  · exact absurd h (nu_big hf q r)
  · exact absurd h.symm (nu_big hf r q)
  · unfold nu at h
    rw [if_neg q, if_neg r] at h
    split at h <;> split at h <;> omega
theorem reach6 {f : Int} (hf : 6 < f) {a c : Nat} (ha : a ≤ 6) (hc : c ≤ 6) : Reach (E6 f) (a : Int) (c : Int) ↔ out a c = true := by
  rw [← nu_low (f := f) ha, ← nu_low (f := f) hc]
  have e : E6 f = E8.map fun p => (nu f p.1, nu f p.2) := by with_unfolding_all rfl
  have d8 : ∀ p ∈ E8, p.1 ≤ 8 ∧ p.2 ≤ 8 ∧ ∀ a ≤ 6, out a p.1 = true → out a p.2 = true := by decide
  constructor
  · intro h
    obtain ⟨k, k8, ek, ok⟩ := h.closed (S := fun x => ∃ k, k ≤ 8 ∧ x = nu f k ∧ out a k = true) ⟨a, Nat.le_trans ha (by decide), rfl, by unfold out; rw [beq_self_eq_true]; rfl⟩ fun x y ⟨k, k8, ek, ok⟩ hxy => by
      rw [e] at hxy
      obtain ⟨p, hp, ep⟩ := List.mem_map.mp hxy
      obtain ⟨q1, q2, q3⟩ := d8 p hp
      injection ep with e1 e2
      have := nu_inj hf q1 k8 (e1.trans ek)
      subst this
      exact ⟨p.2, q2, e2.symm, q3 a ha ok⟩
    have := nu_inj hf (Nat.le_trans hc (by decide)) k8 ek
    subst this
    exact ok
  · intro h
    have key : ∀ a ∈ [0, 1, 2, 3, 4, 5, 6], ∀ c ∈ [0, 1, 2, 3, 4, 5, 6], out a c = true → c = a ∨ ((a, 7) ∈ E8 ∧ (7, c) ∈ E8) ∨ ((a, 8) ∈ E8 ∧ (8, c) ∈ E8) := by decide
    have i7 : ∀ x ≤ 6, x ∈ [0, 1, 2, 3, 4, 5, 6] := by decide
    have m : ∀ {x y : Nat}, (x, y) ∈ E8 → (nu f x, nu f y) ∈ E6 f := fun h => by rw [e]; exact List.mem_map_of_mem (f := fun p : Nat × Nat => (nu f p.1, nu f p.2)) h
    rcases key a (i7 a ha) c (i7 c hc) h with rfl | ⟨h1, h2⟩ | ⟨h1, h2⟩
    · exact .refl _
    · exact .step (.step (.refl _) (m h1)) (m h2)
    · exact .step (.step (.refl _) (m h1)) (m h2)
theorem flatMap_congr' {α β : Type} {f g : α → List β} : ∀ {l : List α}, (∀ x ∈ l, f x = g x) → l.flatMap f = l.flatMap g
  | [], _ => rfl
  | x :: r, h => by rw [List.flatMap_cons, List.flatMap_cons, h x (.head _), flatMap_congr' fun y hy => h y (.tail _ hy)]
theorem reachL6 {f : Int} (hf : 6 < f) : reachL ((E6 f).map numP) [1, 2, 3, 4, 5, 6] = [(1, 3), (2, 3), (4, 6), (5, 6)] := by
  have hr : ∀ x ∈ ([1, 2, 3, 4, 5, 6] : List Int), x.toNat ≤ 6 ∧ ((x.toNat : Nat) : Int) = x := by decide
  unfold reachL
  have e : ∀ b ∈ ([1, 2, 3, 4, 5, 6] : List Int), (([1, 2, 3, 4, 5, 6] : List Int).filter fun e => @decide (Reach ((E6 f).map numP) (.num b) (.num e)) (Classical.propDecidable _) && !decide (e = b)).map (fun e => (b, e)) =
      (([1, 2, 3, 4, 5, 6] : List Int).filter fun e => decide (out b.toNat e.toNat = true) && !decide (e = b)).map fun e => (b, e) := fun b hb => by
    congr 1
    refine List.filter_congr fun e he => ?_
    congr 1
    refine decide_eq_decide.mpr ?_
    rw [Reach.nums]
    have := reach6 hf (hr b hb).1 (hr e he).1
    rw [(hr b hb).2, (hr e he).2] at this
    exact this
  rw [flatMap_congr' e]
  decide
end Mine
set_option maxRecDepth 100000
set_option autoImplicit false
set_option maxHeartbeats 4000000
namespace Mine
open PySem PySem.W PyProof.Rows PySem.Calls PySem.SeqAt
section
variable {G : Gd} {n : Nat} {σ : Sig}
theorem WN.rangeI {it : Addr} {target : Expr} {σ' : Sig} {Qe : Sig → Prop} {Qi : AV → Sig → Prop} {x left step : Int} (U : Upd it (.rangeIter x left step) (.rangeIter (x + step) (left - 1) step) σ σ') (hl : decide (0 < left) = true) (h : Qi (.int x) σ') : WN G n it target σ Qe Qi := WN.range_item (of_decide_eq_true hl) U h
theorem WN.rangeE {it : Addr} {target : Expr} {σ' : Sig} {Qe : Sig → Prop} {Qi : AV → Sig → Prop} {x left step : Int} (U : At it (.rangeIter x left step) σ' σ) (hl : decide (left ≤ 0) = true) (h : Qe σ') : WN G n it target σ Qe Qi := WN.range_end (of_decide_eq_true hl) U h
theorem mem_eqo {a : Addr} {o o' : AObj} (h : (a, o) ∈ σ) (e : o = o') : (a, o') ∈ σ := e ▸ h
theorem mem_eq {a : Addr} {l l' : List AV} (h : (a, AObj.list l) ∈ σ) (e : l = l') : (a, AObj.list l') ∈ σ := e ▸ h
end
end Mine
namespace Mine
open PySem PySem.W PyProof.Rows PySem.Calls PySem.SeqAt
section
variable {G : Gd} {n : Nat} {σ : Sig}
theorem WCL.gen {env : Env} {m : Loc} {it acc : Addr} {e : Expr} {depth : Nat} {Q : Loc → Sig → Prop} (pre : Sig) {τ0 : Sig} (h : ∀ τ : Sig, (∀ p ∈ τ0, p ∈ τ) → τ0.Sublist τ → WCL G n e depth it acc env m (pre ++ τ) Q) : WCL G n e depth it acc env m (pre ++ τ0) Q := h τ0 (fun _ h => h) (.refl _)
noncomputable def pairsSig (cps : List (CS × Addr)) : Sig := cps.map fun x => (x.2, .list (x.1.P.map prR))
theorem pairsSig_snoc (cps : List (CS × Addr)) (x : CS × Addr) : pairsSig (cps ++ [x]) = pairsSig cps ++ [(x.2, .list (x.1.P.map prR))] := by unfold pairsSig; rw [List.map_append]; rfl
theorem perm5 (A B P I C : Addr × AObj) (X τ : Sig) : (A :: B :: P :: I :: C :: (X ++ τ)).Perm (I :: C :: A :: B :: ((X ++ [P]) ++ τ)) := by
  have h1 : (A :: B :: P :: I :: C :: (X ++ τ)).Perm (I :: C :: A :: B :: P :: (X ++ τ)) := (List.perm_append_comm (l₁ := [A, B, P]) (l₂ := [I, C])).append_right (X ++ τ)
  refine h1.trans (.cons _ (.cons _ (.cons _ (.cons _ ?_))))
  rw [List.append_assoc]
  exact List.perm_middle.symm
theorem attrs_in {a : Addr} {m : Loc} {it acc : Addr} {x y z : Int} {l : List AV} {cps : List (CS × Addr)} {τ : Sig} (h : (a, AObj.attrs m) ∈ (it, AObj.rangeIter x y z) :: (acc, AObj.list l) :: (pairsSig cps ++ τ)) : (a, AObj.attrs m) ∈ τ := by
  rcases List.mem_cons.mp h with h | h
  · injection h with _ h; cases h
  rcases List.mem_cons.mp h with h | h
  · injection h with _ h; cases h
  rcases List.mem_append.mp h with h | h
  · obtain ⟨y, _, e⟩ := List.mem_map.mp h
    injection e with _ e; cases e
  · exact h
theorem ks_len : ∀ cs : List CS, (cs.flatMap CS.ks).length = 3 * cs.length
  | [] => rfl
  | x :: r => by rw [List.flatMap_cons, List.length_append, ks_len r, List.length_cons]; show 3 + _ = _; omega
theorem CallsOk.snoc {cs : List CS} {s : CS} {p : Int} {pm : Bool} {m0 m1 m2 : List (Rg × Bool)} {k1 k2 k3 : Nat} (h : CallsOk cs) (ok : CSOk cs.length s p pm m0 m1 m2 k1 k2 k3) : CallsOk (cs ++ [s]) := fun i t ht => by
  rcases Nat.lt_or_ge i cs.length with q | q
  · rw [List.getElem?_append_left q] at ht; exact h i t ht
  · have hl := (List.getElem?_eq_some_iff.mp ht).1
    rw [List.length_append, List.length_singleton] at hl
    have : i = cs.length := by omega
    subst this
    rw [List.getElem?_append_right (Nat.le_refl _), Nat.sub_self] at ht
    injection ht with ht
    subst ht
    exact ⟨p, pm, m0, m1, m2, k1, k2, k3, ok⟩
noncomputable def ks1 : List (List (Int × Bool)) := [[(1, false)], [(2, false)], [(3, false)], [(4, false)], [(5, false)], [(6, false)]]
theorem c_law (hK : KOk G) (hn : 20 ≤ n) (sc : Addr) (xs : List Int) (hm : ListB G sc (xs.map .int)) (hl : (xs.length : Int) < 2 ^ 63) (hP : (68, nP) ∈ σ) {Q : AV → Sig → Prop}
    (h : Q (.bool true) σ) : WCd G n (.raw (.ref 506)) [.raw (.ref sc)] σ Q := by
  refine .le (k := 19+1) ?_ (by omega)
  refine WCd.def [("script", .raw (.ref sc))] [("script", .raw (.ref sc))] (fun L => [("source", L + 4), ("first", L + 3), ("kinds", L + 2), ("world", L + 1)]) (fun L => (L + 4, AObj.cell (none)) :: (L + 3, AObj.cell (none)) :: (L + 2, AObj.cell (none)) :: (L + 1, AObj.cell (none)) :: σ) (by rw [hK]; rfl) (by rw [hK]; rfl) (HB.plain (names := ["script"]) ?hb rfl rfl) rfl rfl ?nd (by decide) rfl (fun _ => rfl) (fun _ => rfl) ?_
  case hb => exact len1 fun _ => rfl
  case nd => exact (by decide : (["script"] : List Str).Nodup)
  intro L
  walk_at "q*"
  refine c_World hK (by omega) ?_
  intro wx wdx d1 d2 ds d4 l d5 d6
  walk_at "q*"
  refine c_Sig hK (by omega) _ _ _ _ _ _ _ _ ?_
  intro sx sdx
  walk_at "q*"
  refine W3.set_dict (k := .str "f") (by walk_at "w upd") rfl (Nat.le_of_ble_eq_true rfl) ?_
  rw [show setA [] (.str "f") (.obj sx (instObj 389 sdx)) = [(AK.str "f", AV.obj sx (instObj 389 sdx))] from rfl]
  walk_at "q*"
  refine WCall.mk (WK.type _) (WC.range1 fun ra ro hro => ?_)
  refine W1.iter_range hro (by decide) fun itr => ?_
  rw [show Builtin.Range.rangeSize 0 2 1 = 2 from rfl]
  refine ⟨itr, rfl, ?_⟩
  walk_at "q*"
  refine W2.mul (IntMulOk.of_left (by decide)) ?_
  walk_at "q*"
  refine WM.list (by walk_at "w mem") PySem.F.slot_list_extend PySem.F.type_list_extend ?_
  walk_at "q*"
  refine WCall.mk (WK.type _) (WC.range1 fun ra1 ro1 hro1 => ?_)
  refine W1.iter_range hro1 (by decide) fun itr1 => ?_
  rw [show Builtin.Range.rangeSize 0 3 1 = 3 from rfl]
  refine ⟨itr1, rfl, ?_⟩
  walk_at "q*"
  refine WCall.mk (WK.builtin _) (WC.extendNew (by walk_at "w upd") (sz (Nat.le_of_ble_eq_true rfl)) ?_)
  walk_at "q*"
  refine WCall.mk (WK.type _) (WC.str_int (by decide) ?_)
  walk_at "q*"
  refine W2.add_str (x := "call") (y := sI 0) (by decide +kernel) ?_
  generalize ("call" ++ sI 0 : Str) = mk0
  walk_at "q*"
  refine WM.list (by walk_at "w mem") PySem.slot_list_append PySem.F.type_list_append ?_
  walk_at "q*"
  refine WCall.mk (WK.builtin _) (WC.append (by walk_at "w upd") (sz (Nat.le_of_ble_eq_true rfl)) ?_)
  walk_at "q*"
  refine W2.mul (IntMulOk.of_left (by decide)) ?_
  walk_at "q*"
  refine WM.list (by walk_at "w mem") PySem.F.slot_list_extend PySem.F.type_list_extend ?_
  walk_at "q*"
  refine WCall.mk (WK.type _) (WC.range1 fun ra2 ro2 hro2 => ?_)
  refine W1.iter_range hro2 (by decide) fun itr2 => ?_
  rw [show Builtin.Range.rangeSize 0 3 1 = 3 from rfl]
  refine ⟨itr2, rfl, ?_⟩
  walk_at "q*"
  refine WCall.mk (WK.builtin _) (WC.extendNew (by walk_at "w upd") (sz (Nat.le_of_ble_eq_true rfl)) ?_)
  walk_at "q*"
  refine WCall.mk (WK.type _) (WC.str_int (by decide) ?_)
  walk_at "q*"
  refine W2.add_str (x := "call") (y := sI 1) (by decide +kernel) ?_
  generalize ("call" ++ sI 1 : Str) = mk1
  walk_at "q*"
  refine WM.list (by walk_at "w mem") PySem.slot_list_append PySem.F.type_list_append ?_
  walk_at "q*"
  refine WCall.mk (WK.builtin _) (WC.append (by walk_at "w upd") (sz (Nat.le_of_ble_eq_true rfl)) ?_)
  walk_at "q*"
  rename_i b0s b0 b1s b1 b2s b2 bo
  refine W2.add_list (by walk_at "w mem") (by walk_at "w mem") (sz (Nat.le_of_ble_eq_true rfl)) ?_
  intro bl
  walk_at "q*"
  refine c_Body hK (by omega) _ _ _ _ _ (ks1.map locAV) (mem_eq (by walk_at "w mem") (by with_unfolding_all rfl)) (by decide) ?_
  intro bx bdx lc
  walk_at "q*"
  refine c_constraints_of hK (by omega) bx bdx lc bl _ wx wdx d1 d2 ds d4 l d5 d6 _ _ _ rfl ks1 [⟨b0, b0s, false, some (c1st 0)⟩, ⟨b1, b1s, false, some (c1st 1)⟩, ⟨b2, b2s, false, none⟩] [(.str "f", .obj sx (instObj 389 sdx))] F1 (by walk_at "w mem") (by walk_at "w mem") (by walk_at "w mem") (by walk_at "w mem") (mem_eq (by walk_at "w mem") rfl) ?_ (by walk_at "w mem") (by decide) (by decide) (Nat.le_of_ble_eq_true rfl) ?_ ?_
  · intro b hb
    simp only [List.mem_cons, List.not_mem_nil, or_false] at hb
    rcases hb with rfl | rfl | rfl
    · exact ⟨mem_eq (by walk_at "w mem") (by with_unfolding_all rfl), mem_eq (by walk_at "w mem") rfl⟩
    · exact ⟨mem_eq (by walk_at "w mem") (by with_unfolding_all rfl), mem_eq (by walk_at "w mem") rfl⟩
    · exact ⟨mem_eq (by walk_at "w mem") (by with_unfolding_all rfl), mem_eq (by walk_at "w mem") rfl⟩
  · intro b hb c hc
    have hok : smallT.okR := ⟨okN_R (.head _), trivial⟩
    simp only [List.mem_cons, List.not_mem_nil, or_false] at hb
    rcases hb with rfl | rfl | rfl
    · injection hc with hc
      subst hc
      exact ⟨sx, sdx, .str "f", .tup [.str "'a"], smallT, smallT, smallT, _, _, _, ⟨⟨rfl, rfl, rfl, by decide⟩, ⟨rfl, mem_eqo (by walk_at "w mem") rfl, hok, hok, hok, by decide, by decide, by decide, by decide⟩, fun nx => rfl, fun nx => rfl, fun nx => rfl, fun nx => rfl⟩⟩
    · injection hc with hc
      subst hc
      exact ⟨sx, sdx, .str "f", .tup [.str "'a"], smallT, smallT, smallT, _, _, _, ⟨⟨rfl, rfl, rfl, by decide⟩, ⟨rfl, mem_eqo (by walk_at "w mem") rfl, hok, hok, hok, by decide, by decide, by decide, by decide⟩, fun nx => rfl, fun nx => rfl, fun nx => rfl, fun nx => rfl⟩⟩
    · cases hc
  intro M hM0 hMk hMc rl
  have hf : 6 < M + 1 := by
    have := hMk [(6, false)] (by simp [ks1]) 6 (.head _)
    omega
  generalize M + 1 = f at hf ⊢
  rw [show (runTo F1 [⟨b0, b0s, false, some (c1st 0)⟩, ⟨b1, b1s, false, some (c1st 1)⟩, ⟨b2, b2s, false, none⟩] f ([⟨b0, b0s, false, some (c1st 0)⟩, ⟨b1, b1s, false, some (c1st 1)⟩, ⟨b2, b2s, false, none⟩] : List Blk).length).1 = R6 f from run6 b0 b0s b1 b1s b2 b2s hf]
  dsimp only [R6, List.map, rowAV]
  walk_at "q*"
  refine c_reached hK (by omega) _ _ ((E6 f).map numP) [1, 2, 3, 4, 5, 6] (mem_eq (by walk_at "w mem") (by with_unfolding_all rfl)) (mem_eq (by walk_at "w mem") rfl) (fun y hy => by obtain ⟨z, _, rfl⟩ := List.mem_map.mp hy; exact ⟨trivial, trivial⟩) (Nat.le_of_ble_eq_true rfl) (by decide) (by decide) ?_
  intro c1
  rw [reachL6 hf]
  walk_at "x*"
  refine W2.ne_prI (l := [(1, 3), (2, 3), (4, 6), (5, 6)]) (by walk_at "w mem") (mem_eq (by walk_at "w mem") rfl) ?_
  walk_at "x*"
  refine c_pool hK (by omega) sc xs hm hl ?_
  intro sr a b hb0 hb1
  walk_at "x*"
  refine WCall.pull sr (by walk_at "w at") (c_sigs hK (by omega) sr a b hb0 hb1 ?_)
  intro wx2 wdx2 e1 e2 ds2 e4 l2 e5 e6 fx fdx gx gdx u0 u1 u2 w0 w1 w2 a1 b1 o0 o1 o2 q0 q1 q2 h0 h1
  walk_at "x*"
  rename_i kl
  walk_at "z*"
  refine WCall.pull sr (by walk_at "w at") (c_take hK (by omega) sr a1 b1 3 (by decide) (by decide) h0 h1 ?_)
  intro v a2 b2 hv h0 h1
  walk_at "x*"
  have hrs : Builtin.Range.rangeSize 0 (1 + (v : Int)) 1 = ((1 + v : Nat) : Int) - ((0 : Nat) : Int) ∧ Builtin.Range.small 0 (1 + (v : Int)) 1 = true := by
    have : v = 0 ∨ v = 1 ∨ v = 2 := by omega
    rcases this with rfl | rfl | rfl <;> exact ⟨by decide, by decide⟩
  refine WCall.mk (WK.type _) (WC.range1 fun rb rob hrob => ?_)
  refine W1.iter_range hrob hrs.2 fun itc => ?_
  rw [hrs.1]
  refine ⟨itc, rfl, ?_⟩
  walk_at "x*"
  rename_i acc CC
  refine WCL.pull sr (by walk_at "w at") (WCL.pull kl (by walk_at "w at") (WCL.pull acc (by walk_at "w at") (WCL.pull itc (by walk_at "w at") ?_)))
  refine WCL.gen [(itc, _), (acc, _), (kl, _), (sr, _)] (fun τ hin hsub => ?_)
  have hw : (wdx2, AObj.attrs (worldA e1 e2 ds2 e4 l2 e5 e6)) ∈ τ := hin _ (by walk_at "w mem")
  have hds : (ds2, AObj.dict [(.str "f", .obj fx (instObj 389 fdx)), (.str "g", .obj gx (instObj 389 gdx))]) ∈ τ := hin _ (by walk_at "w mem")
  have hfd : (fdx, AObj.attrs (sigA (.str "f") rgAB u0 u1 u2)) ∈ τ := hin _ (by walk_at "w mem")
  have hgd : (gdx, AObj.attrs (sigA (.str "g") rgAB w0 w1 w2)) ∈ τ := hin _ (by walk_at "w mem")
  have hcw : (L + 1, AObj.cell (some (.obj wx2 (instObj 418 wdx2)))) ∈ τ := hin _ (by walk_at "w mem")
  have hck : (L + 2, AObj.cell (some (.raw (.ref kl)))) ∈ τ := hin _ (by walk_at "w mem")
  have hcs : (L + 4, AObj.cell (some (.raw (.ref sr)))) ∈ τ := hin _ (by walk_at "w mem")
  have hP' : (68, nP) ∈ τ := hin _ (by walk_at "w mem")
  have hσ : σ.Sublist τ := by
    refine List.Sublist.trans ?_ hsub
    repeat (first | with_reducible exact List.Sublist.refl _ | with_reducible apply List.Sublist.cons)
  clear hin hsub
  dsimp only [List.cons_append, List.nil_append]
  obtain ⟨sd, hsd⟩ : ∃ s : List (AK × AV), s = [(.str "f", .obj fx (instObj 389 fdx)), (.str "g", .obj gx (instObj 389 gdx))] := ⟨_, rfl⟩
  rw [← hsd] at hds
  refine WCL.eachP WCL.turn1 (Src.range (1 + v)) (fun i σ' => ∃ (cps : List (CS × Addr)) (a b : Int), cps.length = i ∧ CallsOk (cps.map (·.1)) ∧ (∀ x ∈ cps, ∃ sx sdx nv rg, SigIn τ sd x.1.c.nm sx sdx nv rg x.1.w0 x.1.w1 x.1.w2) ∧ 0 ≤ b ∧ b < 2147483647 ∧
    σ' = (acc, .list (cps.map callAV)) :: (kl, .list (((cps.map (·.1)).flatMap CS.ks).map ntyAV)) :: (sr, srcL a b) :: (pairsSig cps ++ τ)) (fun _ _ _ => trivial) ?_ ?_ ⟨[], a2, b2, rfl, fun i s h => (by simp at h), fun x h => (by cases h), h0, h1, rfl⟩
  · rintro i _ hi ⟨cps, a, b, hcl, hco, hsi, hb0, hb1, rfl⟩
    have kcw := List.mem_append_right (pairsSig cps) hcw
    have kck := List.mem_append_right (pairsSig cps) hck
    have kcs := List.mem_append_right (pairsSig cps) hcs
    have kw := List.mem_append_right (pairsSig cps) hw
    have kds := List.mem_append_right (pairsSig cps) hds
    dsimp only [List.cons_append, List.nil_append]
    unfold ItemP
    walk_at "x*"
    refine WCall.pull sr (by walk_at "w at") (WCall.pull kl (by walk_at "w at") (c_call hK (by omega) sr wx2 wdx2 e1 e2 ds2 e4 l2 e5 e6 kl i (by omega (config := {})) a b hb0 hb1 _ (by rw [ks_len, List.length_map, hcl]) sd (by walk_at "w mem") (by walk_at "w mem") ?_ ?_))
    · intro nm hnm
      rcases hnm with rfl | rfl
      · exact ⟨fx, fdx, .str "f", rgAB, u0, u1, u2, by rw [hsd]; rfl, .tail _ (.tail _ (List.mem_append_right _ hfd)), o0, o1, o2⟩
      · exact ⟨gx, gdx, .str "g", rgAB, w0, w1, w2, by rw [hsd]; rfl, .tail _ (.tail _ (List.mem_append_right _ hgd)), q0, q1, q2⟩
    intro s p pm m0 m1 m2 k1 k2 k3 pl a' b' ok hnm hS' h0' h1'
    obtain ⟨sx, sdx, nv, rg, hS⟩ := hS'
    walk_at "x*"
    refine EmitK.mk (by walk_at "w upd") (sz (by rw [List.length_map]; omega)) ?_
    have ea : (cps ++ [(s, pl)]).map callAV = cps.map callAV ++ [.tup [s.c.av, .raw (.ref pl)]] := by rw [List.map_append]; rfl
    have ek : ((cps ++ [(s, pl)]).map (·.1)).flatMap CS.ks = (cps.map (·.1)).flatMap CS.ks ++ s.ks := by simp
    refine CompP.perm (CompP.same (fun y v e => by cases e) ⟨cps ++ [(s, pl)], a', b', by rw [List.length_append, hcl]; rfl, ?_, ?_, h0', h1', rfl⟩) ?_
    · rw [List.map_append]
      exact hco.snoc (by rw [List.length_map, hcl]; exact ok)
    · intro x hx
      rcases List.mem_append.mp hx with hx | hx
      · exact hsi x hx
      · rw [List.mem_singleton.mp hx]
        exact ⟨sx, sdx, nv, rg, hS.up (attrs_in hS.hsa)⟩
    · rw [ea, ek, pairsSig_snoc]
      exact perm5 _ _ _ _ _ _ _
  · rintro _ ⟨cps, a, b, hcl, hco, hsi, hb0, hb1, rfl⟩
    have kcw := List.mem_append_right (pairsSig cps) hcw
    have kck := List.mem_append_right (pairsSig cps) hck
    have kw := List.mem_append_right (pairsSig cps) hw
    have kds := List.mem_append_right (pairsSig cps) hds
    have kP := List.mem_append_right (pairsSig cps) hP'
    dsimp only [List.cons_append, List.nil_append]
    walk_at "x*"
    refine c_right hK (by omega) wx2 wdx2 e1 e2 ds2 e4 l2 e5 e6 acc kl cps sd hco (by omega) (by walk_at "w mem") (fun x hx => .tail _ (.tail _ (.tail _ (List.mem_append_left _ (List.mem_map_of_mem hx))))) (by walk_at "w mem") (by walk_at "w mem") (by walk_at "w mem") ?_ (by walk_at "w mem") ?_
    · intro x hx
      obtain ⟨sx, sdx, nv, rg, hS⟩ := hsi x hx
      exact ⟨sx, sdx, nv, rg, hS.up (.tail _ (.tail _ (.tail _ (List.mem_append_right _ hS.hsa))))⟩
    · exact Fin.sub (Fin.ret h) (.cons _ (.cons _ (.cons _ (hσ.trans (List.sublist_append_right _ _)))))
end
end Mine
set_option maxRecDepth 100000
set_option maxHeartbeats 8000000
open PySem PySem.W PyProof.Rows
namespace Mine
open PySem PySem.W PyProof.Rows PySem.Calls PySem.SeqAt
theorem ints_rep {Φ : Frz} : ∀ {vs : List Value} {ns : List Int}, IntsAre vs ns → VReps Φ (ns.map .int) vs
  | _, _, .nil => rfl
  | _, _, .cons _ _ h => ⟨_, _, rfl, ⟨_, rfl⟩, ints_rep h⟩
theorem final {prog : Program} {w : World} {s₁ : Shared} {p : Program} {loose : List Str} {mean : ExcName → Option Value} {mg mb : Str → Option Value} (KX : (kk.heap_1 w.params).In s₁.heap) (hT9 : TabsAt [(84, 82), (72, 68)] s₁.heap)
    (T : Top p loose mean mg mb s₁.heap) (hg : s₁.gens = #[]) {fa sc : Addr} (hmg : mg "law" = some (.ref fa)) {its : List Value} {ns : List Int} (hL : s₁.heap.IsList sc its.toArray) (hI : IntsAre its ns) (hc : (ns.length : Int) < 2 ^ 63) :
    codeAny (model prog w) callerA (.call (.ref fa) ⟨[.ref sc], []⟩) (fun r s' => r = .ok (.ret (.bool true)) ∧ (∀ b o, (ghostOf s₁.heap [(84, 82), (72, 68)]).get? b = some o → s'.heap.get? b = some o) ∧ s'.os = s₁.os ∧ s'.gens = #[] ∧ GrownAll [(84, 82), (72, 68)] s'.heap) s₁ := by
  have e506 : mg "law" = some (.ref 506) := mg_of KX T.g (by kernel_rfl)
  rw [e506] at hmg
  injection hmg with hmg
  injection hmg with hmg
  subst hmg
  have TG := ghost_top hT9 T
  obtain ⟨G0, g1, g2, g3, g4, g5⟩ : ∃ G0 : Gd, G0.prog = prog ∧ G0.w = w ∧ G0.B = ghostOf s₁.heap [(84, 82), (72, 68)] ∧ G0.K = kk.heap_1 w.params ∧ G0.os = s₁.os :=
    ⟨{ prog := prog, w := w, B := ghostOf s₁.heap [(84, 82), (72, 68)], K := kk.heap_1 w.params, X := ghost_K hT9 KX (by kernel_rfl), p := _, loose := _, mg := mg, mb := mb, T := topRead_of TG, bmain := TG.bmain, os := s₁.os }, rfl, rfl, rfl, rfl, rfl⟩
  have hB : ∀ b o, G0.B.get? b = some o → s₁.heap.get? b = some o := fun b o e => by rw [g3] at e; exact of_hideAll _ e
  have hN : ∀ b, b ∈ ([82, 68] : List Addr) → G0.B.get? b = none := fun b hb => by rw [g3]; exact hideAll_none _ hb
  have hSt : St G0 ([((68 : Addr), nP)] ++ [((82 : Addr), AObj.tab notedPos "x")]) G0.B.get? s₁ := by
    refine ⟨fun a o e => e, hB, ?_, by decide, by decide, hg, g5.symm⟩
    intro q hq
    rcases List.mem_cons.mp hq with rfl | hq
    · exact ⟨⟨#[], (hT9 (72, 68) (.tail _ (.head _))).2, .inl rfl⟩, hN 68 (.tail _ (.head _))⟩
    · rw [List.mem_singleton.mp hq]
      exact ⟨⟨#[], (hT9 (84, 82) (.head _)).2, .inl rfl⟩, hN 82 (.head _)⟩
  have hlist : ListB G0 sc (ns.map .int) := ⟨its.toArray, by rw [g3]; exact ghost_list hT9 hL, fun Φ => ints_rep hI⟩
  have hrm : Rm callerA 20 := ⟨by decide, by decide, rfl⟩
  have hw := c_law (G := G0) (n := 20) (σ := [((68 : Addr), nP)]) (g4.trans (by rw [g2])) (Nat.le_refl _) sc ns hlist hc (.head _) (Q := fun a σ' => a = .bool true ∧ σ' = [((68 : Addr), nP)]) ⟨rfl, rfl⟩ (.ref 506) [.ref sc] callerA _ s₁ [((82 : Addr), AObj.tab notedPos "x")] hrm rfl ⟨_, _, rfl, rfl, rfl⟩ hSt
  rw [g1, g2] at hw
  refine codeAny_mono hw fun r s' hp => ?_
  obtain ⟨v, hr, Φ', b, σ', hx, hv, hst, hb, hσ⟩ := hp
  subst hb
  subst hσ
  have hv' : v = .bool true := hv
  subst hv'
  obtain ⟨ps, e1, _⟩ := (hst.own (68, nP) (.head _)).1
  obtain ⟨ps2, e2, _⟩ := (hst.own (82, AObj.tab notedPos "x") (.tail _ (.head _))).1
  exact ⟨hr, fun b o e => hst.baseK b o (by rw [g3]; exact e), hst.os.trans g5, hst.gens, ⟨ps2, e2⟩, ⟨ps, e1⟩, trivial⟩
end Mine
open PySem PySem.W PyProof.Rows
theorem Mine.walkT : ∀ q a b c d kwd, WalkO q [Str.ofString "LendError"] (XL q []) Mine.kHk.says PySem.Challenge.rw_ot0033_01.row.toRowW ⟨Str.ofString "law", a, b, c, d⟩ kwd fun f vs => PySem.call f vs := by
  intro q a b c d kwd
  unfold Mine.kHk
  k_fill
  intro w s₀ s₁ mg mb G Y fa o pm cd doc dV kV ho hdd hcd hD hmg hg args vals as hpre hlay hrd hwl hlo
  have KX := km_in_of Y
  km_tabs Y
  refine Ground.open G ?_
  intro T B D TE TW
  try (refine guard_noD D (by decide +kernel) ?_; clear D)
  dsimp only at hmg
  km_lay T hmg ho hdd cd
  wrow_args hpre hlay hrd hwl hlo
  rename_i ns hsh hlay0 hLay hrr hl2 w4 w3 sc its was hL ra w1 r0 hI hr hc1 hc2
  refine enter_call ?_
  w_top on
  kn_posts
  refine codeAny_mono (Mine.final KX hT9 T hg hmg hL hI (by omega)) fun r s' hp => ?_
  obtain ⟨hr, hk, hos, hgn, hgr⟩ := hp
  refine ⟨⟨.inl ⟨.bool true, .bool true, [], hr, fun _ => rfl, .bool _, postW_of (X := true) (by first | rfl | decide | with_unfolding_all rfl) (by first | rfl | decide | with_unfolding_all rfl) rfl, fun _ => ⟨.nil, fun a h => (by cases h)⟩⟩, hk, hos, hgn⟩, hgr⟩
open PySem PySem.W PyProof.Rows
theorem Mine.hd1.tw18112808974244860236 : True := trivial
theorem Mine.hd1.tw17564648270372520760 : True := trivial
theorem Mine.hd1.tw10637850366844017781 : True := trivial
theorem Mine.hd1.tw8626381036101514767 : True := trivial
theorem Mine.hd1.tw9066385376036924593 : True := trivial
theorem Mine.hd1.tw14238315530982168757 : True := trivial
theorem Mine.hd1.tw2950503374022526182 : True := trivial
theorem Mine.hd1.tw14140380398854645116 : True := trivial
theorem Mine.hd1.tw11616630549976190935 : True := trivial
theorem Mine.hd1.tw304488650468328195 : True := trivial
theorem Mine.hd1.tw2959831663663325226 : True := trivial
theorem Mine.hd1.tw13842049602752244408 : True := trivial
theorem Mine.hd1.tw925455524096654728 : True := trivial
theorem Mine.hd1.tw7900339633576308366 : True := trivial
theorem Mine.hd1.tw2778770246048450701 : True := trivial
theorem Mine.hd1.tw6308067094839483347 : True := trivial
theorem Mine.hd1.tw16442820809736394073 : True := trivial
theorem Mine.hd1.tw12384752133098304028 : True := trivial
theorem Mine.hd1.tw11143146793309479662 : True := trivial
theorem Mine.hd1.tw17218145132875897575 : True := trivial
theorem Mine.hd1.tw537002190007572441 : True := trivial
theorem Mine.hd1.tw17175752415169365825 : True := trivial
theorem Mine.hd1.tw6670969005617463830 : True := trivial
theorem Mine.hd1.tw13857333784512858309 : True := trivial
theorem Mine.hd1.tw16776402567520435936 : True := trivial
theorem Mine.hd1.tw10914363300001401834 : True := trivial
theorem Mine.hd1.tw854248560453754308 : True := trivial
theorem Mine.hd1.tw14582101390692679645 : True := trivial
theorem Mine.hd1.tw10178957263525110207 : True := trivial
theorem Mine.hd1.tw15573934015689175913 : True := trivial
theorem Mine.hd1.tw351980263268335111 : True := trivial
theorem Mine.hd1.tw5218349642967262791 : True := trivial
theorem Mine.hd1.tw9941369098064262265 : True := trivial
theorem Mine.hd1.tw4994046611563572474 : True := trivial
theorem Mine.hd1.tw12928250266223933287 : True := trivial
theorem Mine.hd1.tw15118222676993535980 : True := trivial
theorem Mine.hd1.tw9223151423020971987 : True := trivial
theorem Mine.hd1.tw12807341785796325878 : True := trivial
theorem Mine.hd1.tw13128932077082893692 : True := trivial
theorem Mine.hd1.tw13583229147706037701 : True := trivial
theorem Mine.hd1.tw7841633892405797194 : True := trivial
theorem Mine.hd1.tw11328031603617176385 : True := trivial
theorem Mine.hd1.tw3828854413713758850 : True := trivial
theorem Mine.hd1.tw16657855368224958944 : True := trivial
theorem Mine.hd1.tw3218797117977602775 : True := trivial
theorem Mine.hd1.tw7892337272836252221 : True := trivial
theorem Mine.hd1.tw10591708749834548567 : True := trivial
theorem Mine.hd1.tw16186174574920257623 : True := trivial
theorem Mine.hd1.tw12600234683466793539 : True := trivial
theorem Mine.hd1.tw17086192308024907314 : True := trivial
theorem Mine.hd1.tw11072332280452107873 : True := trivial
theorem Mine.hd1.tw653500344624238036 : True := trivial
theorem Mine.hd1.tw12044327480701932633 : True := trivial
theorem Mine.hd1.tw9359134902690868765 : True := trivial
theorem Mine.hd1.tw3438612306271873676 : True := trivial
theorem Mine.hd1.tw15655846071405728210 : True := trivial
theorem Mine.hd1.tw6063318762767063493 : True := trivial
theorem Mine.hd1.tw7293048146460711459 : True := trivial
theorem Mine.hd1.tw12705062300120254490 : True := trivial
theorem Mine.hd1.tw11341562574356561829 : True := trivial
theorem Mine.hd1.tw18382150699262367533 : True := trivial
theorem Mine.hd1.tw171739038819421201 : True := trivial
theorem Mine.hd1.tw11085651044870281827 : True := trivial
theorem Mine.hd1.tw12796043078823596463 : True := trivial
theorem Mine.hd1.tw12330458932702063873 : True := trivial
theorem Mine.hd1.tw7855087194093072589 : True := trivial
theorem Mine.hd1.tw9507857226258147953 : True := trivial
theorem Mine.hd1.tw14490407293616978363 : True := trivial
theorem Mine.hd1.tw7965246771855541013 : True := trivial
theorem Mine.hd1.tw7175010419093857757 : True := trivial
theorem Mine.hd1.tw1689533170884540131 : True := trivial
theorem Mine.hd1.tw14652084677260438964 : True := trivial
theorem Mine.hd1.tw8079893763966621195 : True := trivial
theorem Mine.hd1.tw5503207185333237957 : True := trivial
theorem Mine.hd1.tw16180554804944557726 : True := trivial
theorem Mine.hd1.tw4001711590306175475 : True := trivial
theorem Mine.hd1.tw17575427920925300106 : True := trivial
theorem Mine.hd1.tw4272728018218156691 : True := trivial
theorem Mine.hd1.tw1077524053683278473 : True := trivial
theorem Mine.hd1.tw3344717175671386141 : True := trivial
theorem Mine.hd1.tw8631003889939841887 : True := trivial
theorem Mine.hd1.tw17291168127270580231 : True := trivial
theorem Mine.hd1.tw1919824005500916666 : True := trivial
theorem Mine.hd1.tw12115468802862148717 : True := trivial
theorem Mine.hd1.tw6740007077494436468 : True := trivial
theorem Mine.hd1.tw6185010501481489848 : True := trivial
theorem Mine.hd1.tw12465650656401782640 : True := trivial
theorem Mine.hd1.tw13147429185774478216 : True := trivial
theorem Mine.hd1.tw17727778823239604131 : True := trivial
theorem Mine.hd1.tw1048562267710987347 : True := trivial
theorem Mine.hd1.tw5572242580964170917 : True := trivial
theorem Mine.hd1.tw10234837602342602661 : True := trivial
theorem Mine.hd1.tw4863333110396885016 : True := trivial
theorem Mine.hd1.tw10297167170466133192 : True := trivial
theorem Mine.hd1.tw8261609543595068703 : True := trivial
theorem Mine.hd1.tw12823105271618385472 : True := trivial
theorem Mine.hd1.tw5093201182074696760 : True := trivial
theorem Mine.hd1.tw9465635705745386372 : True := trivial
theorem Mine.hd1.tw11864633429350504461 : True := trivial
theorem Mine.hd1.tw11829470795990026913 : True := trivial
theorem Mine.hd1.tw11300281175528212300 : True := trivial
theorem Mine.hd1.tw768367795782103253 : True := trivial
theorem Mine.hd1.tw3722270464455737034 : True := trivial
theorem Mine.hd1.tw15078426162546923447 : True := trivial
theorem Mine.hd1.tw14471576956257213872 : True := trivial
theorem Mine.hd1.tw7994462938733818151 : True := trivial
theorem Mine.hd1.tw2969369046099717777 : True := trivial
theorem Mine.hd1.tw3604894208380876759 : True := trivial
theorem Mine.hd1.tw17320985700819400177 : True := trivial
theorem Mine.hd1.tw12072296497139422797 : True := trivial
theorem Mine.hd1.tw17238880981622594036 : True := trivial
theorem Mine.hd1.tw16778215859786484773 : True := trivial
theorem Mine.hd1.tw4646040722152497904 : True := trivial
theorem Mine.hd1.tw9525304095897062524 : True := trivial
theorem Mine.hd1.tw4576695263573992903 : True := trivial
theorem Mine.hd1.tw14687807220878772671 : True := trivial
theorem Mine.hd1.tw8169281498890431221 : True := trivial
theorem Mine.hd1.tw1914819060110601650 : True := trivial
theorem Mine.hd1.tw12396357281565304557 : True := trivial
theorem Mine.hd1.tw8078348814099161046 : True := trivial
theorem Mine.hd1.tw4557649837304970399 : True := trivial
theorem Mine.hd1.tw15859176079355207394 : True := trivial
theorem Mine.hd1.tw143401062041269508 : True := trivial
theorem Mine.hd1.tw7729574260132436508 : True := trivial
theorem Mine.hd1.tw7269482589347824076 : True := trivial
theorem Mine.hd1.tw11409786429011743065 : True := trivial
theorem Mine.hd1.tw15367715581685046670 : True := trivial
theorem Mine.hd1.tw18398558094726407653 : True := trivial
theorem Mine.hd1.tw15525991514620048645 : True := trivial
theorem Mine.hd1.tw8381735889464962274 : True := trivial
theorem Mine.hd1.tw16791109837119264035 : True := trivial
theorem Mine.hd1.tw13723444471205131577 : True := trivial
theorem Mine.hd1.tw17031210902285631610 : True := trivial
theorem Mine.hd1.tw16070889382108406940 : True := trivial
theorem Mine.hd1.tw16732514194513289089 : True := trivial
theorem Mine.hd1.tw16666759511887403641 : True := trivial
theorem Mine.hd1.tw7786741678075434529 : True := trivial
theorem Mine.hd1.tw8365471939444515919 : True := trivial
theorem Mine.hd1.tw15510164846609261243 : True := trivial
theorem Mine.hd1.tw2268396669145760834 : True := trivial
theorem Mine.hd1.tw1117175830116628944 : True := trivial
theorem Mine.hd1.tw9853029277575771573 : True := trivial
theorem Mine.hd1.tw8446680965565879244 : True := trivial
theorem Mine.hd1.tw13245261159470666128 : True := trivial
theorem Mine.hd1.tw1445795673000212332 : True := trivial
theorem Mine.hd1.tw8689706474279982383 : True := trivial
theorem Mine.hd1.tw7351242549983844471 : True := trivial
theorem Mine.hd1.tw18134192685459499724 : True := trivial
theorem Mine.hd1.tw8822810814059822395 : True := trivial
theorem Mine.hd1.tw6379131535691634451 : True := trivial
theorem Mine.hd1.tw6102106877835573088 : True := trivial
theorem Mine.hd1.tw15535730069458728833 : True := trivial
theorem Mine.hd1.tw14791158851523332489 : True := trivial
theorem Mine.hd1.tw10804936532305377965 : True := trivial
theorem Mine.hd1.tw3980222632696544844 : True := trivial
theorem Mine.hd1.tw4237873214717801346 : True := trivial
theorem Mine.hd1.tw35357423663770356 : True := trivial
theorem Mine.hd1.tw11109106110001003909 : True := trivial
theorem Mine.hd1.tw12327400047284793236 : True := trivial
theorem Mine.hd1.tw4154939412740954478 : True := trivial
theorem Mine.hd1.tw16287689955150511984 : True := trivial
theorem Mine.hd1.tw7546930263929380663 : True := trivial
theorem Mine.hd1.tw16306128556320469528 : True := trivial
theorem Mine.hd1.tw2813591263017548778 : True := trivial
theorem Mine.hd1.tw9976965627611707242 : True := trivial
theorem Mine.hd1.tw2580433498284544146 : True := trivial
theorem Mine.hd1.tw7042658147384840316 : True := trivial
theorem Mine.hd1.tw14011137922964698352 : True := trivial
theorem Mine.hd1.tw10473903147847226056 : True := trivial
theorem Mine.hd1.tw1548954648835268240 : True := trivial
theorem Mine.hd1.tw12818419834661068080 : True := trivial
theorem Mine.hd1.tw7434838108570963031 : True := trivial
theorem Mine.hd1.tw12785677980147168601 : True := trivial
theorem Mine.hd1.tw16793471748091229124 : True := trivial
theorem Mine.hd1.tw10561972591422044775 : True := trivial
theorem Mine.hd1.tw3990640514703076710 : True := trivial
theorem Mine.hd1.tw15821401064879171796 : True := trivial
theorem Mine.hd1.tw7100356614995842017 : True := trivial
theorem Mine.hd1.tw11651659058834167720 : True := trivial
theorem Mine.hd1.tw2801264983733388979 : True := trivial
theorem Mine.hd1.tw17398203663945988208 : True := trivial
theorem Mine.hd1.tw6656426479050633351 : True := trivial
theorem Mine.hd1.tw17101630626373504499 : True := trivial
theorem Mine.hd1.tw12286936476987153094 : True := trivial
theorem Mine.hd1.tw2922695450477402437 : True := trivial
theorem Mine.hd1.tw13482335260084868532 : True := trivial
theorem Mine.hd1.tw4018492584024114293 : True := trivial
theorem Mine.hd1.tw3968623045802316903 : True := trivial
theorem Mine.hd1.tw17705321265527564325 : True := trivial
theorem Mine.hd1.tw4923933505645490834 : True := trivial
theorem Mine.hd1.tw15292808370230401004 : True := trivial
theorem Mine.hd1.tw13236984440341829057 : True := trivial
theorem Mine.hd1.tw10700220127634670077 : True := trivial
theorem Mine.hd1.tw5092411785185218150 : True := trivial
theorem Mine.hd1.tw14252812257507569475 : True := trivial
theorem Mine.hd1.tw9891423857263708744 : True := trivial
theorem Mine.hd1.tw6710518367048746808 : True := trivial
theorem Mine.hd1.tw4751404757920926090 : True := trivial
theorem Mine.hd1.tw1415532531148760997 : True := trivial
theorem Mine.hd1.tw18179277727921303180 : True := trivial
theorem Mine.hd1.tw11854538722552364928 : True := trivial
theorem Mine.hd1.tw8554403050231663970 : True := trivial
theorem Mine.hd1.tw13887915953586862633 : True := trivial
theorem Mine.hd1.tw8304653980135869391 : True := trivial
theorem Mine.hd1.tw14398095550649337470 : True := trivial
theorem Mine.hd1.tw17481976684083832645 : True := trivial
theorem Mine.hd1.tw3984511333461951867 : True := trivial
theorem Mine.hd1.tw6017422695983744721 : True := trivial
theorem Mine.hd1.tw8950131305491959409 : True := trivial
theorem Mine.hd1.tw1460469024134179195 : True := trivial
theorem Mine.hd1.tw10076682158830856829 : True := trivial
theorem Mine.hd1.tw9964224384241814600 : True := trivial
theorem Mine.hd1.tw1055508529811263887 : True := trivial
theorem Mine.hd1.tw4420639870960446975 : True := trivial
theorem Mine.hd1.tw6480295302920615516 : True := trivial
theorem Mine.hd1.tw10820274440451682507 : True := trivial
theorem Mine.hd1.tw8191452525117841642 : True := trivial
theorem Mine.hd1.tw9813454149047361948 : True := trivial
theorem Mine.hd1.tw11641965594154665699 : True := trivial
theorem Mine.hd1.tw11725372579835581438 : True := trivial
theorem Mine.hd1.tw8942475824201148736 : True := trivial
theorem Mine.hd1.tw8812050181727419407 : True := trivial
theorem Mine.hd1.tw1646357197624039978 : True := trivial
theorem Mine.hd1.tw5238190785934107401 : True := trivial
theorem Mine.hd1.tw7184969450910814017 : True := trivial
theorem Mine.hd1.tw13445001134273370763 : True := trivial
theorem Mine.hd1.tw9739346876377804127 : True := trivial
theorem Mine.hd1.tw18227652438565928561 : True := trivial
theorem Mine.hd1.tw16623122904889909375 : True := trivial
theorem Mine.hd1.tw10708063086115138668 : True := trivial
theorem Mine.hd1.tw10531742767082501842 : True := trivial
theorem Mine.hd1.tw3079903402703204434 : True := trivial
theorem Mine.hd1.tw12336966236247729496 : True := trivial
theorem Mine.hd1.tw8190399726693707718 : True := trivial
theorem Mine.hd1.tw1249825211684208046 : True := trivial
theorem Mine.hd1.tw2222716709307786116 : True := trivial
theorem Mine.hd1.tw17462788290370780767 : True := trivial
theorem Mine.hd1.tw11597187199302458724 : True := trivial
theorem Mine.hd1.tw16304285603775451318 : True := trivial
theorem Mine.hd1.tw17463467490617138607 : True := trivial
theorem Mine.hd1.tw16018651308206487611 : True := trivial
theorem Mine.hd1.tw520593062444337645 : True := trivial
theorem Mine.hd1.tw14839481126929160208 : True := trivial
theorem Mine.hd1.tw8234543035352300146 : True := trivial
theorem Mine.hd1.tw16251149594108477412 : True := trivial
theorem Mine.hd1.tw7083741785457975351 : True := trivial
theorem Mine.hd1.tw4639686281658940113 : True := trivial
theorem Mine.hd1.tw10200206737590811066 : True := trivial
theorem Mine.hd1.tw8384829265435359589 : True := trivial
theorem Mine.hd1.tw6037734164172071285 : True := trivial
theorem Mine.hd1.tw9194154633654548310 : True := trivial
theorem Mine.hd1.tw5966988754345751985 : True := trivial
theorem Mine.hd1.tw17590368472237239297 : True := trivial
theorem Mine.hd1.tw1554079574828184689 : True := trivial
theorem Mine.hd1.tw13271950798746650856 : True := trivial
theorem Mine.hd1.tw1252001274916696412 : True := trivial
theorem Mine.hd1.tw10134090516017400937 : True := trivial
theorem Mine.hd1.tw18066730563429254912 : True := trivial
theorem Mine.hd1.tw5258307464466348872 : True := trivial
theorem Mine.hd1.tw13938469497844694659 : True := trivial
theorem Mine.hd1.tw11901178051882076226 : True := trivial
theorem Mine.hd1.tw10144987460670166035 : True := trivial
theorem Mine.hd1.tw1610998170477003041 : True := trivial
theorem Mine.hd1.tw5476648514312569823 : True := trivial
theorem Mine.hd1.tw13195755426629542146 : True := trivial
theorem Mine.hd1.tw10649624184653564321 : True := trivial
theorem Mine.hd1.tw1470085350289813573 : True := trivial
theorem Mine.hd1.tw11957457311791239787 : True := trivial
theorem Mine.hd1.tw11957746867921649346 : True := trivial
theorem Mine.hd1.tw15644342355448919065 : True := trivial
theorem Mine.hd1.tw15783190518918637506 : True := trivial
theorem Mine.hd1.tw7004942789874552620 : True := trivial
theorem Mine.hd1.tw5358471955872453101 : True := trivial
theorem Mine.hd1.tw5161873937053049608 : True := trivial
theorem Mine.hd1.tw14888681892930032729 : True := trivial
theorem Mine.hd1.tw13823016479905136447 : True := trivial
theorem Mine.hd1.tw6370840495346487638 : True := trivial
theorem Mine.hd1.tw5203880538110798832 : True := trivial
theorem Mine.hd1.tw3843395054260823596 : True := trivial
theorem Mine.hd1.tw12542268594579439618 : True := trivial
theorem Mine.hd1.tw16810127817807883888 : True := trivial
theorem Mine.hd1.tw8870756991148732165 : True := trivial
theorem Mine.hd1.tw16774530270066939069 : True := trivial
theorem Mine.hd1.tw10848080981529063793 : True := trivial
theorem Mine.hd1.tw15611649249844307584 : True := trivial
theorem Mine.hd1.tw121613212654823039 : True := trivial
theorem Mine.hd1.tw6073334317717499053 : True := trivial
theorem Mine.hd1.tw14387540253346532755 : True := trivial
theorem Mine.hd1.tw10553098498631285808 : True := trivial
theorem Mine.hd1.tw13114783291098815554 : True := trivial
theorem Mine.hd1.tw10573791669326748125 : True := trivial
theorem Mine.hd1.tw1955017500732477709 : True := trivial
theorem Mine.hd1.tw6063318513012331732 : True := trivial
theorem Mine.hd1.tw4207769371624928032 : True := trivial
theorem Mine.hd1.tw12902943350654414931 : True := trivial
theorem Mine.hd1.tw18375623129126509052 : True := trivial
theorem Mine.hd1.tw5718028182253510470 : True := trivial
theorem Mine.hd1.tw16318424681510585870 : True := trivial
theorem Mine.hd1.tw838120781490299603 : True := trivial
theorem Mine.hd1.tw858041670754141754 : True := trivial
theorem Mine.hd1.tw17846349034085063318 : True := trivial
theorem Mine.hd1.tw4866123044954317167 : True := trivial
theorem Mine.hd1.tw13266498950805814637 : True := trivial
theorem Mine.hd1.tw10856703642782037878 : True := trivial
theorem Mine.hd1.tw130927055954805003 : True := trivial
theorem Mine.hd1.tw14090284624843534012 : True := trivial
theorem Mine.hd1.tw9550935655531503971 : True := trivial
theorem Mine.hd1.tw9604419860917626430 : True := trivial
theorem Mine.hd1.tw5913406982297653017 : True := trivial
theorem Mine.hd1.tw7915446569104797645 : True := trivial
theorem Mine.hd1.tw1311933067398476171 : True := trivial
theorem Mine.hd1.tw14015870473954225645 : True := trivial
theorem Mine.hd1.tw1688263611210575367 : True := trivial
theorem Mine.hd1.tw3397788310783581495 : True := trivial
theorem Mine.hd1.tw16720470747101719882 : True := trivial
theorem Mine.hd1.tw14586059867242780950 : True := trivial
theorem Mine.hd1.tw5471606172386490159 : True := trivial
theorem Mine.hd1.tw12786832609010412316 : True := trivial
theorem Mine.hd1.tw4588320892244365729 : True := trivial
theorem Mine.hd1.tw3023333407752261122 : True := trivial
theorem Mine.hd1.tw597393055563490979 : True := trivial
theorem Mine.hd1.tw10350851315885861048 : True := trivial
theorem Mine.hd1.tw1392353700870619943 : True := trivial
theorem Mine.hd1.tw15296254770460015583 : True := trivial
theorem Mine.hd1.tw9957920846010186260 : True := trivial
theorem Mine.hd1.tw12138335491307248288 : True := trivial
theorem Mine.hd1.tw7433779958769928529 : True := trivial
theorem Mine.hd1.tw4043401122150412000 : True := trivial
theorem Mine.hd1.tw10724801185292692935 : True := trivial
theorem Mine.hd1.tw12963811692526673865 : True := trivial
theorem Mine.hd1.tw5396625778321767378 : True := trivial
theorem Mine.hd1.tw3079589803360923938 : True := trivial
theorem Mine.hd1.tw18107665137723586439 : True := trivial
theorem Mine.hd1.tw7168107392325884624 : True := trivial
theorem Mine.hd1.tw408274250101448718 : True := trivial
theorem Mine.hd1.tw18282633826449473692 : True := trivial
theorem Mine.hd1.tw16890258532806306508 : True := trivial
theorem Mine.hd1.tw14681713640160019894 : True := trivial
theorem Mine.hd1.tw13153289449168087860 : True := trivial
theorem Mine.hd1.tw17124278380514713446 : True := trivial
theorem Mine.hd1.tw2625946525778736496 : True := trivial
theorem Mine.hd1.tw3574917266314510510 : True := trivial
theorem Mine.hd1.tw12070379700321858034 : True := trivial
theorem Mine.hd1.tw5921807947982238189 : True := trivial
theorem Mine.hd1.tw15814337705471456161 : True := trivial
theorem Mine.hd1.tw16030191696836735385 : True := trivial
theorem Mine.hd1.tw731411104882703785 : True := trivial
theorem Mine.hd1.tw3958678670875977143 : True := trivial
theorem Mine.hd1.tw7120988893298550348 : True := trivial
theorem Mine.hd1.tw1906562954235371343 : True := trivial
theorem Mine.hd1.tw10292609211446212973 : True := trivial
theorem Mine.hd1.tw12004275767339668129 : True := trivial
theorem Mine.hd1.tw3073534484378469675 : True := trivial
theorem Mine.hd1.tw2265354207573026128 : True := trivial
theorem Mine.hd1.tw7761271061229007458 : True := trivial
theorem Mine.hd1.tw7525091769447867299 : True := trivial
theorem Mine.hd1.tw2867491492711303406 : True := trivial
theorem Mine.hd1.tw10790882564719359949 : True := trivial
theorem Mine.hd1.tw14416307740304488756 : True := trivial
theorem Mine.hd1.tw13929332100705575127 : True := trivial
theorem Mine.hd1.tw13509217223386898306 : True := trivial
theorem Mine.hd1.tw11092302832771994697 : True := trivial
theorem Mine.hd1.tw1288221119114394522 : True := trivial
theorem Mine.hd1.tw2938061585665343540 : True := trivial
theorem Mine.hd1.tw11136115069241439448 : True := trivial
theorem Mine.hd1.tw11166393667281280965 : True := trivial
theorem Mine.hd1.tw10156199773854934235 : True := trivial
theorem Mine.hd1.tw3939405677875705471 : True := trivial
theorem Mine.hd1.tw5379093303929843241 : True := trivial
theorem Mine.hd1.tw3087731595549485085 : True := trivial
theorem Mine.hd1.tw5156043985427674254 : True := trivial
theorem Mine.hd1.tw71195429810976048 : True := trivial
theorem Mine.hd1.tw3023252878509815947 : True := trivial
theorem Mine.hd1.tw3365818958329656131 : True := trivial
theorem Mine.hd1.tw1246893936170120422 : True := trivial
theorem Mine.hd1.tw9136850289021815647 : True := trivial
theorem Mine.hd1.tw15673564123490148756 : True := trivial
theorem Mine.hd1.tw14452127331300777667 : True := trivial
theorem Mine.hd1.tw3084328530403782026 : True := trivial
theorem Mine.hd1.tw3652786490577305660 : True := trivial
theorem Mine.hd1.tw7890804143902418197 : True := trivial
theorem Mine.hd1.tw11361131539250289852 : True := trivial
theorem Mine.hd1.tw9958680822381570546 : True := trivial
theorem Mine.hd1.tw10086727992874484410 : True := trivial
theorem Mine.hd1.tw58709120958063738 : True := trivial
theorem Mine.hd1.tw12465144768464929370 : True := trivial
theorem Mine.hd1.tw14977828860100009464 : True := trivial
theorem Mine.hd1.tw11378608031656851165 : True := trivial
theorem Mine.hd1.tw7821715371302368064 : True := trivial
theorem Mine.hd1.tw1273491169535094953 : True := trivial
theorem Mine.hd1.tw10864103299417093280 : True := trivial
theorem Mine.hd1.tw5656153422853955493 : True := trivial
theorem Mine.hd1.tw17449584201812072848 : True := trivial
theorem Mine.hd1.tw14649824945515725927 : True := trivial
theorem Mine.hd1.tw17626674450210069265 : True := trivial
theorem Mine.hd1.tw13276058216820339234 : True := trivial
theorem Mine.hd1.tw8170644531034959647 : True := trivial
theorem Mine.hd1.tw5865070894055973056 : True := trivial
theorem Mine.hd1.tw17003180035413930263 : True := trivial
theorem Mine.hd1.tw7794109029900032020 : True := trivial
theorem Mine.hd1.tw5551525266095413032 : True := trivial
theorem Mine.hd1.tw5780167445656238219 : True := trivial
theorem Mine.hd1.tw2053510622560072925 : True := trivial
theorem Mine.hd1.tw1691228469091631694 : True := trivial
theorem Mine.hd1.tw12463880285547050369 : True := trivial
theorem Mine.hd1.tw16224483319457287118 : True := trivial
theorem Mine.hd1.tw15167611178512965357 : True := trivial
theorem Mine.hd1.tw6668516419338058186 : True := trivial
theorem Mine.hd1.tw12579520871413258114 : True := trivial
theorem Mine.hd1.tw6305477527101071121 : True := trivial
theorem Mine.hd1.tw11090893880683317163 : True := trivial
theorem Mine.hd1.tw8187976081037606695 : True := trivial
theorem Mine.hd1.tw6556227123224777973 : True := trivial
theorem Mine.hd1.tw5528719629094430642 : True := trivial
theorem Mine.hd1.tw12824766428611659464 : True := trivial
theorem Mine.hd1.tw5152911333813713629 : True := trivial
theorem Mine.hd1.tw16692256089216467419 : True := trivial
theorem Mine.hd1.tw8667354244190541383 : True := trivial
theorem Mine.hd1.tw18034305138629300239 : True := trivial
theorem Mine.hd1.tw16567681815171750878 : True := trivial
theorem Mine.hd1.tw9530218466034573480 : True := trivial
theorem Mine.hd1.tw18359709495069703854 : True := trivial
theorem Mine.hd1.tw2481534461750552771 : True := trivial
theorem Mine.hd1.tw3346475721458902818 : True := trivial
theorem Mine.hd1.tw18405161421826791021 : True := trivial
theorem Mine.hd1.tw8916063939126489485 : True := trivial
theorem Mine.hd1.tw17410596723798510473 : True := trivial
theorem Mine.hd1.tw13923645267195094232 : True := trivial
theorem Mine.hd1.tw5990408252890836121 : True := trivial
theorem Mine.hd1.tw2540488291652735010 : True := trivial
theorem Mine.hd1.tw7915504906245089691 : True := trivial
theorem Mine.hd1.tw14513576803566825748 : True := trivial
theorem Mine.hd1.tw2616844283238625912 : True := trivial
theorem Mine.hd1.tw8900945820283091528 : True := trivial
theorem Mine.hd1.tw10412776863786804143 : True := trivial
theorem Mine.hd1.tw11048623740558254232 : True := trivial
theorem Mine.hd1.tw15702963293050870252 : True := trivial
theorem Mine.hd1.tw11728685681401375494 : True := trivial
theorem Mine.hd1.tw16077422013827797515 : True := trivial
theorem Mine.hd1.tw12584814123551920278 : True := trivial
theorem Mine.hd1.tw1050316681395181209 : True := trivial
theorem Mine.hd1.tw3787201023383365133 : True := trivial
theorem Mine.hd1.tw10794308640388061838 : True := trivial
theorem Mine.hd1.tw8956442991890726818 : True := trivial
theorem Mine.hd1.tw10988769859592422807 : True := trivial
theorem Mine.hd1.tw18061001510617752953 : True := trivial
theorem Mine.hd1.tw801485319111023190 : True := trivial
theorem Mine.hd1.tw1999481241711204562 : True := trivial
theorem Mine.hd1.tw425506420774880734 : True := trivial
theorem Mine.hd1.tw5991604734339359692 : True := trivial
theorem Mine.hd1.tw10610207260459799262 : True := trivial
theorem Mine.hd1.tw6198552919653065186 : True := trivial
theorem Mine.hd1.tw7610408013665375615 : True := trivial
theorem Mine.hd1.tw7855123226024141942 : True := trivial
theorem Mine.hd1.tw7623500198662771453 : True := trivial
theorem Mine.hd1.tw9367686520323166079 : True := trivial
theorem Mine.hd1.tw2513263071835253464 : True := trivial
theorem Mine.hd1.tw1853746065191597552 : True := trivial
theorem Mine.hd1.tw18069087793521395198 : True := trivial
theorem Mine.hd1.tw3525325795489406287 : True := trivial
theorem Mine.hd1.tw1215342596960702001 : True := trivial
theorem Mine.hd1.tw7683691486728802568 : True := trivial
theorem Mine.hd1.tw2085229428552649084 : True := trivial
theorem Mine.hd1.tw7483665479281673633 : True := trivial
theorem Mine.hd1.tw17680569178940253629 : True := trivial
theorem Mine.hd1.tw12590663334317387973 : True := trivial
theorem Mine.hd1.tw8013791890790648192 : True := trivial
theorem Mine.hd1.tw16821161934679037718 : True := trivial
set_option Elab.async true in
set_option maxRecDepth 100000 in
set_option maxHeartbeats 8000000 in
theorem Mine.hd1 : PySem.Challenge.rw_ot0033_01.Holds := by
  w_on; o_law; o_head (kmHook Mine.kk.heap_1 Mine.kAs (fun _ => by kernel_rfl) [82, 68]); (case hw => w_witness2); exact Mine.walkT _ _ _ _ _ _
theorem PySem.Challenge.cw_ot0033_01_holds : PySem.Challenge.rw_ot0033_01.Holds := by
  exact Mine.hd1
