import PyProof.Rows.All
import Wide.All
import OpenK.AllK
import Wide.FinOn
import KE.KStateDown
import Lean
import HandS.Base
import HandS.Call
import HandS.Ends
import HandS.More
import HandS.Words
import HandS.WordsExc
import HandS.Defaults
import HandS.Head0
import HandS.Head1
import HandS.Head2
import HandS.HeadEnd
import HandS.HeadHook1
import HandS.HeadHook2
import HandS.HeadHook3
import HandS.HeadHook4
import HandS.EndTab
import HandS.ForMost
import HandS.ForExc
import HandS.IsInst
import HandS.TupAny
import HandS.SetKeys
import HandS.Style
import KE.KDictKeyed
import HandS.Wide
import KE.DataMinMax
import KE.DataEq
import KE.SortData
import KE.KDictPairs
import HandS.Small
import HandS.Codes
import HandS.HotCalls
import PyProof.ListStr
import HandS.Conv
import HandS.TryOnly
import PyProof.StrLaws
import HandS.ExcIs
import HandS.SetFor
import HandS.MapJoin
import PyProof.StrOps2
import HandS.Nested
import KE.GoesEnum
import KE.GoesZip
import HandS.TupMul
import PyProof.Rows.SetFrom
import HandS.Set
import HandS.TupSets
import HandS.DictComp
import KE.KDictZip
import KE.GoesMore
import KE.KDictCopyH
import KE.KDictSum
import HandS.Text
import HandS.List
import HandS.StrMore
import PySem.Challenge.RW_translit_k03_whole_words_for
set_option Elab.async false
set_option linter.all false
set_option maxRecDepth 100000
/-! Lay0: keys that are nested tuples, dicts with such keys; the program and the world that the layer speaks of. -/
namespace Tr
open PySem PySem.Spec PyProof.Rows L2
class PWc where
  P : Program
  w : World
abbrev P [PWc] : Program := PWc.P
abbrev w [PWc] : World := PWc.w
mutual
/-- a value is the key k -/
inductive NkV (H : Hp) : NestedKey → V → Prop
  | non : NkV H .none .non
  | int (i : Int) : NkV H (.num i) (.int i)
  | str (x : Str) : NkV H (.text x) (.str x)
  | tup {a : Addr} {o : Obj} {xs : List V} {ks : List NestedKey} : H a = some (.frz o (.tup xs)) → o.dict = none → NkAll H ks xs → NkV H (.tup ks) (.ref a)
inductive NkAll (H : Hp) : List NestedKey → List V → Prop
  | nil : NkAll H [] []
  | cons {k : NestedKey} {v : V} {ks : List NestedKey} {vs : List V} : NkV H k v → NkAll H ks vs → NkAll H (k :: ks) (v :: vs)
end
mutual
theorem NkV.is {X : Cx} {pins : List (Addr × Obj)} {σ : L2.St} {H : Hp} {s : Shared} (I : Inv X pins σ H s) : ∀ {k : NestedKey} {v : V} {u : Value}, NkV H k v → RelV v u → NestedIs s.heap k u
  | _, _, _, .non, r => by cases r; exact .none
  | _, _, _, .int i, r => by obtain ⟨t, rfl⟩ := r; exact .int i t
  | _, _, _, .str x, r => by obtain ⟨t, rfl⟩ := r; exact .text x t
  | _, _, _, .tup h _ t, r => by
    cases r
    obtain ⟨hget, hz, its, rv, ob, hob, hc, n, hdat⟩ := I.hok _ _ h
    exact .tup hob hc hdat (by simpa using NkAll.is I t rv)
theorem NkAll.is {X : Cx} {pins : List (Addr × Obj)} {σ : L2.St} {H : Hp} {s : Shared} (I : Inv X pins σ H s) : ∀ {ks : List NestedKey} {vs : List V} {us : List Value}, NkAll H ks vs → Vals vs us → NestedAll s.heap ks us
  | _, _, _, .nil, r => by cases r; exact .nil
  | _, _, _, .cons h t, r => by
    cases r with
    | cons r1 r2 => exact .cons (NkV.is I h r1) (NkAll.is I t r2)
end
mutual
def nkD : NestedKey → PyData
  | .none => .none
  | .num i => .int i
  | .text x => .str x
  | .tup ks => .tuple (nkDs ks)
def nkDs : List NestedKey → List PyData
  | [] => []
  | k :: ks => nkD k :: nkDs ks
end
mutual
theorem NkV.mono {F H : Hp} (s : Same F H) : ∀ {k : NestedKey} {v : V}, NkV F k v → NkV H k v
  | _, _, .non => .non
  | _, _, .int i => .int i
  | _, _, .str x => .str x
  | _, _, .tup h o t => .tup (s _ _ h) o (NkAll.mono s t)
theorem NkAll.mono {F H : Hp} (s : Same F H) : ∀ {ks : List NestedKey} {vs : List V}, NkAll F ks vs → NkAll H ks vs
  | _, _, .nil => .nil
  | _, _, .cons h t => .cons (NkV.mono s h) (NkAll.mono s t)
end
abbrev NKV := List (NestedKey × Addr × V)
def NRel (p : NestedKey × Addr × V) (q : NestedKey × Addr × Value) : Prop := p.1 = q.1 ∧ p.2.1 = q.2.1 ∧ RelV p.2.2 q.2.2
def NdAt (P : Program) (w : World) (a : Addr) (kvs : NKV) (h : Heap) : Prop := (a == sysModules) = false ∧ kvs.length ≤ sizeLine ∧ ∃ xs : List (NestedKey × Addr × Value), Paired NRel kvs xs ∧ ∃ o es ep, h.get? a = some o ∧ o.ExactDict ∧ o.data = .dict es ep ∧ es.toList = xs.map (entryOfKey (nestedKind P w)) ∧ (xs.map (·.1)).Nodup
def ndO (P : Program) (w : World) (a : Addr) (kvs : NKV) : HO := .ext (NdAt P w a kvs)
theorem ndO_ok {P : Program} {w : World} {H : Hp} {h : Heap} {a : Addr} {kvs : NKV} (n : NdAt P w a kvs h) : ObjOk P w H h a (ndO P w a kvs) := by
  obtain ⟨n1, n2, xs, r, o, es, ep, ho, n3⟩ := n
  exact ⟨⟨n1, n2, xs, r, o, es, ep, ho, n3⟩, ⟨o, ho⟩, fun h1 h2 ⟨a1, a2, ys, ry, o', es', ep', ho', a3⟩ k => ⟨a1, a2, ys, ry, o', es', ep', k _ ho', a3⟩⟩
/-- the content of such a dict, as data -/
abbrev ND := List (NestedKey × PyData)
def ndD (ds : ND) : PyData := .dict ((.none, .none) :: ds.map fun p => (nkD p.1, p.2))
mutual
theorem nkD_inj : ∀ {k j : NestedKey}, nkD k = nkD j → k = j
  | .none, .none, _ => rfl
  | .none, .num _, h => by simp [nkD] at h
  | .none, .text _, h => by simp [nkD] at h
  | .none, .tup _, h => by simp [nkD] at h
  | .num _, .none, h => by simp [nkD] at h
  | .num a, .num b, h => by simp [nkD] at h; rw [h]
  | .num _, .text _, h => by simp [nkD] at h
  | .num _, .tup _, h => by simp [nkD] at h
  | .text _, .none, h => by simp [nkD] at h
  | .text _, .num _, h => by simp [nkD] at h
  | .text a, .text b, h => by simp [nkD] at h; rw [h]
  | .text _, .tup _, h => by simp [nkD] at h
  | .tup _, .none, h => by simp [nkD] at h
  | .tup _, .num _, h => by simp [nkD] at h
  | .tup _, .text _, h => by simp [nkD] at h
  | .tup a, .tup b, h => by
    simp [nkD] at h
    rw [nkDs_inj h]
theorem nkDs_inj : ∀ {ks js : List NestedKey}, nkDs ks = nkDs js → ks = js
  | [], [], _ => rfl
  | [], _ :: _, h => by simp [nkDs] at h
  | _ :: _, [], h => by simp [nkDs] at h
  | k :: ks, j :: js, h => by
    simp [nkDs] at h
    rw [nkD_inj h.1, nkDs_inj h.2]
end
theorem nd_inj : ∀ {ds es : ND}, ds.map (fun p => (nkD p.1, p.2)) = es.map (fun p => (nkD p.1, p.2)) → ds = es
  | [], [], _ => rfl
  | [], _ :: _, h => by cases h
  | _ :: _, [], h => by cases h
  | (k, d) :: ds, (j, e) :: es, h => by
    rw [List.map_cons, List.map_cons] at h
    injection h with h1 h2
    injection h1 with h3 h4
    have h3' : nkD k = nkD j := h3
    have h4' : d = e := h4
    rw [nkD_inj h3', h4', nd_inj h2]
end Tr

set_option Elab.async false
set_option linter.all false
set_option maxRecDepth 100000
/-! Lay1: data without a heap. Rp: a value stands for data in a frozen heap F; Ext: what may change; Env: the slots as data. -/
namespace Tr
open PySem L2
variable [PWc]

/-- things that a call may change: which, and what stays true of them -/
structure Tn where
  on : Addr → Prop
  inv : Addr → Hp → HO → Prop
instance : CoeFun Tn fun _ => Addr → Prop := ⟨Tn.on⟩
/-- nothing -/
def T0 : Tn := ⟨fun _ => False, fun _ _ _ => False⟩
theorem T0.no {b : Addr} (h : T0 b) : False := h
def Town (T : Tn) (F H : Hp) (b : Addr) : Prop := ∃ o, H b = some o ∧ ∀ F', Same F F' → T.inv b F' o
def kD : Key → PyData
  | .inl i => .int i
  | .inr x => .str x

mutual
inductive Rp (F : Hp) : V → PyData → Prop
  | non : Rp F .non .none
  | bl (b : Bool) : Rp F (.bl b) (.bool b)
  | int (i : Int) : Rp F (.int i) (.int i)
  | str (x : Str) : Rp F (.str x) (.str x)
  | lst {a : Addr} {xs : List V} {ds : List PyData} : F a = some (.lst xs) → RpAll F xs ds → Rp F (.ref a) (.list ds)
  | tup {a : Addr} {o : Obj} {xs : List V} {ds : List PyData} : F a = some (.frz o (.tup xs)) → o.dict = none → RpAll F xs ds → Rp F (.ref a) (.tuple ds)
  | dct {a : Addr} {kvs : List (Key × V)} {ds : List (Key × PyData)} {d : PyData} : Rd F a (.dK kvs) → RpKV F kvs ds → d = .dict (ds.map fun p => (kD p.1, p.2)) → Rp F (.ref a) d
  | lo {a : Addr} {xs : List V} {ds : List PyData} : F a = some (.tup xs) → RpAll F xs ds → Rp F (.ref a) (.dict [(.none, .list ds)])
  | nd {a : Addr} {kvs : NKV} {ds : ND} {d : PyData} : F a = some (ndO P w a kvs) → RpN F kvs ds → d = .dict ((.none, .none) :: ds.map fun p => (nkD p.1, p.2)) → Rp F (.ref a) d
  | fd {a : Addr} {o : Obj} {kvs : List (Key × V)} {ds : List (Key × PyData)} {d : PyData} : F a = some (.frz o (.dK kvs)) → RpKV F kvs ds → d = .dict ((.none, .bool true) :: ds.map fun p => (kD p.1, p.2)) → Rp F (.ref a) d
inductive RpN (F : Hp) : NKV → ND → Prop
  | nil : RpN F [] []
  | cons {k : NestedKey} {b : Addr} {v : V} {kvs : NKV} {d : PyData} {ds : ND} : NkV F k (.ref b) → k.depth ≤ 8 → Rp F v d → RpN F kvs ds → RpN F ((k, b, v) :: kvs) ((k, d) :: ds)
inductive RpAll (F : Hp) : List V → List PyData → Prop
  | nil : RpAll F [] []
  | cons {v : V} {vs : List V} {d : PyData} {ds : List PyData} : Rp F v d → RpAll F vs ds → RpAll F (v :: vs) (d :: ds)
inductive RpKV (F : Hp) : List (Key × V) → List (Key × PyData) → Prop
  | nil : RpKV F [] []
  | cons {k : Key} {v : V} {kvs : List (Key × V)} {d : PyData} {ds : List (Key × PyData)} : Rp F v d → RpKV F kvs ds → RpKV F ((k, v) :: kvs) ((k, d) :: ds)
end
/-- a dict as data -/
def dictD (ds : List (Key × PyData)) : PyData := .dict (ds.map fun p => (kD p.1, p.2))
/-- a tuple that is only taken apart -/
def loD (ds : List PyData) : PyData := .dict [(.none, .list ds)]

theorem rd_mono {F F' : Hp} {a : Addr} {u : HO} (s : Same F F') (h : Rd F a u) : Rd F' a u := h.elim (fun h => .inl (s _ _ h)) fun ⟨o, h⟩ => .inr ⟨o, s _ _ h⟩
mutual
theorem Rp.mono {F F' : Hp} (s : Same F F') : ∀ {v : V} {d : PyData}, Rp F v d → Rp F' v d
  | _, _, .non => .non
  | _, _, .bl b => .bl b
  | _, _, .int i => .int i
  | _, _, .str x => .str x
  | _, _, .lst h r => .lst (s _ _ h) (RpAll.mono s r)
  | _, _, .tup h o r => .tup (s _ _ h) o (RpAll.mono s r)
  | _, _, .dct h r e => .dct (rd_mono s h) (RpKV.mono s r) e
  | _, _, .fd h r e => .fd (s _ _ h) (RpKV.mono s r) e
  | _, _, .lo h r => .lo (s _ _ h) (RpAll.mono s r)
  | _, _, .nd h r e => .nd (s _ _ h) (RpN.mono s r) e
theorem RpN.mono {F F' : Hp} (s : Same F F') : ∀ {kvs : NKV} {ds : ND}, RpN F kvs ds → RpN F' kvs ds
  | _, _, .nil => .nil
  | _, _, .cons h1 h2 h3 t => .cons (h1.mono s) h2 (Rp.mono s h3) (RpN.mono s t)
theorem RpAll.mono {F F' : Hp} (s : Same F F') : ∀ {vs : List V} {ds : List PyData}, RpAll F vs ds → RpAll F' vs ds
  | _, _, .nil => .nil
  | _, _, .cons h r => .cons (Rp.mono s h) (RpAll.mono s r)
theorem RpKV.mono {F F' : Hp} (s : Same F F') : ∀ {vs : List (Key × V)} {ds : List (Key × PyData)}, RpKV F vs ds → RpKV F' vs ds
  | _, _, .nil => .nil
  | _, _, .cons h r => .cons (Rp.mono s h) (RpKV.mono s r)
end
theorem Rp.int_eq {F : Hp} {v : V} {i : Int} (h : Rp F v (.int i)) : v = .int i := by
  cases h with
  | int => rfl
  | dct _ _ e => cases e
  | nd _ _ e => cases e
  | fd _ _ e => cases e
theorem Rp.str_eq {F : Hp} {v : V} {i : Str} (h : Rp F v (.str i)) : v = .str i := by
  cases h with
  | str => rfl
  | dct _ _ e => cases e
  | nd _ _ e => cases e
  | fd _ _ e => cases e
theorem Rp.bl_eq {F : Hp} {v : V} {i : Bool} (h : Rp F v (.bool i)) : v = .bl i := by
  cases h with
  | bl => rfl
  | dct _ _ e => cases e
  | nd _ _ e => cases e
  | fd _ _ e => cases e
theorem Rp.non_eq {F : Hp} {v : V} (h : Rp F v .none) : v = .non := by
  cases h with
  | non => rfl
  | dct _ _ e => cases e
  | nd _ _ e => cases e
  | fd _ _ e => cases e
theorem Rp.tup_eq {F : Hp} {v : V} {ds : List PyData} (h : Rp F v (.tuple ds)) : ∃ a o xs, v = .ref a ∧ F a = some (.frz o (.tup xs)) ∧ o.dict = none ∧ RpAll F xs ds := by
  cases h with
  | tup h o r => exact ⟨_, _, _, rfl, h, o, r⟩
  | dct _ _ e => cases e
  | nd _ _ e => cases e
  | fd _ _ e => cases e
theorem Rp.lst_eq {F : Hp} {v : V} {ds : List PyData} (h : Rp F v (.list ds)) : ∃ a xs, v = .ref a ∧ F a = some (.lst xs) ∧ RpAll F xs ds := by
  cases h with
  | lst h r => exact ⟨_, _, rfl, h, r⟩
  | dct _ _ e => cases e
  | nd _ _ e => cases e
  | fd _ _ e => cases e
theorem kD_ne (k : Key) : kD k ≠ .none := by
  cases k with
  | inl i => exact fun e => nomatch e
  | inr x => exact fun e => nomatch e
theorem kD_inj {k j : Key} (h : kD k = kD j) : k = j := by
  cases k with
  | inl i => cases j with
    | inl i' => injection h with h; rw [h]
    | inr x => cases h
  | inr x => cases j with
    | inl i' => cases h
    | inr y => injection h with h; rw [h]
theorem dmap_inj : ∀ {ds es : List (Key × PyData)}, ds.map (fun p => (kD p.1, p.2)) = es.map (fun p => (kD p.1, p.2)) → ds = es
  | [], [], _ => rfl
  | [], _ :: _, h => by cases h
  | _ :: _, [], h => by cases h
  | (k, d) :: ds, (j, e) :: es, h => by
    rw [List.map_cons, List.map_cons] at h
    injection h with h1 h2
    injection h1 with h3 h4
    have h3' : kD k = kD j := h3
    have h4' : d = e := h4
    rw [kD_inj h3', h4', dmap_inj h2]
theorem Rp.dct_eq {F : Hp} {v : V} {ds : List (Key × PyData)} (h : Rp F v (dictD ds)) : ∃ a kvs, v = .ref a ∧ Rd F a (.dK kvs) ∧ RpKV F kvs ds := by
  generalize hd : dictD ds = d at h
  cases h with
  | dct h r e =>
    rw [← hd] at e
    unfold dictD at e
    injection e with e
    rw [dmap_inj e]
    exact ⟨_, _, rfl, h, r⟩
  | lo h r =>
    unfold dictD at hd
    injection hd with hd
    cases ds with
    | nil => cases hd
    | cons p ds =>
      rw [List.map_cons] at hd
      injection hd with h1 h2
      injection h1 with h3 h4
      exact absurd h3 (kD_ne _)
  | nd h r e =>
    rw [← hd] at e
    unfold dictD at e
    injection e with e
    cases ds with
    | nil => cases e
    | cons p ds =>
      rw [List.map_cons] at e
      injection e with h1 h2
      injection h1 with h3 h4
      exact absurd h3 (kD_ne _)
  | fd h r e =>
    rw [← hd] at e
    unfold dictD at e
    injection e with e
    cases ds with
    | nil => cases e
    | cons p ds =>
      rw [List.map_cons] at e
      injection e with h1 h2
      injection h1 with h3 h4
      exact absurd h3 (kD_ne _)
  | _ => cases hd
theorem Rp.lo_eq {F : Hp} {v : V} {ds : List PyData} (h : Rp F v (loD ds)) : ∃ a xs, v = .ref a ∧ F a = some (.tup xs) ∧ RpAll F xs ds := by
  generalize hd : loD ds = d at h
  cases h with
  | lo h r =>
    unfold loD at hd
    injection hd with hd
    injection hd with hd _
    injection hd with _ hd
    injection hd with hd
    subst hd
    exact ⟨_, _, rfl, h, r⟩
  | dct h r e =>
    rename_i es
    rw [← hd] at e
    unfold loD at e
    injection e with e
    cases es with
    | nil => cases e
    | cons p ds =>
      rw [List.map_cons] at e
      injection e with h1 h2
      injection h1 with h3 h4
      exact absurd h3.symm (kD_ne _)
  | nd h r e =>
    rw [← hd] at e
    unfold loD at e
    injection e with e
    injection e with e1 e2
    injection e1 with e3 e4
    cases e4
  | fd h r e =>
    rw [← hd] at e
    unfold loD at e
    injection e with e
    injection e with e1 e2
    injection e1 with e3 e4
    cases e4
  | _ => cases hd
theorem Rp.nd_eq {F : Hp} {v : V} {ds : ND} (h : Rp F v (ndD ds)) : ∃ a kvs, v = .ref a ∧ F a = some (ndO P w a kvs) ∧ RpN F kvs ds := by
  generalize hd : ndD ds = d at h
  cases h with
  | nd h r e =>
    rw [← hd] at e
    unfold ndD at e
    injection e with e
    injection e with e1 e2
    rw [nd_inj e2]
    exact ⟨_, _, rfl, h, r⟩
  | dct h r e =>
    rename_i es
    rw [← hd] at e
    unfold ndD at e
    injection e with e
    cases es with
    | nil => cases e
    | cons p es =>
      rw [List.map_cons] at e
      injection e with h1 h2
      injection h1 with h3 h4
      exact absurd h3.symm (kD_ne _)
  | lo h r =>
    unfold ndD at hd
    injection hd with hd
    injection hd with e1 e2
    injection e1 with e3 e4
    cases e4
  | fd h r e =>
    rw [← hd] at e
    unfold ndD at e
    injection e with e
    injection e with e1 e2
    injection e1 with e3 e4
    cases e4
  | _ => cases hd
/-- a dict whose very object is known, as data -/
def fdD (ds : List (Key × PyData)) : PyData := .dict ((.none, .bool true) :: ds.map fun p => (kD p.1, p.2))
theorem Rp.fd_eq {F : Hp} {v : V} {ds : List (Key × PyData)} (h : Rp F v (fdD ds)) : ∃ a o kvs, v = .ref a ∧ F a = some (.frz o (.dK kvs)) ∧ RpKV F kvs ds := by
  generalize hd : fdD ds = d at h
  cases h with
  | fd h r e =>
    rw [← hd] at e
    unfold fdD at e
    injection e with e
    injection e with e1 e2
    rw [dmap_inj e2]
    exact ⟨_, _, _, rfl, h, r⟩
  | dct h r e =>
    rename_i es
    rw [← hd] at e
    unfold fdD at e
    injection e with e
    cases es with
    | nil => cases e
    | cons p es =>
      rw [List.map_cons] at e
      injection e with h1 h2
      injection h1 with h3 h4
      exact absurd h3.symm (kD_ne _)
  | lo h r =>
    unfold fdD at hd
    injection hd with hd
    injection hd with e1 e2
    injection e1 with e3 e4
    cases e4
  | nd h r e =>
    rw [← hd] at e
    unfold fdD at e
    injection e with e
    injection e with e1 e2
    injection e1 with e3 e4
    cases e4
  | _ => cases hd
theorem Rp.of_fd {F : Hp} {v : V} {ds : List (Key × PyData)} (h : Rp F v (fdD ds)) : Rp F v (dictD ds) := by
  obtain ⟨a, o, kvs, rfl, h1, h2⟩ := h.fd_eq
  exact .dct (.inr ⟨o, h1⟩) h2 rfl
theorem RpKV.val {F : Hp} {κ : Key} : ∀ {kvs : List (Key × V)} {ds : List (Key × PyData)}, RpKV F kvs ds →
    (match (ds.find? fun p => decide (p.1 = κ)) with | some p => ∃ v, valV kvs κ = some v ∧ Rp F v p.2 | none => valV kvs κ = none)
  | _, _, .nil => rfl
  | _, _, .cons (k := k) (v := v) (kvs := kvs) (d := d) (ds := ds) h r => by
    by_cases e : k = κ
    · rw [List.find?_cons, show decide (((k, d) : Key × PyData).1 = κ) = true from decide_eq_true e]
      exact ⟨v, valV_pos (p := (k, v)) e, h⟩
    · rw [List.find?_cons, show decide (((k, d) : Key × PyData).1 = κ) = false from decide_eq_false e, valV_neg (p := (k, v)) e]
      exact RpKV.val r
theorem RpKV.length {F : Hp} : ∀ {kvs : List (Key × V)} {ds : List (Key × PyData)}, RpKV F kvs ds → kvs.length = ds.length
  | _, _, .nil => rfl
  | _, _, .cons _ r => by rw [List.length_cons, List.length_cons, RpKV.length r]

theorem RpAll.length {F : Hp} : ∀ {vs : List V} {ds : List PyData}, RpAll F vs ds → vs.length = ds.length
  | _, _, .nil => rfl
  | _, _, .cons _ r => by rw [List.length_cons, List.length_cons, RpAll.length r]
theorem RpAll.get {F : Hp} : ∀ {vs : List V} {ds : List PyData} {i : Nat} {d : PyData}, RpAll F vs ds → ds[i]? = some d → ∃ v, vs[i]? = some v ∧ Rp F v d
  | _, _, _, _, .nil, e => by simp at e
  | _, _, 0, d, .cons h _, e => by
    simp at e
    subst e
    exact ⟨_, rfl, h⟩
  | _, _, i + 1, d, .cons _ r, e => by
    obtain ⟨v, h1, h2⟩ := RpAll.get (i := i) (d := d) r (by simpa using e)
    exact ⟨v, by simpa using h1, h2⟩
theorem RpAll.append {F : Hp} : ∀ {vs ws : List V} {ds es : List PyData}, RpAll F vs ds → RpAll F ws es → RpAll F (vs ++ ws) (ds ++ es)
  | _, _, _, _, .nil, r => r
  | _, _, _, _, .cons h r, q => .cons h (RpAll.append r q)
theorem RpAll.snoc {F : Hp} {vs : List V} {ds : List PyData} {v : V} {d : PyData} (r : RpAll F vs ds) (h : Rp F v d) : RpAll F (vs ++ [v]) (ds ++ [d]) := r.append (.cons h .nil)
theorem RpAll.take {F : Hp} : ∀ {vs : List V} {ds : List PyData} (n : Nat), RpAll F vs ds → RpAll F (vs.take n) (ds.take n)
  | _, _, 0, _ => .nil
  | _, _, _ + 1, .nil => .nil
  | _, _, n + 1, .cons h r => .cons h (RpAll.take n r)
theorem RpAll.drop {F : Hp} : ∀ {vs : List V} {ds : List PyData} (n : Nat), RpAll F vs ds → RpAll F (vs.drop n) (ds.drop n)
  | _, _, 0, r => r
  | _, _, _ + 1, .nil => .nil
  | _, _, n + 1, .cons _ r => RpAll.drop n r
theorem RpAll.strs {F : Hp} : ∀ {vs : List V} {xs : List Str}, RpAll F vs (xs.map PyData.str) → vs = xs.map V.str
  | _, [], .nil => rfl
  | _, x :: xs, .cons h r => by rw [List.map_cons, RpAll.strs r, h.str_eq]
theorem RpAll.bools {F : Hp} : ∀ {vs : List V} {xs : List Bool}, RpAll F vs (xs.map PyData.bool) → vs = xs.map V.bl
  | _, [], .nil => rfl
  | _, x :: xs, .cons h r => by rw [List.map_cons, RpAll.bools r, h.bl_eq]
theorem RpAll.ints {F : Hp} : ∀ {vs : List V} {xs : List Int}, RpAll F vs (xs.map PyData.int) → vs = xs.map V.int
  | _, [], .nil => rfl
  | _, x :: xs, .cons h r => by rw [List.map_cons, RpAll.ints r, h.int_eq]
theorem RpAll.of_strs {F : Hp} : ∀ (xs : List Str), RpAll F (xs.map V.str) (xs.map PyData.str)
  | [] => .nil
  | x :: xs => .cons (.str x) (RpAll.of_strs xs)

/-- what a run may do: F grows, H keeps what stood but the counter -/
structure Ext (T : Tn) (F H F' H' : Hp) : Prop where
  ff : Same F F'
  fh : Same F' H'
  hh : ∀ b o, ¬ T b → H b = some o → H' b = some o
  ow : ∀ b o, ¬ T b → H b = some o → F b = none → F' b = none
  tf : ∀ b, T b → F b = none → F' b = none
  tw : ∀ b, T b → Town T F H b → Town T F' H' b
theorem Ext.refl {T : Tn} {F H : Hp} (s : Same F H) : Ext T F H F H := ⟨Same.refl _, s, fun _ _ _ e => e, fun _ _ _ _ e => e, fun _ _ e => e, fun _ _ e => e⟩
theorem Ext.trans {T : Tn} {F H F1 H1 F2 H2 : Hp} (a : Ext T F H F1 H1) (b : Ext T F1 H1 F2 H2) : Ext T F H F2 H2 :=
  ⟨a.ff.trans b.ff, b.fh, fun c o n e => b.hh c o n (a.hh c o n e), fun c o n e f => b.ow c o n (a.hh c o n e) (a.ow c o n e f), fun c t e => b.tf c t (a.tf c t e), fun c t e => b.tw c t (a.tw c t e)⟩
theorem same_new {H : Hp} {p : Addr} {o : HO} (h : H p = none) : Same H (upd H p o) := fun b x e => by
  rw [upd_ne (ne_of_none e h)]
  exact e
theorem same_both {F H : Hp} {p : Addr} {o : HO} (s : Same F H) : Same (upd F p o) (upd H p o) := fun b x e => by
  by_cases hb : b = p
  · subst hb
    rw [upd_same] at e ⊢
    exact e
  · rw [upd_ne hb] at e ⊢
    exact s _ _ e
theorem same_right {F H : Hp} {p : Addr} {o : HO} (s : Same F H) (h : F p = none) : Same F (upd H p o) := fun b x e => by
  rw [upd_ne (ne_of_none e h)]
  exact s _ _ e
theorem town_upd {T : Tn} {F H : Hp} {p b : Addr} {o : HO} (h : H p = none) (t : Town T F H b) : Town T F (upd H p o) b := by
  obtain ⟨x, e, q⟩ := t
  exact ⟨x, same_new h _ _ e, q⟩
theorem Town.mono {T : Tn} {F F' H : Hp} {b : Addr} (s : Same F F') (t : Town T F H b) : Town T F' H b := by
  obtain ⟨x, e, q⟩ := t
  exact ⟨x, e, fun F2 s2 => q F2 (s.trans s2)⟩
theorem Ext.new {T : Tn} {F H : Hp} {p : Addr} {o : HO} (s : Same F H) (t : ∀ b, T b → Town T F H b) (h : H p = none) : Ext T F H (upd F p o) (upd H p o) := by
  have hf : F p = none := s.free h
  refine ⟨same_new hf, same_both s, fun b x _ e => same_new h _ _ e, fun b x _ e f => ?_, fun b hb f => ?_, fun b _ e => (town_upd h e).mono (same_new hf)⟩
  · rw [upd_ne (ne_of_none e h)]
    exact f
  · have hbp : b ≠ p := fun e => by
      obtain ⟨_, q, _⟩ := t b hb
      rw [e, h] at q
      cases q
    rw [upd_ne hbp]
    exact f
theorem Ext.new1 {T : Tn} {F H : Hp} {p : Addr} {o : HO} (s : Same F H) (h : H p = none) : Ext T F H F (upd H p o) :=
  ⟨Same.refl _, same_right s (s.free h), fun b x _ e => same_new h _ _ e, fun _ _ _ _ e => e, fun _ _ e => e, fun b _ e => town_upd h e⟩
/-- nothing but new things: the counter as it stood -/
theorem Ext.wide {T : Tn} {F H F' H' : Hp} (x : Ext T0 F H F' H') (t : ∀ b, T b → Town T F H b) : Ext T F H F' H' :=
  ⟨x.ff, x.fh, fun b o _ e => x.hh b o (fun z => z) e, fun b o _ e f => x.ow b o (fun z => z) e f, fun b hb f => by
    obtain ⟨_, q, _⟩ := t b hb
    exact x.ow b _ (fun z => z) q f, fun b hb q => by
    obtain ⟨o, q, i⟩ := q
    exact ⟨o, x.hh b _ (fun z => z) q, fun F2 s2 => i F2 (x.ff.trans s2)⟩⟩
/-- some of the things -/
theorem Ext.wideT {T T1 : Tn} {F H F' H' : Hp} (x : Ext T1 F H F' H') (sub : ∀ b, T1 b → T b ∧ ∀ F o, T1.inv b F o ↔ T.inv b F o) (t : ∀ b, T b → Town T F H b) : Ext T F H F' H' := by
  refine ⟨x.ff, x.fh, fun c o nt e => x.hh c o (fun z => nt (sub c z).1) e, fun c o nt e f => x.ow c o (fun z => nt (sub c z).1) e f, fun c hc f => ?_, fun c hc q => ?_⟩
  · by_cases h1 : T1 c
    · exact x.tf c h1 f
    · obtain ⟨_, q, _⟩ := t c hc
      exact x.ow c _ h1 q f
  · by_cases h1 : T1 c
    · obtain ⟨o, q, i⟩ := q
      obtain ⟨o', q', i'⟩ := x.tw c h1 ⟨o, q, fun F2 s2 => ((sub c h1).2 F2 o).mpr (i F2 s2)⟩
      exact ⟨o', q', fun F2 s2 => ((sub c h1).2 F2 o').mp (i' F2 s2)⟩
    · obtain ⟨o, q, i⟩ := q
      exact ⟨o, x.hh c _ h1 q, fun F2 s2 => i F2 (x.ff.trans s2)⟩

/-- what a slot holds, as data -/
inductive Sl where
  | un
  | d (x : PyData)
  | ol (xs : List PyData)
  | od (kvs : List (Key × PyData))
  | pr (φ : Hp → V → Prop)
  | tn (I : Addr → Hp → HO → Prop)
  | og (φ : Hp → Addr → HO → Prop)
  | raw (v : V)
def Sl.own : Sl → Bool
  | .ol _ => true
  | .od _ => true
  | .og _ => true
  | _ => false
def SlOk (T : Tn) (H0 F H : Hp) (o : Option V) (a : Addr) : Sl → Prop
  | .un => True
  | .d x => ∃ v, o = some v ∧ Rp F v x
  | .ol xs => o = some (.ref a) ∧ ¬ T a ∧ F a = none ∧ H0 a = none ∧ ∃ vs, H a = some (.lst vs) ∧ RpAll F vs xs
  | .od kvs => o = some (.ref a) ∧ ¬ T a ∧ F a = none ∧ H0 a = none ∧ ∃ vs, H a = some (.dK vs) ∧ RpKV F vs kvs
  | .pr φ => ∃ v, o = some v ∧ ∀ F', Same F F' → φ F' v
  | .tn I => o = some (.ref a) ∧ T a ∧ ∀ F o, T.inv a F o ↔ I a F o
  | .og φ => o = some (.ref a) ∧ ¬ T a ∧ F a = none ∧ H0 a = none ∧ ∃ u, H a = some u ∧ ∀ F', Same F F' → φ F' a u
  | .raw v => o = some v

structure Env (T : Tn) (F0 H0 F H : Hp) (σ : L2.St) (ρ : List Sl) : Prop where
  ex : Ext T F0 H0 F H
  tn : ∀ b, T b → F b = none ∧ Town T F H b
  len : σ.length = ρ.length
  sl : ∃ α : Nat → Addr, (∀ i s, ρ[i]? = some s → SlOk T H0 F H (σ[i]?).join (α i) s) ∧ ∀ i j s t, ρ[i]? = some s → ρ[j]? = some t → s.own = true → t.own = true → α i = α j → i = j

section
variable {T : Tn} {F0 H0 F H F' H' : Hp} {σ : L2.St} {ρ : List Sl}
theorem Env.le (e : Env T F0 H0 F H σ ρ) : Same F H := e.ex.fh
theorem SlOk.ext {s : Sl} {o : Option V} {a : Addr} (x : Ext T F H F' H') (h : SlOk T H0 F H o a s) : SlOk T H0 F' H' o a s := by
  cases s with
  | un => trivial
  | d y =>
    obtain ⟨v, e, r⟩ := h
    exact ⟨v, e, r.mono x.ff⟩
  | ol xs =>
    obtain ⟨e, nt, f, h0, vs, hv, r⟩ := h
    exact ⟨e, nt, x.ow _ _ nt hv f, h0, vs, x.hh _ _ nt hv, r.mono x.ff⟩
  | od kvs =>
    obtain ⟨e, nt, f, h0, vs, hv, r⟩ := h
    exact ⟨e, nt, x.ow _ _ nt hv f, h0, vs, x.hh _ _ nt hv, r.mono x.ff⟩
  | tn I => exact h
  | og φ =>
    obtain ⟨e, nt, f, h0, u, hv, r⟩ := h
    exact ⟨e, nt, x.ow _ _ nt hv f, h0, u, x.hh _ _ nt hv, fun F2 s2 => r F2 (x.ff.trans s2)⟩
  | raw v => exact h
  | pr φ =>
    obtain ⟨v, e, p⟩ := h
    exact ⟨v, e, fun F2 s2 => p F2 (x.ff.trans s2)⟩
theorem Env.ext (e : Env T F0 H0 F H σ ρ) (x : Ext T F H F' H') : Env T F0 H0 F' H' σ ρ := by
  obtain ⟨α, h1, h2⟩ := e.sl
  exact ⟨e.ex.trans x, fun b hb => ⟨x.tf b hb (e.tn b hb).1, x.tw b hb (e.tn b hb).2⟩, e.len, α, fun i s hs => (h1 i s hs).ext x, h2⟩
theorem Env.town (e : Env T F0 H0 F H σ ρ) : ∀ b, T b → Town T F H b := fun b hb => (e.tn b hb).2
theorem Env.get (e : Env T F0 H0 F H σ ρ) {i : Nat} {x : PyData} (h : ρ[i]? = some (.d x)) : ∃ v, σ[i]? = some (some v) ∧ Rp F v x := by
  obtain ⟨α, h1, _⟩ := e.sl
  obtain ⟨v, q, r⟩ := h1 i _ h
  refine ⟨v, ?_, r⟩
  cases hs : σ[i]? with
  | none =>
    rw [hs] at q
    cases q
  | some o =>
    rw [hs] at q
    exact congrArg some q
theorem join_some {o : Option (Option V)} {v : V} (h : o.join = some v) : o = some (some v) := by
  cases o with
  | none => cases h
  | some q => exact congrArg some h
theorem Env.getRaw (e : Env T F0 H0 F H σ ρ) {i : Nat} {v : V} (h : ρ[i]? = some (.raw v)) : σ[i]? = some (some v) := by
  obtain ⟨α, h1, _⟩ := e.sl
  exact join_some (h1 i _ h)
theorem Env.getPr (e : Env T F0 H0 F H σ ρ) {i : Nat} {φ : Hp → V → Prop} (h : ρ[i]? = some (.pr φ)) : ∃ v, σ[i]? = some (some v) ∧ φ F v := by
  obtain ⟨α, h1, _⟩ := e.sl
  obtain ⟨v, q, p⟩ := h1 i _ h
  exact ⟨v, join_some q, p F (Same.refl _)⟩
theorem Env.getTn (e : Env T F0 H0 F H σ ρ) {i : Nat} {I : Addr → Hp → HO → Prop} (h : ρ[i]? = some (.tn I)) : ∃ a, σ[i]? = some (some (.ref a)) ∧ T a ∧ ∀ F o, T.inv a F o ↔ I a F o := by
  obtain ⟨α, h1, _⟩ := e.sl
  obtain ⟨q, t⟩ := h1 i _ h
  exact ⟨_, join_some q, t⟩
/-- a slot is stored, not an own thing -/
theorem Env.put (e : Env T F0 H0 F H σ ρ) {i : Nat} {v : V} {s : Sl} (ho : s.own = false) (h : ∀ a : Addr, v = .ref a ∨ (∀ b, v ≠ .ref b) → SlOk T H0 F H (some v) a s) : Env T F0 H0 F H (σ.set i (some v)) (ρ.set i s) := by
  obtain ⟨α, h1, h2⟩ := e.sl
  have hb : ∃ a : Addr, SlOk T H0 F H (some v) a s := by
    cases v with
    | ref a => exact ⟨a, h a (.inl rfl)⟩
    | _ => exact ⟨0, h 0 (.inr fun b z => nomatch z)⟩
  obtain ⟨a, ha⟩ := hb
  refine ⟨e.ex, e.tn, by rw [List.length_set, List.length_set, e.len], fun j => if j = i then a else α j, fun j s' hs => ?_, fun j k s' t' hs ht os ot q => ?_⟩
  · by_cases hj : j = i
    · subst hj
      have hl : j < ρ.length := by
        have := (List.getElem?_eq_some_iff.mp hs).1
        rwa [List.length_set] at this
      rw [List.getElem?_set_self hl] at hs
      cases hs
      dsimp only
      rw [List.getElem?_set_self (by rw [e.len]; exact hl), if_pos rfl]
      exact ha
    · rw [List.getElem?_set_ne (Ne.symm hj)] at hs
      dsimp only
      rw [List.getElem?_set_ne (Ne.symm hj), if_neg hj]
      exact h1 j s' hs
  · have nj : ∀ {j : Nat} {s' : Sl}, (ρ.set i s)[j]? = some s' → s'.own = true → j ≠ i ∧ ρ[j]? = some s' := fun {j s'} hs os => by
      have hj : j ≠ i := fun z => by
        subst z
        have hl : j < ρ.length := by
          have := (List.getElem?_eq_some_iff.mp hs).1
          rwa [List.length_set] at this
        rw [List.getElem?_set_self hl] at hs
        cases hs
        rw [ho] at os
        cases os
      refine ⟨hj, ?_⟩
      rw [List.getElem?_set_ne (Ne.symm hj)] at hs
      exact hs
    obtain ⟨n1, g1⟩ := nj hs os
    obtain ⟨n2, g2⟩ := nj ht ot
    dsimp only at q
    rw [if_neg n1, if_neg n2] at q
    exact h2 j k s' t' g1 g2 os ot q
theorem Env.setD (e : Env T F0 H0 F H σ ρ) {i : Nat} {v : V} {x : PyData} (r : Rp F v x) : Env T F0 H0 F H (σ.set i (some v)) (ρ.set i (.d x)) := e.put rfl fun _ _ => ⟨v, rfl, r⟩
theorem Env.setRaw (e : Env T F0 H0 F H σ ρ) {i : Nat} {v : V} : Env T F0 H0 F H (σ.set i (some v)) (ρ.set i (.raw v)) := e.put rfl fun _ _ => rfl
theorem Env.setPr (e : Env T F0 H0 F H σ ρ) {i : Nat} {v : V} {φ : Hp → V → Prop} (h : ∀ F', Same F F' → φ F' v) : Env T F0 H0 F H (σ.set i (some v)) (ρ.set i (.pr φ)) := e.put rfl fun _ _ => ⟨v, rfl, h⟩
theorem Env.setTn (e : Env T F0 H0 F H σ ρ) {i : Nat} {a : Addr} {I : Addr → Hp → HO → Prop} (t : T a) (hI : ∀ F o, T.inv a F o ↔ I a F o) : Env T F0 H0 F H (σ.set i (some (.ref a))) (ρ.set i (.tn I)) := e.put rfl fun b hb => by
  rcases hb with hb | hb
  · cases hb
    exact ⟨rfl, t, hI⟩
  · exact absurd rfl (hb a)
/-- a slot may be anything: it is forgotten -/
theorem Env.forget (e : Env T F0 H0 F H σ ρ) {i : Nat} {o : Option V} : Env T F0 H0 F H (σ.set i o) (ρ.set i .un) := by
  obtain ⟨α, h1, h2⟩ := e.sl
  refine ⟨e.ex, e.tn, by rw [List.length_set, List.length_set, e.len], α, fun j s' hs => ?_, fun j k s' t' hs ht os ot q => ?_⟩
  · by_cases hj : j = i
    · subst hj
      have hl : j < ρ.length := by
        have := (List.getElem?_eq_some_iff.mp hs).1
        rwa [List.length_set] at this
      rw [List.getElem?_set_self hl] at hs
      cases hs
      trivial
    · rw [List.getElem?_set_ne (Ne.symm hj)] at hs
      rw [List.getElem?_set_ne (Ne.symm hj)]
      exact h1 j s' hs
  · have nj : ∀ {j : Nat} {s' : Sl}, (ρ.set i .un)[j]? = some s' → s'.own = true → ρ[j]? = some s' := fun {j s'} hs os => by
      have hj : j ≠ i := fun z => by
        subst z
        have hl : j < ρ.length := by
          have := (List.getElem?_eq_some_iff.mp hs).1
          rwa [List.length_set] at this
        rw [List.getElem?_set_self hl] at hs
        cases hs
        cases os
      rw [List.getElem?_set_ne (Ne.symm hj)] at hs
      exact hs
    exact h2 j k s' t' (nj hs os) (nj ht ot) os ot q
/-- a new own thing at a is stored in a slot -/
theorem Env.putNew (e : Env T F0 H0 F H σ ρ) (x : Ext T F H F' H') {i : Nat} {a : Addr} {s : Sl} (hn : H a = none) (h : ¬ T a → H0 a = none → SlOk T H0 F' H' (some (.ref a)) a s) : Env T F0 H0 F' H' (σ.set i (some (.ref a))) (ρ.set i s) := by
  have nT : ¬ T a := fun t => by
    obtain ⟨_, q, _⟩ := e.town a t
    rw [hn] at q
    cases q
  have n0 : H0 a = none := by
    cases q : H0 a with
    | none => rfl
    | some o =>
      rw [e.ex.hh a o nT q] at hn
      cases hn
  have e' := e.ext x
  obtain ⟨α, h1, h2⟩ := e.sl
  have dif : ∀ j s', ρ[j]? = some s' → s'.own = true → α j ≠ a := fun j s' hs os z => by
    have q := h1 j s' hs
    cases s' with
    | ol xs =>
      obtain ⟨_, _, _, _, vs, hv, _⟩ := q
      rw [z, hn] at hv
      cases hv
    | od xs =>
      obtain ⟨_, _, _, _, vs, hv, _⟩ := q
      rw [z, hn] at hv
      cases hv
    | og φ =>
      obtain ⟨_, _, _, _, vs, hv, _⟩ := q
      rw [z, hn] at hv
      cases hv
    | _ => cases os
  refine ⟨e'.ex, e'.tn, by rw [List.length_set, List.length_set, e.len], fun j => if j = i then a else α j, fun j s' hs => ?_, fun j k s' t' hs ht os ot q => ?_⟩
  · by_cases hj : j = i
    · subst hj
      have hl : j < ρ.length := by
        have := (List.getElem?_eq_some_iff.mp hs).1
        rwa [List.length_set] at this
      rw [List.getElem?_set_self hl] at hs
      cases hs
      dsimp only
      rw [List.getElem?_set_self (by rw [e.len]; exact hl), if_pos rfl]
      exact h nT n0
    · rw [List.getElem?_set_ne (Ne.symm hj)] at hs
      dsimp only
      rw [List.getElem?_set_ne (Ne.symm hj), if_neg hj]
      exact (h1 j s' hs).ext x
  · dsimp only at q
    by_cases hj : j = i
    · by_cases hk : k = i
      · rw [hj, hk]
      · rw [if_pos hj, if_neg hk] at q
        rw [List.getElem?_set_ne (Ne.symm hk)] at ht
        exact absurd q.symm (dif k t' ht ot)
    · rw [if_neg hj] at q
      rw [List.getElem?_set_ne (Ne.symm hj)] at hs
      by_cases hk : k = i
      · rw [if_pos hk] at q
        exact absurd q (dif j s' hs os)
      · rw [if_neg hk] at q
        rw [List.getElem?_set_ne (Ne.symm hk)] at ht
        exact h2 j k s' t' hs ht os ot q
theorem Env.newL (e : Env T F0 H0 F H σ ρ) (x : Ext T F H F' H') {i : Nat} {a : Addr} {vs : List V} {xs : List PyData} (hn : H a = none) (hf : F' a = none) (hv : H' a = some (.lst vs)) (r : RpAll F' vs xs) :
    Env T F0 H0 F' H' (σ.set i (some (.ref a))) (ρ.set i (.ol xs)) := e.putNew x hn fun nt n0 => ⟨rfl, nt, hf, n0, vs, hv, r⟩
theorem Env.newD (e : Env T F0 H0 F H σ ρ) (x : Ext T F H F' H') {i : Nat} {a : Addr} {vs : List (Key × V)} {xs : List (Key × PyData)} (hn : H a = none) (hf : F' a = none) (hv : H' a = some (.dK vs)) (r : RpKV F' vs xs) :
    Env T F0 H0 F' H' (σ.set i (some (.ref a))) (ρ.set i (.od xs)) := e.putNew x hn fun nt n0 => ⟨rfl, nt, hf, n0, vs, hv, r⟩
/-- an own thing at slot i is written -/
theorem Env.write (e : Env T F0 H0 F H σ ρ) {i : Nat} {s : Sl} (hs : ρ[i]? = some s) (ho : s.own = true) :
    ∃ a, σ[i]? = some (some (.ref a)) ∧ SlOk T H0 F H (some (.ref a)) a s ∧ ¬ T a ∧ F a = none ∧ ∀ (o : HO) (s' : Sl), s'.own = true → SlOk T H0 F (upd H a o) (some (.ref a)) a s' → Env T F0 H0 F (upd H a o) σ (ρ.set i s') := by
  obtain ⟨α, h1, h2⟩ := e.sl
  have q := h1 i s hs
  have big : (σ[i]?).join = some (.ref (α i)) ∧ ¬ T (α i) ∧ F (α i) = none ∧ H0 (α i) = none := by
    cases s with
    | ol xs => exact ⟨q.1, q.2.1, q.2.2.1, q.2.2.2.1⟩
    | od xs => exact ⟨q.1, q.2.1, q.2.2.1, q.2.2.2.1⟩
    | og φ => exact ⟨q.1, q.2.1, q.2.2.1, q.2.2.2.1⟩
    | _ => cases ho
  obtain ⟨b1, b2, b3, b4⟩ := big
  refine ⟨α i, join_some b1, by rw [b1] at q; exact q, b2, b3, fun o s' os' k => ?_⟩
  have x : Ext T F0 H0 F (upd H (α i) o) := ⟨e.ex.ff, same_right e.le b3, fun b u nt hb => by
      rw [upd_ne (ne_of_none hb b4)]
      exact e.ex.hh b u nt hb, e.ex.ow, e.ex.tf, fun b hb z => by
      obtain ⟨x1, r, hx⟩ := e.ex.tw b hb z
      have nb : b ≠ α i := fun z => b2 (z ▸ hb)
      exact ⟨x1, by rw [upd_ne nb]; exact r, hx⟩⟩
  refine ⟨x, fun b hb => ⟨(e.tn b hb).1, ?_⟩, by rw [List.length_set, e.len], α, fun j s2 hs2 => ?_, fun j k s2 t2 hs2 ht2 os ot q2 => ?_⟩
  · obtain ⟨x1, r, hx⟩ := (e.tn b hb).2
    have nb : b ≠ α i := fun z => b2 (z ▸ hb)
    exact ⟨x1, by rw [upd_ne nb]; exact r, hx⟩
  · by_cases hj : j = i
    · subst hj
      have hl : j < ρ.length := (List.getElem?_eq_some_iff.mp hs).1
      rw [List.getElem?_set_self hl] at hs2
      cases hs2
      rw [b1]
      exact k
    · rw [List.getElem?_set_ne (Ne.symm hj)] at hs2
      have z := h1 j s2 hs2
      cases s2 with
      | ol xs =>
        obtain ⟨z1, z2, z3, z4, vs, hv, r⟩ := z
        have nb : α j ≠ α i := fun z => hj (h2 j i _ _ hs2 hs rfl ho z)
        exact ⟨z1, z2, z3, z4, vs, by rw [upd_ne nb]; exact hv, r⟩
      | od xs =>
        obtain ⟨z1, z2, z3, z4, vs, hv, r⟩ := z
        have nb : α j ≠ α i := fun z => hj (h2 j i _ _ hs2 hs rfl ho z)
        exact ⟨z1, z2, z3, z4, vs, by rw [upd_ne nb]; exact hv, r⟩
      | og φ =>
        obtain ⟨z1, z2, z3, z4, vs, hv, r⟩ := z
        have nb : α j ≠ α i := fun z => hj (h2 j i _ _ hs2 hs rfl ho z)
        exact ⟨z1, z2, z3, z4, vs, by rw [upd_ne nb]; exact hv, r⟩
      | un => trivial
      | d y => exact z
      | tn I => exact z
      | raw v => exact z
      | pr φ => exact z
  · have back : ∀ {j : Nat} {s2 : Sl}, (ρ.set i s')[j]? = some s2 → s2.own = true → ∃ s3, ρ[j]? = some s3 ∧ s3.own = true := fun {j s2} h os => by
      by_cases hj : j = i
      · subst hj
        exact ⟨s, hs, ho⟩
      · rw [List.getElem?_set_ne (Ne.symm hj)] at h
        exact ⟨s2, h, os⟩
    obtain ⟨s3, g1, o1⟩ := back hs2 os
    obtain ⟨t3, g2, o2⟩ := back ht2 ot
    exact h2 j k s3 t3 g1 g2 o1 o2 q2
theorem Env.writeL (e : Env T F0 H0 F H σ ρ) {i : Nat} {xs : List PyData} (hs : ρ[i]? = some (.ol xs)) :
    ∃ a vs, σ[i]? = some (some (.ref a)) ∧ H a = some (.lst vs) ∧ RpAll F vs xs ∧ ∀ ws ys, RpAll F ws ys → Env T F0 H0 F (upd H a (.lst ws)) σ (ρ.set i (.ol ys)) := by
  obtain ⟨a, h1, ⟨_, nt, f, h0, vs, hv, r⟩, _, _, k⟩ := e.write hs rfl
  exact ⟨a, vs, h1, hv, r, fun ws ys q => k _ _ rfl ⟨rfl, nt, f, h0, ws, upd_same, q⟩⟩
theorem Env.writeD (e : Env T F0 H0 F H σ ρ) {i : Nat} {xs : List (Key × PyData)} (hs : ρ[i]? = some (.od xs)) :
    ∃ a vs, σ[i]? = some (some (.ref a)) ∧ H a = some (.dK vs) ∧ RpKV F vs xs ∧ ∀ ws ys, RpKV F ws ys → Env T F0 H0 F (upd H a (.dK ws)) σ (ρ.set i (.od ys)) := by
  obtain ⟨a, h1, ⟨_, nt, f, h0, vs, hv, r⟩, _, _, k⟩ := e.write hs rfl
  exact ⟨a, vs, h1, hv, r, fun ws ys q => k _ _ rfl ⟨rfl, nt, f, h0, ws, upd_same, q⟩⟩
/-- an own thing is frozen: it is data from here on -/
theorem Env.freezeG (e : Env T F0 H0 F H σ ρ) {i : Nat} {s s1 : Sl} (hs : ρ[i]? = some s) (ho : s.own = true) (h1o : s1.own = false)
    (h : ∀ a o F', Same F F' → H a = some o → F' a = some o → SlOk T H0 F H (some (.ref a)) a s → SlOk T H0 F' H (some (.ref a)) a s1) :
    ∃ F' a, σ[i]? = some (some (.ref a)) ∧ Same F F' ∧ Env T F0 H0 F' H σ (ρ.set i s1) ∧ SlOk T H0 F' H (some (.ref a)) a s1 := by
  obtain ⟨α, h1, h2⟩ := e.sl
  have q := h1 i s hs
  have big : (σ[i]?).join = some (.ref (α i)) ∧ ¬ T (α i) ∧ F (α i) = none ∧ H0 (α i) = none ∧ ∃ o, H (α i) = some o := by
    cases s with
    | ol xs =>
      obtain ⟨z1, z2, z3, z4, vs, hv, r⟩ := q
      exact ⟨z1, z2, z3, z4, _, hv⟩
    | od xs =>
      obtain ⟨z1, z2, z3, z4, vs, hv, r⟩ := q
      exact ⟨z1, z2, z3, z4, _, hv⟩
    | og φ =>
      obtain ⟨z1, z2, z3, z4, vs, hv, r⟩ := q
      exact ⟨z1, z2, z3, z4, _, hv⟩
    | _ => cases ho
  obtain ⟨b1, b2, b3, b4, o, b5⟩ := big
  rw [b1] at q
  have sF : Same F (upd F (α i) o) := same_new b3
  have r := h (α i) o (upd F (α i) o) sF b5 upd_same q
  refine ⟨upd F (α i) o, α i, join_some b1, sF, ⟨⟨e.ex.ff.trans sF, fun b u hb => ?_, e.ex.hh, fun b u nt hb hf => ?_, fun b hb hf => ?_, fun b hb z => (e.ex.tw b hb z).mono sF⟩, fun b hb => ⟨?_, (e.tn b hb).2.mono sF⟩, by rw [List.length_set, e.len], α, fun j s2 hs2 => ?_, fun j k s2 t2 hs2 ht2 os ot q2 => ?_⟩, r⟩
  · by_cases hb' : b = α i
    · subst hb'
      rw [upd_same] at hb
      rw [← hb]
      exact b5
    · rw [upd_ne hb'] at hb
      exact e.le _ _ hb
  · rw [upd_ne (ne_of_none hb b4)]
    exact e.ex.ow b u nt hb hf
  · have nb : b ≠ α i := fun z => b2 (z ▸ hb)
    rw [upd_ne nb]
    exact e.ex.tf b hb hf
  · have nb : b ≠ α i := fun z => b2 (z ▸ hb)
    rw [upd_ne nb]
    exact (e.tn b hb).1
  · by_cases hj : j = i
    · subst hj
      have hl : j < ρ.length := (List.getElem?_eq_some_iff.mp hs).1
      rw [List.getElem?_set_self hl] at hs2
      cases hs2
      rw [b1]
      exact r
    · rw [List.getElem?_set_ne (Ne.symm hj)] at hs2
      have z := h1 j s2 hs2
      cases s2 with
      | ol xs =>
        obtain ⟨z1, z2, z3, z4, vs, hv, r⟩ := z
        have nb : α j ≠ α i := fun z => hj (h2 j i _ _ hs2 hs rfl ho z)
        exact ⟨z1, z2, by rw [upd_ne nb]; exact z3, z4, vs, hv, r.mono sF⟩
      | od xs =>
        obtain ⟨z1, z2, z3, z4, vs, hv, r⟩ := z
        have nb : α j ≠ α i := fun z => hj (h2 j i _ _ hs2 hs rfl ho z)
        exact ⟨z1, z2, by rw [upd_ne nb]; exact z3, z4, vs, hv, r.mono sF⟩
      | og φ =>
        obtain ⟨z1, z2, z3, z4, vs, hv, r⟩ := z
        have nb : α j ≠ α i := fun z => hj (h2 j i _ _ hs2 hs rfl ho z)
        exact ⟨z1, z2, by rw [upd_ne nb]; exact z3, z4, vs, hv, fun F2 s2 => r F2 (sF.trans s2)⟩
      | un => trivial
      | d y =>
        obtain ⟨v, z1, z2⟩ := z
        exact ⟨v, z1, z2.mono sF⟩
      | tn I => exact z
      | raw v => exact z
      | pr φ =>
        obtain ⟨v, e, p⟩ := z
        exact ⟨v, e, fun F2 s2 => p F2 (sF.trans s2)⟩
  · have nj : ∀ {j : Nat} {s2 : Sl}, (ρ.set i s1)[j]? = some s2 → s2.own = true → ρ[j]? = some s2 := fun {j s2} hs os => by
      have hj : j ≠ i := fun z => by
        subst z
        have hl : j < ρ.length := by
          have := (List.getElem?_eq_some_iff.mp hs).1
          rwa [List.length_set] at this
        rw [List.getElem?_set_self hl] at hs
        cases hs
        rw [h1o] at os
        cases os
      rw [List.getElem?_set_ne (Ne.symm hj)] at hs
      exact hs
    exact h2 j k s2 t2 (nj hs2 os) (nj ht2 ot) os ot q2
theorem Env.freeze0 (e : Env T F0 H0 F H σ ρ) {i : Nat} {s : Sl} (hs : ρ[i]? = some s) (ho : s.own = true) {x : PyData}
    (h : ∀ a o F', Same F F' → H a = some o → F' a = some o → SlOk T H0 F H (some (.ref a)) a s → Rp F' (.ref a) x) :
    ∃ F' a, σ[i]? = some (some (.ref a)) ∧ Same F F' ∧ Env T F0 H0 F' H σ (ρ.set i (.d x)) ∧ Rp F' (.ref a) x := by
  obtain ⟨F', a, h1, h2, h3, v, h4, h5⟩ := e.freezeG (s1 := .d x) hs ho rfl fun a o F' s1 h1 h2 q => ⟨_, rfl, h a o F' s1 h1 h2 q⟩
  cases h4
  exact ⟨F', a, h1, h2, h3, h5⟩
theorem Env.freezeL (e : Env T F0 H0 F H σ ρ) {i : Nat} {xs : List PyData} (hs : ρ[i]? = some (.ol xs)) :
    ∃ F' a, σ[i]? = some (some (.ref a)) ∧ Same F F' ∧ Env T F0 H0 F' H σ (ρ.set i (.d (.list xs))) ∧ Rp F' (.ref a) (.list xs) :=
  e.freeze0 hs rfl fun a o F' sF h1 h2 ⟨_, _, _, _, vs, hv, r⟩ => by
    rw [h1] at hv
    cases hv
    exact .lst h2 (r.mono sF)
theorem Env.freezeD (e : Env T F0 H0 F H σ ρ) {i : Nat} {xs : List (Key × PyData)} (hs : ρ[i]? = some (.od xs)) :
    ∃ F' a, σ[i]? = some (some (.ref a)) ∧ Same F F' ∧ Env T F0 H0 F' H σ (ρ.set i (.d (dictD xs))) ∧ Rp F' (.ref a) (dictD xs) :=
  e.freeze0 hs rfl fun a o F' sF h1 h2 ⟨_, _, _, _, vs, hv, r⟩ => by
    rw [h1] at hv
    cases hv
    exact .dct (.inl h2) (r.mono sF) rfl
end
end Tr

set_option Elab.async false
set_option linter.all false
set_option maxRecDepth 100000
/-! Lay2: what readings evaluate to, as data; statements by their ends. -/
namespace Tr
open PySem L2
variable [PWc]

/-! ### judgements -/
/-- te gives the data x -/
def Ev (T : Tn) (te : TE) (ρ : List Sl) (x : PyData) : Prop := ∀ F0 H0 σ F H, Env T F0 H0 F H σ ρ → ∀ Q : VK, (∀ v F' H', Ext T F H F' H' → Rp F' v x → Q v H') → te σ H Q
/-- te gives some data of which P holds -/
def EvP (T : Tn) (te : TE) (ρ : List Sl) (P : PyData → Prop) : Prop := ∀ F0 H0 σ F H, Env T F0 H0 F H σ ρ → ∀ Q : VK, (∀ v F' H' x, Ext T F H F' H' → P x → Rp F' v x → Q v H') → te σ H Q
/-- te gives a new list that nobody else holds -/
def EvO (T : Tn) (te : TE) (ρ : List Sl) (P : List PyData → Prop) : Prop := ∀ F0 H0 σ F H, Env T F0 H0 F H σ ρ → ∀ Q : VK, (∀ a vs xs F' H', Ext T F H F' H' → H a = none → F' a = none → H' a = some (.lst vs) → P xs → RpAll F' vs xs → Q (.ref a) H') → te σ H Q
/-- te gives a new dict that nobody else holds -/
def EvN (T : Tn) (te : TE) (ρ : List Sl) (P : List (Key × PyData) → Prop) : Prop := ∀ F0 H0 σ F H, Env T F0 H0 F H σ ρ → ∀ Q : VK, (∀ a vs xs F' H', Ext T F H F' H' → H a = none → F' a = none → H' a = some (.dK vs) → P xs → RpKV F' vs xs → Q (.ref a) H') → te σ H Q
def EvT (T : Tn) (tt : TT) (ρ : List Sl) (P : Bool → Prop) : Prop := ∀ F0 H0 σ F H, Env T F0 H0 F H σ ρ → ∀ Q : Bool → Hp → Prop, (∀ b F' H', Ext T F H F' H' → P b → Q b H') → tt σ H Q
def EvA (T : Tn) (ta : TA) (ρ : List Sl) (P : List PyData → Prop) : Prop := ∀ F0 H0 σ F H, Env T F0 H0 F H σ ρ → ∀ Q : List V → Hp → Prop, (∀ vs F' H' xs, Ext T F H F' H' → P xs → RpAll F' vs xs → Q vs H') → ta σ H Q
/-- what follows a statement -/
structure Po where
  nx : List Sl → Prop := fun _ => False
  rt : PyData → List Sl → Prop := fun _ _ => False
  bk : List Sl → Prop := fun _ => False
  ct : List Sl → Prop := fun _ => False
  xx : Addr → List Sl → Prop := fun _ _ => False
def Sm (T : Tn) (W : WX) (t : TS) (ρ : List Sl) (P : Po) : Prop := ∀ F0 H0 σ F H (D : Ends), Env T F0 H0 F H σ ρ →
  (∀ σ' F' H' ρ', Same F F' → Env T F0 H0 F' H' σ' ρ' → P.nx ρ' → D.nx σ' H') →
  (∀ v σ' F' H' ρ' x, Env T F0 H0 F' H' σ' ρ' → Rp F' v x → P.rt x ρ' → D.rt v H') →
  (∀ σ' F' H' ρ', Same F F' → Env T F0 H0 F' H' σ' ρ' → P.bk ρ' → D.bk σ' H') →
  (∀ σ' F' H' ρ', Same F F' → Env T F0 H0 F' H' σ' ρ' → P.ct ρ' → D.ct σ' H') →
  (∀ c σ' F' H' ρ', Same F F' → Env T F0 H0 F' H' σ' ρ' → P.xx c ρ' → W (.ref c) none σ' H') → t D σ H
abbrev W0 : WX := fun _ _ _ _ => False

section
variable {T : Tn} {ρ : List Sl} {ta tb te : TE} {x y z : PyData}
theorem Ev.p {P : PyData → Prop} (h : Ev T te ρ x) (p : P x) : EvP T te ρ P := fun F0 H0 σ F H e Q q => h F0 H0 σ F H e Q fun v F' H' ex r => q v F' H' x ex p r
theorem EvP.mono {P P' : PyData → Prop} (h : EvP T te ρ P) (p : ∀ x, P x → P' x) : EvP T te ρ P' := fun F0 H0 σ F H e Q q => h F0 H0 σ F H e Q fun v F' H' x ex px r => q v F' H' x ex (p x px) r
theorem EvP.det (h : EvP T te ρ fun y => y = x) : Ev T te ρ x := fun F0 H0 σ F H e Q q => h F0 H0 σ F H e Q fun v F' H' y ex py r => q v F' H' ex (py ▸ r)
theorem EvT.mono {tt : TT} {P P' : Bool → Prop} (h : EvT T tt ρ P) (p : ∀ x, P x → P' x) : EvT T tt ρ P' := fun F0 H0 σ F H e Q q => h F0 H0 σ F H e Q fun v F' H' ex px => q v F' H' ex (p v px)
theorem EvO.mono {P P' : List PyData → Prop} (h : EvO T te ρ P) (p : ∀ x, P x → P' x) : EvO T te ρ P' := fun F0 H0 σ F H e Q q => h F0 H0 σ F H e Q fun a vs xs F' H' ex n f hv px r => q a vs xs F' H' ex n f hv (p xs px) r
theorem EvA.mono {ta : TA} {P P' : List PyData → Prop} (h : EvA T ta ρ P) (p : ∀ x, P x → P' x) : EvA T ta ρ P' := fun F0 H0 σ F H e Q q => h F0 H0 σ F H e Q fun v F' H' xs ex px r => q v F' H' xs ex (p xs px) r
/-- a new list as data -/
theorem EvO.p {P : List PyData → Prop} (h : EvO T te ρ P) : EvP T te ρ fun d => ∃ xs, d = .list xs ∧ P xs := fun F0 H0 σ F H e Q q => h F0 H0 σ F H e Q fun a vs xs F' H' ex n f hv px r => by
  have nT : ¬ T a := fun t => by
    obtain ⟨_, z, _⟩ := e.town a t
    rw [n] at z
    cases z
  have sF : Same F' (upd F' a (.lst vs)) := same_new f
  refine q (.ref a) (upd F' a (.lst vs)) H' (.list xs) ⟨ex.ff.trans sF, fun b u hb => ?_, ex.hh, fun b u nt hb hf => ?_, fun b hb hf => ?_, fun b hb z => (ex.tw b hb z).mono sF⟩ ⟨xs, rfl, px⟩ (.lst upd_same (r.mono sF))
  · by_cases hb' : b = a
    · subst hb'
      rw [upd_same] at hb
      rw [← hb]
      exact hv
    · rw [upd_ne hb'] at hb
      exact ex.fh _ _ hb
  · rw [upd_ne (ne_of_none hb n)]
    exact ex.ow b u nt hb hf
  · have nb : b ≠ a := fun z => nT (z ▸ hb)
    rw [upd_ne nb]
    exact ex.tf b hb hf
theorem EvO.d {xs : List PyData} (h : EvO T te ρ fun y => y = xs) : Ev T te ρ (.list xs) := (h.p.mono fun d ⟨ys, e1, e2⟩ => by rw [e1, e2]).det
theorem EvN.p {P : List (Key × PyData) → Prop} (h : EvN T te ρ P) : EvP T te ρ fun d => ∃ xs, d = dictD xs ∧ P xs := fun F0 H0 σ F H e Q q => h F0 H0 σ F H e Q fun a vs xs F' H' ex n f hv px r => by
  have nT : ¬ T a := fun t => by
    obtain ⟨_, z, _⟩ := e.town a t
    rw [n] at z
    cases z
  have sF : Same F' (upd F' a (.dK vs)) := same_new f
  refine q (.ref a) (upd F' a (.dK vs)) H' (dictD xs) ⟨ex.ff.trans sF, fun b u hb => ?_, ex.hh, fun b u nt hb hf => ?_, fun b hb hf => ?_, fun b hb z => (ex.tw b hb z).mono sF⟩ ⟨xs, rfl, px⟩ (.dct (.inl upd_same) (r.mono sF) rfl)
  · by_cases hb' : b = a
    · subst hb'
      rw [upd_same] at hb
      rw [← hb]
      exact hv
    · rw [upd_ne hb'] at hb
      exact ex.fh _ _ hb
  · rw [upd_ne (ne_of_none hb n)]
    exact ex.ow b u nt hb hf
  · have nb : b ≠ a := fun z => nT (z ▸ hb)
    rw [upd_ne nb]
    exact ex.tf b hb hf
theorem EvN.d {xs : List (Key × PyData)} (h : EvN T te ρ fun y => y = xs) : Ev T te ρ (dictD xs) := (h.p.mono fun d ⟨ys, e1, e2⟩ => by rw [e1, e2]).det

/-! ### names, constants -/
theorem ev_var {i : Nat} (h : ρ[i]? = some (.d x)) : Ev T (tVar i) ρ x := fun F0 H0 σ F H e Q q => by
  obtain ⟨v, hv, r⟩ := e.get h
  exact ⟨v, hv, q v F H (Ext.refl e.le) r⟩
theorem ev_int {i : Int} : Ev T (tC (.int i)) ρ (.int i) := fun F0 H0 σ F H e Q q => q _ F H (Ext.refl e.le) (.int i)
theorem ev_str {s : Str} : Ev T (tC (.str s)) ρ (.str s) := fun F0 H0 σ F H e Q q => q _ F H (Ext.refl e.le) (.str s)
theorem ev_non : Ev T (tC .non) ρ .none := fun F0 H0 σ F H e Q q => q _ F H (Ext.refl e.le) .non
theorem ev_bl {b : Bool} : Ev T (tC (.bl b)) ρ (.bool b) := fun F0 H0 σ F H e Q q => q _ F H (Ext.refl e.le) (.bl b)

/-! ### operations by values -/
/-- r takes data of P, P' to data of R -/
def RvP (T : Tn) (r : R2) (x y : PyData) (R : PyData → Prop) : Prop := ∀ F H v u, Same F H → (∀ b, T b → F b = none ∧ Town T F H b) → Rp F v x → Rp F u y → ∀ Q : VK, (∀ w F' H' z, Ext T F H F' H' → R z → Rp F' w z → Q w H') → r v u H Q
def Rv (T : Tn) (r : R2) (x y z : PyData) : Prop := ∀ F H v u, Same F H → (∀ b, T b → F b = none ∧ Town T F H b) → Rp F v x → Rp F u y → ∀ Q : VK, (∀ w F' H', Ext T F H F' H' → Rp F' w z → Q w H') → r v u H Q
theorem Rv.p {r : R2} {R : PyData → Prop} (h : Rv T r x y z) (p : R z) : RvP T r x y R := fun F H v u s t rx ry Q q => h F H v u s t rx ry Q fun w F' H' ex rz => q w F' H' z ex p rz
theorem ev_op {r : R2} (ha : Ev T ta ρ x) (hb : Ev T tb ρ y) (hr : Rv T r x y z) : Ev T (tOp r ta tb) ρ z := fun F0 H0 σ F H e Q q =>
  ha F0 H0 σ F H e _ fun v F1 H1 e1 r1 => hb F0 H0 σ F1 H1 (e.ext e1) _ fun u F2 H2 e2 r2 =>
    hr F2 H2 v u e2.fh ((e.ext e1).ext e2).tn (r1.mono e2.ff) r2 Q fun w F3 H3 e3 r3 => q w F3 H3 ((e1.trans e2).trans e3) r3
theorem evp_op {r : R2} {P P' R : PyData → Prop} (ha : EvP T ta ρ P) (hb : EvP T tb ρ P') (hr : ∀ x y, P x → P' y → RvP T r x y R) : EvP T (tOp r ta tb) ρ R := fun F0 H0 σ F H e Q q =>
  ha F0 H0 σ F H e _ fun v F1 H1 x e1 px r1 => hb F0 H0 σ F1 H1 (e.ext e1) _ fun u F2 H2 y e2 py r2 =>
    hr x y px py F2 H2 v u e2.fh ((e.ext e1).ext e2).tn (r1.mono e2.ff) r2 Q fun w F3 H3 z e3 pz r3 => q w F3 H3 z ((e1.trans e2).trans e3) pz r3
theorem rv_bl {r : R2} {b : Bool} (h : ∀ F H v u, Same F H → Rp F v x → Rp F u y → ∀ Q : VK, Q (.bl b) H → r v u H Q) : Rv T r x y (.bool b) := fun F H v u s t rx ry Q q => h F H v u s rx ry Q (q _ F H (Ext.refl s) (.bl b))
theorem rv_int {r : R2} {i : Int} (h : ∀ F H v u, Same F H → Rp F v x → Rp F u y → ∀ Q : VK, Q (.int i) H → r v u H Q) : Rv T r x y (.int i) := fun F H v u s t rx ry Q q => h F H v u s rx ry Q (q _ F H (Ext.refl s) (.int i))
theorem rv_str {r : R2} {i : Str} (h : ∀ F H v u, Same F H → Rp F v x → Rp F u y → ∀ Q : VK, Q (.str i) H → r v u H Q) : Rv T r x y (.str i) := fun F H v u s t rx ry Q q => h F H v u s rx ry Q (q _ F H (Ext.refl s) (.str i))

/-! ### argument lists, displays -/
theorem ea_nil : EvA T tNil ρ fun xs => xs = [] := fun F0 H0 σ F H e Q q => q [] F H [] (Ext.refl e.le) rfl .nil
theorem ea_cons {t : TA} {P : PyData → Prop} {R : List PyData → Prop} (h : EvP T te ρ P) (hr : EvA T t ρ R) : EvA T (tCons te t) ρ fun zs => ∃ x xs, zs = x :: xs ∧ P x ∧ R xs := fun F0 H0 σ F H e Q q =>
  h F0 H0 σ F H e _ fun v F1 H1 x e1 px r1 => hr F0 H0 σ F1 H1 (e.ext e1) _ fun vs F2 H2 xs e2 pxs r2 => q (v :: vs) F2 H2 (x :: xs) (e1.trans e2) ⟨x, xs, rfl, px, pxs⟩ (.cons (r1.mono e2.ff) r2)
theorem ea_c {t : TA} {xs : List PyData} (h : Ev T te ρ x) (hr : EvA T t ρ fun ys => ys = xs) : EvA T (tCons te t) ρ fun zs => zs = x :: xs := fun F0 H0 σ F H e Q q =>
  h F0 H0 σ F H e _ fun v F1 H1 e1 r1 => hr F0 H0 σ F1 H1 (e.ext e1) _ fun vs F2 H2 ys e2 pxs r2 => q (v :: vs) F2 H2 (x :: ys) (e1.trans e2) (by rw [pxs]) (.cons (r1.mono e2.ff) r2)
/-- a tuple as it was laid: its own object is known, nothing hangs at it -/
def tTupF (t : TA) : TE := fun σ H Q => t σ H fun xs H1 => xs.length ≤ sizeLine ∧ ∀ p o, H1 p = none → o.dict = none → Q (.ref p) (upd H1 p (.frz o (.tup xs)))
theorem evp_tup {t : TA} {P : List PyData → Prop} (h : EvA T t ρ P) (hl : ∀ xs, P xs → xs.length ≤ sizeLine) : EvP T (tTupF t) ρ fun d => ∃ xs, d = .tuple xs ∧ P xs := fun F0 H0 σ F H e Q q =>
  h F0 H0 σ F H e _ fun vs F1 H1 ys e1 py r => by
    refine ⟨by rw [r.length]; exact hl ys py, fun p o hp ho => ?_⟩
    have e2 := e.ext e1
    have x2 : Ext T F1 H1 (upd F1 p (.frz o (.tup vs))) (upd H1 p (.frz o (.tup vs))) := Ext.new e2.le e2.town hp
    exact q _ _ _ _ (e1.trans x2) ⟨ys, rfl, py⟩ (.tup upd_same ho (r.mono x2.ff))
theorem ev_tup {t : TA} {xs : List PyData} (h : EvA T t ρ fun ys => ys = xs) (hl : xs.length ≤ sizeLine) : Ev T (tTupF t) ρ (.tuple xs) := ((evp_tup h fun ys e => by rw [e]; exact hl).mono fun d ⟨ys, e1, e2⟩ => by rw [e1, e2]).det
theorem eo_lst {t : TA} {P : List PyData → Prop} (h : EvA T t ρ P) (hl : ∀ xs, P xs → xs.length ≤ sizeLine) : EvO T (tLst t) ρ P := fun F0 H0 σ F H e Q q =>
  h F0 H0 σ F H e _ fun vs F1 H1 ys e1 py r => by
    refine ⟨by rw [r.length]; exact hl ys py, fun p hp => ?_⟩
    have e2 := e.ext e1
    have n0 : H p = none := by
      have nT : ¬ T p := fun t => by
        obtain ⟨_, z, _⟩ := e2.town p t
        rw [hp] at z
        cases z
      cases hq : H p with
      | none => rfl
      | some o =>
        rw [e1.hh p o nT hq] at hp
        cases hp
    exact q p vs ys _ _ (e1.trans (Ext.new1 e2.le hp)) n0 (e2.le.free hp) upd_same py r

/-! ### tests -/
theorem et_test {P : Bool → Prop} (h : EvP T te ρ fun d => ∃ b, d = .bool b ∧ P b) : EvT T (tTest te) ρ P := fun F0 H0 σ F H e Q q => h F0 H0 σ F H e _ fun v F' H' x ex ⟨b, eb, pb⟩ r => by
  subst eb
  exact ⟨b, r.bl_eq, q b F' H' ex pb⟩
theorem et_B {P : Bool → Prop} (h : EvP T te ρ fun d => ∃ b, d = .bool b ∧ P b) : EvT T (tB te) ρ P := et_test h
theorem et_t {b : Bool} (h : Ev T te ρ (.bool b)) : EvT T (tTest te) ρ fun c => c = b := et_test (h.p ⟨b, rfl, rfl⟩)
theorem et_b {b : Bool} (h : Ev T te ρ (.bool b)) : EvT T (tB te) ρ fun c => c = b := et_t h
theorem et_not {t : TT} {b : Bool} (h : EvT T t ρ fun c => c = b) : EvT T (tNot t) ρ fun c => c = !b := fun F0 H0 σ F H e Q q => h F0 H0 σ F H e _ fun v F' H' ex p => q _ F' H' ex (by rw [p])
theorem et_and {t u : TT} {b c : Bool} (h1 : EvT T t ρ fun d => d = b) (h2 : b = true → EvT T u ρ fun d => d = c) : EvT T (tAnd t u) ρ fun d => d = (b && c) := fun F0 H0 σ F H e Q q => h1 F0 H0 σ F H e _ fun v F1 H1 e1 p => by
  subst p
  cases v with
  | true => exact iteT (h2 rfl F0 H0 σ F1 H1 (e.ext e1) _ fun w F2 H2 e2 pw => q w F2 H2 (e1.trans e2) (by rw [pw]; rfl))
  | false => exact iteF (q false F1 H1 e1 rfl)
theorem et_or {t u : TT} {b c : Bool} (h1 : EvT T t ρ fun d => d = b) (h2 : b = false → EvT T u ρ fun d => d = c) : EvT T (tOr t u) ρ fun d => d = (b || c) := fun F0 H0 σ F H e Q q => h1 F0 H0 σ F H e _ fun v F1 H1 e1 p => by
  subst p
  cases v with
  | false => exact iteF (h2 rfl F0 H0 σ F1 H1 (e.ext e1) _ fun w F2 H2 e2 pw => q w F2 H2 (e1.trans e2) (by rw [pw]; rfl))
  | true => exact iteT (q true F1 H1 e1 rfl)
theorem et_yes : EvT T tYes ρ fun c => c = true := fun F0 H0 σ F H e Q q => q true F H (Ext.refl e.le) rfl
/-- and, or as values of bools -/
theorem ev_andV {b : Bool} {z : PyData} (h1 : Ev T ta ρ (.bool b)) (h2 : b = true → Ev T tb ρ z) (h3 : b = false → z = .bool false) : Ev T (tAndV ta tb) ρ z := fun F0 H0 σ F H e Q q => h1 F0 H0 σ F H e _ fun v F1 H1 e1 r => by
  refine ⟨b, r.bl_eq, ?_⟩
  cases b with
  | true => exact iteT (h2 rfl F0 H0 σ F1 H1 (e.ext e1) _ fun w F2 H2 e2 r2 => q w F2 H2 (e1.trans e2) r2)
  | false => exact iteF (q _ F1 H1 e1 (by rw [h3 rfl]; exact .bl false))
theorem ev_and {b c : Bool} (h1 : Ev T ta ρ (.bool b)) (h2 : b = true → Ev T tb ρ (.bool c)) : Ev T (tAndV ta tb) ρ (.bool (b && c)) := ev_andV h1 (fun hb => by subst hb; exact h2 rfl) fun hb => by subst hb; rfl
theorem ev_or {b c : Bool} (h1 : Ev T ta ρ (.bool b)) (h2 : b = false → Ev T tb ρ (.bool c)) : Ev T (tOrV ta tb) ρ (.bool (b || c)) := fun F0 H0 σ F H e Q q => h1 F0 H0 σ F H e _ fun v F1 H1 e1 r => by
  refine ⟨b, r.bl_eq, ?_⟩
  cases b with
  | false => exact iteF (h2 rfl F0 H0 σ F1 H1 (e.ext e1) _ fun w F2 H2 e2 r2 => q w F2 H2 (e1.trans e2) r2)
  | true => exact iteT (q _ F1 H1 e1 (.bl true))
theorem ev_not {b : Bool} (h : Ev T ta ρ (.bool b)) : Ev T (tNotV ta) ρ (.bool (!b)) := fun F0 H0 σ F H e Q q => h F0 H0 σ F H e _ fun v F1 H1 e1 r => ⟨b, r.bl_eq, q _ F1 H1 e1 (.bl _)⟩
theorem ev_if {t : TT} {b : Bool} (h : EvT T t ρ fun c => c = b) (h1 : b = true → Ev T ta ρ z) (h2 : b = false → Ev T tb ρ z) : Ev T (tIf t ta tb) ρ z := fun F0 H0 σ F H e Q q => h F0 H0 σ F H e _ fun v F1 H1 e1 p => by
  subst p
  cases v with
  | true => exact iteT (h1 rfl F0 H0 σ F1 H1 (e.ext e1) _ fun w F2 H2 e2 r2 => q w F2 H2 (e1.trans e2) r2)
  | false => exact iteF (h2 rfl F0 H0 σ F1 H1 (e.ext e1) _ fun w F2 H2 e2 r2 => q w F2 H2 (e1.trans e2) r2)
theorem evp_if {t : TT} {B : Bool → Prop} {P : PyData → Prop} (h : EvT T t ρ B) (h1 : B true → EvP T ta ρ P) (h2 : B false → EvP T tb ρ P) : EvP T (tIf t ta tb) ρ P := fun F0 H0 σ F H e Q q => h F0 H0 σ F H e _ fun v F1 H1 e1 p => by
  cases v with
  | true => exact iteT (h1 p F0 H0 σ F1 H1 (e.ext e1) _ fun w F2 H2 y e2 py r2 => q w F2 H2 y (e1.trans e2) py r2)
  | false => exact iteF (h2 p F0 H0 σ F1 H1 (e.ext e1) _ fun w F2 H2 y e2 py r2 => q w F2 H2 y (e1.trans e2) py r2)
end

/-! ### statements -/
section
variable {T : Tn} {W : WX} {ρ : List Sl} {P : Po} {te : TE} {t u : TS} {x : PyData}
theorem Sm.mono {P' : Po} (h : Sm T W t ρ P) (h1 : ∀ r, P.nx r → P'.nx r) (h2 : ∀ r a, P.rt r a → P'.rt r a) (h3 : ∀ r, P.bk r → P'.bk r) (h4 : ∀ r, P.ct r → P'.ct r) (h5 : ∀ r a, P.xx r a → P'.xx r a) : Sm T W t ρ P' :=
  fun F0 H0 σ F H D e k1 k2 k3 k4 k5 => h F0 H0 σ F H D e (fun a b c d s e p => k1 a b c d s e (h1 d p)) (fun a b c d f x e r p => k2 a b c d f x e r (h2 x f p)) (fun a b c d s e p => k3 a b c d s e (h3 d p)) (fun a b c d s e p => k4 a b c d s e (h4 d p)) fun a b c d f s e p => k5 a b c d f s e (h5 a f p)
theorem sm_next (h : P.nx ρ) : Sm T W tNext ρ P := fun F0 H0 σ F H D e k1 _ _ _ _ => k1 σ F H ρ (Same.refl _) e h
theorem sm_seq (h : Sm T W t ρ { P with nx := fun r => Sm T W u r P }) : Sm T W (tSeq t u) ρ P := fun F0 H0 σ F H D e k1 k2 k3 k4 k5 =>
  h F0 H0 σ F H { D with nx := u D } e (fun σ' F' H' ρ' s' e' p => p F0 H0 σ' F' H' D e' (fun a b c d s e p => k1 a b c d (s'.trans s) e p) k2 (fun a b c d s e p => k3 a b c d (s'.trans s) e p) (fun a b c d s e p => k4 a b c d (s'.trans s) e p) fun a b c d f s e p => k5 a b c d f (s'.trans s) e p) k2 k3 k4 k5
theorem sm_asg {i : Nat} (h : Ev T te ρ x) (k : P.nx (ρ.set i (.d x))) : Sm T W (tAsg te (gName i)) ρ P := fun F0 H0 σ F H D e k1 _ _ _ _ =>
  h F0 H0 σ F H e _ fun v F' H' ex r => k1 _ F' H' _ ex.ff ((e.ext ex).setD r) k
theorem sm_asgP {i : Nat} {R : PyData → Prop} (h : EvP T te ρ R) (k : ∀ x, R x → P.nx (ρ.set i (.d x))) : Sm T W (tAsg te (gName i)) ρ P := fun F0 H0 σ F H D e k1 _ _ _ _ =>
  h F0 H0 σ F H e _ fun v F' H' x ex px r => k1 _ F' H' _ ex.ff ((e.ext ex).setD r) (k x px)
theorem sm_asgO {i : Nat} {R : List PyData → Prop} (h : EvO T te ρ R) (k : ∀ xs, R xs → P.nx (ρ.set i (.ol xs))) : Sm T W (tAsg te (gName i)) ρ P := fun F0 H0 σ F H D e k1 _ _ _ _ =>
  h F0 H0 σ F H e _ fun a vs xs F' H' ex n f hv px r => k1 _ F' H' _ ex.ff (e.newL ex n f hv r) (k xs px)
theorem sm_asgN {i : Nat} {R : List (Key × PyData) → Prop} (h : EvN T te ρ R) (k : ∀ xs, R xs → P.nx (ρ.set i (.od xs))) : Sm T W (tAsg te (gName i)) ρ P := fun F0 H0 σ F H D e k1 _ _ _ _ =>
  h F0 H0 σ F H e _ fun a vs xs F' H' ex n f hv px r => k1 _ F' H' _ ex.ff (e.newD ex n f hv r) (k xs px)
theorem sm_drop (h : Ev T te ρ x) (k : P.nx ρ) : Sm T W (tDrop te) ρ P := fun F0 H0 σ F H D e k1 _ _ _ _ =>
  h F0 H0 σ F H e _ fun v F' H' ex r => k1 _ F' H' _ ex.ff (e.ext ex) k
theorem sm_ret (h : Ev T te ρ x) (k : P.rt x ρ) : Sm T W (tRet te) ρ P := fun F0 H0 σ F H D e _ k2 _ _ _ =>
  h F0 H0 σ F H e _ fun v F' H' ex r => k2 v σ F' H' ρ x (e.ext ex) r k
theorem sm_retP {R : PyData → Prop} (h : EvP T te ρ R) (k : ∀ x, R x → P.rt x ρ) : Sm T W (tRet te) ρ P := fun F0 H0 σ F H D e _ k2 _ _ _ =>
  h F0 H0 σ F H e _ fun v F' H' x ex px r => k2 v σ F' H' ρ x (e.ext ex) r (k x px)
theorem sm_if {c : TT} {B : Bool → Prop} (h : EvT T c ρ B) (h1 : B true → Sm T W t ρ P) (h2 : B false → Sm T W u ρ P) : Sm T W (tIfS c t u) ρ P := fun F0 H0 σ F H D e k1 k2 k3 k4 k5 =>
  h F0 H0 σ F H e _ fun b F1 H1 ex p => by
    have go : ∀ {t : TS}, Sm T W t ρ P → t D σ H1 := fun {t} h => h F0 H0 σ F1 H1 D (e.ext ex) (fun a b c d s e p => k1 a b c d (ex.ff.trans s) e p) k2 (fun a b c d s e p => k3 a b c d (ex.ff.trans s) e p) (fun a b c d s e p => k4 a b c d (ex.ff.trans s) e p) fun a b c d f s e p => k5 a b c d f (ex.ff.trans s) e p
    cases b with
    | true => exact iteT (go (h1 p))
    | false => exact iteF (go (h2 p))
theorem sm_ifb {c : TT} {b : Bool} (h : EvT T c ρ fun d => d = b) (h1 : b = true → Sm T W t ρ P) (h2 : b = false → Sm T W u ρ P) : Sm T W (tIfS c t u) ρ P := sm_if h (fun e => h1 e.symm) fun e => h2 e.symm
/-- an own list, an own dict becomes data -/
theorem sm_freeze {i : Nat} {xs : List PyData} (hs : ρ[i]? = some (.ol xs)) (h : Sm T W t (ρ.set i (.d (.list xs))) P) : Sm T W t ρ P := fun F0 H0 σ F H D e k1 k2 k3 k4 k5 => by
  obtain ⟨F', a, _, sF, e', _⟩ := e.freezeL hs
  exact h F0 H0 σ F' H D e' (fun a b c d s e p => k1 a b c d (sF.trans s) e p) k2 (fun a b c d s e p => k3 a b c d (sF.trans s) e p) (fun a b c d s e p => k4 a b c d (sF.trans s) e p) fun a b c d f s e p => k5 a b c d f (sF.trans s) e p
theorem sm_freezeD {i : Nat} {xs : List (Key × PyData)} (hs : ρ[i]? = some (.od xs)) (h : Sm T W t (ρ.set i (.d (dictD xs))) P) : Sm T W t ρ P := fun F0 H0 σ F H D e k1 k2 k3 k4 k5 => by
  obtain ⟨F', a, _, sF, e', _⟩ := e.freezeD hs
  exact h F0 H0 σ F' H D e' (fun a b c d s e p => k1 a b c d (sF.trans s) e p) k2 (fun a b c d s e p => k3 a b c d (sF.trans s) e p) (fun a b c d s e p => k4 a b c d (sF.trans s) e p) fun a b c d f s e p => k5 a b c d f (sF.trans s) e p
/-- a = b, c = d at once -/
theorem sm_par {i j : Nat} {ta : TA} {x y : PyData} (h : EvA T ta ρ fun zs => zs = [x, y]) (k : P.nx ((ρ.set i (.d x)).set j (.d y))) : Sm T W (tPar i j ta) ρ P := fun F0 H0 σ F H D e k1 _ _ _ _ =>
  h F0 H0 σ F H e _ fun vs F' H' xs ex px r => by
    subst px
    cases r with
    | cons r1 r =>
      cases r with
      | cons r2 r =>
        cases r
        exact ⟨_, _, rfl, k1 _ F' H' _ ex.ff (((e.ext ex).setD r1).setD r2) k⟩
theorem sm_aug {i : Nat} {ti : TIp} {x y z : PyData} (hx : ρ[i]? = some (.d x)) (h : Ev T te ρ y) (hr : Rv T ti x y z) (k : P.nx (ρ.set i (.d z))) : Sm T W (tAug i te ti) ρ P := fun F0 H0 σ F H D e k1 _ _ _ _ => by
  obtain ⟨v, hv, rx⟩ := e.get hx
  refine ⟨v, hv, h F0 H0 σ F H e _ fun u F1 H1 e1 r1 => ?_⟩
  refine hr F1 H1 v u e1.fh (e.ext e1).tn (rx.mono e1.ff) r1 _ fun w F2 H2 e2 r2 => ?_
  exact k1 _ F2 H2 _ (e1.ff.trans e2.ff) (((e.ext e1).ext e2).setD r2) k
/-- a while: I holds with a number that falls -/
theorem sm_while {c : TT} {tb : TS} (I : Nat → List Sl → Prop) {m0 : Nat} (h0 : I m0 ρ)
    (hs : ∀ m r, I m r → ∃ b, EvT T c r (fun d => d = b) ∧ (b = true → Sm T W tb r { nx := fun r' => ∃ m', m' < m ∧ I m' r', ct := fun r' => ∃ m', m' < m ∧ I m' r', bk := P.nx, rt := P.rt, xx := P.xx }) ∧ (b = false → P.nx r)) : Sm T W (tWhile c tb) ρ P := fun F0 H0 σ F H D e k1 k2 k3 k4 k5 => by
  refine ⟨fun m σ' H' => ∃ F' ρ', Same F F' ∧ Env T F0 H0 F' H' σ' ρ' ∧ I m ρ', ⟨m0, F, ρ, Same.refl _, e, h0⟩, ?_⟩
  rintro m σ1 H1 ⟨F1, ρ1, s1, e1, i1⟩
  obtain ⟨b, ht, hb, hn⟩ := hs m ρ1 i1
  refine ht F0 H0 σ1 F1 H1 e1 _ fun b' F2 H2 x2 p => ?_
  subst p
  cases b' with
  | false => exact iteF (k1 _ F2 H2 _ (s1.trans x2.ff) (e1.ext x2) (hn rfl))
  | true =>
    refine iteT ⟨fun σ' H' => ∃ m', m' < m ∧ ∃ F' ρ', Same F F' ∧ Env T F0 H0 F' H' σ' ρ' ∧ I m' ρ', fun σ' H' ⟨m', lt, q⟩ => ⟨m', lt, q⟩, ?_⟩
    have s2 : Same F F2 := s1.trans x2.ff
    exact hb rfl F0 H0 σ1 F2 H2 _ (e1.ext x2) (fun a b c d s e ⟨m', lt, p⟩ => ⟨m', lt, b, d, s2.trans s, e, p⟩) k2 (fun a b c d s e p => k1 a b c d (s2.trans s) e p) (fun a b c d s e ⟨m', lt, p⟩ => ⟨m', lt, b, d, s2.trans s, e, p⟩) fun a b c d f s e p => k5 a b c d f (s2.trans s) e p
end

/-! ### targets and what is walked -/
/-- a target takes the data x from ρ to ρ' -/
def Tg (T : Tn) (g : TG) (x : PyData) (ρ ρ' : List Sl) : Prop := ∀ F0 H0 σ F H v, Env T F0 H0 F H σ ρ → Rp F v x → ∀ Q : L2.St → Hp → Prop, (∀ σ', Env T F0 H0 F H σ' ρ' → Q σ' H) → g v σ H Q
theorem tg_name {T : Tn} {i : Nat} {x : PyData} {ρ : List Sl} : Tg T (gName i) x ρ (ρ.set i (.d x)) := fun F0 H0 σ F H v e r Q q => q _ (e.setD r)
def Tgs (T : Tn) (g : TGs) (xs : List PyData) (ρ ρ' : List Sl) : Prop := ∀ F0 H0 σ F H vs, Env T F0 H0 F H σ ρ → RpAll F vs xs → ∀ Q : L2.St → Hp → Prop, (∀ σ', Env T F0 H0 F H σ' ρ' → Q σ' H) → g vs σ H Q
theorem tgs_nil {T : Tn} {ρ : List Sl} : Tgs T gNil [] ρ ρ := fun F0 H0 σ F H vs e r Q q => by
  cases r
  exact ⟨rfl, q σ e⟩
theorem tgs_cons {T : Tn} {g : TG} {gs : TGs} {x : PyData} {xs : List PyData} {ρ ρ1 ρ2 : List Sl} (h : Tg T g x ρ ρ1) (h2 : Tgs T gs xs ρ1 ρ2) : Tgs T (gCons g gs) (x :: xs) ρ ρ2 := fun F0 H0 σ F H vs e r Q q => by
  cases r with
  | cons r1 rs => exact ⟨_, _, rfl, h F0 H0 σ F H _ e r1 _ fun σ' e' => h2 F0 H0 σ' F H _ e' rs Q q⟩
theorem sqT_frz {K : PySem.W.Frag} {H : Hp} {a : Addr} {o : Obj} {xs : List V} (h : H a = some (.frz o (.tup xs))) : SqT K H a xs := .inl (.inr ⟨o, h⟩)
theorem tg_tup {T : Tn} {K : PySem.W.Frag} {n : Nat} {gs : TGs} {xs : List PyData} {ρ ρ' : List Sl} (h : Tgs T gs xs ρ ρ') (hn : xs.length = n) : Tg T (gTup K n gs) (.tuple xs) ρ ρ' := fun F0 H0 σ F H v e r Q q => by
  obtain ⟨a, o, vs, rfl, ha, _, rs⟩ := r.tup_eq
  exact ⟨a, vs, rfl, sqT_frz (e.le _ _ ha), by rw [rs.length]; exact hn, h F0 H0 σ F H vs e rs Q q⟩
theorem tg_lo {T : Tn} {K : PySem.W.Frag} {n : Nat} {gs : TGs} {xs : List PyData} {ρ ρ' : List Sl} (h : Tgs T gs xs ρ ρ') (hn : xs.length = n) : Tg T (gTup K n gs) (loD xs) ρ ρ' := fun F0 H0 σ F H v e r Q q => by
  obtain ⟨a, vs, rfl, ha, rs⟩ := r.lo_eq
  exact ⟨a, vs, rfl, SqT.of (e.le _ _ ha), by rw [rs.length]; exact hn, h F0 H0 σ F H vs e rs Q q⟩
theorem sm_asgT {T : Tn} {W : WX} {ρ ρ' : List Sl} {P : Po} {te : TE} {g : TG} {x : PyData} (h : Ev T te ρ x) (hg : Tg T g x ρ ρ') (k : P.nx ρ') : Sm T W (tAsg te g) ρ P := fun F0 H0 σ F H D e k1 _ _ _ _ =>
  h F0 H0 σ F H e _ fun v F' H' ex r => hg F0 H0 σ F' H' v (e.ext ex) r _ fun σ' e' => k1 σ' F' H' _ ex.ff e' k

/-- J walks the data xs -/
structure Walks (T : Tn) (F : Hp) (J : It) (xs : List PyData) : Prop where
  go : ∀ i F2 H, Same F F2 → Same F2 H → i < xs.length → J.go i H
  stop : ∀ i F2 H, Same F F2 → Same F2 H → xs.length ≤ i → J.stop i H
  yld : ∀ i F2 H v H', Same F F2 → Same F2 H → (∀ b, T b → F2 b = none ∧ Town T F2 H b) → i < xs.length → J.yld i H v H' → ∃ F3 x, xs[i]? = some x ∧ Ext T F2 H F3 H' ∧ Rp F3 v x
/-- wi walks some data of which P holds -/
def Wk (T : Tn) (wi : TI) (ρ : List Sl) (P : List PyData → Prop) : Prop := ∀ F0 H0 σ F H, Env T F0 H0 F H σ ρ → ∀ R : It → Hp → Prop, (∀ J F' H' xs, Ext T F H F' H' → P xs → Walks T F' J xs → R J H') → wi σ H R
section
variable {T : Tn} {K : PySem.W.Frag} {ρ : List Sl} {te : TE}
theorem walks_list {F : Hp} {a : Addr} {vs : List V} {xs : List PyData} (h : F a = some (.lst vs)) (r : RpAll F vs xs) : Walks T F (Itl K a) xs where
  go := fun i F2 H s s2 hi => by
    obtain ⟨v, hv, _⟩ := r.get (List.getElem?_eq_getElem hi)
    exact ⟨vs, v, SqL.of (s2 _ _ (s _ _ h)), hv⟩
  stop := fun i F2 H s s2 hi => ⟨vs, SqL.of (s2 _ _ (s _ _ h)), by rw [r.length]; exact hi⟩
  yld := fun i F2 H v H' s s2 t hi hy => by
    obtain ⟨rfl, q⟩ := hy
    obtain ⟨u, hu, ru⟩ := r.get (List.getElem?_eq_getElem hi)
    have e := (q vs (SqL.of (s2 _ _ (s _ _ h)))).symm.trans hu
    cases e
    exact ⟨F2, _, List.getElem?_eq_getElem hi, Ext.refl s2, ru.mono s⟩
theorem walks_tup {F : Hp} {a : Addr} {o : Obj} {vs : List V} {xs : List PyData} (h : F a = some (.frz o (.tup vs))) (r : RpAll F vs xs) : Walks T F (Itt K a) xs where
  go := fun i F2 H s s2 hi => by
    obtain ⟨v, hv, _⟩ := r.get (List.getElem?_eq_getElem hi)
    exact ⟨vs, v, sqT_frz (s2 _ _ (s _ _ h)), hv⟩
  stop := fun i F2 H s s2 hi => ⟨vs, sqT_frz (s2 _ _ (s _ _ h)), by rw [r.length]; exact hi⟩
  yld := fun i F2 H v H' s s2 t hi hy => by
    obtain ⟨rfl, q⟩ := hy
    obtain ⟨u, hu, ru⟩ := r.get (List.getElem?_eq_getElem hi)
    have e := (q vs (sqT_frz (s2 _ _ (s _ _ h)))).symm.trans hu
    cases e
    exact ⟨F2, _, List.getElem?_eq_getElem hi, Ext.refl s2, ru.mono s⟩
theorem wk_list {P : List PyData → Prop} (h : EvP T te ρ fun d => ∃ xs, d = .list xs ∧ P xs) : Wk T (iList K te) ρ P := fun F0 H0 σ F H e R k => h F0 H0 σ F H e _ fun v F' H' d ex ⟨xs, ed, px⟩ r => by
  subst ed
  obtain ⟨a, vs, rfl, ha, rs⟩ := r.lst_eq
  exact ⟨a, rfl, ⟨vs, SqL.of (ex.fh _ _ ha)⟩, k _ F' H' xs ex px (walks_list ha rs)⟩
theorem wk_tup {P : List PyData → Prop} (h : EvP T te ρ fun d => ∃ xs, d = .tuple xs ∧ P xs) : Wk T (iTup K te) ρ P := fun F0 H0 σ F H e R k => h F0 H0 σ F H e _ fun v F' H' d ex ⟨xs, ed, px⟩ r => by
  subst ed
  obtain ⟨a, o, vs, rfl, ha, _, rs⟩ := r.tup_eq
  exact ⟨a, rfl, ⟨vs, sqT_frz (ex.fh _ _ ha)⟩, k _ F' H' xs ex px (walks_tup ha rs)⟩
theorem wk_l {xs : List PyData} (h : Ev T te ρ (.list xs)) : Wk T (iList K te) ρ fun ys => ys = xs := wk_list (h.p ⟨xs, rfl, rfl⟩)
theorem wk_t {xs : List PyData} (h : Ev T te ρ (.tuple xs)) : Wk T (iTup K te) ρ fun ys => ys = xs := wk_tup (h.p ⟨xs, rfl, rfl⟩)
theorem walks_str {F : Hp} {x : Str} : Walks T F (Its x) (x.cps.toList.map fun c => PyData.str ⟨#[c]⟩) where
  go := fun i F2 H s s2 hi => by
    show i < x.cps.size
    simpa using hi
  stop := fun i F2 H s s2 hi => by
    show x.cps.size ≤ i
    simpa using hi
  yld := fun i F2 H v H' s s2 t hi hy => by
    obtain ⟨rfl, c, hc, rfl⟩ := hy
    refine ⟨F2, .str ⟨#[c]⟩, ?_, Ext.refl s2, .str _⟩
    rw [List.getElem?_map, Array.getElem?_toList, hc]
    rfl
theorem wk_str {x : Str} (h : Ev T te ρ (.str x)) : Wk T (iStr te) ρ fun ys => ys = x.cps.toList.map fun c => PyData.str ⟨#[c]⟩ := fun F0 H0 σ F H e R k => h F0 H0 σ F H e _ fun v F' H' ex r => ⟨x, r.str_eq, k _ F' H' _ ex rfl walks_str⟩
theorem walks_range {F : Hp} {lo : Int} {n : Nat} : Walks T F (Itr lo n) ((List.range n).map fun (i : Nat) => PyData.int (lo + (i : Int))) where
  go := fun i F2 H s s2 hi => by
    show i < n
    simpa using hi
  stop := fun i F2 H s s2 hi => by
    show n ≤ i
    simpa using hi
  yld := fun i F2 H v H' s s2 t hi hy => by
    obtain ⟨rfl, rfl⟩ := hy
    refine ⟨F2, .int (lo + i), ?_, Ext.refl s2, .int _⟩
    have hi' : i < n := by simpa using hi
    rw [List.getElem?_map, List.getElem?_range hi']
    rfl
theorem wk_range1 {ta : TA} {P : Int → Prop} (h : EvA T ta ρ fun zs => ∃ j, zs = [.int j] ∧ P j) (hb : ∀ j, P j → j < 2 ^ 62 ∧ -(2 ^ 62) ≤ j) : Wk T (iRng1 ta) ρ fun ys => ∃ j, P j ∧ ys = (List.range j.toNat).map fun (i : Nat) => PyData.int ((0 : Int) + (i : Int)) := fun F0 H0 σ F H e R k =>
  h F0 H0 σ F H e _ fun vs F' H' zs ex ⟨j, ez, pj⟩ r => by
    subst ez
    cases r with
    | cons r1 r =>
      cases r
      cases r1.int_eq
      exact ⟨j, rfl, (hb j pj).2, (hb j pj).1, k _ F' H' _ ex ⟨j, pj, rfl⟩ walks_range⟩
theorem wk_range2 {ta : TA} {lo hi : Int} (h : EvA T ta ρ fun zs => zs = [.int lo, .int hi]) (hb : -(2 ^ 62) ≤ lo ∧ lo < 2 ^ 62 ∧ -(2 ^ 62) ≤ hi ∧ hi < 2 ^ 62) : Wk T (iRng2 ta) ρ fun ys => ys = (List.range (hi - lo).toNat).map fun (i : Nat) => PyData.int (lo + (i : Int)) := fun F0 H0 σ F H e R k =>
  h F0 H0 σ F H e _ fun vs F' H' zs ex ez r => by
    subst ez
    cases r with
    | cons r1 r =>
      cases r with
      | cons r2 r =>
        cases r
        cases r1.int_eq
        cases r2.int_eq
        exact ⟨lo, hi, rfl, hb, k _ F' H' _ ex rfl walks_range⟩
theorem walks_rangeC {F : Hp} {lo c : Int} {n : Nat} : Walks T F (Itc lo c n) ((List.range n).map fun (i : Nat) => PyData.int (lo + (i : Int) * c)) where
  go := fun i F2 H s s2 hi => by
    show i < n
    simpa using hi
  stop := fun i F2 H s s2 hi => by
    show n ≤ i
    simpa using hi
  yld := fun i F2 H v H' s s2 t hi hy => by
    obtain ⟨rfl, rfl⟩ := hy
    refine ⟨F2, .int (lo + (i : Int) * c), ?_, Ext.refl s2, .int _⟩
    have hi' : i < n := by simpa using hi
    rw [List.getElem?_map, List.getElem?_range hi']
    rfl
theorem wk_range3 {ta : TA} {lo hi : Int} (h : EvA T ta ρ fun zs => zs = [.int lo, .int hi, .int (-1)]) (hb : -(2 ^ 62) ≤ lo ∧ lo < 2 ^ 62 ∧ -(2 ^ 62) ≤ hi ∧ hi < 2 ^ 62) : Wk T (iRng3 ta) ρ fun ys => ys = (List.range (lo - hi).toNat).map fun (i : Nat) => PyData.int (lo + (i : Int) * (-1)) := fun F0 H0 σ F H e R k =>
  h F0 H0 σ F H e _ fun vs F' H' zs ex ez r => by
    subst ez
    cases r with
    | cons r1 r =>
      cases r with
      | cons r2 r =>
        cases r with
        | cons r3 r =>
          cases r
          cases r1.int_eq
          cases r2.int_eq
          cases r3.int_eq
          exact ⟨lo, hi, -1, _, rfl, RgC.neg hb.1 hb.2.1 hb.2.2.1 hb.2.2.2, k _ F' H' _ ex rfl walks_rangeC⟩
end

/-- a for: I by the number of turns -/
theorem sm_for {T : Tn} {W : WX} {ρ : List Sl} {P : Po} {wi : TI} {g : TG} {tb : TS} {R : List PyData → Prop} (hw : Wk T wi ρ R)
    (hx : ∀ xs, R xs → ∃ I : Nat → List Sl → Prop, I 0 ρ ∧ (∀ i x r, xs[i]? = some x → I i r → ∃ r', Tg T g x r r' ∧ Sm T W tb r' { nx := I (i + 1), ct := I (i + 1), bk := P.nx, rt := P.rt, xx := P.xx }) ∧ ∀ r, I xs.length r → P.nx r) : Sm T W (tFor wi g tb) ρ P := fun F0 H0 σ F H D e k1 k2 k3 k4 k5 => by
  refine hw F0 H0 σ F H e _ fun J F1 H1 xs x1 px wk => ?_
  obtain ⟨I, h0, hs, hd⟩ := hx xs px
  refine ⟨fun i m σ' H' => m = xs.length - i ∧ i ≤ xs.length ∧ ∃ F' ρ', Same F1 F' ∧ Env T F0 H0 F' H' σ' ρ' ∧ I i ρ', ⟨xs.length, by simp, Nat.zero_le _, F1, ρ, Same.refl _, e.ext x1, h0⟩, ?_⟩
  rintro i m σ2 H2 ⟨rfl, hi, F2, ρ2, s2, e2, i2⟩
  have sF : Same F F2 := x1.ff.trans s2
  by_cases hlt : i < xs.length
  · refine .inr ⟨wk.go i F2 H2 s2 e2.le hlt, fun σ' H' => ∃ F' ρ', Same F1 F' ∧ Env T F0 H0 F' H' σ' ρ' ∧ I (i + 1) ρ', fun σ' H' q => ⟨xs.length - (i + 1), by omega, rfl, hlt, q⟩, fun v H3 hy => ?_⟩
    obtain ⟨F3, x, hxi, x3, r3⟩ := wk.yld i F2 H2 v H3 s2 e2.le e2.tn hlt hy
    obtain ⟨ρ4, tg, body⟩ := hs i x ρ2 hxi i2
    have s3 : Same F F3 := sF.trans x3.ff
    refine tg F0 H0 σ2 F3 H3 v (e2.ext x3) r3 _ fun σ4 e4 => ?_
    exact body F0 H0 σ4 F3 H3 _ e4 (fun a b c d s e p => ⟨b, d, (s2.trans x3.ff).trans s, e, p⟩) k2 (fun a b c d s e p => k1 a b c d (s3.trans s) e p) (fun a b c d s e p => ⟨b, d, (s2.trans x3.ff).trans s, e, p⟩) fun a b c d f s e p => k5 a b c d f (s3.trans s) e p
  · have ei : i = xs.length := by omega
    subst ei
    exact .inl ⟨wk.stop _ F2 H2 s2 e2.le (Nat.le_refl _), k1 _ F2 H2 _ sF e2 (hd ρ2 i2)⟩

/-! ### comprehensions -/
def wipeR (ρ : List Sl) : List Nat → List Sl
  | [] => ρ
  | v :: vs => (wipeR ρ vs).set v .un
theorem Env.wipe {T : Tn} {F0 H0 F H : Hp} {σ : L2.St} {ρ : List Sl} (e : Env T F0 H0 F H σ ρ) : ∀ vs : List Nat, Env T F0 H0 F H (L2.wipe σ vs) (wipeR ρ vs)
  | [] => e
  | v :: vs => (Env.wipe e vs).forget
theorem wipe_get {σ : L2.St} {j : Nat} : ∀ {vs : List Nat}, j ∉ vs → (L2.wipe σ vs)[j]? = σ[j]?
  | [], _ => rfl
  | v :: vs, h => by
    have h1 : v ≠ j := fun e => h (by rw [e]; exact List.mem_cons_self)
    unfold L2.wipe
    rw [List.getElem?_set_ne h1]
    exact wipe_get fun z => h (List.mem_cons_of_mem _ z)
theorem wipe_in {σ : L2.St} {j : Nat} (hj : j < σ.length) : ∀ {vs : List Nat}, j ∈ vs → (L2.wipe σ vs)[j]? = some none
  | v :: vs, h => by
    unfold L2.wipe
    by_cases e : v = j
    · subst e
      rw [List.getElem?_set_self (by rw [wipe_length]; exact hj)]
    · rw [List.getElem?_set_ne e]
      rcases List.mem_cons.mp h with z | z
      · exact absurd z.symm e
      · exact wipe_in hj z
theorem wipe_eq {σ σ' : L2.St} {vs : List Nat} (hl : σ'.length = σ.length) (h : ∀ j, j ∉ vs → σ'[j]? = σ[j]?) : L2.wipe σ' vs = L2.wipe σ vs := by
  apply List.ext_getElem?
  intro j
  by_cases hj : j ∈ vs
  · by_cases hl2 : j < σ.length
    · rw [wipe_in (by rw [hl]; exact hl2) hj, wipe_in hl2 hj]
    · rw [List.getElem?_eq_none (by rw [wipe_length, hl]; omega), List.getElem?_eq_none (by rw [wipe_length]; omega)]
  · rw [wipe_get hj, wipe_get hj]
    exact h j hj
/-- a target that stores within vs only -/
def TgW (T : Tn) (g : TG) (vs : List Nat) (x : PyData) (ρ ρ' : List Sl) : Prop := ∀ F0 H0 σ F H v, Env T F0 H0 F H σ ρ → Rp F v x → ∀ Q : L2.St → Hp → Prop, (∀ σ', Env T F0 H0 F H σ' ρ' → (σ'.length = σ.length ∧ ∀ j, j ∉ vs → σ'[j]? = σ[j]?) → Q σ' H) → g v σ H Q
theorem tw_name {T : Tn} {i : Nat} {vs : List Nat} {x : PyData} {ρ : List Sl} (hi : i ∈ vs) : TgW T (gName i) vs x ρ (ρ.set i (.d x)) := fun F0 H0 σ F H v e r Q q => q _ (e.setD r) ⟨List.length_set, fun j hj => List.getElem?_set_ne (show i ≠ j from fun z => hj (by rw [← z]; exact hi))⟩
def TgsW (T : Tn) (g : TGs) (vs : List Nat) (xs : List PyData) (ρ ρ' : List Sl) : Prop := ∀ F0 H0 σ F H us, Env T F0 H0 F H σ ρ → RpAll F us xs → ∀ Q : L2.St → Hp → Prop, (∀ σ', Env T F0 H0 F H σ' ρ' → (σ'.length = σ.length ∧ ∀ j, j ∉ vs → σ'[j]? = σ[j]?) → Q σ' H) → g us σ H Q
theorem tws_nil {T : Tn} {vs : List Nat} {ρ : List Sl} : TgsW T gNil vs [] ρ ρ := fun F0 H0 σ F H us e r Q q => by
  cases r
  exact ⟨rfl, q σ e ⟨rfl, fun _ _ => rfl⟩⟩
theorem tws_cons {T : Tn} {g : TG} {gs : TGs} {vs : List Nat} {x : PyData} {xs : List PyData} {ρ ρ1 ρ2 : List Sl} (h : TgW T g vs x ρ ρ1) (h2 : TgsW T gs vs xs ρ1 ρ2) : TgsW T (gCons g gs) vs (x :: xs) ρ ρ2 := fun F0 H0 σ F H us e r Q q => by
  cases r with
  | cons r1 rs => exact ⟨_, _, rfl, h F0 H0 σ F H _ e r1 _ fun σ' e' w1 => h2 F0 H0 σ' F H _ e' rs Q fun σ'' e'' w2 => q σ'' e'' ⟨w2.1.trans w1.1, fun j hj => (w2.2 j hj).trans (w1.2 j hj)⟩⟩
theorem tw_tup {T : Tn} {K : PySem.W.Frag} {n : Nat} {gs : TGs} {vs : List Nat} {xs : List PyData} {ρ ρ' : List Sl} (h : TgsW T gs vs xs ρ ρ') (hn : xs.length = n) : TgW T (gTup K n gs) vs (.tuple xs) ρ ρ' := fun F0 H0 σ F H v e r Q q => by
  obtain ⟨a, o, us, rfl, ha, _, rs⟩ := r.tup_eq
  exact ⟨a, us, rfl, sqT_frz (e.le _ _ ha), by rw [rs.length]; exact hn, h F0 H0 σ F H us e rs Q q⟩
theorem tw_lo {T : Tn} {K : PySem.W.Frag} {n : Nat} {gs : TGs} {vs : List Nat} {xs : List PyData} {ρ ρ' : List Sl} (h : TgsW T gs vs xs ρ ρ') (hn : xs.length = n) : TgW T (gTup K n gs) vs (loD xs) ρ ρ' := fun F0 H0 σ F H v e r Q q => by
  obtain ⟨a, us, rfl, ha, rs⟩ := r.lo_eq
  exact ⟨a, us, rfl, SqT.of (e.le _ _ ha), by rw [rs.length]; exact hn, h F0 H0 σ F H us e rs Q q⟩

/-- [te for g in wi if tt]: R by the turns' number and the list so far -/
theorem eo_lcI {T : Tn} {ρ : List Sl} {wi : TI} {g : TG} {tt : TT} {te : TE} {vs : List Nat} {S : List PyData → Prop} {P : List PyData → Prop} (hw : Wk T wi ρ S)
    (hx : ∀ xs, S xs → xs.length < sizeLine ∧ ∃ R : Nat → List PyData → Prop, R 0 [] ∧ (∀ i acc, R i acc → acc.length ≤ i) ∧
      (∀ i x acc, xs[i]? = some x → R i acc → ∃ r' B E, TgW T g vs x (wipeR ρ vs) r' ∧ EvT T tt r' B ∧ (B true → EvP T te r' E) ∧ (B true → ∀ y, E y → R (i + 1) (acc ++ [y])) ∧ (B false → R (i + 1) acc)) ∧ ∀ acc, R xs.length acc → P acc) :
    EvO T (tLc wi g tt te vs) ρ P := fun F0 H0 σ F H e Q q => by
  refine hw F0 H0 σ F H e _ fun J F1 H1 xs x1 px wk => ?_
  obtain ⟨hl, R, h0, hb, hs, hd⟩ := hx xs px
  intro D hD
  have e1 := e.ext x1
  have nT : ¬ T D := fun t => by
    obtain ⟨_, z, _⟩ := e1.town D t
    rw [hD] at z
    cases z
  have nH : H D = none := by
    cases hq : H D with
    | none => rfl
    | some o =>
      rw [x1.hh D o nT hq] at hD
      cases hD
  have eD : Env T F0 H0 F1 (upd H1 D (.lst [])) σ ρ := e1.ext (Ext.new1 e1.le hD)
  refine ⟨fun i m H' => m = xs.length - i ∧ i ≤ xs.length ∧ ∃ F' us acc, Same F1 F' ∧ Ext T F H F' H' ∧ Env T F0 H0 F' H' σ ρ ∧ F' D = none ∧ H' D = some (.lst us) ∧ RpAll F' us acc ∧ R i acc,
    ⟨xs.length, by simp, Nat.zero_le _, F1, [], [], Same.refl _, x1.trans (Ext.new1 e1.le hD), eD, e1.le.free hD, upd_same, .nil, h0⟩, ?_⟩
  rintro i m H2 ⟨rfl, hi, F2, us, acc, s2, x2, e2, f2, d2, r2, i2⟩
  by_cases hlt : i < xs.length
  · refine .inr ⟨wk.go i F2 H2 s2 e2.le hlt, fun H' => ∃ F' us acc, Same F1 F' ∧ Ext T F H F' H' ∧ Env T F0 H0 F' H' σ ρ ∧ F' D = none ∧ H' D = some (.lst us) ∧ RpAll F' us acc ∧ R (i + 1) acc, fun H' q => ⟨xs.length - (i + 1), by omega, rfl, hlt, q⟩, fun v H3 hy => ?_⟩
    obtain ⟨F3, x, hxi, x3, r3⟩ := wk.yld i F2 H2 v H3 s2 e2.le e2.tn hlt hy
    obtain ⟨r', B, E, tg, ht, hv, hR, hN⟩ := hs i x acc hxi i2
    have e3 := e2.ext x3
    refine tg F0 H0 _ F3 H3 v (e3.wipe vs) r3 _ fun σ4 e4 w4 => ⟨?_, ?_⟩
    · exact wipe_eq (w4.1.trans (wipe_length _ _)) fun j hj => (w4.2 j hj).trans (wipe_get hj)
    · refine ht F0 H0 σ4 F3 H3 e4 _ fun b F5 H5 x5 pb => ?_
      have x25 : Ext T F2 H2 F5 H5 := x3.trans x5
      have e5 : Env T F0 H0 F5 H5 σ ρ := e2.ext x25
      cases b with
      | false =>
        refine iteF ⟨F5, us, acc, s2.trans x25.ff, x2.trans x25, e5, x25.ow D _ nT d2 f2, x25.hh D _ nT d2, r2.mono x25.ff, hN pb⟩
      | true =>
        refine iteT (hv pb F0 H0 σ4 F5 H5 (e4.ext x5) _ fun w F6 H6 y x6 py r6 => ?_)
        have x26 : Ext T F2 H2 F6 H6 := x25.trans x6
        have d6 : H6 D = some (.lst us) := x26.hh D _ nT d2
        have f6 : F6 D = none := x26.ow D _ nT d2 f2
        refine ⟨us, d6, ?_, F6, us ++ [w], acc ++ [y], s2.trans x26.ff, ?_, ?_, f6, upd_same, (r2.mono x26.ff).snoc r6, hR pb y py⟩
        · rw [r2.length]
          exact Nat.lt_of_le_of_lt (hb i acc i2) (Nat.lt_of_le_of_lt hi hl)
        · have x6' := x2.trans x26
          exact ⟨x6'.ff, same_right x6'.fh f6, fun b o nt hb' => by
            rw [upd_ne (ne_of_none hb' nH)]
            exact x6'.hh b o nt hb', x6'.ow, x6'.tf, fun b hb' tw => by
            obtain ⟨p1, p4, p3⟩ := x6'.tw b hb' tw
            exact ⟨p1, by rw [upd_ne (show b ≠ D from fun z => nT (by rw [← z]; exact hb'))]; exact p4, p3⟩⟩
        · have e6 : Env T F0 H0 F6 H6 σ ρ := e2.ext x26
          have n0 : H0 D = none := by
            cases hq : H0 D with
            | none => rfl
            | some o =>
              rw [e.ex.hh D o nT hq] at nH
              cases nH
          obtain ⟨α, g1, g2⟩ := e6.sl
          obtain ⟨α0, g01, g02⟩ := e.sl
          have own : ∀ j s, ρ[j]? = some s → s.own = true → α j ≠ D := fun j s hs os z => by
            have q1 := g1 j s hs
            have q0 := g01 j s hs
            cases s with
            | ol ys =>
              obtain ⟨a1, _⟩ := q1
              obtain ⟨b1, _, _, _, ws, hw, _⟩ := q0
              have ee : α j = α0 j := V.ref.inj (Option.some.inj (a1.symm.trans b1))
              rw [← ee, z, nH] at hw
              cases hw
            | od ys =>
              obtain ⟨a1, _⟩ := q1
              obtain ⟨b1, _, _, _, ws, hw, _⟩ := q0
              have ee : α j = α0 j := V.ref.inj (Option.some.inj (a1.symm.trans b1))
              rw [← ee, z, nH] at hw
              cases hw
            | og φ =>
              obtain ⟨a1, _⟩ := q1
              obtain ⟨b1, _, _, _, ws, hw, _⟩ := q0
              have ee : α j = α0 j := V.ref.inj (Option.some.inj (a1.symm.trans b1))
              rw [← ee, z, nH] at hw
              cases hw
            | _ => cases os
          refine ⟨⟨e6.ex.ff, same_right e6.le f6, fun b o nt hb' => by
            rw [upd_ne (ne_of_none hb' n0)]
            exact e6.ex.hh b o nt hb', e6.ex.ow, e6.ex.tf, fun b hb' tw => by
            obtain ⟨p1, p4, p3⟩ := e6.ex.tw b hb' tw
            exact ⟨p1, by rw [upd_ne (show b ≠ D from fun z => nT (by rw [← z]; exact hb'))]; exact p4, p3⟩⟩, fun b hb' => ⟨(e6.tn b hb').1, ?_⟩, e6.len, α, fun j s hs => ?_, g2⟩
          · obtain ⟨p1, p4, p3⟩ := (e6.tn b hb').2
            exact ⟨p1, by rw [upd_ne (show b ≠ D from fun z => nT (by rw [← z]; exact hb'))]; exact p4, p3⟩
          · have z := g1 j s hs
            cases s with
            | ol ys =>
              obtain ⟨z1, z2, z3, z4, ws, hw, r⟩ := z
              exact ⟨z1, z2, z3, z4, ws, by rw [upd_ne (own j _ hs rfl)]; exact hw, r⟩
            | od ys =>
              obtain ⟨z1, z2, z3, z4, ws, hw, r⟩ := z
              exact ⟨z1, z2, z3, z4, ws, by rw [upd_ne (own j _ hs rfl)]; exact hw, r⟩
            | og φ =>
              obtain ⟨z1, z2, z3, z4, ws, hw, r⟩ := z
              exact ⟨z1, z2, z3, z4, ws, by rw [upd_ne (own j _ hs rfl)]; exact hw, r⟩
            | un => trivial
            | d y => exact z
            | tn I => exact z
            | raw v => exact z
            | pr φ => exact z
  · have ei : i = xs.length := by omega
    subst ei
    exact .inl ⟨wk.stop _ F2 H2 s2 e2.le (Nat.le_refl _), q D us acc F2 H2 x2 nH f2 d2 (hd acc i2) r2⟩
end Tr

set_option Elab.async false
set_option linter.all false
set_option maxRecDepth 100000
/-! Lay3: further rules of the machine over the hand layer, and their data. -/
namespace Tr
open PySem PySem.Spec PyProof.Rows L2 TL
variable [PWc]

/-! ### texts as lists of signs -/
abbrev S (l : List Nat) : Str := ⟨l.toArray⟩
theorem S_len (l : List Nat) : (S l).length = l.length := by simp [S, Str.length]
theorem S_app (l m : List Nat) : S l ++ S m = S (l ++ m) := ext_tl (by rw [tl_append])
theorem S_inj {l m : List Nat} (h : S l = S m) : l = m := by
  have := congrArg tl h
  exact this
theorem S_eq (l m : List Nat) : decide (S l = S m) = decide (l = m) := by
  by_cases e : l = m
  · rw [decide_eq_true e, decide_eq_true (by rw [e])]
  · rw [decide_eq_false e, decide_eq_false fun z => e (S_inj z)]
theorem S_beq (l m : List Nat) : (S l == S m) = decide (l = m) := by
  rw [← S_eq]
  by_cases e : S l = S m
  · rw [decide_eq_true e, e]
    exact beq_self_eq_true _
  · rw [decide_eq_false e]
    exact beq_eq_false_iff_ne.mpr e
/-- a text as data -/
abbrev sD (l : List Nat) : PyData := .str (S l)

/-! ### data as the library's data -/
mutual
theorem Rp.dp {K : PySem.W.Frag} {F H : Hp} (s : Same F H) : ∀ {v : V} {d : PyData}, Rp F v d → d.plain = true → Dp K H v d
  | _, _, .non, _ => .non
  | _, _, .bl b, _ => .bl b
  | _, _, .int i, _ => .int i
  | _, _, .str x, _ => .str x
  | _, _, .lst h r, p => .lst (SqL.of (s _ _ h)) (RpAll.dp s r (by simpa only [PyData.plain] using p))
  | _, _, .tup h o r, p => .tup (sqT_frz (s _ _ h)) (RpAll.dp s r (by simpa only [PyData.plain] using p))
  | _, _, .dct h r e, p => by
    subst e
    simp only [PyData.plain] at p
    cases p
  | _, _, .lo h r, p => by
    simp only [PyData.plain] at p
    cases p
  | _, _, .nd h r e, p => by
    subst e
    simp only [PyData.plain] at p
    cases p
  | _, _, .fd h r e, p => by
    subst e
    simp only [PyData.plain] at p
    cases p
theorem RpAll.dp {K : PySem.W.Frag} {F H : Hp} (s : Same F H) : ∀ {vs : List V} {ds : List PyData}, RpAll F vs ds → PyData.plainAll ds = true → DpAll K H vs ds
  | _, _, .nil, _ => .nil
  | _, _, .cons h r, p => by
    simp only [PyData.plainAll, Bool.and_eq_true] at p
    exact .cons (Rp.dp s h p.1) (RpAll.dp s r p.2)
end

section
variable {X : Cx}
def rEqP (K : PySem.W.Frag) : R2 := fun x y H Q => ∃ d e, Dp K H x d ∧ Dp K H y e ∧ d.plain = true ∧ e.plain = true ∧ min d.depth e.depth ≤ 60 ∧ Q (.bl (PyData.eqv d e)) H
def rNeP (K : PySem.W.Frag) : R2 := fun x y H Q => ∃ d e, Dp K H x d ∧ Dp K H y e ∧ d.plain = true ∧ e.plain = true ∧ min d.depth e.depth ≤ 60 ∧ Q (.bl (!PyData.eqv d e)) H
theorem op_eqP {k : Nat} (hr : Room k X.A) : OpR X (compareOp .Eq) (rEqP X.K) := by
  intro pins s σ H x y v u Q I rx ry h
  obtain ⟨d, e, hd, he, pd, pe, hm, q⟩ := h
  obtain ⟨as, r1⟩ := Dp.reads I d x v hd rx
  obtain ⟨bs, r2⟩ := Dp.reads I e y u he ry
  have := hr.un
  exact SeqAt.eq_plain r1 r2 pd pe (by omega) ⟨.bl _, H, I, rfl, q⟩
theorem op_neP {k : Nat} (hr : Room k X.A) : OpR X (compareOp .NotEq) (rNeP X.K) := by
  intro pins s σ H x y v u Q I rx ry h
  obtain ⟨d, e, hd, he, pd, pe, hm, q⟩ := h
  obtain ⟨as, r1⟩ := Dp.reads I d x v hd rx
  obtain ⟨bs, r2⟩ := Dp.reads I e y u he ry
  have := hr.un
  exact SeqAt.ne_plain r1 r2 pd pe (by omega) ⟨.bl _, H, I, rfl, q⟩
/-- in: a sign of a text, an item of a list or tuple, a key of a dict -/
def rInS1 (f : Bool → Bool) : R2 := fun x y H Q => ∃ (c : Nat) (z : Str), x = .str ⟨#[c]⟩ ∧ y = .str z ∧ Q (.bl (f (decide (c ∈ z.cps.toList)))) H
def rInP (K : PySem.W.Frag) (f : Bool → Bool) : R2 := fun x y H Q => ∃ d ds, Dp K H x d ∧ (Dp K H y (.list ds) ∨ Dp K H y (.tuple ds)) ∧ d.plain = true ∧ PyData.plainAll ds = true ∧ d.depth ≤ 60 ∧ Q (.bl (f (ds.any fun z => PyData.eqv z d))) H
def rInK (f : Bool → Bool) : R2 := fun x y H Q => ∃ a o, y = .ref a ∧ DGet H a x o ∧ Q (.bl (f o.isSome)) H
def rInU (K : PySem.W.Frag) (f : Bool → Bool) : R2 := fun x y H Q => rInS1 f x y H Q ∨ rInP K f x y H Q ∨ rInK f x y H Q
theorem op_inU {k : Nat} (hr : Room k X.A) : OpR X (compareOp .In) (rInU X.K fun b => b) := by
  intro pins s σ H x y v u Q I rx ry h
  have hu := hr.un
  rcases h with h | ⟨d, ds, hd, he, pd, pe, hm, q⟩ | ⟨a, o, rfl, g, q⟩
  · exact op_in_sign pins s σ H x y v u Q I rx ry h
  · obtain ⟨as, r1⟩ := Dp.reads I d x v hd rx
    have hu2 : X.A.units + 1 + min (PyData.depthAll ds) d.depth < cLine := by
      have : min (PyData.depthAll ds) d.depth ≤ d.depth := Nat.min_le_right _ _
      omega
    rcases he with he | he
    · obtain ⟨bs, r2⟩ := Dp.reads I _ y u he ry
      exact SeqAt.in_list_data r2 r1 pe pd hu2 ⟨.bl _, H, I, rfl, q⟩
    · obtain ⟨bs, r2⟩ := Dp.reads I _ y u he ry
      exact SeqAt.in_tuple_data r2 r1 pe pd hu2 ⟨.bl _, H, I, rfl, q⟩
  · cases ry
    exact d_in (hu_of hr) I g rx fun s' I' => ⟨.bl o.isSome, H, I', rfl, q⟩
theorem op_ninU {k : Nat} (hr : Room k X.A) : OpR X (compareOp .NotIn) (rInU X.K fun b => !b) := by
  intro pins s σ H x y v u Q I rx ry h
  have hu := hr.un
  rcases h with h | ⟨d, ds, hd, he, pd, pe, hm, q⟩ | ⟨a, o, rfl, g, q⟩
  · exact op_notIn_sign pins s σ H x y v u Q I rx ry h
  · obtain ⟨as, r1⟩ := Dp.reads I d x v hd rx
    have hu2 : X.A.units + 1 + min (PyData.depthAll ds) d.depth < cLine := by
      have : min (PyData.depthAll ds) d.depth ≤ d.depth := Nat.min_le_right _ _
      omega
    rcases he with he | he
    · obtain ⟨bs, r2⟩ := Dp.reads I _ y u he ry
      exact SeqAt.notIn_list_data r2 r1 pe pd hu2 ⟨.bl _, H, I, rfl, q⟩
    · obtain ⟨bs, r2⟩ := Dp.reads I _ y u he ry
      exact SeqAt.notIn_tuple_data r2 r1 pe pd hu2 ⟨.bl _, H, I, rfl, q⟩
  · cases ry
    exact d_notIn (hu_of hr) I g rx fun s' I' => ⟨.bl (!o.isSome), H, I', rfl, q⟩
/-- + of ints, texts, lists, tuples -/
def rAddU (K : PySem.W.Frag) : R2 := fun x y H Q => rI0 (fun i j => .int (i + j)) x y H Q ∨ (∃ i j, x = .str i ∧ y = .str j ∧ i.length + j.length ≤ sizeLine ∧ Q (.str (i ++ j)) H) ∨ rCat x y H Q
theorem op_addU : OpR X (binaryOp .Add) (rAddU X.K) := OpR.or op_add (OpR.or op_add_str op_cat)
theorem ip_addU : PIp X .Add (fun x y H Q => rI0 (fun i j => .int (i + j)) x y H Q ∨ (∃ i j, x = .str i ∧ y = .str j ∧ i.length + j.length ≤ sizeLine ∧ Q (.str (i ++ j)) H)) := OpR.or (f := inplaceOp .Add) iop_add iop_add_str
/-- an item of a list, a tuple, a text, a dict -/
def rIxU (K : PySem.W.Frag) : R2 := fun x y H Q => rIx K x y H Q ∨ ∃ a v, x = .ref a ∧ DGet H a y (some v) ∧ Q v H
theorem ix_U {k : Nat} (hr : Room k X.A) : IxR X (rIxU X.K) := by
  intro value slice pins s σ H x y v u Q I rx ry h hs
  rcases h with h | ⟨a, w, rfl, g, q⟩
  · exact ix_seq value slice pins s σ H x y v u Q I rx ry h hs
  · cases rx
    refine tail_any (dict_typeIs I g) F.slot_dict_getitem.lookup ?_ hs
    exact d_getItem (hu_of hr) I g ry fun w' s' I' rw' => ⟨w, H, I', rw', q⟩
/-- a slice of a text or a list -/
def rSlU (K : PySem.W.Frag) : V → Option Int → Option Int → Hp → VK → Prop := fun x lo hi H Q => rSlS x lo hi H Q ∨ rSlL K x lo hi H Q
theorem sl_U : SlR X (rSlU X.K) := SlR.or sl_str sl_list
theorem CallR.or {f : Value} {r r' : List V → Hp → VK → Prop} (h : CallR X f r) (h' : CallR X f r') : CallR X f (fun xs H Q => r xs H Q ∨ r' xs H Q) := by
  intro pins s σ H xs us Q I rv q
  rcases q with q | q
  · exact h pins s σ H xs us Q I rv q
  · exact h' pins s σ H xs us Q I rv q
def rLenU (K : PySem.W.Frag) : List V → Hp → VK → Prop := fun xs H Q => (∃ x n, xs = [x] ∧ LenV K x H n ∧ Q (.int (n : Nat)) H) ∨ ∃ a kvs, xs = [V.ref a] ∧ H a = some (.dK kvs) ∧ Q (.int (kvs.length : Nat)) H
theorem call_lenU : CallR X (.builtin "len") (rLenU X.K) := CallR.or call_len call_lenD

/-- a tuple's display -/
theorem pe_tupF {es : List Expr} {t : TA} {pos : Pos} {x1} (h : PA X es t) : PE X (.Tuple es x1 pos) (tTupF t) := by
  refine ⟨fun pins s σ H Q I hq => ?_⟩
  refine wpAny_Tuple_spliced (thn (h.run pos pins s σ H _ I hq) fun us s1 ⟨xs, H1, I1, r, z, q⟩ => ⟨by rw [← r.length]; exact z, ?_⟩)
  have hf : H1 s1.heap.objs.size = none := I1.hok.fresh (Nat.le_refl _)
  refine ⟨.ref s1.heap.objs.size, upd H1 s1.heap.objs.size (.frz { cls := .type "tuple", data := .seq us.toArray } (.tup xs)), I1.laid (t' := s1.toks) (fun b u e => Heap.get?_push_of_some _ e) (Nat.le_refl _) ?_, rfl, q _ _ hf rfl⟩
  exact ⟨Heap.get?_push_size _ rfl, z, us, r, ⟨_, Heap.get?_push_size _ rfl, rfl, _, rfl⟩⟩
/-- tuple(a list) -/
def rTupOf (K : PySem.W.Frag) : List V → Hp → VK → Prop := fun xs H Q => ∃ p ys, xs = [.ref p] ∧ SqL K H p ys ∧ ∀ l o, H l = none → o.dict = none → Q (.ref l) (upd H l (.frz o (.tup ys)))
theorem call_tupOf : CallR X (.type "tuple") (rTupOf X.K) := by
  intro pins s σ H xs us Q I r h
  obtain ⟨p, ys, rfl, hq, q⟩ := h
  obtain ⟨u, rfl, rx⟩ := vals1 r
  cases rx
  obtain ⟨its, r', pl, hz⟩ := I.list hq
  have hlen := r'.length
  refine call_tuple_list pl.isList (fun h' kp => ?_) (by simp only [List.size_toArray] <;> omega)
  have I1 : Inv X pins σ H { s with heap := h' } := I.kept (t' := s.toks) kp
  have I2 : Inv X pins σ (upd H h'.objs.size (.frz { cls := .type "tuple", data := .seq its.toArray } (.tup ys))) { s with heap := h'.push { cls := .type "tuple", data := .seq its.toArray } } :=
    I1.laid (t' := s.toks) (fun b o e => Heap.get?_push_of_some _ e) (Nat.le_refl _) (show ObjOk X.prog X.w _ _ _ (.frz _ (.tup ys)) from ⟨Heap.get?_push_size _ rfl, hz, its, r', IsTup.new _ _⟩)
  exact ⟨.ref h'.objs.size, _, I2, rfl, q _ _ (I1.hok.fresh (Nat.le_refl _)) rfl⟩
end
end Tr

set_option Elab.async false
set_option linter.all false
set_option maxRecDepth 100000
/-! Lay4: operations over data. -/
namespace Tr
open PySem PySem.Spec PyProof.Rows L2 TL
variable [PWc]

section
variable {T : Tn} {K : PySem.W.Frag} {ρ : List Sl} {ta tb tc te : TE} {x y z : PyData}
/-! ### + - * -/
theorem rv_addI {i j : Int} : Rv T (rAddU K) (.int i) (.int j) (.int (i + j)) := rv_int fun F H v u s rx ry Q q => .inl ⟨i, j, rx.int_eq, ry.int_eq, q⟩
theorem rv_addS {a b : List Nat} (h : a.length + b.length ≤ sizeLine) : Rv T (rAddU K) (sD a) (sD b) (sD (a ++ b)) := rv_str fun F H v u s rx ry Q q => .inr (.inl ⟨S a, S b, rx.str_eq, ry.str_eq, by rw [S_len, S_len]; exact h, by rw [S_app]; exact q⟩)
theorem rv_addL {xs ys : List PyData} (h : xs.length + ys.length ≤ sizeLine) : Rv T (rAddU K) (.list xs) (.list ys) (.list (xs ++ ys)) := fun F H v u s t rx ry Q q => by
  obtain ⟨a, vs, rfl, ha, ra⟩ := rx.lst_eq
  obtain ⟨b, us, rfl, hb, rb⟩ := ry.lst_eq
  refine .inr (.inr ⟨a, b, vs, us, rfl, rfl, s _ _ ha, s _ _ hb, by rw [ra.length, rb.length]; exact h, fun p hp => ?_⟩)
  have x2 : Ext T F H (upd F p (.lst (vs ++ us))) (upd H p (.lst (vs ++ us))) := Ext.new s (fun b hb => (t b hb).2) hp
  exact q _ _ _ x2 (.lst upd_same ((ra.append rb).mono x2.ff))
theorem rv_I0 {g : Int → Int → V} {i j : Int} {d : PyData} (hg : ∀ F, Rp F (g i j) d) : Rv T (rI0 g) (.int i) (.int j) d := fun F H v u s t rx ry Q q => ⟨i, j, rx.int_eq, ry.int_eq, q _ F H (Ext.refl s) (hg F)⟩
theorem rv_I {C : Int → Int → Prop} {g : Int → Int → V} {i j : Int} {d : PyData} (hc : C i j) (hg : ∀ F, Rp F (g i j) d) : Rv T (rI C g) (.int i) (.int j) d := fun F H v u s t rx ry Q q => ⟨i, j, rx.int_eq, ry.int_eq, hc, q _ F H (Ext.refl s) (hg F)⟩
theorem ev_subI {i j : Int} (ha : Ev T ta ρ (.int i)) (hb : Ev T tb ρ (.int j)) : Ev T (tOp (rI0 fun i j => .int (i - j)) ta tb) ρ (.int (i - j)) := ev_op ha hb (rv_I0 fun F => .int _)
theorem ev_addI {i j : Int} (ha : Ev T ta ρ (.int i)) (hb : Ev T tb ρ (.int j)) : Ev T (tOp (rAddU K) ta tb) ρ (.int (i + j)) := ev_op ha hb rv_addI
theorem ev_addS {a b : List Nat} (ha : Ev T ta ρ (sD a)) (hb : Ev T tb ρ (sD b)) (h : a.length + b.length ≤ sizeLine) : Ev T (tOp (rAddU K) ta tb) ρ (sD (a ++ b)) := ev_op ha hb (rv_addS h)
theorem ev_neg {i : Int} (ha : Ev T ta ρ (.int i)) : Ev T (tUn (rU fun i => .int (-i)) ta) ρ (.int (-i)) := fun F0 H0 σ F H e Q q => ha F0 H0 σ F H e _ fun v F1 H1 e1 r => ⟨i, r.int_eq, q _ F1 H1 e1 (.int _)⟩
theorem ipS {a b : List Nat} (h : a.length + b.length ≤ sizeLine) : Rv T (fun x y H Q => rI0 (fun i j => .int (i + j)) x y H Q ∨ (∃ i j, x = .str i ∧ y = .str j ∧ i.length + j.length ≤ sizeLine ∧ Q (.str (i ++ j)) H)) (sD a) (sD b) (sD (a ++ b)) :=
  rv_str fun F H v u s rx ry Q q => .inr ⟨S a, S b, rx.str_eq, ry.str_eq, by rw [S_len, S_len]; exact h, by rw [S_app]; exact q⟩
theorem ipI' {i j : Int} : Rv T (fun x y H Q => rI0 (fun i j => .int (i + j)) x y H Q ∨ (∃ i j, x = .str i ∧ y = .str j ∧ i.length + j.length ≤ sizeLine ∧ Q (.str (i ++ j)) H)) (.int i) (.int j) (.int (i + j)) :=
  rv_int fun F H v u s rx ry Q q => .inl ⟨i, j, rx.int_eq, ry.int_eq, q⟩

/-! ### comparisons -/
theorem rv_eq (hx : x.plain = true) (hy : y.plain = true) (hd : min x.depth y.depth ≤ 60) : Rv T (rEqP K) x y (.bool (PyData.eqv x y)) := rv_bl fun F H v u s rx ry Q q => ⟨x, y, rx.dp s hx, ry.dp s hy, hx, hy, hd, q⟩
theorem rv_ne (hx : x.plain = true) (hy : y.plain = true) (hd : min x.depth y.depth ≤ 60) : Rv T (rNeP K) x y (.bool (!PyData.eqv x y)) := rv_bl fun F H v u s rx ry Q q => ⟨x, y, rx.dp s hx, ry.dp s hy, hx, hy, hd, q⟩
theorem ev_eq (ha : Ev T ta ρ x) (hb : Ev T tb ρ y) (hx : x.plain = true) (hy : y.plain = true) (hd : min x.depth y.depth ≤ 60) : Ev T (tOp (rEqP K) ta tb) ρ (.bool (PyData.eqv x y)) := ev_op ha hb (rv_eq hx hy hd)
theorem ev_ne (ha : Ev T ta ρ x) (hb : Ev T tb ρ y) (hx : x.plain = true) (hy : y.plain = true) (hd : min x.depth y.depth ≤ 60) : Ev T (tOp (rNeP K) ta tb) ρ (.bool (!PyData.eqv x y)) := ev_op ha hb (rv_ne hx hy hd)
theorem eqv_str (a b : List Nat) : PyData.eqv (sD a) (sD b) = decide (a = b) := by
  simp only [PyData.eqv]
  exact S_beq a b
theorem eqv_int (i j : Int) : PyData.eqv (.int i) (.int j) = decide (i = j) := by
  simp only [PyData.eqv]
  by_cases e : i = j
  · rw [decide_eq_true e, e]
    exact beq_self_eq_true _
  · rw [decide_eq_false e]
    exact beq_eq_false_iff_ne.mpr e
theorem ev_eqS {a b : List Nat} (ha : Ev T ta ρ (sD a)) (hb : Ev T tb ρ (sD b)) : Ev T (tOp (rEqP K) ta tb) ρ (.bool (decide (a = b))) := by
  have h := ev_eq (K := K) ha hb rfl rfl (by simp [PyData.depth])
  rwa [eqv_str] at h
theorem ev_neS {a b : List Nat} (ha : Ev T ta ρ (sD a)) (hb : Ev T tb ρ (sD b)) : Ev T (tOp (rNeP K) ta tb) ρ (.bool (!decide (a = b))) := by
  have h := ev_ne (K := K) ha hb rfl rfl (by simp [PyData.depth])
  rwa [eqv_str] at h
theorem ev_eqI {i j : Int} (ha : Ev T ta ρ (.int i)) (hb : Ev T tb ρ (.int j)) : Ev T (tOp (rEqP K) ta tb) ρ (.bool (decide (i = j))) := by
  have h := ev_eq (K := K) ha hb rfl rfl (by simp [PyData.depth])
  rwa [eqv_int] at h
theorem ev_neI {i j : Int} (ha : Ev T ta ρ (.int i)) (hb : Ev T tb ρ (.int j)) : Ev T (tOp (rNeP K) ta tb) ρ (.bool (!decide (i = j))) := by
  have h := ev_ne (K := K) ha hb rfl rfl (by simp [PyData.depth])
  rwa [eqv_int] at h
/-- comparisons of ints -/
theorem ev_cmpI {g : Int → Int → Bool} {i j : Int} (ha : Ev T ta ρ (.int i)) (hb : Ev T tb ρ (.int j)) : Ev T (tOp (rI0 fun i j => .bl (g i j)) ta tb) ρ (.bool (g i j)) := ev_op ha hb (rv_I0 fun F => .bl _)
theorem ev_ltS {a b : List Nat} (ha : Ev T ta ρ (sD a)) (hb : Ev T tb ρ (sD b)) : Ev T (tOp (fun x y H Q => ∃ i j, x = .str i ∧ y = .str j ∧ Q (.bl (decide (i.cps.toList < j.cps.toList))) H) ta tb) ρ (.bool (decide (a < b))) :=
  ev_op ha hb (rv_bl fun F H v u s rx ry Q q => ⟨S a, S b, rx.str_eq, ry.str_eq, q⟩)
/-- is None, is not None, whatever the left is -/
def isNone : PyData → Bool
  | .none => true
  | _ => false
theorem rp_non {F : Hp} {v : V} {d : PyData} (r : Rp F v d) : decide (v = .non) = isNone d := by
  cases r with
  | non => rfl
  | dct h r e =>
    subst e
    rfl
  | nd h r e =>
    subst e
    rfl
  | fd h r e =>
    subst e
    rfl
  | _ => rfl
theorem ev_isN (ha : Ev T ta ρ x) : Ev T (tOp (fun x y H Q => y = .non ∧ Q (.bl (decide (x = .non))) H) ta (tC .non)) ρ (.bool (isNone x)) := ev_op ha ev_non (rv_bl fun F H v u s rx ry Q q => ⟨ry.non_eq, by rw [rp_non rx]; exact q⟩)
theorem ev_notN (ha : Ev T ta ρ x) : Ev T (tOp (fun x y H Q => y = .non ∧ Q (.bl (!decide (x = .non))) H) ta (tC .non)) ρ (.bool (!isNone x)) := ev_op ha ev_non (rv_bl fun F H v u s rx ry Q q => ⟨ry.non_eq, by rw [rp_non rx]; exact q⟩)
/-- a <= b <= c of ints -/
theorem ev_chain {g g' : Int → Int → Bool} {i j k : Int} (ha : Ev T ta ρ (.int i)) (hb : Ev T tb ρ (.int j)) (hc : Ev T tc ρ (.int k)) : Ev T (tChain (rI0 fun i j => .bl (g i j)) (rI0 fun i j => .bl (g' i j)) ta tb tc) ρ (.bool (g i j && g' j k)) := fun F0 H0 σ F H e Q q =>
  ha F0 H0 σ F H e _ fun v F1 H1 e1 r1 => hb F0 H0 σ F1 H1 (e.ext e1) _ fun u F2 H2 e2 r2 => by
    refine ⟨i, j, r1.int_eq, r2.int_eq, g i j, rfl, ?_⟩
    cases hg : g i j with
    | true => exact iteT (hc F0 H0 σ F2 H2 ((e.ext e1).ext e2) _ fun w F3 H3 e3 r3 => ⟨j, k, r2.int_eq, r3.int_eq, q _ F3 H3 ((e1.trans e2).trans e3) (by rw [hg]; exact .bl _)⟩)
    | false => exact iteF (q _ F2 H2 (e1.trans e2) (by rw [hg]; exact .bl false))

/-! ### in -/
theorem ev_inS {f : Bool → Bool} {c : Nat} {b : List Nat} (ha : Ev T ta ρ (sD [c])) (hb : Ev T tb ρ (sD b)) : Ev T (tOp (rInU K f) ta tb) ρ (.bool (f (decide (c ∈ b)))) := ev_op ha hb (rv_bl fun F H v u s rx ry Q q => .inl ⟨c, S b, rx.str_eq, ry.str_eq, q⟩)
theorem ev_inL {f : Bool → Bool} {ds : List PyData} (ha : Ev T ta ρ x) (hb : Ev T tb ρ (.list ds)) (hx : x.plain = true) (hy : PyData.plainAll ds = true) (hd : x.depth ≤ 60) : Ev T (tOp (rInU K f) ta tb) ρ (.bool (f (ds.any fun z => PyData.eqv z x))) :=
  ev_op ha hb (rv_bl fun F H v u s rx ry Q q => .inr (.inl ⟨x, ds, rx.dp s hx, .inl (ry.dp s (by simpa only [PyData.plain] using hy)), hx, hy, hd, q⟩))
theorem ev_inT {f : Bool → Bool} {ds : List PyData} (ha : Ev T ta ρ x) (hb : Ev T tb ρ (.tuple ds)) (hx : x.plain = true) (hy : PyData.plainAll ds = true) (hd : x.depth ≤ 60) : Ev T (tOp (rInU K f) ta tb) ρ (.bool (f (ds.any fun z => PyData.eqv z x))) :=
  ev_op ha hb (rv_bl fun F H v u s rx ry Q q => .inr (.inl ⟨x, ds, rx.dp s hx, .inr (ry.dp s (by simpa only [PyData.plain] using hy)), hx, hy, hd, q⟩))
/-- what a dict holds at a key -/
def atK (ds : List (Key × PyData)) (k : Key) : Option PyData := (ds.find? fun p => decide (p.1 = k)).map (·.2)
theorem RpKV.at {F : Hp} {kvs : List (Key × V)} {ds : List (Key × PyData)} (r : RpKV F kvs ds) (k : Key) : (∃ d v, atK ds k = some d ∧ valV kvs k = some v ∧ Rp F v d) ∨ (atK ds k = none ∧ valV kvs k = none) := by
  have h := r.val (κ := k)
  unfold atK
  cases e : ds.find? fun p => decide (p.1 = k) with
  | none =>
    rw [e] at h
    exact .inr ⟨rfl, h⟩
  | some p =>
    rw [e] at h
    obtain ⟨v, h1, h2⟩ := h
    exact .inl ⟨p.2, v, rfl, h1, h2⟩
theorem kV_kD {F : Hp} {v : V} {k : Key} (r : Rp F v (kD k)) : v = kV k := by
  cases k with
  | inl i => exact r.int_eq
  | inr z => exact r.str_eq
theorem ev_inD {f : Bool → Bool} {k : Key} {ds : List (Key × PyData)} (ha : Ev T ta ρ (kD k)) (hb : Ev T tb ρ (dictD ds)) : Ev T (tOp (rInU K f) ta tb) ρ (.bool (f (atK ds k).isSome)) :=
  ev_op ha hb (rv_bl fun F H v u s rx ry Q q => by
    obtain ⟨a, kvs, rfl, hk, r⟩ := ry.dct_eq
    refine .inr (.inr ⟨a, valV kvs k, rfl, ?_, ?_⟩)
    · rw [kV_kD rx]
      exact .inl ⟨kvs, k, rd_mono s hk, rfl, rfl⟩
    · rcases r.at k with ⟨d, v', e1, e2, _⟩ | ⟨e1, e2⟩
      · rw [e2]
        rw [e1] at q
        exact q
      · rw [e2]
        rw [e1] at q
        exact q)
/-! ### items, slices, lengths -/
theorem atI_of {vs : List V} {ds : List PyData} {F : Hp} {i : Int} {d : PyData} (r : RpAll F vs ds) (h : atI ds i = some d) : ∃ v, atI vs i = some v ∧ Rp F v d := by
  unfold atI at h ⊢
  rw [r.length]
  cases e : ixN ds.length i with
  | none =>
    rw [e] at h
    cases h
  | some j =>
    rw [e] at h
    exact r.get h
theorem ev_ixL {ds : List PyData} {i : Int} {d : PyData} (ha : Ev T ta ρ (.list ds)) (hb : Ev T tb ρ (.int i)) (h : atI ds i = some d) : Ev T (tOp (rIxU K) ta tb) ρ d := ev_op ha hb fun F H v u s t rx ry Q q => by
  obtain ⟨a, vs, rfl, hk, r⟩ := rx.lst_eq
  obtain ⟨w, hw, rw⟩ := atI_of r h
  exact .inl (.inl ⟨a, vs, i, w, rfl, ry.int_eq, SqL.of (s _ _ hk), hw, q w F H (Ext.refl s) rw⟩)
theorem ev_ixT {ds : List PyData} {i : Int} {d : PyData} (ha : Ev T ta ρ (.tuple ds)) (hb : Ev T tb ρ (.int i)) (h : atI ds i = some d) : Ev T (tOp (rIxU K) ta tb) ρ d := ev_op ha hb fun F H v u s t rx ry Q q => by
  obtain ⟨a, o, vs, rfl, hk, _, r⟩ := rx.tup_eq
  obtain ⟨w, hw, rw⟩ := atI_of r h
  exact .inl (.inr (.inl ⟨a, vs, i, w, rfl, ry.int_eq, sqT_frz (s _ _ hk), hw, q w F H (Ext.refl s) rw⟩))
theorem ev_ixS {a : List Nat} {i : Int} {c : Nat} (ha : Ev T ta ρ (sD a)) (hb : Ev T tb ρ (.int i)) (hl : a.length ≤ sizeLine) (h : atI a i = some c) : Ev T (tOp (rIxU K) ta tb) ρ (sD [c]) := ev_op ha hb fun F H v u s t rx ry Q q =>
  .inl (.inr (.inr ⟨S a, i, c, rx.str_eq, ry.int_eq, by rw [S_len]; exact hl, h, q _ F H (Ext.refl s) (.str _)⟩))
theorem ev_ixD {ds : List (Key × PyData)} {k : Key} {d : PyData} (ha : Ev T ta ρ (dictD ds)) (hb : Ev T tb ρ (kD k)) (h : atK ds k = some d) : Ev T (tOp (rIxU K) ta tb) ρ d := ev_op ha hb fun F H v u s t rx ry Q q => by
  obtain ⟨a, kvs, rfl, hk, r⟩ := rx.dct_eq
  rcases r.at k with ⟨d', w, e1, e2, rw⟩ | ⟨e1, e2⟩
  · rw [h] at e1
    cases e1
    refine .inr ⟨a, w, rfl, ?_, q w F H (Ext.refl s) rw⟩
    rw [kV_kD ry, ← e2]
    exact .inl ⟨kvs, k, rd_mono s hk, rfl, rfl⟩
  · rw [h] at e1
    cases e1
/-- what a slice's bound gives -/
def EvB (T : Tn) (to : TO) (ρ : List Sl) (o : Option Int) : Prop := ∀ F0 H0 σ F H, Env T F0 H0 F H σ ρ → ∀ Q : Option Int → Hp → Prop, (∀ F' H', Ext T F H F' H' → Q o H') → to σ H Q
theorem eb_none : EvB T tNoPart ρ none := fun F0 H0 σ F H e Q q => q F H (Ext.refl e.le)
theorem eb_some {i : Int} (h : Ev T te ρ (.int i)) : EvB T (tPart te) ρ (some i) := fun F0 H0 σ F H e Q q => h F0 H0 σ F H e _ fun v F' H' ex r => ⟨i, r.int_eq, q F' H' ex⟩
/-- the bounds of a slice -/
def cutL {α : Type} (l : List α) (lo hi : Option Int) : List α := (l.drop (HT.sIx l.length 0 lo)).take (HT.sIx l.length l.length hi - HT.sIx l.length 0 lo)
theorem cutS_S (a : List Nat) (lo hi : Option Int) : cutS (S a) lo hi = S (cutL a lo hi) := by
  unfold cutS cutL
  apply ext_tl
  first | rfl | simp [S, Str.length]
theorem RpAll.cut {F : Hp} {vs : List V} {ds : List PyData} (r : RpAll F vs ds) (lo hi : Option Int) : RpAll F (cutV vs lo hi) (cutL ds lo hi) := by
  unfold cutV cutL
  rw [r.length]
  exact (r.drop _).take _
theorem ev_slS {tl th : TO} {a : List Nat} {lo hi : Option Int} (ha : Ev T ta ρ (sD a)) (h1 : EvB T tl ρ lo) (h2 : EvB T th ρ hi) (hl : a.length ≤ sizeLine) : Ev T (tSl (rSlU K) ta tl th) ρ (sD (cutL a lo hi)) := fun F0 H0 σ F H e Q q =>
  ha F0 H0 σ F H e _ fun v F1 H1 e1 r1 => h1 F0 H0 σ F1 H1 (e.ext e1) _ fun F2 H2 e2 => h2 F0 H0 σ F2 H2 ((e.ext e1).ext e2) _ fun F3 H3 e3 =>
    .inl ⟨S a, r1.str_eq, by rw [S_len]; exact hl, by rw [cutS_S]; exact q _ F3 H3 ((e1.trans e2).trans e3) (.str _)⟩
theorem eo_slL {tl th : TO} {xs : List PyData} {lo hi : Option Int} (ha : Ev T ta ρ (.list xs)) (h1 : EvB T tl ρ lo) (h2 : EvB T th ρ hi) : EvO T (tSl (rSlU K) ta tl th) ρ fun ys => ys = cutL xs lo hi := fun F0 H0 σ F H e Q q =>
  ha F0 H0 σ F H e _ fun v F1 H1 e1 r1 => h1 F0 H0 σ F1 H1 (e.ext e1) _ fun F2 H2 e2 => h2 F0 H0 σ F2 H2 ((e.ext e1).ext e2) _ fun F3 H3 e3 => by
    obtain ⟨a, vs, rfl, hk, r⟩ := r1.lst_eq
    have x3 := (e1.trans e2).trans e3
    have e4 := ((e.ext e1).ext e2).ext e3
    refine .inr ⟨a, vs, rfl, SqL.of (e3.fh _ _ (e3.ff _ _ (e2.ff _ _ hk))), fun p hp => ?_⟩
    have n0 : H p = none := by
      have nT : ¬ T p := fun t => by
        obtain ⟨_, z, _⟩ := e4.town p t
        rw [hp] at z
        cases z
      cases hq : H p with
      | none => rfl
      | some o =>
        rw [x3.hh p o nT hq] at hp
        cases hp
    exact q p _ _ _ _ (x3.trans (Ext.new1 e4.le hp)) n0 (e4.le.free hp) upd_same rfl ((r.cut lo hi).mono (e2.ff.trans e3.ff))
theorem ev_slL {tl th : TO} {xs : List PyData} {lo hi : Option Int} (ha : Ev T ta ρ (.list xs)) (h1 : EvB T tl ρ lo) (h2 : EvB T th ρ hi) : Ev T (tSl (rSlU K) ta tl th) ρ (.list (cutL xs lo hi)) := (eo_slL ha h1 h2).d
theorem cut_take {α : Type} (l : List α) (n : Nat) : cutL l none (some (n : Int)) = l.take n := by
  unfold cutL
  rw [HT.sIx_nat, HT.sIx_none, List.drop_zero, Nat.sub_zero]
  rcases Nat.le_total n l.length with h | h
  · rw [Nat.min_eq_left h]
  · rw [Nat.min_eq_right h, List.take_length, List.take_of_length_le h]
theorem cut_drop {α : Type} (l : List α) (n : Nat) : cutL l (some (n : Int)) none = l.drop n := by
  unfold cutL
  rw [HT.sIx_nat, HT.sIx_none]
  rcases Nat.le_total n l.length with h | h
  · rw [Nat.min_eq_left h]
    exact List.take_of_length_le (by rw [List.length_drop]; exact Nat.le_refl _)
  · rw [Nat.min_eq_right h, List.drop_length, List.drop_of_length_le h, List.take_nil]
theorem ev_lenS {a : List Nat} (ha : Ev T ta ρ (sD a)) (hl : a.length ≤ sizeLine) : Ev T (tCB (rLenU K) (tCons ta tNil)) ρ (.int (a.length : Nat)) := fun F0 H0 σ F H e Q q =>
  ha F0 H0 σ F H e _ fun v F1 H1 e1 r1 => .inl ⟨v, a.length, rfl, by rw [r1.str_eq]; exact ⟨by rw [S_len]; exact hl, (S_len a).symm⟩, q _ F1 H1 e1 (.int _)⟩
theorem ev_lenL {ds : List PyData} (ha : Ev T ta ρ (.list ds)) : Ev T (tCB (rLenU K) (tCons ta tNil)) ρ (.int (ds.length : Nat)) := fun F0 H0 σ F H e Q q =>
  ha F0 H0 σ F H e _ fun v F1 H1 e1 r1 => by
    obtain ⟨a, vs, rfl, hk, r⟩ := r1.lst_eq
    exact .inl ⟨_, ds.length, rfl, .inl ⟨vs, SqL.of (e1.fh _ _ hk), r.length.symm⟩, q _ F1 H1 e1 (.int _)⟩
theorem ev_lenT {ds : List PyData} (ha : Ev T ta ρ (.tuple ds)) : Ev T (tCB (rLenU K) (tCons ta tNil)) ρ (.int (ds.length : Nat)) := fun F0 H0 σ F H e Q q =>
  ha F0 H0 σ F H e _ fun v F1 H1 e1 r1 => by
    obtain ⟨a, o, vs, rfl, hk, _, r⟩ := r1.tup_eq
    exact .inl ⟨_, ds.length, rfl, .inr ⟨vs, sqT_frz (e1.fh _ _ hk), r.length.symm⟩, q _ F1 H1 e1 (.int _)⟩
theorem ev_min2 {i j : Int} (ha : Ev T ta ρ (.int i)) (hb : Ev T tb ρ (.int j)) : Ev T (tCB (fun xs H Q => ∃ i j, xs = [.int i, .int j] ∧ Q (.int (if j < i then j else i)) H) (tCons ta (tCons tb tNil))) ρ (.int (if j < i then j else i)) := fun F0 H0 σ F H e Q q =>
  ha F0 H0 σ F H e _ fun v F1 H1 e1 r1 => hb F0 H0 σ F1 H1 (e.ext e1) _ fun u F2 H2 e2 r2 => ⟨i, j, by rw [r1.int_eq, r2.int_eq], q _ F2 H2 (e1.trans e2) (.int _)⟩
theorem ev_all {bs : List Bool} (ha : Ev T ta ρ (.list (bs.map PyData.bool))) : Ev T (tCB (rAll K) (tCons ta tNil)) ρ (.bool (bs.all id)) := fun F0 H0 σ F H e Q q =>
  ha F0 H0 σ F H e _ fun v F1 H1 e1 r1 => by
    obtain ⟨a, vs, rfl, hk, r⟩ := r1.lst_eq
    exact ⟨a, bs, rfl, SqL.of (by rw [← r.bools]; exact e1.fh _ _ hk), q _ F1 H1 e1 (.bl _)⟩
theorem ev_any {bs : List Bool} (ha : Ev T ta ρ (.list (bs.map PyData.bool))) : Ev T (tCB (rAny K) (tCons ta tNil)) ρ (.bool (bs.any id)) := fun F0 H0 σ F H e Q q =>
  ha F0 H0 σ F H e _ fun v F1 H1 e1 r1 => by
    obtain ⟨a, vs, rfl, hk, r⟩ := r1.lst_eq
    exact ⟨a, bs, rfl, SqL.of (by rw [← r.bools]; exact e1.fh _ _ hk), q _ F1 H1 e1 (.bl _)⟩
/-- isinstance of data -/
def isTy (T : String) : PyData → Bool
  | .none => T == "NoneType"
  | .bool _ => T == "bool" || T == "int"
  | .int _ => T == "int"
  | .str _ => T == "str"
  | .list _ => T == "list"
  | .tuple _ => T == "tuple"
  | .dict _ => T == "dict"
theorem ev_isStr (ha : Ev T ta ρ x) (hx : x.plain = true) : Ev T (tCB (rIsi K) (tCons ta (tCons (tC (.ty "str")) tNil))) ρ (.bool (isTy "str" x)) := fun F0 H0 σ F H e Q q =>
  ha F0 H0 σ F H e _ fun v F1 H1 e1 r => by
    have go : ∀ {t : String} {b : Bool}, TyX K H1 v (.type t) → kitB t "str" = some b → isTy "str" x = b → rIsi K [v, .ty "str"] H1 Q := fun {t b} ty hb hx => ⟨v, .ty "str", .type t, .type "str", b, rfl, .ty _, ty, kit_ty hb, by rw [← hx]; exact q _ F1 H1 e1 (.bl _)⟩
    cases r with
    | non => exact go (b := false) (.base .non) (by decide +kernel) rfl
    | bl b => exact go (b := false) (.base (.bl b)) (by decide +kernel) rfl
    | int i => exact go (b := false) (.base (.int i)) (by decide +kernel) rfl
    | str i => exact go (b := true) (.base (.str i)) (by decide +kernel) rfl
    | lst h r => exact go (b := false) (.base (.lst (e1.fh _ _ h))) (by decide +kernel) rfl
    | tup h o r => exact go (b := false) (.fTuple (e1.fh _ _ h)) (by decide +kernel) rfl
    | dct h r e =>
      subst e
      simp only [PyData.plain] at hx
      cases hx
    | lo h r =>
      simp only [PyData.plain] at hx
      cases hx
    | nd h r e =>
      subst e
      simp only [PyData.plain] at hx
      cases hx
    | fd h r e =>
      subst e
      simp only [PyData.plain] at hx
      cases hx
theorem ev_isTuple (ha : Ev T ta ρ x) (hx : x.plain = true) : Ev T (tCB (rIsi K) (tCons ta (tCons (tC (.ty "tuple")) tNil))) ρ (.bool (isTy "tuple" x)) := fun F0 H0 σ F H e Q q =>
  ha F0 H0 σ F H e _ fun v F1 H1 e1 r => by
    have go : ∀ {t : String} {b : Bool}, TyX K H1 v (.type t) → kitB t "tuple" = some b → isTy "tuple" x = b → rIsi K [v, .ty "tuple"] H1 Q := fun {t b} ty hb hx => ⟨v, .ty "tuple", .type t, .type "tuple", b, rfl, .ty _, ty, kit_ty hb, by rw [← hx]; exact q _ F1 H1 e1 (.bl _)⟩
    cases r with
    | non => exact go (b := false) (.base .non) (by decide +kernel) rfl
    | bl b => exact go (b := false) (.base (.bl b)) (by decide +kernel) rfl
    | int i => exact go (b := false) (.base (.int i)) (by decide +kernel) rfl
    | str i => exact go (b := false) (.base (.str i)) (by decide +kernel) rfl
    | lst h r => exact go (b := false) (.base (.lst (e1.fh _ _ h))) (by decide +kernel) rfl
    | tup h o r => exact go (b := true) (.fTuple (e1.fh _ _ h)) (by decide +kernel) rfl
    | dct h r e =>
      subst e
      simp only [PyData.plain] at hx
      cases hx
    | lo h r =>
      simp only [PyData.plain] at hx
      cases hx
    | nd h r e =>
      subst e
      simp only [PyData.plain] at hx
      cases hx
    | fd h r e =>
      subst e
      simp only [PyData.plain] at hx
      cases hx
/-! ### texts -/
def startsB (a b : List Nat) : Bool := b.isPrefixOf a
theorem ev_join {sep : List Nat} {ws : List (List Nat)} (hs : Ev T ta ρ (sD sep)) (ha : Ev T tb ρ (.list (ws.map sD))) (hl : (ws.map (·.length)).sum + ws.length * sep.length ≤ 16777216) :
    Ev T (tM1 (fun x xs H Q => ∃ a p, ∃ ys : List Str, x = .str a ∧ xs = [.ref p] ∧ (SqL K H p (ys.map V.str) ∨ SqT K H p (ys.map V.str)) ∧ (ys.map (·.length)).sum + ys.length * a.length ≤ 16777216 ∧ Q (.str (Txt.join a ys)) H) ta tb) ρ (sD (joinL sep ws)) := fun F0 H0 σ F H e Q q =>
  hs F0 H0 σ F H e _ fun v F1 H1 e1 r1 => ⟨⟨_, r1.str_eq⟩, ha F0 H0 σ F1 H1 (e.ext e1) _ fun u F2 H2 e2 r2 => by
    obtain ⟨p, vs, rfl, hk, r⟩ := r2.lst_eq
    have em : (ws.map sD) = ((ws.map S).map PyData.str) := by rw [List.map_map]; rfl
    rw [em] at r
    refine ⟨S sep, p, ws.map S, r1.str_eq, rfl, .inl (SqL.of (by rw [← r.strs]; exact e2.fh _ _ hk)), ?_, ?_⟩
    · rw [List.map_map, List.length_map, S_len]
      have : (fun x : Str => x.length) ∘ S = fun l : List Nat => l.length := by funext l; exact S_len l
      rw [this]
      exact hl
    · have ej : Txt.join (S sep) (ws.map S) = S (joinL sep ws) := by
        rw [join_eq]
        apply ext_tl
        rw [tl_join, List.map_map]
        have : tl ∘ S = id := rfl
        rw [this, List.map_id]
      rw [ej]
      exact q _ F2 H2 (e1.trans e2) (.str _)⟩
theorem joinL_nil (ws : List (List Nat)) : joinL [] ws = ws.flatten := by
  induction ws with
  | nil => rfl
  | cons w r ih =>
    cases r with
    | nil => simp [joinL]
    | cons w' r' =>
      show w ++ ([] ++ joinL [] (w' :: r')) = _
      rw [ih, List.nil_append]
      rfl
end
end Tr

set_option Elab.async false
set_option linter.all false
set_option maxRecDepth 100000
/-! Lay5: more walks and comprehensions, own lists and dicts, dict(..), max, min. -/
namespace Tr
open PySem PySem.Spec PyProof.Rows L2 TL
variable [PWc]

/-! ### a list that is built, out of every slot -/
theorem Env.updD {T : Tn} {F0 H0 F H : Hp} {σ : L2.St} {ρ : List Sl} {D : Addr} {o : HO} (e : Env T F0 H0 F H σ ρ) (nT : ¬ T D) (nF : F D = none) (n0 : H0 D = none) (no : ∀ (j : Nat) (s : Sl), ρ[j]? = some s → s.own = true → σ[j]? ≠ some (some (V.ref D))) : Env T F0 H0 F (upd H D o) σ ρ := by
  obtain ⟨α, g1, g2⟩ := e.sl
  have tw : ∀ b, T b → Town T F H b → Town T F (upd H D o) b := fun b hb t => by
    obtain ⟨p1, p4, p3⟩ := t
    exact ⟨p1, by rw [upd_ne (show b ≠ D from fun z => nT (by rw [← z]; exact hb))]; exact p4, p3⟩
  refine ⟨⟨e.ex.ff, same_right e.le nF, fun b u nt hb => by
    rw [upd_ne (ne_of_none hb n0)]
    exact e.ex.hh b u nt hb, e.ex.ow, e.ex.tf, fun b hb t => tw b hb (e.ex.tw b hb t)⟩, fun b hb => ⟨(e.tn b hb).1, tw b hb (e.tn b hb).2⟩, e.len, α, fun j s hs => ?_, g2⟩
  have z := g1 j s hs
  cases s with
  | ol ys =>
    obtain ⟨z1, z2, z3, z4, ws, hw, r⟩ := z
    have nb : α j ≠ D := fun q => no j _ hs rfl (by rw [join_some z1, q])
    exact ⟨z1, z2, z3, z4, ws, by rw [upd_ne nb]; exact hw, r⟩
  | od ys =>
    obtain ⟨z1, z2, z3, z4, ws, hw, r⟩ := z
    have nb : α j ≠ D := fun q => no j _ hs rfl (by rw [join_some z1, q])
    exact ⟨z1, z2, z3, z4, ws, by rw [upd_ne nb]; exact hw, r⟩
  | og φ =>
    obtain ⟨z1, z2, z3, z4, ws, hw, r⟩ := z
    have nb : α j ≠ D := fun q => no j _ hs rfl (by rw [join_some z1, q])
    exact ⟨z1, z2, z3, z4, ws, by rw [upd_ne nb]; exact hw, r⟩
  | un => trivial
  | d y => exact z
  | tn I => exact z
  | raw v => exact z
  | pr φ => exact z
theorem Env.noOwn {T : Tn} {F0 H0 F H : Hp} {σ : L2.St} {ρ : List Sl} {D : Addr} (e : Env T F0 H0 F H σ ρ) (h : H D = none) : ∀ (j : Nat) (s : Sl), ρ[j]? = some s → s.own = true → σ[j]? ≠ some (some (V.ref D)) := fun j s hs os q => by
  obtain ⟨α, g1, g2⟩ := e.sl
  have z := g1 j s hs
  rw [q] at z
  cases s with
  | ol ys =>
    obtain ⟨z1, z2, z3, z4, ws, hw, r⟩ := z
    have e1 : D = α j := V.ref.inj (Option.some.inj z1)
    rw [← e1, h] at hw
    cases hw
  | od ys =>
    obtain ⟨z1, z2, z3, z4, ws, hw, r⟩ := z
    have e1 : D = α j := V.ref.inj (Option.some.inj z1)
    rw [← e1, h] at hw
    cases hw
  | og φ =>
    obtain ⟨z1, z2, z3, z4, ws, hw, r⟩ := z
    have e1 : D = α j := V.ref.inj (Option.some.inj z1)
    rw [← e1, h] at hw
    cases hw
  | _ => cases os

/-! ### own lists, own dicts -/
section
variable {T : Tn} {W : WX} {K : PySem.W.Frag} {ρ : List Sl} {P : Po} {ta tb te : TE} {x y : PyData} {i : Nat}
/-- xs.append(e) -/
theorem sm_append {xs : List PyData} (hs : ρ[i]? = some (.ol xs)) (h : Ev T te ρ x) (hl : xs.length < sizeLine) (k : P.nx (ρ.set i (.ol (xs ++ [x])))) : Sm T W (tDrop (tBM K "list" rAppend (tVar i) (tCons te tNil))) ρ P := fun F0 H0 σ F H D e k1 _ _ _ _ => by
  obtain ⟨a, vs, hσ, hv, r, _⟩ := e.writeL hs
  refine ⟨.ref a, hσ, .inl ⟨rfl, vs, SqL.of hv⟩, h F0 H0 σ F H e _ fun v F1 H1 e1 r1 => ?_⟩
  obtain ⟨a', vs', hσ', hv', r', wr⟩ := (e.ext e1).writeL hs
  have ea : a' = a := by
    rw [hσ] at hσ'
    exact (V.ref.inj (Option.some.inj (Option.some.inj hσ'))).symm
  subst ea
  exact ⟨a', vs', v, rfl, rfl, hv', by rw [r'.length]; exact hl, k1 _ F1 _ _ e1.ff (wr _ _ (r'.snoc r1)) k⟩
/-- xs.extend(a list) -/
theorem sm_extend {xs ys : List PyData} (hs : ρ[i]? = some (.ol xs)) (h : Ev T te ρ (.list ys)) (hl : xs.length + ys.length ≤ sizeLine) (k : P.nx (ρ.set i (.ol (xs ++ ys)))) : Sm T W (tDrop (tBM K "list" rExtend (tVar i) (tCons te tNil))) ρ P := fun F0 H0 σ F H D e k1 _ _ _ _ => by
  obtain ⟨a, vs, hσ, hv, r, _⟩ := e.writeL hs
  refine ⟨.ref a, hσ, .inl ⟨rfl, vs, SqL.of hv⟩, h F0 H0 σ F H e _ fun v F1 H1 e1 r1 => ?_⟩
  obtain ⟨a', vs', hσ', hv', r', wr⟩ := (e.ext e1).writeL hs
  have ea : a' = a := by
    rw [hσ] at hσ'
    exact (V.ref.inj (Option.some.inj (Option.some.inj hσ'))).symm
  subst ea
  obtain ⟨b, us, rfl, hb, rb⟩ := r1.lst_eq
  exact ⟨a', b, vs', us, rfl, rfl, hv', e1.fh _ _ hb, by rw [r'.length, rb.length]; exact hl, k1 _ F1 _ _ e1.ff (wr _ _ (r'.append rb)) k⟩
/-- what a store makes of a dict -/
def putD (ds : List (Key × PyData)) (k : Key) (d : PyData) : List (Key × PyData) := if (ds.any fun p => decide (p.1 = k)) = true then ds.map (fun p => if p.1 = k then (p.1, d) else p) else ds ++ [(k, d)]
theorem RpKV.snoc {F : Hp} {k : Key} {v : V} {d : PyData} (r : Rp F v d) : ∀ {kvs : List (Key × V)} {ds : List (Key × PyData)}, RpKV F kvs ds → RpKV F (kvs ++ [(k, v)]) (ds ++ [(k, d)])
  | _, _, .nil => .cons r .nil
  | _, _, .cons h t => .cons h (RpKV.snoc r t)
theorem RpKV.any {F : Hp} {k : Key} : ∀ {kvs : List (Key × V)} {ds : List (Key × PyData)}, RpKV F kvs ds → (kvs.any fun p => decide (p.1 = k)) = (ds.any fun p => decide (p.1 = k))
  | _, _, .nil => rfl
  | _, _, .cons h t => by rw [List.any_cons, List.any_cons, RpKV.any t]
theorem RpKV.repl {F : Hp} {k : Key} {v : V} {d : PyData} (r : Rp F v d) : ∀ {kvs : List (Key × V)} {ds : List (Key × PyData)}, RpKV F kvs ds → RpKV F (kvs.map fun p => if p.1 = k then (p.1, v) else p) (ds.map fun p => if p.1 = k then (p.1, d) else p)
  | _, _, .nil => .nil
  | _, _, .cons (k := j) h t => by
    rw [List.map_cons, List.map_cons]
    by_cases e : j = k
    · rw [if_pos e, if_pos e]
      exact .cons r (RpKV.repl r t)
    · rw [if_neg e, if_neg e]
      exact .cons h (RpKV.repl r t)
theorem RpKV.put {F : Hp} {k : Key} {v : V} {d : PyData} {kvs : List (Key × V)} {ds : List (Key × PyData)} (t : RpKV F kvs ds) (r : Rp F v d) : RpKV F (putK kvs k v) (putD ds k d) := by
  unfold putK putD
  rw [← t.any]
  cases (kvs.any fun p => decide (p.1 = k)) with
  | true => exact t.repl r
  | false => exact t.snoc r
theorem putD_len (ds : List (Key × PyData)) (k : Key) (d : PyData) : (putD ds k d).length ≤ ds.length + 1 := by
  unfold putD
  split
  · rw [List.length_map]
    omega
  · rw [List.length_append]
    exact Nat.le_refl _
theorem atK_any (k : Key) : ∀ ds : List (Key × PyData), (ds.any fun p => decide (p.1 = k)) = (atK ds k).isSome
  | [] => rfl
  | (j, d) :: r => by
    unfold atK
    rw [List.any_cons, List.find?_cons]
    by_cases e : j = k
    · rw [show decide (((j, d) : Key × PyData).1 = k) = true from decide_eq_true e]
      rfl
    · rw [show decide (((j, d) : Key × PyData).1 = k) = false from decide_eq_false e]
      show (false || _) = _
      rw [Bool.false_or, atK_any k r]
      rfl
theorem atK_put (ds : List (Key × PyData)) (k j : Key) (d : PyData) : atK (putD ds k d) j = if j = k then some d else atK ds j := by
  unfold putD
  split
  · rename_i h
    have : ∀ ds : List (Key × PyData), atK (ds.map fun p => if p.1 = k then (p.1, d) else p) j = (atK ds j).map fun x => if j = k then d else x := by
      intro ds
      induction ds with
      | nil => rfl
      | cons p r ih =>
        obtain ⟨q, e⟩ := p
        rw [List.map_cons]
        unfold atK at ih ⊢
        by_cases hq : q = j
        · rw [List.find?_cons, show decide ((if ((q, e) : Key × PyData).1 = k then (((q, e) : Key × PyData).1, d) else (q, e)).1 = j) = true from decide_eq_true (by split <;> exact hq), List.find?_cons, show decide (((q, e) : Key × PyData).1 = j) = true from decide_eq_true hq]
          by_cases hk : q = k
          · rw [if_pos hk]
            show some d = some (if j = k then d else e)
            rw [if_pos (hq.symm.trans hk)]
          · rw [if_neg hk]
            show some e = some (if j = k then d else e)
            rw [if_neg fun z => hk (hq.trans z)]
        · rw [List.find?_cons, show decide ((if ((q, e) : Key × PyData).1 = k then (((q, e) : Key × PyData).1, d) else (q, e)).1 = j) = false from decide_eq_false (by split <;> exact hq), List.find?_cons, show decide (((q, e) : Key × PyData).1 = j) = false from decide_eq_false hq]
          exact ih
    rw [this]
    by_cases hj : j = k
    · rw [if_pos hj]
      rw [atK_any] at h
      rw [hj]
      cases e : atK ds k with
      | none =>
        rw [e] at h
        cases h
      | some z => simp
    · rw [if_neg hj]
      cases atK ds j with
      | none => rfl
      | some z => simp [hj]
  · rename_i h
    have h' : (ds.any fun p => decide (p.1 = k)) = false := (Bool.not_eq_true _).mp h
    have : ∀ ds : List (Key × PyData), (ds.any fun p => decide (p.1 = k)) = false → atK (ds ++ [(k, d)]) j = if j = k then some d else atK ds j := by
      intro ds
      induction ds with
      | nil =>
        intro _
        unfold atK
        show Option.map _ (List.find? _ [(k, d)]) = _
        rw [List.find?_cons]
        by_cases hj : j = k
        · rw [if_pos hj, show decide (((k, d) : Key × PyData).1 = j) = true from decide_eq_true hj.symm]
          rfl
        · rw [if_neg hj, show decide (((k, d) : Key × PyData).1 = j) = false from decide_eq_false fun z => hj z.symm]
          first | rfl | done
      | cons p r ih =>
        intro hh
        obtain ⟨q, e⟩ := p
        rw [List.any_cons, Bool.or_eq_false_iff] at hh
        have ih' := ih hh.2
        have nq : q ≠ k := of_decide_eq_false hh.1
        unfold atK at ih' ⊢
        rw [List.cons_append, List.find?_cons, List.find?_cons]
        by_cases hq : q = j
        · rw [show decide (((q, e) : Key × PyData).1 = j) = true from decide_eq_true hq, if_neg fun z => nq (hq.trans z)]
        · rw [show decide (((q, e) : Key × PyData).1 = j) = false from decide_eq_false hq]
          exact ih'
    exact this ds h'
/-- d[k] = v -/
theorem sm_dput {ds : List (Key × PyData)} {k : Key} (hs : ρ[i]? = some (.od ds)) (hv : Ev T te ρ x) (hk : Ev T tb ρ (kD k)) (hl : ds.length < sizeLine) (q : P.nx (ρ.set i (.od (putD ds k x)))) : Sm T W (sDPut (tVar i) tb te) ρ P := fun F0 H0 σ F H D e k1 _ _ _ _ => by
  refine hv F0 H0 σ F H e _ fun v F1 H1 e1 r1 => ?_
  obtain ⟨a, vs, hσ, ha, r, _⟩ := (e.ext e1).writeD hs
  refine ⟨.ref a, hσ, hk F0 H0 σ F1 H1 (e.ext e1) _ fun u F2 H2 e2 r2 => ?_⟩
  obtain ⟨a', vs', hσ', ha', r', wr⟩ := ((e.ext e1).ext e2).writeD hs
  have ea : a' = a := by
    rw [hσ] at hσ'
    exact (V.ref.inj (Option.some.inj (Option.some.inj hσ'))).symm
  subst ea
  refine ⟨a', _, rfl, ?_, k1 _ F2 _ _ (e1.ff.trans e2.ff) (wr _ _ (r'.put (k := k) (r1.mono e2.ff))) q⟩
  rw [kV_kD r2]
  exact DPut.k ha' (by rw [r'.length]; exact hl)
/-- d.setdefault(k, v), its value dropped -/
theorem sm_setd {ds : List (Key × PyData)} {k : Key} (hs : ρ[i]? = some (.od ds)) (hk : Ev T tb ρ (kD k)) (hv : Ev T te ρ x) (hl : ds.length < sizeLine) (q : P.nx (ρ.set i (.od (if (atK ds k).isSome = true then ds else putD ds k x)))) : Sm T W (tDrop (tDSetd (tVar i) tb te)) ρ P := fun F0 H0 σ F H D e k1 _ _ _ _ => by
  obtain ⟨a, vs, hσ, ha, r, _⟩ := e.writeD hs
  refine ⟨.ref a, hσ, a, rfl, .inl ⟨vs, .inl ha⟩, hk F0 H0 σ F H e _ fun u F1 H1 e1 r1 => hv F0 H0 σ F1 H1 (e.ext e1) _ fun v F2 H2 e2 r2 => ?_⟩
  obtain ⟨a', vs', hσ', ha', r', wr⟩ := ((e.ext e1).ext e2).writeD hs
  have ea : a' = a := by
    rw [hσ] at hσ'
    exact (V.ref.inj (Option.some.inj (Option.some.inj hσ'))).symm
  subst ea
  have e12 := e1.trans e2
  refine ⟨vs', k, ha', kV_kD r1, by rw [r'.length]; exact hl, fun v' hv' => ?_, fun hn => ?_⟩
  · rcases r'.at k with ⟨d, w, q1, q2, _⟩ | ⟨q1, q2⟩
    · rw [q1] at q
      have up : upd H2 a' (.dK vs') = H2 := by
        funext b
        by_cases hb : b = a'
        · subst hb
          rw [upd_same, ha']
        · rw [upd_ne hb]
      have := wr vs' ds r'
      rw [up] at this
      exact k1 _ F2 _ _ e12.ff this q
    · rw [hv'] at q2
      cases q2
  · rcases r'.at k with ⟨d, w, q1, q2, _⟩ | ⟨q1, q2⟩
    · rw [hn] at q2
      cases q2
    · rw [q1] at q
      exact k1 _ F2 _ _ e12.ff (wr _ _ (r'.put (k := k) r2)) q
/-- {} -/
theorem en_new : EvN T tDNewK ρ fun xs => xs = [] := fun F0 H0 σ F H e Q q p hp => q p [] [] F _ (Ext.new1 e.le hp) hp (e.le.free hp) upd_same rfl .nil
end

/-! ### zip, enumerate -/
section
variable {T : Tn} {K : PySem.W.Frag} {ρ : List Sl} {te : TE} {ta : TA}
theorem zip_get {xs ys : List PyData} {i : Nat} (h : i < (xs.zip ys).length) : ∃ x y, xs[i]? = some x ∧ ys[i]? = some y ∧ (xs.zip ys)[i]? = some (x, y) := by
  rw [List.length_zip] at h
  have h1 : i < xs.length := by omega
  have h2 : i < ys.length := by omega
  exact ⟨xs[i], ys[i], List.getElem?_eq_getElem h1, List.getElem?_eq_getElem h2, by rw [List.getElem?_eq_getElem (by rw [List.length_zip]; omega), List.getElem_zip]⟩
theorem walks_zip {F : Hp} {a b : Addr} {vs us : List V} {xs ys : List PyData} (ha : F a = some (.lst vs)) (ra : RpAll F vs xs) (hb : F b = some (.lst us)) (rb : RpAll F us ys) : Walks T F (Itz K a b) ((xs.zip ys).map fun p => loD [p.1, p.2]) where
  go := fun i F2 H s s2 hi => by
    rw [List.length_map] at hi
    obtain ⟨x, y, h1, h2, _⟩ := zip_get hi
    obtain ⟨v, hv, _⟩ := ra.get h1
    obtain ⟨u, hu, _⟩ := rb.get h2
    exact ⟨vs, us, v, u, SqL.of (s2 _ _ (s _ _ ha)), SqL.of (s2 _ _ (s _ _ hb)), hv, hu⟩
  stop := fun i F2 H s s2 hi => by
    rw [List.length_map, List.length_zip] at hi
    refine ⟨vs, us, SqL.of (s2 _ _ (s _ _ ha)), SqL.of (s2 _ _ (s _ _ hb)), ?_⟩
    rw [ra.length, rb.length]
    omega
  yld := fun i F2 H v H' s s2 t hi hy => by
    rw [List.length_map] at hi
    obtain ⟨x, y, h1, h2, h3⟩ := zip_get hi
    obtain ⟨w, w1, w2, rfl, nT, rfl, q1, q2⟩ := hy
    obtain ⟨v, hv, rv⟩ := ra.get h1
    obtain ⟨u, hu, ru⟩ := rb.get h2
    have e1 := (q1 vs (SqL.of (s2 _ _ (s _ _ ha)))).symm.trans hv
    have e2 := (q2 us (SqL.of (s2 _ _ (s _ _ hb)))).symm.trans hu
    cases e1
    cases e2
    have x2 : Ext T F2 H (upd F2 w (.tup [w1, w2])) (upd H w (.tup [w1, w2])) := Ext.new s2 (fun b hb => (t b hb).2) nT
    refine ⟨_, loD [x, y], by rw [List.getElem?_map, h3]; rfl, x2, .lo upd_same (.cons ((rv.mono s).mono x2.ff) (.cons ((ru.mono s).mono x2.ff) .nil))⟩
theorem wk_zip {xs ys : List PyData} (h : EvA T ta ρ fun zs => zs = [.list xs, .list ys]) : Wk T (iZip K ta) ρ fun zs => zs = (xs.zip ys).map fun p => loD [p.1, p.2] := fun F0 H0 σ F H e R k =>
  h F0 H0 σ F H e _ fun vs F' H' zs ex ez r => by
    subst ez
    cases r with
    | cons r1 r =>
      cases r with
      | cons r2 r =>
        cases r
        obtain ⟨a, vs1, rfl, ha, ra⟩ := r1.lst_eq
        obtain ⟨b, us1, rfl, hb, rb⟩ := r2.lst_eq
        exact ⟨a, b, vs1, us1, rfl, SqL.of (ex.fh _ _ ha), SqL.of (ex.fh _ _ hb), k _ F' H' _ ex rfl (walks_zip ha ra hb rb)⟩
end

/-! ### comprehensions over lists of things -/
/-- over things as: each is bound as h a, is kept by p, gives f a -/
theorem eo_lc {T : Tn} {ρ : List Sl} {wi : TI} {g : TG} {tt : TT} {te : TE} {vs : List Nat} {α : Type} {as : List α} {h : α → PyData} {p : α → Bool} {f : α → PyData} {r : α → List Sl} (hw : Wk T wi ρ fun xs => xs = as.map h) (hl : as.length < sizeLine)
    (hg : ∀ a ∈ as, TgW T g vs (h a) (wipeR ρ vs) (r a)) (ht : ∀ a ∈ as, EvT T tt (r a) fun b => b = p a) (he : ∀ a ∈ as, p a = true → Ev T te (r a) (f a)) :
    EvO T (tLc wi g tt te vs) ρ fun ys => ys = (as.filter p).map f := by
  refine eo_lcI hw fun xs ex => ⟨by rw [ex, List.length_map]; exact hl, fun i acc => acc = ((as.take i).filter p).map f, by simp, fun i acc e => ?_, fun i x acc hx e => ?_, fun acc e => ?_⟩
  · rw [e, List.length_map]
    exact Nat.le_trans (List.length_filter_le _ _) (by rw [List.length_take]; exact Nat.min_le_left _ _)
  · subst ex
    rw [List.getElem?_map] at hx
    cases ha : as[i]? with
    | none =>
      rw [ha] at hx
      cases hx
    | some a =>
      rw [ha] at hx
      cases hx
      have hm : a ∈ as := List.mem_of_getElem? ha
      have ht1 : as.take (i + 1) = as.take i ++ [a] := by rw [List.take_add_one, ha]; rfl
      refine ⟨r a, fun b => b = p a, fun y => p a = true ∧ y = f a, hg a hm, ht a hm, fun hb => (he a hm hb.symm).p ⟨hb.symm, rfl⟩, fun hb y hy => ?_, fun hb => ?_⟩
      · show acc ++ [y] = _
        rw [ht1, List.filter_append, List.map_append, e, hy.2]
        congr 1
        rw [List.filter_cons, hb.symm]
        rfl
      · show acc = _
        rw [ht1, List.filter_append, List.map_append, e]
        rw [List.filter_cons, hb.symm]
        simp
  · subst ex
    rw [List.length_map, List.take_length] at e
    exact e
theorem filter_true {α : Type} (as : List α) : as.filter (fun _ => true) = as := by simp
/-- without a test -/
theorem eo_lc1 {T : Tn} {ρ : List Sl} {wi : TI} {g : TG} {te : TE} {vs : List Nat} {α : Type} {as : List α} {h : α → PyData} {f : α → PyData} {r : α → List Sl} (hw : Wk T wi ρ fun xs => xs = as.map h) (hl : as.length < sizeLine)
    (hg : ∀ a ∈ as, TgW T g vs (h a) (wipeR ρ vs) (r a)) (he : ∀ a ∈ as, Ev T te (r a) (f a)) :
    EvO T (tLc wi g tYes te vs) ρ fun ys => ys = as.map f := (eo_lc (p := fun _ => true) hw hl hg (fun a _ => et_yes) fun a ha _ => he a ha).mono fun ys e => by rw [e, filter_true]
/-- some data each, of which P holds -/
theorem eo_lcP {T : Tn} {ρ : List Sl} {wi : TI} {g : TG} {te : TE} {vs : List Nat} {S : List PyData → Prop} {P : PyData → Prop} {r : PyData → List Sl} (hw : Wk T wi ρ S) (hl : ∀ xs, S xs → xs.length < sizeLine)
    (hg : ∀ xs, S xs → ∀ a ∈ xs, TgW T g vs a (wipeR ρ vs) (r a)) (he : ∀ xs, S xs → ∀ a ∈ xs, EvP T te (r a) P) :
    EvO T (tLc wi g tYes te vs) ρ fun ys => (∀ y ∈ ys, P y) ∧ ∃ xs, S xs ∧ ys.length = xs.length := by
  refine eo_lcI hw fun xs ex => ⟨hl xs ex, fun i acc => (∀ y ∈ acc, P y) ∧ acc.length = i, ⟨fun y hy => (nomatch hy), rfl⟩, fun i acc e => Nat.le_of_eq e.2, fun i x acc hx e => ?_, fun acc e => ⟨e.1, xs, ex, e.2⟩⟩
  have hm : x ∈ xs := List.mem_of_getElem? hx
  refine ⟨r x, fun b => b = true, P, hg xs ex x hm, et_yes, fun _ => he xs ex x hm, fun _ y hy => ⟨fun z hz => ?_, by rw [List.length_append, e.2]; rfl⟩, fun hb => nomatch hb⟩
  rcases List.mem_append.mp hz with hz | hz
  · exact e.1 z hz
  · rw [List.mem_singleton.mp hz]
    exact hy

theorem yes_run {σ : L2.St} {H : Hp} {Q : Bool → Hp → Prop} (h : Q true H) : tYes σ H Q := h
/-- [te for g in wi for g1 in wi1]: over things as and, for each, things bs a -/
theorem eo_lc2 {T : Tn} {ρ : List Sl} {wi wi1 : TI} {g g1 : TG} {te : TE} {vs vs1 : List Nat} {α β : Type} {as : List α} {h : α → PyData} {bs : α → List β} {h1 : α → β → PyData} {f : α → β → PyData} {r : α → List Sl} {r1 : α → β → List Sl}
    (hw : Wk T wi ρ fun xs => xs = as.map h) (hl : (as.flatMap bs).length < sizeLine)
    (hg : ∀ a ∈ as, TgW T g vs (h a) (wipeR ρ vs) (r a)) (hw1 : ∀ a ∈ as, Wk T wi1 (r a) fun xs => xs = (bs a).map (h1 a)) (hg1 : ∀ a ∈ as, ∀ b ∈ bs a, TgW T g1 vs1 (h1 a b) (wipeR (r a) vs1) (r1 a b)) (hno : ∀ a ∈ as, ∀ s ∈ r a, s.own = false)
    (he : ∀ a ∈ as, ∀ b ∈ bs a, Ev T te (r1 a b) (f a b)) :
    EvO T (tLc2 wi g tYes wi1 g1 tYes te vs vs1) ρ fun ys => ys = as.flatMap fun a => (bs a).map (f a) := fun F0 H0 σ F H e Q q => by
  refine hw F0 H0 σ F H e _ fun J F1 H1 xs x1 px wk => ?_
  subst px
  intro D hD
  have e1 := e.ext x1
  have nT : ¬ T D := fun t => by
    obtain ⟨_, z, _⟩ := e1.town D t
    rw [hD] at z
    cases z
  have nH : H D = none := by
    cases hq : H D with
    | none => rfl
    | some o =>
      rw [x1.hh D o nT hq] at hD
      cases hD
  have n0 : H0 D = none := by
    cases hq : H0 D with
    | none => rfl
    | some o =>
      rw [e.ex.hh D o nT hq] at nH
      cases nH
  have no := e.noOwn nH
  have eD : Env T F0 H0 F1 (upd H1 D (.lst [])) σ ρ := e1.ext (Ext.new1 e1.le hD)
  refine ⟨fun i m H' => m = as.length - i ∧ i ≤ as.length ∧ ∃ F' us, Same F1 F' ∧ Ext T F H F' H' ∧ Env T F0 H0 F' H' σ ρ ∧ F' D = none ∧ H' D = some (.lst us) ∧ RpAll F' us ((as.take i).flatMap fun a => (bs a).map (f a)),
    ⟨as.length, by simp, Nat.zero_le _, F1, [], Same.refl _, x1.trans (Ext.new1 e1.le hD), eD, e1.le.free hD, upd_same, .nil⟩, ?_⟩
  rintro i m H2 ⟨rfl, hi, F2, us, s2, x2, e2, f2, d2, r2⟩
  have hll : (as.map h).length = as.length := List.length_map _
  by_cases hlt : i < as.length
  · have hlt' : i < (as.map h).length := by rw [hll]; exact hlt
    refine .inr ⟨wk.go i F2 H2 s2 e2.le hlt', fun H' => ∃ F' us, Same F1 F' ∧ Ext T F H F' H' ∧ Env T F0 H0 F' H' σ ρ ∧ F' D = none ∧ H' D = some (.lst us) ∧ RpAll F' us ((as.take (i + 1)).flatMap fun a => (bs a).map (f a)), fun H' q => ⟨as.length - (i + 1), by omega, rfl, hlt, q⟩, fun v H3 hy => ?_⟩
    obtain ⟨F3, x, hxi, x3, r3⟩ := wk.yld i F2 H2 v H3 s2 e2.le e2.tn hlt' hy
    have ha : as[i]? = some as[i] := List.getElem?_eq_getElem hlt
    rw [List.getElem?_map, ha] at hxi
    cases hxi
    have hm : as[i] ∈ as := List.getElem_mem hlt
    generalize as[i] = a at ha r3 hm
    have e3 := e2.ext x3
    refine hg a hm F0 H0 _ F3 H3 v (e3.wipe vs) r3 _ fun σ4 e4 w4 => ⟨?_, ?_⟩
    · exact wipe_eq (w4.1.trans (wipe_length _ _)) fun j hj => (w4.2 j hj).trans (wipe_get hj)
    · refine yes_run ?_
      refine iteT ?_
      refine hw1 a hm F0 H0 σ4 F3 H3 e4 _ fun J1 F4 H4 zs x4 pz wk1 => ?_
      subst pz
      have x24 : Ext T F2 H2 F4 H4 := x3.trans x4
      have no4 : ∀ (j : Nat) (s : Sl), (r a)[j]? = some s → s.own = true → σ4[j]? ≠ some (some (V.ref D)) := fun j s hs os => by
        rw [hno a hm s (List.mem_of_getElem? hs)] at os
        cases os
      have ht1 : as.take (i + 1) = as.take i ++ [a] := by rw [List.take_add_one, ha]; rfl
      have hlen : ((as.take i).flatMap fun a => (bs a).map (f a)).length + (bs a).length ≤ (as.flatMap bs).length := by
        have : ∀ l : List α, (l.flatMap fun a => (bs a).map (f a)).length = (l.flatMap bs).length := fun l => by
          induction l with
          | nil => rfl
          | cons x l ih => rw [List.flatMap_cons, List.flatMap_cons, List.length_append, List.length_append, ih, List.length_map]
        have h3 : as.flatMap bs = (as.take (i + 1)).flatMap bs ++ (as.drop (i + 1)).flatMap bs := by rw [← List.flatMap_append, List.take_append_drop]
        rw [this, h3, ht1, List.flatMap_append, List.length_append, List.length_append, List.flatMap_cons, List.length_append]
        omega
      have d4 : H4 D = some (.lst us) := x24.hh D _ nT d2
      have f4 : F4 D = none := x24.ow D _ nT d2 f2
      refine ⟨fun j k H' => k = (bs a).length - j ∧ j ≤ (bs a).length ∧ ∃ F' us', Same F4 F' ∧ Ext T F H F' H' ∧ Env T F0 H0 F' H' σ ρ ∧ Env T F0 H0 F' H' σ4 (r a) ∧ F' D = none ∧ H' D = some (.lst us') ∧ RpAll F' us' (((as.take i).flatMap fun a => (bs a).map (f a)) ++ ((bs a).take j).map (f a)),
        ⟨(bs a).length, by simp, Nat.zero_le _, F4, us, Same.refl _, x2.trans x24, e2.ext x24, e4.ext x4, f4, d4, by rw [List.take_zero, List.map_nil, List.append_nil]; exact r2.mono x24.ff⟩, ?_⟩
      rintro j k H5 ⟨rfl, hj, F5, us5, s5, x5, e5, e5', f5, d5, r5⟩
      by_cases hjl : j < (bs a).length
      · have hjl' : j < ((bs a).map (h1 a)).length := by rw [List.length_map]; exact hjl
        refine .inr ⟨wk1.go j F5 H5 s5 e5.le hjl', fun H' => ∃ F' us', Same F4 F' ∧ Ext T F H F' H' ∧ Env T F0 H0 F' H' σ ρ ∧ Env T F0 H0 F' H' σ4 (r a) ∧ F' D = none ∧ H' D = some (.lst us') ∧ RpAll F' us' (((as.take i).flatMap fun a => (bs a).map (f a)) ++ ((bs a).take (j + 1)).map (f a)), fun H' q => ⟨(bs a).length - (j + 1), by omega, rfl, hjl, q⟩, fun v1 H6 hy1 => ?_⟩
        obtain ⟨F6, z, hzi, x6, r6⟩ := wk1.yld j F5 H5 v1 H6 s5 e5.le e5.tn hjl' hy1
        have hb : (bs a)[j]? = some (bs a)[j] := List.getElem?_eq_getElem hjl
        rw [List.getElem?_map, hb] at hzi
        cases hzi
        have hmb : (bs a)[j] ∈ bs a := List.getElem_mem hjl
        generalize (bs a)[j] = b at hb r6 hmb
        have ht2 : (bs a).take (j + 1) = (bs a).take j ++ [b] := by rw [List.take_add_one, hb]; rfl
        refine hg1 a hm b hmb F0 H0 _ F6 H6 v1 ((e5'.ext x6).wipe vs1) r6 _ fun σ7 e7 w7 => ⟨?_, ?_⟩
        · exact wipe_eq (w7.1.trans (wipe_length _ _)) fun j hj => (w7.2 j hj).trans (wipe_get hj)
        · refine yes_run ?_
          refine iteT ?_
          refine he a hm b hmb F0 H0 σ7 F6 H6 e7 _ fun w F8 H8 x8 r8 => ?_
          have x58 : Ext T F5 H5 F8 H8 := x6.trans x8
          have d8 : H8 D = some (.lst us5) := x58.hh D _ nT d5
          have f8 : F8 D = none := x58.ow D _ nT d5 f5
          have x8' := x5.trans x58
          refine ⟨us5, d8, ?_, F8, us5 ++ [w], s5.trans x58.ff, ?_, (e5.ext x58).updD nT f8 n0 no, (e5'.ext x58).updD nT f8 n0 no4, f8, upd_same, ?_⟩
          · rw [r5.length, List.length_append, List.length_map, List.length_take]
            have : min j (bs a).length ≤ (bs a).length - 1 := by omega
            omega
          · exact ⟨x8'.ff, same_right x8'.fh f8, fun b o nt hb' => by
              rw [upd_ne (ne_of_none hb' nH)]
              exact x8'.hh b o nt hb', x8'.ow, x8'.tf, fun b hb' tw => by
              obtain ⟨p1, p4, p3⟩ := x8'.tw b hb' tw
              exact ⟨p1, by rw [upd_ne (show b ≠ D from fun z => nT (by rw [← z]; exact hb'))]; exact p4, p3⟩⟩
          · rw [ht2, List.map_append, ← List.append_assoc]
            exact (r5.mono x58.ff).snoc r8
      · have ej : j = (bs a).length := by omega
        subst ej
        refine .inl ⟨wk1.stop _ F5 H5 s5 e5.le (by rw [List.length_map]; exact Nat.le_refl _), F5, us5, ?_, x5, e5, f5, d5, ?_⟩
        · exact (s2.trans x24.ff).trans s5
        · rw [ht1, List.flatMap_append, List.flatMap_cons]
          rw [List.take_length] at r5
          simpa using r5
  · have ei : i = as.length := by omega
    subst ei
    rw [List.take_length] at r2
    exact .inl ⟨wk.stop _ F2 H2 s2 e2.le (by rw [hll]; exact Nat.le_refl _), q D us _ F2 H2 x2 nH f2 d2 rfl r2⟩
end Tr

set_option Elab.async false
set_option linter.all false
set_option maxRecDepth 100000
/-! Lay6: dict(pairs), max, min, sorted; calls by their promises; raising. -/
namespace Tr
open PySem PySem.Spec PyProof.Rows L2 TL
variable [PWc]

section
variable {X : Cx}
/-! ### dict(a tuple of pairs) -/
theorem pairs_of2 {pins : List (Addr × Obj)} {σ : L2.St} {H : Hp} {s : Shared} (I : Inv X pins σ H s) : ∀ {ps : List Addr} {kvs : List (Key × V)}, Paired (fun p kv => SqT X.K H p [kV kv.1, kv.2]) ps kvs →
    ∃ (prs : List (Key × Value)) (vv : List (Value × Value)), KV kvs prs ∧ prs.length = ps.length ∧ vv.length = ps.length ∧ ∀ (j : Nat) (k v : Value), vv[j]? = some (k, v) → ∃ b q, ps[j]? = some b ∧ s.heap.IsTuple b #[k, v] ∧ prs[j]? = some (q, v) ∧ (mixKind X.prog X.w).is q k = true
  | _, _, .nil => ⟨[], [], .nil, rfl, rfl, fun j k v e => by simp at e⟩
  | _, _, .cons (a := p) (b := kv) h t => by
    obtain ⟨prs, vv, r, hl, hl2, hp⟩ := pairs_of2 I t
    obtain ⟨its, rv, ht, _⟩ := I.tuple h
    obtain ⟨u, y, ei, ru, ry⟩ := vals2 rv
    subst ei
    refine ⟨(kv.1, y) :: prs, (u, y) :: vv, .cons ⟨rfl, ry⟩ r, by rw [List.length_cons, List.length_cons, hl], by rw [List.length_cons, List.length_cons, hl2], fun j k v e => ?_⟩
    cases j with
    | zero =>
      have e' : (u, y) = (k, v) := Option.some.inj e
      cases e'
      obtain ⟨o, ho, hc, n, hd⟩ := ht
      exact ⟨p, kv.1, rfl, ⟨o, ho, hc, n, hd⟩, rfl, kV_is (P := X.prog) (w := X.w) ru⟩
    | succ j =>
      obtain ⟨b, q, e1, e2, e3, e4⟩ := hp j k v (by simpa using e)
      exact ⟨b, q, by simpa using e1, e2, by simpa using e3, e4⟩
def rDictT (K : PySem.W.Frag) : List V → Hp → VK → Prop := fun xs H Q => ∃ (a : Addr) (o : Obj) (ps : List Addr) (kvs : List (Key × V)), xs = [.ref a] ∧ H a = some (.frz o (.tup (ps.map V.ref))) ∧ o.dict = none ∧ Paired (fun p kv => SqT K H p [kV kv.1, kv.2]) ps kvs ∧ ∀ p, H p = none → Q (.ref p) (upd H p (.dK (mergeK [] kvs)))
theorem call_dictT (hcalm : X.calm = true) : CallR X (.type "dict") (rDictT X.K) := by
  intro pins s σ H xs us Q I r q
  obtain ⟨a, o, ps, kvs, ex, hq, ho, hp, q⟩ := q
  subst ex
  obtain ⟨u, eu, rx⟩ := vals1 r
  subst eu
  cases rx
  obtain ⟨hget, hz, its, rv, ob, hob, hc, n, hdat⟩ := I.hok a _ hq
  have e : ob = o := Option.some.inj (hob.symm.trans hget)
  subst e
  have ei := refs_at rv
  subst ei
  rw [List.length_map] at hz
  obtain ⟨prs, vv, rel, hl, hl2, hpr⟩ := pairs_of2 I hp
  have PA := PairArg.tuple (prog := X.prog) (w := X.w) a (ps.map Value.ref).toArray (fun j => ps.getD j 0) vv
  refine PySem.call_dict_pairs (knd := mixKind X.prog X.w) (kvs := prs) PA (I.ok.hd hcalm) ⟨⟨ob, n, hob, hc, ho, hdat⟩, ?_, fun j k v e => ?_⟩ ⟨by rw [hl, hl2], fun i key v e => ?_⟩ (by rw [hl2]; exact hz) fun h' tk hd' k => ?_
  · simp [hl2]
  · obtain ⟨b, q', e1, e2, e3, e4⟩ := hpr j k v e
    have eg : ps.getD j 0 = b := by rw [List.getD_eq_getElem?_getD, e1]; rfl
    refine ⟨?_, .inl ?_⟩
    · simp [e1]
    · show s.heap.IsTuple (ps.getD j 0) #[k, v]
      rw [eg]
      exact e2
  · obtain ⟨b, q', e1, e2, e3, e4⟩ := hpr i key v e
    exact ⟨q', e3, e4⟩
  · have hm : (s.heap.objs.size == sysModules) = false := beq_eq_false_iff_ne.mpr (Nat.ne_of_gt I.big)
    have hlen : (mergeK [] kvs).length ≤ sizeLine := by
      refine Nat.le_trans (length_mergeK kvs []) ?_
      rw [List.length_nil, Nat.zero_add, rel.length, hl]
      exact hz
    exact ⟨.ref s.heap.objs.size, upd H s.heap.objs.size (.dK (mergeK [] kvs)), I.laid (t' := tk) (fun b o e => k b o (by simp) e) (Nat.le_refl _) (show ObjOk X.prog X.w _ _ _ (.dK (mergeK [] kvs)) from ⟨hlen, hm, merged [] prs, KV.merge rel .nil, hd'⟩), rfl, q _ (I.hok.fresh (Nat.le_refl _))⟩
def rDictU (K : PySem.W.Frag) : List V → Hp → VK → Prop := fun xs H Q => rDictT K xs H Q ∨ ∃ (a : Addr) (ps : List Addr) (kvs : List (Key × V)), xs = [.ref a] ∧ SqL K H a (ps.map V.ref) ∧ Paired (fun p kv => SqT K H p [kV kv.1, kv.2]) ps kvs ∧ ∀ p, H p = none → Q (.ref p) (upd H p (.dK (mergeK [] kvs)))
theorem call_dictU (hcalm : X.calm = true) : CallR X (.type "dict") (rDictU X.K) := CallR.or (call_dictT hcalm) (call_dictP hcalm)
/-! ### max, min over data -/
def rMaxP (K : PySem.W.Frag) (f : PyData → List PyData → PyData) : List V → Hp → VK → Prop := fun xs H Q => ∃ (a : Addr) (vs : List V) (d : PyData) (ds : List PyData), xs = [.ref a] ∧ SqL K H a vs ∧ DpAll K H vs (d :: ds) ∧ PyData.plainAll (d :: ds) = true ∧ PySem.W.AlikeAll (d :: ds) ∧ PyData.depthAll (d :: ds) ≤ 60 ∧ ∀ (i : Nat) (v : V), vs[i]? = some v → (d :: ds)[i]? = some (f d ds) → Q v H
theorem reads_get {h : Heap} : ∀ {vs : List Value} {xs : List PyData} {as : List Addr} {i : Nat} {v : Value}, ReadsAll h vs xs as → vs[i]? = some v → ∃ x bs, xs[i]? = some x ∧ Reads h v x bs
  | _, _, _, _, _, .nil, e => by simp at e
  | _, _, _, 0, v, .cons h _, e => by
    simp at e
    subst e
    exact ⟨_, _, rfl, h⟩
  | _, _, _, i + 1, v, .cons _ r, e => by
    obtain ⟨x, bs, h1, h2⟩ := reads_get (i := i) (v := v) r (by simpa using e)
    exact ⟨x, bs, by simpa using h1, h2⟩
theorem plainAll_mem {xs : List PyData} : ∀ {x : PyData}, PyData.plainAll xs = true → x ∈ xs → x.plain = true := by
  induction xs with
  | nil => intro x _ h; cases h
  | cons y ys ih =>
    intro x h hx
    simp only [PyData.plainAll, Bool.and_eq_true] at h
    rcases List.mem_cons.mp hx with rfl | hx
    · exact h.1
    · exact ih h.2 hx
theorem cr_best {op : String} {f : PyData → List PyData → PyData} {k : Nat} (hr : Room k X.A)
    (rule : ∀ {prog : Program} {w : World} {A : Around} {E : Value → Shared → Prop} {s : Shared} {l : Addr} {vs : Array Value} {x : PyData} {xs : List PyData} {as : List Addr} {Q : Value → Shared → Prop}, A.handled = none → s.heap.IsList l vs → ReadsAll s.heap vs.toList (x :: xs) as → PySem.W.AlikeAll (x :: xs) → A.units + 1 + PyData.depthAll (x :: xs) < cLine →
      (∀ (i : Nat) v h' tk bs, vs[i]? = some v → Reads h' v (f x xs) bs → (∀ b o, s.heap.get? b = some o → h'.get? b = some o) → Q v { s with heap := h', toks := tk }) → wpAny (model prog w) A (call (.builtin op) [.ref l]) Q E s) : CallR X (.builtin op) (rMaxP X.K f) := by
  intro pins s σ H xs us Q I r h
  obtain ⟨a, vs, d, ds, rfl, hq, hd, hp, hal, hdep, q⟩ := h
  obtain ⟨u, rfl, rx⟩ := vals1 r
  cases rx
  obtain ⟨its, rv, pl, hz⟩ := I.list hq
  obtain ⟨as, hra⟩ := Dp.readsAll I _ _ its hd rv
  have hun := hr.un
  refine rule hr.hd pl.isList (by simpa using hra) hal (by omega) fun i v h' tk bs hv hrd kp => ?_
  have hv' : its[i]? = some v := by simpa using hv
  obtain ⟨x, cs, hx, hrx⟩ := reads_get hra hv'
  have hrx' : Reads h' v x cs := PyProof.Rows.Reads.keeps kp hrx
  have ex : x = f d ds := SeqAt.plain_unique x (f d ds) v cs bs (plainAll_mem hp (List.mem_of_getElem? hx)) hrx' hrd
  have hlen := rv.length
  have hi : i < vs.length := by
    rw [hlen]
    exact (List.getElem?_eq_some_iff.mp hv').1
  obtain ⟨w, hw, rw'⟩ := rv.get (List.getElem?_eq_getElem hi)
  rw [hv'] at hw
  cases hw
  exact ⟨vs[i], H, I.kept (t' := tk) kp, rw', q i _ (List.getElem?_eq_getElem hi) (by rw [hx, ex])⟩
theorem cr_maxP {k : Nat} (hr : Room k X.A) : CallR X (.builtin "max") (rMaxP X.K PySem.W.maxD) := cr_best hr fun hh hl hra ha hu h => PySem.W.max_list_data hh hl hra ha hu h
theorem cr_minP {k : Nat} (hr : Room k X.A) : CallR X (.builtin "min") (rMaxP X.K PySem.W.minD) := cr_best hr fun hh hl hra ha hu h => PySem.W.min_list_data hh hl hra ha hu h
/-- min(a, b) of ints, min(a list) -/
def rMin2 : List V → Hp → VK → Prop := fun xs H Q => ∃ i j, xs = [.int i, .int j] ∧ Q (.int (if j < i then j else i)) H
def rMinU (K : PySem.W.Frag) : List V → Hp → VK → Prop := fun xs H Q => rMin2 xs H Q ∨ rMaxP K PySem.W.minD xs H Q
theorem cr_minU {k : Nat} (hr : Room k X.A) (hc : X.calm = true) : CallR X (.builtin "min") (rMinU X.K) := CallR.or (call_min2 hc) (cr_minP hr)
end

section
variable {T : Tn} {K : PySem.W.Frag} {ρ : List Sl} {ta tb te : TE} {x y z : PyData}
theorem ev_min2U {i j : Int} (ha : Ev T ta ρ (.int i)) (hb : Ev T tb ρ (.int j)) : Ev T (tCB (rMinU K) (tCons ta (tCons tb tNil))) ρ (.int (if j < i then j else i)) := fun F0 H0 σ F H e Q q =>
  ha F0 H0 σ F H e _ fun v F1 H1 e1 r1 => hb F0 H0 σ F1 H1 (e.ext e1) _ fun u F2 H2 e2 r2 => .inl ⟨i, j, by rw [r1.int_eq, r2.int_eq], q _ F2 H2 (e1.trans e2) (.int _)⟩
theorem best_of {f : PyData → List PyData → PyData} {Q : VK} {F1 H1 : Hp} {v : V} {d : PyData} {ds : List PyData} (s : Same F1 H1) (r : Rp F1 v (.list (d :: ds))) (hp : PyData.plainAll (d :: ds) = true) (hal : PySem.W.AlikeAll (d :: ds)) (hd : PyData.depthAll (d :: ds) ≤ 60) (q : ∀ w, Rp F1 w (f d ds) → Q w H1) : rMaxP K f [v] H1 Q := by
  obtain ⟨a, vs, rfl, ha, ra⟩ := r.lst_eq
  refine ⟨a, vs, d, ds, rfl, SqL.of (s _ _ ha), ra.dp s hp, hp, hal, hd, fun i w hw hf => ?_⟩
  obtain ⟨w', hw', rw'⟩ := ra.get hf
  rw [hw] at hw'
  cases hw'
  exact q w rw'
theorem ev_max {d : PyData} {ds : List PyData} (ha : Ev T ta ρ (.list (d :: ds))) (hp : PyData.plainAll (d :: ds) = true) (hal : PySem.W.AlikeAll (d :: ds)) (hd : PyData.depthAll (d :: ds) ≤ 60) : Ev T (tCB (rMaxP K PySem.W.maxD) (tCons ta tNil)) ρ (PySem.W.maxD d ds) := fun F0 H0 σ F H e Q q =>
  ha F0 H0 σ F H e _ fun v F1 H1 e1 r1 => best_of e1.fh r1 hp hal hd fun w rw' => q w F1 H1 e1 rw'
theorem ev_min {d : PyData} {ds : List PyData} (ha : Ev T ta ρ (.list (d :: ds))) (hp : PyData.plainAll (d :: ds) = true) (hal : PySem.W.AlikeAll (d :: ds)) (hd : PyData.depthAll (d :: ds) ≤ 60) : Ev T (tCB (rMinU K) (tCons ta tNil)) ρ (PySem.W.minD d ds) := fun F0 H0 σ F H e Q q =>
  ha F0 H0 σ F H e _ fun v F1 H1 e1 r1 => .inr (best_of e1.fh r1 hp hal hd fun w rw' => q w F1 H1 e1 rw')
/-! ### tuple(..), dict(..), sorted(dict) -/
theorem ev_tupOf {xs : List PyData} (ha : Ev T ta ρ (.list xs)) : Ev T (tCB (rTupOf K) (tCons ta tNil)) ρ (.tuple xs) := fun F0 H0 σ F H e Q q =>
  ha F0 H0 σ F H e _ fun v F1 H1 e1 r1 => by
    obtain ⟨a, vs, rfl, hk, r⟩ := r1.lst_eq
    refine ⟨a, vs, rfl, SqL.of (e1.fh _ _ hk), fun p o hp ho => ?_⟩
    have e2 := e.ext e1
    have x2 : Ext T F1 H1 (upd F1 p (.frz o (.tup vs))) (upd H1 p (.frz o (.tup vs))) := Ext.new e2.le e2.town hp
    exact q _ _ _ (e1.trans x2) (.tup upd_same ho (r.mono x2.ff))
theorem evp_tupOf {P : List PyData → Prop} (ha : EvP T ta ρ fun d => ∃ xs, d = .list xs ∧ P xs) : EvP T (tCB (rTupOf K) (tCons ta tNil)) ρ fun d => ∃ xs, d = .tuple xs ∧ P xs := fun F0 H0 σ F H e Q q =>
  ha F0 H0 σ F H e _ fun v F1 H1 d e1 ⟨xs, ed, px⟩ r1 => by
    subst ed
    obtain ⟨a, vs, rfl, hk, r⟩ := r1.lst_eq
    refine ⟨a, vs, rfl, SqL.of (e1.fh _ _ hk), fun p o hp ho => ?_⟩
    have e2 := e.ext e1
    have x2 : Ext T F1 H1 (upd F1 p (.frz o (.tup vs))) (upd H1 p (.frz o (.tup vs))) := Ext.new e2.le e2.town hp
    exact q _ _ _ _ (e1.trans x2) ⟨xs, rfl, px⟩ (.tup upd_same ho (r.mono x2.ff))
def pairD (p : Key × PyData) : PyData := .tuple [kD p.1, p.2]
theorem pairs_data {F H : Hp} (s : Same F H) : ∀ {vs : List V} {ds : List (Key × PyData)}, RpAll F vs (ds.map pairD) → ∃ ps kvs, vs = ps.map V.ref ∧ Paired (fun p kv => SqT K H p [kV kv.1, kv.2]) ps kvs ∧ RpKV F kvs ds
  | _, [], .nil => ⟨[], [], rfl, .nil, .nil⟩
  | _, (k, d) :: ds, .cons h r => by
    obtain ⟨ps, kvs, e1, e2, e3⟩ := pairs_data s r
    obtain ⟨a, o, us, rfl, ha, _, ra⟩ := h.tup_eq
    cases ra with
    | cons q1 ra =>
      cases ra with
      | cons q2 ra =>
        cases ra
        rename_i w1 w2
        have ek : w1 = kV k := kV_kD q1
        subst ek
        exact ⟨a :: ps, (k, w2) :: kvs, by rw [e1]; rfl, .cons (sqT_frz (s _ _ ha)) e2, .cons q2 e3⟩
def mergeD (ds : List (Key × PyData)) : List (Key × PyData) := ds.foldl (fun acc p => putD acc p.1 p.2) []
theorem RpKV.merge {F : Hp} : ∀ {kvs : List (Key × V)} {ds : List (Key × PyData)} {acc : List (Key × V)} {bcc : List (Key × PyData)}, RpKV F kvs ds → RpKV F acc bcc → RpKV F (mergeK acc kvs) (ds.foldl (fun acc p => putD acc p.1 p.2) bcc)
  | _, _, _, _, .nil, r => r
  | _, _, acc, bcc, .cons (k := k) (v := v) (d := d) h t, r => RpKV.merge (acc := putK acc k v) (bcc := putD bcc k d) t (r.put h)
theorem freshH {F0 H0 F H F1 H1 : Hp} {σ : L2.St} (e : Env T F0 H0 F H σ ρ) (e1 : Ext T F H F1 H1) {p : Addr} (hp : H1 p = none) : H p = none := by
  have nT : ¬ T p := fun t => by
    obtain ⟨_, z, _⟩ := (e.ext e1).town p t
    rw [hp] at z
    cases z
  cases hq : H p with
  | none => rfl
  | some o =>
    rw [e1.hh p o nT hq] at hp
    cases hp
theorem en_dictT {ds : List (Key × PyData)} (ha : Ev T ta ρ (.tuple (ds.map pairD))) : EvN T (tCB (rDictU K) (tCons ta tNil)) ρ fun es => es = mergeD ds := fun F0 H0 σ F H e Q q =>
  ha F0 H0 σ F H e _ fun v F1 H1 e1 r1 => by
    obtain ⟨a, o, vs, rfl, hk, ho, r⟩ := r1.tup_eq
    obtain ⟨ps, kvs, ev, hp, hr⟩ := pairs_data (K := K) e1.fh r
    subst ev
    have e2 := e.ext e1
    exact .inl ⟨a, o, ps, kvs, rfl, e1.fh _ _ hk, ho, hp, fun p hp => q p _ _ _ _ (e1.trans (Ext.new1 e2.le hp)) (freshH e e1 hp) (e2.le.free hp) upd_same rfl (hr.merge .nil)⟩
theorem en_dictL {P : List (Key × PyData) → Prop} (ha : EvP T ta ρ fun d => ∃ ds, d = .list (ds.map pairD) ∧ P ds) : EvN T (tCB (rDictU K) (tCons ta tNil)) ρ fun es => ∃ ds, es = mergeD ds ∧ P ds := fun F0 H0 σ F H e Q q =>
  ha F0 H0 σ F H e _ fun v F1 H1 d e1 ⟨ds, ed, pd⟩ r1 => by
    subst ed
    obtain ⟨a, vs, rfl, hk, r⟩ := r1.lst_eq
    obtain ⟨ps, kvs, ev, hp, hr⟩ := pairs_data (K := K) e1.fh r
    subst ev
    have e2 := e.ext e1
    exact .inr ⟨a, ps, kvs, rfl, SqL.of (e1.fh _ _ hk), hp, fun p hp => q p _ _ _ _ (e1.trans (Ext.new1 e2.le hp)) (freshH e e1 hp) (e2.le.free hp) upd_same ⟨ds, rfl, pd⟩ (hr.merge .nil)⟩
/-- sorted(d), d a dict with text keys that is data -/
def rSortD : List V → Hp → VK → Prop := fun xs H Q => ∃ (a : Addr) (kvs : List (Key × V)) (ks : List Str), xs = [.ref a] ∧ Rd H a (.dK kvs) ∧ kvs.map (·.1) = ks.map Sum.inr ∧ ks.length < 64 ∧ ∀ ys p, ys.Perm ks → sortedS ys = true → H p = none → Q (.ref p) (upd H p (.lst (ys.map V.str)))
theorem RpKV.keys {F : Hp} : ∀ {kvs : List (Key × V)} {ds : List (Key × PyData)}, RpKV F kvs ds → kvs.map (·.1) = ds.map (·.1)
  | _, _, .nil => rfl
  | _, _, .cons _ r => by rw [List.map_cons, List.map_cons, RpKV.keys r]
theorem eo_sortD {ds : List (Key × PyData)} {ks : List (List Nat)} (ha : Ev T ta ρ (dictD ds)) (hk : ds.map (·.1) = ks.map fun l => Sum.inr (S l)) (hl : ks.length < 64) : EvO T (tCB rSortD (tCons ta tNil)) ρ fun ys => ∃ zs : List (List Nat), ys = zs.map sD ∧ zs.Perm ks ∧ sortedS (zs.map S) = true := fun F0 H0 σ F H e Q q =>
  ha F0 H0 σ F H e _ fun v F1 H1 e1 r1 => by
    obtain ⟨a, kvs, rfl, hd, r⟩ := r1.dct_eq
    have e2 := e.ext e1
    refine ⟨a, kvs, ks.map S, rfl, rd_mono e1.fh hd, by rw [r.keys, hk, List.map_map]; rfl, by rw [List.length_map]; exact hl, fun ys p hy hs hp => ?_⟩
    have ey : ys = (ys.map tl).map S := by
      rw [List.map_map]
      have : S ∘ tl = id := by funext z; exact mk_tl z
      rw [this, List.map_id]
    refine q p _ ((ys.map tl).map sD) F1 _ (e1.trans (Ext.new1 e2.le hp)) (freshH e e1 hp) (e2.le.free hp) upd_same ⟨ys.map tl, rfl, ?_, by rw [← ey]; exact hs⟩ ?_
    · have := hy.map tl
      rw [List.map_map] at this
      have e3 : tl ∘ S = id := rfl
      rw [e3, List.map_id] at this
      exact this
    · rw [show ((ys.map tl).map sD) = ys.map PyData.str by
        rw [List.map_map]
        first | rfl | (congr 1; funext z; show PyData.str (S (tl z)) = _; rw [show S (tl z) = z from mk_tl z])]
      exact RpAll.of_strs ys
end

/-! ### calls -/
/-- a def's promise over data: args of i, pre of i, post of what it gives back, xx of the classes it may raise -/
def Fsp {ι : Type} (args : ι → List PyData) (pre : ι → Prop) (post : ι → PyData → Prop) (xx : ι → Addr → Prop) : Sp := fun vs H Q E => ∃ F i, Same F H ∧ RpAll F vs (args i) ∧ pre i ∧ (∀ v F' H' y, Ext T0 F H F' H' → post i y → Rp F' v y → Q v H') ∧ ∀ c F' H', Ext T0 F H F' H' → xx i c → E (.ref c) none H'
abbrev noX {ι : Type} : ι → Addr → Prop := fun _ _ => False
/-- a def of the text as the top has left it -/
def Defn (K : PySem.W.Frag) (mg : Str → Option Value) (x : Str) (st : Stmt) (ps : List Str) : Prop := ∃ f fd, FunD K x x (defArgs st) (defBody st) (defScope st) [] [] f fd ∧ mg x = some (.ref f) ∧ Binds K fd ps []
structure Cl (P : Program) (w : World) (K : PySem.W.Frag) (mg : Str → Option Value) (base : Heap) (k : Nat) (x : Str) (sp : Sp) : Prop where
  ex : ∃ (f : Addr) (fd : FuncData) (ps : List Str), FnOk P w K mg base (L2N.CX P w) k f fd ps sp ∧ mg x = some (.ref f) ∧ PySem.W.keepIn K (.ref f) = true ∧ Binds K fd ps []
section
variable {P : Program} {w : World} {K : PySem.W.Frag} {mg : Str → Option Value} {base : Heap}
theorem cl_of {x : Str} {st : Stmt} {N ps : List Str} {k : Nat} {sp : Sp} (d : Defn K mg x st ps) (sc : FnScope N ps (defScope st)) (len : ∀ vs H Q E, sp vs H Q E → vs.length = ps.length)
    (hb : ∀ (f : Addr) (cdv : Value) (A : Around) (outer : List PySem.Env) (s : Shared) (H : Hp) (vs : List V) (Q : VK) (E : XK), Room k (A.deeper (envOfC x (defScope st) s.heap.objs.size f cdv)) → sp vs H Q E →
      ∃ t, PSs (cxOf (L2N.CX P w) P w K mg base N x (defScope st) f cdv A outer s H E) (defBody st) t ∧ t { nx := fun _ H' => Q .non H', rt := Q } (L2.start N vs) H) : Cl P w K mg base (k + 1) x sp := by
  obtain ⟨f, fd, F, hm, b⟩ := d
  exact ⟨f, fd, ps, F.ok sc len (hb f), hm, F.kp, b⟩
/-- the slots at a def's entry -/
def slots (N : List Str) (ds : List PyData) : List Sl := ds.map Sl.d ++ List.replicate (N.length - ds.length) .un
theorem env_start {T : Tn} {F H : Hp} {N : List Str} {vs : List V} {ds : List PyData} (s : Same F H) (tn : ∀ b, T b → F b = none ∧ Town T F H b) (r : RpAll F vs ds) : Env T F H F H (L2.start N vs) (slots N ds) := by
  refine ⟨Ext.refl s, tn, by simp [L2.start, slots, r.length], fun _ => 0, fun i sl hs => ?_, fun i j s t hs ht os => ?_⟩
  · unfold slots at hs
    unfold L2.start
    by_cases hi : i < ds.length
    · rw [List.getElem?_append_left (by rw [List.length_map]; exact hi), List.getElem?_map] at hs
      obtain ⟨v, hv, rv⟩ := r.get (List.getElem?_eq_getElem hi)
      rw [List.getElem?_eq_getElem hi] at hs
      cases hs
      rw [List.getElem?_append_left (by rw [List.length_map, r.length]; exact hi), List.getElem?_map, hv]
      exact ⟨v, rfl, rv⟩
    · rw [List.getElem?_append_right (by rw [List.length_map]; omega)] at hs
      have := List.eq_of_mem_replicate (List.mem_of_getElem? hs)
      subst this
      trivial
  · exfalso
    unfold slots at hs
    by_cases hi : i < ds.length
    · rw [List.getElem?_append_left (by rw [List.length_map]; exact hi), List.getElem?_map, List.getElem?_eq_getElem hi] at hs
      cases hs
      cases os
    · rw [List.getElem?_append_right (by rw [List.length_map]; omega)] at hs
      have := List.eq_of_mem_replicate (List.mem_of_getElem? hs)
      subst this
      cases os
/-- a def over data: its body's term and what it does -/
theorem cl_fn {x : Str} {st : Stmt} {N ps : List Str} {k : Nat} {ι : Type} {args : ι → List PyData} {pre : ι → Prop} {post : ι → PyData → Prop} {xx : ι → Addr → Prop} (d : Defn K mg x st ps) (sc : FnScope N ps (defScope st)) (hl : ∀ i, (args i).length = ps.length)
    (hb : ∀ (f : Addr) (cdv : Value) (A : Around) (outer : List PySem.Env) (s : Shared) (H : Hp) (E : XK), Room k (A.deeper (envOfC x (defScope st) s.heap.objs.size f cdv)) →
      ∃ t, PSs (cxOf (L2N.CX P w) P w K mg base N x (defScope st) f cdv A outer s H E) (defBody st) t ∧ ∀ i, pre i → Sm T0 (fun c d _ H' => E c d H') t (slots N (args i)) { nx := fun _ => post i .none, rt := fun y _ => post i y, xx := fun c _ => xx i c }) : Cl P w K mg base (k + 1) x (Fsp args pre post xx) := by
  refine cl_of d sc (fun vs H Q E h => ?_) fun f cdv A outer s H vs Q E hr h => ?_
  · obtain ⟨F, i, _, r, p, _⟩ := h
    rw [r.length]
    exact hl i
  · obtain ⟨F, i, sF, r, p, q1, q2⟩ := h
    obtain ⟨t, ht, hs⟩ := hb f cdv A outer s H E hr
    refine ⟨t, ht, ?_⟩
    exact hs i p F H _ F H _ (env_start sF (fun _ z => (T0.no z).elim) r) (fun σ' F' H' ρ' _ e' pn => q1 .non F' H' .none e'.ex pn .non) (fun v σ' F' H' ρ' y en rv py => q1 v F' H' y en.ex py rv) (fun _ _ _ _ _ _ z => z.elim) (fun _ _ _ _ _ _ z => z.elim) fun c σ' F' H' ρ' _ e' pc => q2 c F' H' e'.ex pc
end
section
variable {X : Cx} {k j : Nat} {x : Str} {sp : Sp} {p pos : Pos} {e : Expr} {es : List Expr} {t : TA}
theorem passN {X : Cx} : Passes (L2N.CX X.prog X.w) X E0 := fun _ _ _ _ _ _ _ h => by
  obtain ⟨_, _, _, _, _, _, _, _, _, _, _, _, z⟩ := h
  cases z
/-- f(e, ..), nothing is raised -/
theorem pe_f (c : Cl X.prog X.w X.K X.mg X.base k x sp) (hr : Room j X.A) (hk : k ≤ j) (hg : Gl X x) (ha : PA X (e :: es) t) (hdb : (x == ("__debug__" : Str)) = false := by decide) (he : starEach (e :: es) X.env = (false, eval e X.env) :: starEach es X.env := by rfl) (hpl : (backTo pos (starEach es X.env)).any (·.1) = false := by rfl) :
    PE X (.Call (.Name x p) (e :: es) [] pos) (tCall sp [] E0 t) := by
  obtain ⟨f, fd, ps, F, hm, kp, b⟩ := c.ex
  exact pe_call F (hr.mono hk) hg hm kp b .nil passN ha hdb he hpl
/-- f(e, ..), what is raised goes on as W wishes -/
theorem pe_fx {W : WX} (c : Cl X.prog X.w X.K X.mg X.base k x sp) (tk : L2N.Takes X W) (hr : Room j X.A) (hk : k ≤ j) (hg : Gl X x) (ha : PA X (e :: es) t) (hdb : (x == ("__debug__" : Str)) = false := by decide) (he : starEach (e :: es) X.env = (false, eval e X.env) :: starEach es X.env := by rfl) (hpl : (backTo pos (starEach es X.env)).any (·.1) = false := by rfl) :
    PE X (.Call (.Name x p) (e :: es) [] pos) (tCallS sp (WE W) t) := by
  obtain ⟨f, fd, ps, F, hm, kp, b⟩ := c.ex
  exact pe_callS F (hr.mono hk) hg hm kp b (fun σ => L2N.passAt tk σ) ha hdb he hpl
end
section
variable {T : Tn} {W : WX} {ρ : List Sl} {P : Po} {ta : TA} {ι : Type} {args : ι → List PyData} {pre : ι → Prop} {post : ι → PyData → Prop} {xx : ι → Addr → Prop} {x y z : PyData}
theorem evp_call {A : ι → Prop} {R : PyData → Prop} (ha : EvA T ta ρ fun zs => ∃ i, zs = args i ∧ A i) (hp : ∀ i, A i → pre i) (hq : ∀ i y, A i → post i y → R y) (hx : ∀ i c, A i → ¬ xx i c) : EvP T (tCall (Fsp args pre post xx) [] E0 ta) ρ R := fun F0 H0 σ F H e Q q =>
  ha F0 H0 σ F H e _ fun vs F1 H1 ds e1 ⟨i, ed, pd⟩ r => by
    subst ed
    have e2 := e.ext e1
    refine ⟨F1, i, e1.fh, by rw [List.append_nil]; exact r, hp i pd, fun v F' H' y ex py rv => q v F' H' y (e1.trans (ex.wide e2.town)) (hq i y pd py) rv, fun c F' H' ex pc => hx i c pd pc⟩
theorem ev_call (i : ι) (ha : EvA T ta ρ fun zs => zs = args i) (hp : pre i) (hq : ∀ y, post i y → y = z) (hx : ∀ c, ¬ xx i c := by exact fun _ z => z) : Ev T (tCall (Fsp args pre post xx) [] E0 ta) ρ z :=
  (evp_call (A := fun j => j = i) (ha.mono fun zs e => ⟨i, e, rfl⟩) (fun j e => by rw [e]; exact hp) (fun j y e h => by rw [e] at h; exact hq y h) fun j c e => by rw [e]; exact hx c).det
/-- f(..) as a statement, f may raise -/
theorem sm_callX (i : ι) (ha : EvA T ta ρ fun zs => zs = args i) (hp : pre i) (hq : ∀ y, post i y → P.nx ρ) (hx : ∀ c, xx i c → P.xx c ρ) : Sm T W (tDrop (tCallS (Fsp args pre post xx) (WE W) ta)) ρ P := fun F0 H0 σ F H D e k1 k2 k3 k4 k5 =>
  ha F0 H0 σ F H e _ fun vs F1 H1 zs e1 pd r => by
    subst pd
    have e2 := e.ext e1
    exact ⟨F1, i, e1.fh, r, hp, fun v F' H' y ex py rv => k1 _ F' H' _ (e1.ff.trans ex.ff) (e2.ext (ex.wide e2.town)) (hq y py), fun c F' H' ex pc => k5 c σ F' H' ρ (e1.ff.trans ex.ff) (e2.ext (ex.wide e2.town)) (hx c pc)⟩
theorem sm_retX (i : ι) (ha : EvA T ta ρ fun zs => zs = args i) (hp : pre i) (hq : ∀ y, post i y → P.rt y ρ) (hx : ∀ c, xx i c → P.xx c ρ) : Sm T W (tRet (tCallS (Fsp args pre post xx) (WE W) ta)) ρ P := fun F0 H0 σ F H D e k1 k2 k3 k4 k5 =>
  ha F0 H0 σ F H e _ fun vs F1 H1 zs e1 pd r => by
    subst pd
    have e2 := e.ext e1
    exact ⟨F1, i, e1.fh, r, hp, fun v F' H' y ex py rv => k2 v σ F' H' ρ y (e2.ext (ex.wide e2.town)) rv (hq y py), fun c F' H' ex pc => k5 c σ F' H' ρ (e1.ff.trans ex.ff) (e2.ext (ex.wide e2.town)) (hx c pc)⟩
theorem sm_asgX {j : Nat} (i : ι) (ha : EvA T ta ρ fun zs => zs = args i) (hp : pre i) (hq : ∀ y, post i y → P.nx (ρ.set j (.d y))) (hx : ∀ c, xx i c → P.xx c ρ) : Sm T W (tAsg (tCallS (Fsp args pre post xx) (WE W) ta) (gName j)) ρ P := fun F0 H0 σ F H D e k1 k2 k3 k4 k5 =>
  ha F0 H0 σ F H e _ fun vs F1 H1 zs e1 pd r => by
    subst pd
    have e2 := e.ext e1
    exact ⟨F1, i, e1.fh, r, hp, fun v F' H' y ex py rv => k1 _ F' H' _ (e1.ff.trans ex.ff) ((e2.ext (ex.wide e2.town)).setD rv) (hq y py), fun c F' H' ex pc => k5 c σ F' H' ρ (e1.ff.trans ex.ff) (e2.ext (ex.wide e2.town)) (hx c pc)⟩
end
/-! ### raise X() -/
section
variable {X : Cx} {C : Addr} {bmB : List Value} {B newId initId : String}
theorem pmk_own0 {x : Str} {p pos : Pos} (F : ExcBaseFacts B newId initId bmB) (q : PySem.W.excIn X.K C bmB newId = true) (gC : X.mg x = some (.ref C)) (kC : PySem.W.keepIn X.K (.ref C) = true) (r : Raises X (.ref C)) (hg : Gl X x)
    (hdb : (x == ("__debug__" : Str)) = false := by decide) : L2N.PMk X (.Call (.Name x p) [] [] pos) (fun _ H Q => Q (.ref C) none H) := by
  intro pins s σ H Q I h
  refine wpAny_Call_Name_kw (ld_glob I hg gC ?_ hdb)
  refine PySem.W.callWith_K0 I.kIn kC ?_
  show wpAny _ _ (call (.ref C) []) _ _ _
  obtain ⟨bm, N, nm, qn, bs, hdct, sn, sub, ab, col, dd, k0, k1, k2, k3, k5, mN, hC, hN, hni, T⟩ := exc_obj I.kIn q
  refine wpAny_call_exc_subT F T hC hN hni (fun h' e hm => ?_) (Nat.zero_le _)
  exact L2N.mk_of I hm r h (I.hok.gone hm.new)
/-- raise X() -/
theorem sm_raise {T : Tn} {W : WX} {ρ : List Sl} {P : Po} (h : P.xx C ρ) : Sm T W (fun _ σ H => (fun (_ : L2.St) (H : Hp) (Q : XK) => Q (.ref C) none H) σ H fun cls d H' => W cls d σ H') ρ P := fun F0 H0 σ F H D e _ _ _ _ k5 => k5 C σ F H ρ (Same.refl _) e h
end
end Tr

set_option Elab.async false
set_option linter.all false
set_option maxRecDepth 100000
/-! Lay7: the rules with the written part told (K), so that a reading names no state. -/
namespace Tr
open PySem PySem.Spec PyProof.Rows L2 TL
variable [PWc]
section
variable {X : Cx} {k : Nat} {a b e o : Expr} {es : List Expr} {ta tb te to : TE} {t : TA} {pos apos p : Pos}
theorem k_add (K : PySem.W.Frag) (ha : PE X a ta) (hb : PE X b tb) (hK : X.K = K := by rfl) : PE X (.BinOp a .Add b pos) (tOp (rAddU K) ta tb) := by subst hK; exact pe_op op_addU ha hb
theorem k_eq (K : PySem.W.Frag) (hr : Room k X.A) (ha : PE X a ta) (hb : PE X b tb) (hK : X.K = K := by rfl) : PE X (.Compare a [.Eq] [b] pos) (tOp (rEqP K) ta tb) := by subst hK; exact pe_cmpR (op_eqP hr) ha hb (nomark _)
theorem k_ne (K : PySem.W.Frag) (hr : Room k X.A) (ha : PE X a ta) (hb : PE X b tb) (hK : X.K = K := by rfl) : PE X (.Compare a [.NotEq] [b] pos) (tOp (rNeP K) ta tb) := by subst hK; exact pe_cmpR (op_neP hr) ha hb (nomark _)
theorem k_in (K : PySem.W.Frag) (hr : Room k X.A) (ha : PE X a ta) (hb : PE X b tb) (hm : behindInMarks .In b = false := by rfl) (hK : X.K = K := by rfl) : PE X (.Compare a [.In] [b] pos) (tOp (rInU K fun b => b) ta tb) := by subst hK; exact pe_cmpR (op_inU hr) ha hb hm
theorem k_nin (K : PySem.W.Frag) (hr : Room k X.A) (ha : PE X a ta) (hb : PE X b tb) (hm : behindInMarks .NotIn b = false := by rfl) (hK : X.K = K := by rfl) : PE X (.Compare a [.NotIn] [b] pos) (tOp (rInU K fun b => !b) ta tb) := by subst hK; exact pe_cmpR (op_ninU hr) ha hb hm
theorem k_ix (K : PySem.W.Frag) (hr : Room k X.A) (ha : PE X a ta) (hb : PE X b tb) (hs : PlainIx b) (hK : X.K = K := by rfl) : PE X (.Subscript a b pos) (tOp (rIxU K) ta tb) := by subst hK; exact pe_ix (ix_U hr) ha hb hs
theorem k_sl (K : PySem.W.Frag) {lo hi : Option Expr} {tl th : TO} {p2 : Pos} (he : PE X e te) (hl : PO X lo tl) (hu : PO X hi th) (hK : X.K = K := by rfl) : PE X (.Subscript e (.Slice lo hi none p2) pos) (tSl (rSlU K) te tl th) := by subst hK; exact pe_slice sl_U he hl hu
/-- built-in functions by their names -/
theorem k_len (K : PySem.W.Frag) (hg : Gl X "len") (hm : X.mg "len" = none) (ha : PA X [e] t) (he : starEach [e] X.env = (false, eval e X.env) :: starEach [] X.env := by rfl) (hK : X.K = K := by rfl) : PE X (.Call (.Name "len" p) [e] [] pos) (tCB (rLenU K) t) := by subst hK; exact pe_callB call_lenU hg hm PySem.boot_len ha (he := he)
theorem k_all (K : PySem.W.Frag) (hc : X.calm = true) (hg : Gl X "all") (hm : X.mg "all" = none) (ha : PA X [e] t) (he : starEach [e] X.env = (false, eval e X.env) :: starEach [] X.env := by rfl) (hK : X.K = K := by rfl) : PE X (.Call (.Name "all" p) [e] [] pos) (tCB (rAll K) t) := by subst hK; exact pe_callB (cr_all hc) hg hm (by decide +kernel) ha (he := he)
theorem k_any (K : PySem.W.Frag) (hc : X.calm = true) (hg : Gl X "any") (hm : X.mg "any" = none) (ha : PA X [e] t) (he : starEach [e] X.env = (false, eval e X.env) :: starEach [] X.env := by rfl) (hK : X.K = K := by rfl) : PE X (.Call (.Name "any" p) [e] [] pos) (tCB (rAny K) t) := by subst hK; exact pe_callB (cr_any hc) hg hm (by decide +kernel) ha (he := he)
theorem k_max (K : PySem.W.Frag) (hr : Room k X.A) (hg : Gl X "max") (hm : X.mg "max" = none) (ha : PA X [e] t) (he : starEach [e] X.env = (false, eval e X.env) :: starEach [] X.env := by rfl) (hK : X.K = K := by rfl) : PE X (.Call (.Name "max" p) [e] [] pos) (tCB (rMaxP K PySem.W.maxD) t) := by subst hK; exact pe_callB (cr_maxP hr) hg hm (by decide +kernel) ha (he := he)
theorem k_min (K : PySem.W.Frag) (hr : Room k X.A) (hc : X.calm = true) (hg : Gl X "min") (hm : X.mg "min" = none) (ha : PA X (e :: es) t) (he : starEach (e :: es) X.env = (false, eval e X.env) :: starEach es X.env := by rfl) (hpl : (backTo pos (starEach es X.env)).any (·.1) = false := by rfl) (hK : X.K = K := by rfl) : PE X (.Call (.Name "min" p) (e :: es) [] pos) (tCB (rMinU K) t) := by subst hK; exact pe_callB (cr_minU hr hc) hg hm (by decide +kernel) ha (he := he) (hpl := hpl)
theorem k_isi (K : PySem.W.Frag) {T : Str} {TS : String} {p2 : Pos} (hg : Gl X "isinstance") (hm : X.mg "isinstance" = none) (hgT : Gl X T) (hmT : X.mg T = none) (hv : bootBuiltins T = some (.type TS)) (ha : PE X a ta) (hn : T ≠ "__name__" := by decide) (hd : (T == ("__debug__" : Str)) = false := by decide)
    (he : starEach [a, .Name T p2] X.env = (false, eval a X.env) :: starEach [.Name T p2] X.env := by rfl) (hs : starEach [.Name T p2] X.env = (false, eval (.Name T p2) X.env) :: starEach [] X.env := by rfl) (hpl : (backTo pos (starEach [.Name T p2] X.env)).any (·.1) = false := by rfl) (hK : X.K = K := by rfl) :
    PE X (.Call (.Name "isinstance" p) [a, .Name T p2] [] pos) (tCB (rIsi K) (tCons ta (tCons (tC (.ty TS)) tNil))) := by
  subst hK
  exact pe_callB call_isi hg hm (by decide +kernel) (pa_cons ha (pa_cons (pe_bltn hgT hmT hv rfl hn hd) pa_nil hs) he) (he := he) (hpl := hpl)
theorem k_tupOf (K : PySem.W.Frag) (hg : Gl X "tuple") (hm : X.mg "tuple" = none) (ha : PA X [e] t) (he : starEach [e] X.env = (false, eval e X.env) :: starEach [] X.env := by rfl) (hK : X.K = K := by rfl) : PE X (.Call (.Name "tuple" p) [e] [] pos) (tCB (rTupOf K) t) := by subst hK; exact pe_callTy call_tupOf hg hm (by decide +kernel) ha (he := he)
theorem k_dict (K : PySem.W.Frag) (hc : X.calm = true) (hg : Gl X "dict") (hm : X.mg "dict" = none) (ha : PA X [e] t) (he : starEach [e] X.env = (false, eval e X.env) :: starEach [] X.env := by rfl) (hK : X.K = K := by rfl) : PE X (.Call (.Name "dict" p) [e] [] pos) (tCB (rDictU K) t) := by subst hK; exact pe_callTy (call_dictU hc) hg hm (by decide +kernel) ha (he := he)
theorem k_sortD (hc : X.calm = true) (hg : Gl X "sorted") (hm : X.mg "sorted" = none) (ha : PA X [e] t) (he : starEach [e] X.env = (false, eval e X.env) :: starEach [] X.env := by rfl) : PE X (.Call (.Name "sorted" p) [e] [] pos) (tCB rSortD t) := pe_callB (call_sortedD hc) hg hm (by decide +kernel) ha (he := he)
/-- sep.join(xs) -/
def rJoin (K : PySem.W.Frag) : V → List V → Hp → VK → Prop := fun x xs H Q => ∃ a p, ∃ ys : List Str, x = .str a ∧ xs = [.ref p] ∧ (SqL K H p (ys.map V.str) ∨ SqT K H p (ys.map V.str)) ∧ (ys.map (·.length)).sum + ys.length * a.length ≤ 16777216 ∧ Q (.str (Txt.join a ys)) H
theorem k_join (K : PySem.W.Frag) (ho : PE X o to) (he : PE X e te) (hs : starEach [e] X.env = [(false, eval e X.env)] := by rfl) (hbase : attributeBase o "join" X.env (eval o X.env) = eval o X.env := by rfl) (hline : (apos.endLine == pos.line) = true := by rfl) (hK : X.K = K := by rfl) : PE X (.Call (.Attribute o "join" apos) [e] [] pos) (tM1 (rJoin K) to te) := by subst hK; exact pe_join ho he hs hbase hline
def rStarts : V → List V → Hp → VK → Prop := fun x xs H Q => ∃ a b, x = .str a ∧ xs = [.str b] ∧ Q (.bl (Txt.startswith a b)) H
theorem k_starts (ho : PE X o to) (he : PE X e te) (hs : starEach [e] X.env = [(false, eval e X.env)] := by rfl) (hbase : attributeBase o "startswith" X.env (eval o X.env) = eval o X.env := by rfl) (hline : (apos.endLine == pos.line) = true := by rfl) : PE X (.Call (.Attribute o "startswith" apos) [e] [] pos) (tM1 rStarts to te) := pe_m1 PySem.F.slot_str_startswith PySem.F.type_str_startswith mt_startswith ho he (hs := hs) (hbase := hbase) (hline := hline)
/-- what is walked -/
theorem k_il (K : PySem.W.Frag) {tg l : Expr} {tl : TE} (hl : PE X l tl) (hK : X.K = K := by rfl) : PI X tg l (iList K tl) := by subst hK; exact pi_list hl
theorem k_it (K : PySem.W.Frag) {tg l : Expr} {tl : TE} (hl : PE X l tl) (hK : X.K = K := by rfl) : PI X tg l (iTup K tl) := by subst hK; exact pi_tup hl
theorem k_iz (K : PySem.W.Frag) {e2 : Expr} {tpos : Pos} {elts : List Expr} {kk : Nat} (hg : Gl X "zip") (hm : X.mg "zip" = none) (ha : PA X [e, e2] t)
    (hs : starEach [e, e2] X.env = (false, eval e X.env) :: starEach [e2] X.env := by rfl) (hpl : (backTo pos (starEach [e2] X.env)).any (·.1) = false := by rfl) (hK : X.K = K := by rfl) : PI X (.Tuple elts kk tpos) (.Call (.Name "zip" p) [e, e2] [] pos) (iZip K t) := by subst hK; exact pi_zip hg hm ha hs hpl
theorem k_gt (K : PySem.W.Frag) {kk n : Nat} {gs : TGs} (hc : X.calm = true) (h : PGs X es gs) (hn : (assignEach es X.env).length = n := by rfl) (hst : (assignEach es X.env).findIdx? (·.1) = none := by rfl) (hK : X.K = K := by rfl) : PG X (.Tuple es kk pos) (gTup K n gs) := by subst hK; exact pg_tup hc h hn hst
theorem kt_eq (K : PySem.W.Frag) (hr : Room k X.A) (ha : PE X a ta) (hb : PE X b tb) (hK : X.K = K := by rfl) : PT X (.Compare a [.Eq] [b] pos) (tTest (tOp (rEqP K) ta tb)) := by subst hK; exact pt_cmpR (op_eqP hr) ha hb (nomark _)
theorem kt_ne (K : PySem.W.Frag) (hr : Room k X.A) (ha : PE X a ta) (hb : PE X b tb) (hK : X.K = K := by rfl) : PT X (.Compare a [.NotEq] [b] pos) (tTest (tOp (rNeP K) ta tb)) := by subst hK; exact pt_cmpR (op_neP hr) ha hb (nomark _)
theorem kt_in (K : PySem.W.Frag) (hr : Room k X.A) (ha : PE X a ta) (hb : PE X b tb) (hm : behindInMarks .In b = false := by rfl) (hK : X.K = K := by rfl) : PT X (.Compare a [.In] [b] pos) (tTest (tOp (rInU K fun b => b) ta tb)) := by subst hK; exact pt_cmpR (op_inU hr) ha hb hm
theorem kt_nin (K : PySem.W.Frag) (hr : Room k X.A) (ha : PE X a ta) (hb : PE X b tb) (hm : behindInMarks .NotIn b = false := by rfl) (hK : X.K = K := by rfl) : PT X (.Compare a [.NotIn] [b] pos) (tTest (tOp (rInU K fun b => !b) ta tb)) := by subst hK; exact pt_cmpR (op_ninU hr) ha hb hm
/-- a list, a tuple, a text is walked -/
def iAny (K : PySem.W.Frag) (te : TE) : TI := fun σ H R => te σ H fun x H1 => (∃ a, x = .ref a ∧ (∃ xs, SqL K H1 a xs) ∧ R (Itl K a) H1) ∨ (∃ a, x = .ref a ∧ (∃ xs, SqT K H1 a xs) ∧ R (Itt K a) H1) ∨ ∃ z, x = .str z ∧ R (Its z) H1
theorem k_i (K : PySem.W.Frag) {tg l : Expr} {tl : TE} (hl : PE X l tl) (hK : X.K = K := by rfl) : PI X tg l (iAny K tl) := by
  subst hK
  refine ⟨fun pins s σ H R I h => ?_⟩
  refine thn (hl.run pins s σ H _ I h) fun v s1 ⟨x, H1, I1, r1, q1⟩ => ?_
  rcases q1 with ⟨a, e, ⟨xs, hq⟩, q⟩ | ⟨a, e, ⟨xs, hq⟩, q⟩ | ⟨z, e, q⟩
  · subst e
    cases r1
    obtain ⟨its, rv, p, hz⟩ := I1.list hq
    refine wpAny_pyIter_list p.isList ?_
    refine ⟨s1.heap.objs.size, [s1.heap.objs.size], _, _, H1, rfl, I1.kept (t' := s1.toks) fun b o e => Heap.get?_push_of_some _ e, turn_list a _, ⟨_, Heap.get?_push_size _ rfl, rfl, rfl⟩, fun b hb => ?_, q⟩
    have e : b = s1.heap.objs.size := by simpa using hb
    rw [e]
    exact I1.fpOk (Nat.le_refl _) (I1.hok.fresh (Nat.le_refl _))
  · subst e
    cases r1
    obtain ⟨its, rv, p, hz⟩ := I1.tuple hq
    refine wpAny_pyIter_tuple (show s1.heap.IsTuple a its.toArray from p) ?_
    refine ⟨s1.heap.objs.size, [s1.heap.objs.size], _, _, H1, rfl, I1.kept (t' := s1.toks) fun b o e => Heap.get?_push_of_some _ e, turn_tuple a _, ⟨_, Heap.get?_push_size _ rfl, rfl, rfl⟩, fun b hb => ?_, q⟩
    have e : b = s1.heap.objs.size := by simpa using hb
    rw [e]
    exact I1.fpOk (Nat.le_refl _) (I1.hok.fresh (Nat.le_refl _))
  · subst e
    obtain ⟨t, rfl⟩ := r1
    cases ha : z.cps.all (· < 128)
    · exact wpAny_pyIter_wide ha (pi_one (tk := s1.toks) I1 _ (turn_str _ z t "str_iterator" (.inr rfl)) ⟨_, Heap.get?_push_size _ rfl, rfl, rfl⟩ q)
    · exact wpAny_pyIter_ascii ha (pi_one (tk := s1.toks) I1 _ (turn_str _ z t "str_ascii_iterator" (.inl rfl)) ⟨_, Heap.get?_push_size _ rfl, rfl, rfl⟩ q)
end
theorem Ev.cast {T : Tn} {te : TE} {ρ : List Sl} {x y : PyData} (h : Ev T te ρ x) (e : x = y) : Ev T te ρ y := e ▸ h
theorem Wk.mono {T : Tn} {wi : TI} {ρ : List Sl} {P R : List PyData → Prop} (h : Wk T wi ρ P) (p : ∀ xs, P xs → R xs) : Wk T wi ρ R := fun F0 H0 σ F H e q k => h F0 H0 σ F H e q fun J F' H' xs ex px wk => k J F' H' xs ex (p xs px) wk
theorem EvN.mono {T : Tn} {te : TE} {ρ : List Sl} {P P' : List (Key × PyData) → Prop} (h : EvN T te ρ P) (p : ∀ x, P x → P' x) : EvN T te ρ P' := fun F0 H0 σ F H e Q q => h F0 H0 σ F H e Q fun a vs xs F' H' ex n f hv px r => q a vs xs F' H' ex n f hv (p xs px) r
theorem noOwn_of {ρ : List Sl} (h : (ρ.all fun s => !s.own) = true) : ∀ s ∈ ρ, s.own = false := fun s hs => by
  have := List.all_eq_true.mp h s hs
  simpa using this
theorem nb_t {b : Bool} (h : (!b) = true) : b = false := by cases b <;> simp_all
theorem nb_f {b : Bool} (h : (!b) = false) : b = true := by cases b <;> simp_all
/-- go on with the statement behind -/
theorem sm_go {T : Tn} {W : WX} {ρ : List Sl} {P : Po} {u : TS} (h : Sm T W u ρ P) : ({ P with nx := fun r => Sm T W u r P } : Po).nx ρ := h
section
variable {T : Tn} {K : PySem.W.Frag} {ρ : List Sl} {te : TE}
theorem wk_any {P : List PyData → Prop} (h : EvP T te ρ fun d => (∃ xs, d = .list xs ∧ P xs) ∨ (∃ xs, d = .tuple xs ∧ P xs) ∨ ∃ l : List Nat, d = sD l ∧ P (l.map fun c => sD [c])) : Wk T (iAny K te) ρ P := fun F0 H0 σ F H e R k => h F0 H0 σ F H e _ fun v F' H' d ex hd r => by
  rcases hd with ⟨xs, ed, px⟩ | ⟨xs, ed, px⟩ | ⟨l, ed, px⟩
  · subst ed
    obtain ⟨a, vs, rfl, ha, rs⟩ := r.lst_eq
    exact .inl ⟨a, rfl, ⟨vs, SqL.of (ex.fh _ _ ha)⟩, k _ F' H' xs ex px (walks_list ha rs)⟩
  · subst ed
    obtain ⟨a, o, vs, rfl, ha, _, rs⟩ := r.tup_eq
    exact .inr (.inl ⟨a, rfl, ⟨vs, sqT_frz (ex.fh _ _ ha)⟩, k _ F' H' xs ex px (walks_tup ha rs)⟩)
  · subst ed
    exact .inr (.inr ⟨_, r.str_eq, k _ F' H' _ ex px walks_str⟩)
theorem wk_L {xs : List PyData} (h : Ev T te ρ (.list xs)) : Wk T (iAny K te) ρ fun ys => ys = xs := wk_any (h.p (.inl ⟨xs, rfl, rfl⟩))
theorem wk_T {xs : List PyData} (h : Ev T te ρ (.tuple xs)) : Wk T (iAny K te) ρ fun ys => ys = xs := wk_any (h.p (.inr (.inl ⟨xs, rfl, rfl⟩)))
theorem wk_S {l : List Nat} (h : Ev T te ρ (sD l)) : Wk T (iAny K te) ρ fun ys => ys = l.map fun c => sD [c] := wk_any (h.p (.inr (.inr ⟨l, rfl, rfl⟩)))
theorem ev_s {x : Str} {l : List Nat} (h : x = S l) : Ev T (tC (.str x)) ρ (sD l) := by subst h; exact ev_str
theorem ev_joinK {ta tb : TE} {sep : List Nat} {ws : List (List Nat)} (hs : Ev T ta ρ (sD sep)) (ha : Ev T tb ρ (.list (ws.map sD))) (hl : (ws.map (·.length)).sum + ws.length * sep.length ≤ 16777216) : Ev T (tM1 (rJoin K) ta tb) ρ (sD (joinL sep ws)) := ev_join hs ha hl
end
end Tr

set_option Elab.async false
set_option linter.all false
set_option maxRecDepth 100000
/-! Lay8: the law's counter and its script. -/
namespace Tr
open PySem PySem.Spec PyProof.Rows L2 TL
variable [PWc]
section
variable {X : Cx}
def rGetL : V → V → Hp → VK → Prop := fun o i H Q => ∃ p xs k v, o = .ref p ∧ i = .int k ∧ 0 ≤ k ∧ H p = some (.lst xs) ∧ atI xs k = some v ∧ Q v H
theorem get_list : PGet X rGetL := by
  intro pins s σ H o i ov iv Q I ro ri h
  obtain ⟨p, xs, k, z, rfl, rfl, h0, hp, he, q⟩ := h
  cases ro
  obtain ⟨t, rfl⟩ := ri
  obtain ⟨its, r, pl, hz⟩ := I.list (SqL.of hp)
  obtain ⟨j, h1, h2, h3, h4, h5⟩ := atI_get he
  obtain ⟨w, ew, rw'⟩ := r.get h2
  have hl := r.length
  have hn := line63
  have hj : k.toNat = j := by
    rw [seqIndex_of h0 h5] at h1
    exact Option.some.inj h1
  exact wpAny_getItem_list pl.isList h0 (by omega) (by rw [hj]; simpa using ew) ⟨z, H, I, rw', q⟩
end
/-- the law's own counter list: two ints, the first not negative -/
def twI (_ : Addr) (_ : Hp) (o : HO) : Prop := ∃ x y : Int, 0 ≤ x ∧ o = .lst [.int x, .int y]
def Tw (a : Addr) : Tn := ⟨fun b => b = a, twI⟩
abbrev Sl.tw : Sl := .tn twI
/-- a thing that may change is changed -/
theorem Ext.chg {T : Tn} {F H : Hp} {b : Addr} {o : HO} (s : Same F H) (hb : T b) (hf : F b = none) (hi : ∀ F', Same F F' → T.inv b F' o) : Ext T F H F (upd H b o) :=
  ⟨Same.refl _, same_right s hf, fun c o nt e => by
    have : c ≠ b := fun z => nt (z ▸ hb)
    rw [upd_ne this]
    exact e, fun _ _ _ _ e => e, fun _ _ e => e, fun c _ t => by
    by_cases hc : c = b
    · subst hc
      exact ⟨_, upd_same, hi⟩
    · obtain ⟨x', h2, h1⟩ := t
      exact ⟨x', by rw [upd_ne hc]; exact h2, h1⟩⟩
theorem Env.tw2 {T : Tn} {F0 H0 F H : Hp} {σ : L2.St} {ρ : List Sl} {i : Nat} (e : Env T F0 H0 F H σ ρ) (h : ρ[i]? = some .tw) : ∃ a x y, σ[i]? = some (some (.ref a)) ∧ T a ∧ 0 ≤ x ∧ H a = some (.lst [.int x, .int y]) ∧ ∀ (x y : Int), 0 ≤ x → Ext T F H F (upd H a (.lst [.int x, .int y])) := by
  obtain ⟨a, ha, ta, hI⟩ := e.getTn h
  obtain ⟨o, hh, hi⟩ := e.town a ta
  obtain ⟨x, y, hx, rfl⟩ := (hI F o).mp (hi F (Same.refl _))
  exact ⟨a, x, y, ha, ta, hx, hh, fun x y hx => Ext.chg e.le ta (e.tn a ta).1 fun F' _ => (hI F' _).mpr ⟨x, y, hx, rfl⟩⟩
/-- the script: a list of ints that nobody changes -/
def scrP (K : PySem.W.Frag) (ns : List Int) (F : Hp) (v : V) : Prop := ∃ a, v = .ref a ∧ SqL K F a (ns.map V.int)
theorem sqL_mono {K : PySem.W.Frag} {F F' : Hp} {a : Addr} {xs : List V} (s : Same F F') (h : SqL K F a xs) : SqL K F' a xs := h.elim (fun h => .inl (h.elim (fun h => .inl (s _ _ h)) fun ⟨o, h⟩ => .inr ⟨o, s _ _ h⟩)) fun h => .inr h
section
variable {T : Tn} {W : WX} {K : PySem.W.Frag} {ρ : List Sl} {P : Po} {ta tb te : TE} {i : Nat}
/-- an int of which A holds -/
abbrev EvI (T : Tn) (te : TE) (ρ : List Sl) (A : Int → Prop) : Prop := EvP T te ρ fun d => ∃ i, A i ∧ d = .int i
theorem evi_town0 (h : ρ[i]? = some .tw) : EvI T (tOp (rIxU K) (tVar i) (tC (.int 0))) ρ fun n => 0 ≤ n := fun F0 H0 σ F H e Q q => by
  obtain ⟨a, x, y, ha, ta, hx, hh, _⟩ := e.tw2 h
  exact ⟨_, ha, .inl (.inl ⟨a, _, 0, .int x, rfl, rfl, SqL.of hh, rfl, q _ F H _ (Ext.refl e.le) ⟨x, hx, rfl⟩ (.int x)⟩)⟩
theorem evi_town1 (h : ρ[i]? = some .tw) : EvI T (tOp (rIxU K) (tVar i) (tC (.int 1))) ρ fun _ => True := fun F0 H0 σ F H e Q q => by
  obtain ⟨a, x, y, ha, ta, hx, hh, _⟩ := e.tw2 h
  exact ⟨_, ha, .inl (.inl ⟨a, _, 1, .int y, rfl, rfl, SqL.of hh, rfl, q _ F H _ (Ext.refl e.le) ⟨y, trivial, rfl⟩ (.int y)⟩)⟩
theorem sm_town1 {A : Int → Prop} (ht : ρ[i]? = some .tw) (h : EvI T te ρ A) (k : P.nx ρ) : Sm T W (tAsg te (gSub (tVar i) (tC (.int 1)) rSetL)) ρ P := fun F0 H0 σ F H D e k1 _ _ _ _ =>
  h F0 H0 σ F H e _ fun v F1 H1 d e1 ⟨n, _, ed⟩ r => by
    subst ed
    have e2 := e.ext e1
    obtain ⟨a, x, y, ha, ta, hx, hh, put⟩ := e2.tw2 ht
    refine ⟨_, ha, a, _, 1, 1, rfl, rfl, hh, rfl, ?_⟩
    rw [r.int_eq]
    have x2 : Ext T F1 H1 F1 (upd H1 a (.lst [.int x, .int n])) := put x n hx
    exact k1 σ F1 _ ρ e1.ff (e2.ext x2) k
theorem sm_town0 (ht : ρ[i]? = some .tw) (k : P.nx ρ) : Sm T W (tAugS (tVar i) (tC (.int 0)) (tC (.int 1)) rGetL (fun x y H Q => rI0 (fun i j => .int (i + j)) x y H Q ∨ (∃ i j, x = .str i ∧ y = .str j ∧ i.length + j.length ≤ sizeLine ∧ Q (.str (i ++ j)) H)) rSetL) ρ P := fun F0 H0 σ F H D e k1 _ _ _ _ => by
  obtain ⟨a, x, y, ha, ta, hx, hh, put⟩ := e.tw2 ht
  refine ⟨_, ha, a, _, 0, .int x, rfl, rfl, by decide, hh, rfl, .inl ⟨x, 1, rfl, rfl, a, _, 0, 0, rfl, rfl, hh, rfl, ?_⟩⟩
  have x2 : Ext T F H F (upd H a (.lst [.int (x + 1), .int y])) := put _ _ (by omega)
  exact k1 σ F _ ρ (Same.refl _) (e.ext x2) k
/-! ### ints, known by a property -/
theorem evi_var {n : Int} {A : Int → Prop} (h : ρ[i]? = some (.d (.int n))) (a : A n) : EvI T (tVar i) ρ A := (ev_var h).p ⟨n, a, rfl⟩
theorem evi_int {n : Int} {A : Int → Prop} (a : A n) : EvI T (tC (.int n)) ρ A := ev_int.p ⟨n, a, rfl⟩
theorem evi_d {n : Int} {A : Int → Prop} (h : Ev T te ρ (.int n)) (a : A n) : EvI T te ρ A := h.p ⟨n, a, rfl⟩
theorem evi_rI {C : Int → Int → Prop} {g : Int → Int → Int} {A B R : Int → Prop} (ha : EvI T ta ρ A) (hb : EvI T tb ρ B) (hc : ∀ i j, A i → B j → C i j ∧ R (g i j)) : EvI T (tOp (rI C fun i j => .int (g i j)) ta tb) ρ R :=
  evp_op ha hb fun x y ⟨i, ai, ex⟩ ⟨j, bj, ey⟩ => by
    subst ex ey
    exact (rv_I (hc i j ai bj).1 fun F => .int _).p ⟨_, (hc i j ai bj).2, rfl⟩
theorem evi_rI0 {g : Int → Int → Int} {A B R : Int → Prop} (ha : EvI T ta ρ A) (hb : EvI T tb ρ B) (hc : ∀ i j, A i → B j → R (g i j)) : EvI T (tOp (rI0 fun i j => .int (g i j)) ta tb) ρ R :=
  evp_op ha hb fun x y ⟨i, ai, ex⟩ ⟨j, bj, ey⟩ => by
    subst ex ey
    exact (rv_I0 fun F => .int _).p ⟨_, hc i j ai bj, rfl⟩
theorem evi_add {A B R : Int → Prop} (ha : EvI T ta ρ A) (hb : EvI T tb ρ B) (hc : ∀ i j, A i → B j → R (i + j)) : EvI T (tOp (rAddU K) ta tb) ρ R :=
  evp_op ha hb fun x y ⟨i, ai, ex⟩ ⟨j, bj, ey⟩ => by
    subst ex ey
    exact rv_addI.p ⟨_, hc i j ai bj, rfl⟩
theorem ev_I {C : Int → Int → Prop} {g : Int → Int → Int} {n m : Int} (ha : Ev T ta ρ (.int n)) (hb : Ev T tb ρ (.int m)) (hc : C n m) : Ev T (tOp (rI C fun i j => .int (g i j)) ta tb) ρ (.int (g n m)) := ev_op ha hb (rv_I hc fun F => .int _)
theorem eti_cmp {g : Int → Int → Bool} {A B : Int → Prop} {R : Bool → Prop} (ha : EvI T ta ρ A) (hb : EvI T tb ρ B) (hc : ∀ i j, A i → B j → R (g i j)) : EvT T (tTest (tOp (rI0 fun i j => .bl (g i j)) ta tb)) ρ R :=
  et_test (evp_op ha hb fun x y ⟨i, ai, ex⟩ ⟨j, bj, ey⟩ => by
    subst ex ey
    exact (rv_I0 (d := .bool (g i j)) fun F => .bl _).p ⟨_, rfl, hc i j ai bj⟩)
/-! ### the script -/
theorem dpAll_ints {H : Hp} : ∀ ns : List Int, DpAll K H (ns.map V.int) (ns.map PyData.int)
  | [] => .nil
  | n :: ns => .cons (.int n) (dpAll_ints ns)
theorem plain_ints (ns : List Int) : PyData.plainAll (ns.map PyData.int) = true := by
  induction ns with
  | nil => rfl
  | cons a r ih =>
    rw [List.map_cons]
    simp only [PyData.plainAll, ih]
    rfl
theorem et_scrNil {ns : List Int} (h : ρ[i]? = some (.pr (scrP K ns))) : EvT T (tTest (tOp (rEqP K) (tVar i) (tLst tNil))) ρ fun b => b = decide (ns = []) := fun F0 H0 σ F H e Q q => by
  obtain ⟨v, hv, a, rfl, hs⟩ := e.getPr h
  refine ⟨_, hv, Nat.zero_le _, fun p hp => ?_⟩
  refine ⟨.list (ns.map PyData.int), .list [], .lst (sqL_mono (same_new hp) (sqL_mono e.le hs)) (dpAll_ints ns), .lst (SqL.of upd_same) .nil, ?_, rfl, Nat.le_trans (Nat.min_le_right _ _) (by decide), _, rfl, q _ F _ (Ext.new1 e.le hp) ?_⟩
  · simp only [PyData.plain]
    exact plain_ints ns
  · cases ns with
    | nil => rfl
    | cons n r => rfl
theorem ev_scrLen {ns : List Int} (h : ρ[i]? = some (.pr (scrP K ns))) : Ev T (tCB (rLenU K) (tCons (tVar i) tNil)) ρ (.int (ns.length : Nat)) := fun F0 H0 σ F H e Q q => by
  obtain ⟨v, hv, a, rfl, hs⟩ := e.getPr h
  exact ⟨_, hv, .inl ⟨_, ns.length, rfl, .inl ⟨_, sqL_mono e.le hs, by rw [List.length_map]⟩, q _ F H (Ext.refl e.le) (.int _)⟩⟩
theorem ev_scrIx {ns : List Int} {k n : Int} (h : ρ[i]? = some (.pr (scrP K ns))) (hk : Ev T te ρ (.int k)) (ha : atI ns k = some n) : Ev T (tOp (rIxU K) (tVar i) te) ρ (.int n) := fun F0 H0 σ F H e Q q => by
  obtain ⟨v, hv, a, rfl, hs⟩ := e.getPr h
  refine ⟨_, hv, hk F0 H0 σ F H e _ fun u F1 H1 e1 r1 => ?_⟩
  refine .inl (.inl ⟨a, _, k, .int n, rfl, r1.int_eq, sqL_mono e1.fh (sqL_mono e1.ff hs), ?_, q _ F1 H1 e1 (.int n)⟩)
  unfold atI at ha ⊢
  rw [List.length_map]
  cases hx : ixN ns.length k with
  | none =>
    rw [hx] at ha
    cases ha
  | some j =>
    rw [hx] at ha
    show (ns.map V.int)[j]? = _
    rw [List.getElem?_map]
    have ha' : ns[j]? = some n := ha
    rw [ha']
    rfl
end
/-! ### a law's helper: script, town, data -/
def Tsp (K : PySem.W.Frag) {ι : Type} (args : ι → List PyData) (pre : ι → Prop) (post : ι → PyData → Prop) : Sp := fun vs H Q _ => ∃ (F : Hp) (tw sa : Addr) (ns : List Int) (i : ι) (rest : List V), vs = .ref sa :: .ref tw :: rest ∧ Same F H ∧ F tw = none ∧ Town (Tw tw) F H tw ∧ SqL K F sa (ns.map V.int) ∧ RpAll F rest (args i) ∧ pre i ∧
  ∀ v F' H' y, Ext (Tw tw) F H F' H' → post i y → Rp F' v y → Q v H'
def slotsT (K : PySem.W.Frag) (ns : List Int) (N : List Str) (ds : List PyData) : List Sl := .pr (scrP K ns) :: .tw :: (ds.map Sl.d ++ List.replicate (N.length - 2 - ds.length) .un)
theorem env_startT {K : PySem.W.Frag} {F H : Hp} {N : List Str} {vs : List V} {ds : List PyData} {sa tw : Addr} {ns : List Int} (s : Same F H) (ft : F tw = none) (ht : Town (Tw tw) F H tw) (hs : SqL K F sa (ns.map V.int)) (r : RpAll F vs ds) : Env (Tw tw) F H F H (L2.start N (.ref sa :: .ref tw :: vs)) (slotsT K ns N ds) := by
  have e0 : L2.start N (.ref sa :: .ref tw :: vs) = some (.ref sa) :: some (.ref tw) :: (vs.map some ++ List.replicate (N.length - 2 - vs.length) none) := by
    unfold L2.start
    simp only [List.map_cons, List.cons_append, List.length_cons]
    rw [show N.length - (vs.length + 1 + 1) = N.length - 2 - vs.length by omega]
  rw [e0]
  refine ⟨Ext.refl s, fun b hb => by cases (show b = tw from hb); exact ⟨ft, ht⟩, by simp [slotsT, r.length], fun _ => tw, fun i sl hsl => ?_, fun i j s t hs ht os => ?_⟩
  · match i, hsl with
    | 0, hsl =>
      cases hsl
      exact ⟨.ref sa, rfl, fun F' sF => ⟨sa, rfl, sqL_mono sF hs⟩⟩
    | 1, hsl =>
      cases hsl
      exact ⟨rfl, rfl, fun F o => Iff.rfl⟩
    | i + 2, hsl =>
      have hsl' : (ds.map Sl.d ++ List.replicate (N.length - 2 - ds.length) .un)[i]? = some sl := hsl
      show SlOk _ _ _ _ ((vs.map some ++ List.replicate (N.length - 2 - vs.length) none)[i]?).join _ sl
      by_cases hi : i < ds.length
      · rw [List.getElem?_append_left (by rw [List.length_map]; exact hi), List.getElem?_map] at hsl'
        obtain ⟨v, hv, rv⟩ := r.get (List.getElem?_eq_getElem hi)
        rw [List.getElem?_eq_getElem hi] at hsl'
        cases hsl'
        rw [List.getElem?_append_left (by rw [List.length_map, r.length]; exact hi), List.getElem?_map, hv]
        exact ⟨v, rfl, rv⟩
      · rw [List.getElem?_append_right (by rw [List.length_map]; omega)] at hsl'
        have := List.eq_of_mem_replicate (List.mem_of_getElem? hsl')
        subst this
        trivial
  · exfalso
    match i, hs with
    | 0, hs =>
      cases hs
      cases os
    | 1, hs =>
      cases hs
      cases os
    | i + 2, hs =>
      have hs' : (ds.map Sl.d ++ List.replicate (N.length - 2 - ds.length) .un)[i]? = some s := hs
      by_cases hi : i < ds.length
      · rw [List.getElem?_append_left (by rw [List.length_map]; exact hi), List.getElem?_map, List.getElem?_eq_getElem hi] at hs'
        cases hs'
        cases os
      · rw [List.getElem?_append_right (by rw [List.length_map]; omega)] at hs'
        have := List.eq_of_mem_replicate (List.mem_of_getElem? hs')
        subst this
        cases os
section
variable {P : Program} {w : World} {K : PySem.W.Frag} {mg : Str → Option Value} {base : Heap}
theorem cl_tn {x : Str} {st : Stmt} {N ps : List Str} {k : Nat} {ι : Type} {args : ι → List PyData} {pre : ι → Prop} {post : ι → PyData → Prop} (d : Defn K mg x st ps) (sc : FnScope N ps (defScope st)) (hl : ∀ i, (args i).length + 2 = ps.length)
    (hb : ∀ (f : Addr) (cdv : Value) (A : Around) (outer : List PySem.Env) (s : Shared) (H : Hp) (E : XK), Room k (A.deeper (envOfC x (defScope st) s.heap.objs.size f cdv)) →
      ∃ t, PSs (cxOf (L2N.CX P w) P w K mg base N x (defScope st) f cdv A outer s H E) (defBody st) t ∧ ∀ i T ns, pre i → Sm T (fun c d _ H' => E c d H') t (slotsT K ns N (args i)) { nx := fun _ => post i .none, rt := fun y _ => post i y }) : Cl P w K mg base (k + 1) x (Tsp K args pre post) := by
  refine cl_of d sc (fun vs H Q E h => ?_) fun f cdv A outer s H vs Q E hr h => ?_
  · obtain ⟨F, tw, sa, ns, i, rest, rfl, _, _, _, _, r, _⟩ := h
    rw [List.length_cons, List.length_cons, r.length]
    exact hl i
  · obtain ⟨F, tw, sa, ns, i, rest, rfl, sF, ft, ht, hs, r, p, q⟩ := h
    obtain ⟨t, ht', hsm⟩ := hb f cdv A outer s H E hr
    refine ⟨t, ht', ?_⟩
    exact hsm i _ ns p F H _ F H _ (env_startT sF ft ht hs r) (fun σ' F' H' ρ' _ e' pn => q .non F' H' .none e'.ex pn .non) (fun v σ' F' H' ρ' y en rv py => q v F' H' y en.ex py rv) (fun _ _ _ _ _ _ z => z.elim) (fun _ _ _ _ _ _ z => z.elim) fun c σ' F' H' ρ' _ e' pc => pc.elim
end
section
variable {T : Tn} {W : WX} {K : PySem.W.Frag} {ρ : List Sl} {ta : TA} {ι : Type} {args : ι → List PyData} {pre : ι → Prop} {post : ι → PyData → Prop} {i0 i1 : Nat} {ns : List Int}
/-- _law_f(script, town, ..) -/
theorem evp_callT {A : ι → Prop} {R : PyData → Prop} (h0 : ρ[i0]? = some (.pr (scrP K ns))) (h1 : ρ[i1]? = some .tw) (ha : EvA T ta ρ fun zs => ∃ i, zs = args i ∧ A i) (hp : ∀ i, A i → pre i) (hq : ∀ i y, A i → post i y → R y) : EvP T (tCall (Tsp K args pre post) [] E0 (tCons (tVar i0) (tCons (tVar i1) ta))) ρ R := fun F0 H0 σ F H e Q q => by
  obtain ⟨v, hv, a, rfl, hs⟩ := e.getPr h0
  obtain ⟨tw, htw, tT, hI⟩ := e.getTn h1
  refine ⟨_, hv, _, htw, ha F0 H0 σ F H e _ fun vs F1 H1 ds e1 ⟨i, ed, pd⟩ r => ?_⟩
  subst ed
  have e2 := e.ext e1
  exact ⟨F1, tw, a, ns, i, vs, by rw [List.append_nil], e1.fh, (e2.tn tw tT).1, (by obtain ⟨o, h1, h2⟩ := e2.town tw tT; exact ⟨o, h1, fun F' s' => (hI F' o).mp (h2 F' s')⟩), sqL_mono e1.ff hs, r, hp i pd, fun v F' H' y ex py rv => q v F' H' y (e1.trans (ex.wideT (fun b hb => by cases (show b = tw from hb); exact ⟨tT, fun F o => (hI F o).symm⟩) e2.town)) (hq i y pd py) rv⟩
theorem evp_callT1 {R : PyData → Prop} (i : ι) (h0 : ρ[i0]? = some (.pr (scrP K ns))) (h1 : ρ[i1]? = some .tw) (ha : EvA T ta ρ fun zs => zs = args i) (hp : pre i) (hq : ∀ y, post i y → R y) : EvP T (tCall (Tsp K args pre post) [] E0 (tCons (tVar i0) (tCons (tVar i1) ta))) ρ R :=
  evp_callT (A := fun j => j = i) h0 h1 (ha.mono fun zs e => ⟨i, e, rfl⟩) (fun j e => by rw [e]; exact hp) fun j y e h => by rw [e] at h; exact hq y h
end
end Tr

set_option Elab.async false
set_option linter.all false
set_option maxRecDepth 100000
/-! Lay9: list(..), items by chance, comprehensions by chance. -/
namespace Tr
open PySem PySem.Spec PyProof.Rows L2 TL
variable [PWc]
section
variable {X : Cx} {e : Expr} {t : TA} {p pos : Pos}
def rListU (K : PySem.W.Frag) : List V → Hp → VK → Prop := fun xs H Q => (∃ p ys, xs = [.ref p] ∧ (SqL K H p ys ∨ SqT K H p ys) ∧ ∀ l, H l = none → Q (.ref l) (upd H l (.lst ys))) ∨
  ∃ z : Str, xs = [.str z] ∧ z.cps.size ≤ sizeLine ∧ ∀ l, H l = none → Q (.ref l) (upd H l (.lst (z.cps.toList.map fun c => V.str ⟨#[c]⟩)))
theorem call_listS (hc : X.calm = true) : CallR X (.type "list") (fun xs H Q => ∃ z : Str, xs = [.str z] ∧ z.cps.size ≤ sizeLine ∧ ∀ l, H l = none → Q (.ref l) (upd H l (.lst (z.cps.toList.map fun c => V.str ⟨#[c]⟩)))) := by
  intro pins s σ H xs us Q I r h
  obtain ⟨z, rfl, hz, q⟩ := h
  obtain ⟨u, rfl, tk0, rfl⟩ := vals1 r
  refine call_list_str (hn := hz) (I.ok.hd hc) z tk0 fun h' tk acc c kp e items => ?_
  have hl : (z.cps.toList.map fun c => V.str ⟨#[c]⟩).length = acc.toList.length := by
    rw [List.length_map, Array.length_toList, Array.length_toList, items.1]
  have rv : Vals (z.cps.toList.map fun c => V.str ⟨#[c]⟩) acc.toList := vals_of_at hl fun j x u hx hu => by
    obtain ⟨cc, t, h1, h2⟩ := items.2 j u (by simpa using hu)
    rw [List.getElem?_map, Array.getElem?_toList, h1] at hx
    cases hx
    exact ⟨t, h2⟩
  exact ⟨.ref s.heap.objs.size, _, I.laid (t' := tk) kp (Nat.le_refl _) (show ObjOk X.prog X.w _ h' _ (.lst (z.cps.toList.map fun c => V.str ⟨#[c]⟩)) from ⟨by rw [List.length_map, Array.length_toList]; exact hz, acc.toList, c, rv, by simpa using e⟩), rfl, q _ (I.hok.fresh (Nat.le_refl _))⟩
theorem k_list (K : PySem.W.Frag) (hc : X.calm = true) (hg : Gl X "list") (hm : X.mg "list" = none) (ha : PA X [e] t) (he : starEach [e] X.env = (false, eval e X.env) :: starEach [] X.env := by rfl) (hK : X.K = K := by rfl) : PE X (.Call (.Name "list" p) [e] [] pos) (tCB (rListU K) t) := by subst hK; exact pe_callTy (CallR.or call_list_of (call_listS hc)) hg hm (by decide +kernel) ha (he := he)
end
section
variable {T : Tn} {W : WX} {K : PySem.W.Frag} {ρ : List Sl} {P : Po} {ta tb te : TE} {i : Nat} {x y z : PyData}
theorem eo_listS {l : List Nat} (ha : Ev T ta ρ (sD l)) (hl : l.length ≤ sizeLine) : EvO T (tCB (rListU K) (tCons ta tNil)) ρ fun ys => ys = l.map fun c => sD [c] := fun F0 H0 σ F H e Q q =>
  ha F0 H0 σ F H e _ fun v F1 H1 e1 r1 => .inr ⟨S l, by rw [r1.str_eq], by simpa [S] using hl, fun p hp => by
    have e2 := e.ext e1
    refine q p _ (l.map fun c => sD [c]) F1 _ (e1.trans (Ext.new1 e2.le hp)) (freshH e e1 hp) (e2.le.free hp) upd_same rfl ?_
    have : RpAll F1 ((l.map fun c => S [c]).map V.str) ((l.map fun c => S [c]).map PyData.str) := RpAll.of_strs _
    rw [List.map_map, List.map_map] at this
    exact this⟩
theorem eo_listL {xs : List PyData} (ha : Ev T ta ρ (.list xs)) : EvO T (tCB (rListU K) (tCons ta tNil)) ρ fun ys => ys = xs := fun F0 H0 σ F H e Q q =>
  ha F0 H0 σ F H e _ fun v F1 H1 e1 r1 => by
    obtain ⟨a, vs, rfl, hk, r⟩ := r1.lst_eq
    have e2 := e.ext e1
    exact .inl ⟨a, vs, rfl, .inl (SqL.of (e1.fh _ _ hk)), fun p hp => q p _ xs F1 _ (e1.trans (Ext.new1 e2.le hp)) (freshH e e1 hp) (e2.le.free hp) upd_same rfl r⟩
theorem eo_listT {xs : List PyData} (ha : Ev T ta ρ (.tuple xs)) : EvO T (tCB (rListU K) (tCons ta tNil)) ρ fun ys => ys = xs := fun F0 H0 σ F H e Q q =>
  ha F0 H0 σ F H e _ fun v F1 H1 e1 r1 => by
    obtain ⟨a, o, vs, rfl, hk, _, r⟩ := r1.tup_eq
    have e2 := e.ext e1
    exact .inl ⟨a, vs, rfl, .inr (sqT_frz (e1.fh _ _ hk)), fun p hp => q p _ xs F1 _ (e1.trans (Ext.new1 e2.le hp)) (freshH e e1 hp) (e2.le.free hp) upd_same rfl r⟩
/-! ### items -/
/-- what a walk, an index, a pick may give -/
def elemsOf : PyData → List PyData
  | .str x => (tl x).map fun c => sD [c]
  | .list xs => xs
  | .tuple xs => xs
  | _ => []
def SeqD (a : PyData) : Prop := (∃ l : List Nat, a = sD l ∧ l.length ≤ 100000) ∨ (∃ xs, a = .list xs) ∨ ∃ xs, a = .tuple xs
theorem szok {n : Nat} (h : n ≤ 100000) : n ≤ sizeLine := Nat.le_trans h (by decide)
theorem atI_elem {α : Type} {xs : List α} {n : Int} (h0 : 0 ≤ n) (h : n < xs.length) : ∃ x ∈ xs, atI xs n = some x := by
  have hl : n.toNat < xs.length := by omega
  refine ⟨xs[n.toNat], List.getElem_mem hl, ?_⟩
  unfold atI
  have e : ixN xs.length n = some n.toNat := by
    unfold ixN
    rw [if_pos h0, if_pos (by omega)]
  rw [e]
  exact List.getElem?_eq_getElem hl
theorem rvp_ix {a : PyData} {n : Int} (ha : SeqD a) (h0 : 0 ≤ n) (h : n < (elemsOf a).length) : RvP T (rIxU K) a (.int n) fun y => y ∈ elemsOf a := fun F H v u s t rx ry Q q => by
  rcases ha with ⟨l, rfl, hl⟩ | ⟨xs, rfl⟩ | ⟨xs, rfl⟩
  · have h' : n < (l.length : Int) := by
      have e : (elemsOf (sD l)).length = l.length := by show (l.map _).length = _; rw [List.length_map]
      rw [e] at h
      exact h
    obtain ⟨c, hc, hat⟩ := atI_elem h0 h'
    exact .inl (.inr (.inr ⟨S l, n, c, rx.str_eq, ry.int_eq, by rw [S_len]; exact szok hl, hat, q _ F H (sD [c]) (Ext.refl s) (List.mem_map.mpr ⟨c, hc, rfl⟩) (.str _)⟩))
  · obtain ⟨a, vs, rfl, hk, r⟩ := rx.lst_eq
    obtain ⟨c, hc, hat⟩ := atI_elem h0 h
    obtain ⟨w, hw, rw⟩ := atI_of r hat
    exact .inl (.inl ⟨a, vs, n, w, rfl, ry.int_eq, SqL.of (s _ _ hk), hw, q w F H c (Ext.refl s) hc rw⟩)
  · obtain ⟨a, o, vs, rfl, hk, _, r⟩ := rx.tup_eq
    obtain ⟨c, hc, hat⟩ := atI_elem h0 h
    obtain ⟨w, hw, rw⟩ := atI_of r hat
    exact .inl (.inr (.inl ⟨a, vs, n, w, rfl, ry.int_eq, sqT_frz (s _ _ hk), hw, q w F H c (Ext.refl s) hc rw⟩))
theorem ev_lenA {a : PyData} (ha : SeqD a) (h : Ev T ta ρ a) : Ev T (tCB (rLenU K) (tCons ta tNil)) ρ (.int ((elemsOf a).length : Nat)) := by
  rcases ha with ⟨l, rfl, hl⟩ | ⟨xs, rfl⟩ | ⟨xs, rfl⟩
  · have := ev_lenS (K := K) h (szok hl)
    have e : (elemsOf (sD l)).length = l.length := by show (l.map _).length = _; rw [List.length_map]
    rw [e]
    exact this
  · exact ev_lenL h
  · exact ev_lenT h
/-! ### joins by chance -/
theorem evp_join {sep : List Nat} {A : List (List Nat) → Prop} (hs : Ev T ta ρ (sD sep)) (ha : EvP T tb ρ fun d => ∃ ws : List (List Nat), d = .list (ws.map sD) ∧ A ws) (hl : ∀ ws : List (List Nat), A ws → (ws.map (·.length)).sum + ws.length * sep.length ≤ 16777216) : EvP T (tM1 (rJoin K) ta tb) ρ fun d => ∃ ws, d = sD (joinL sep ws) ∧ A ws := fun F0 H0 σ F H e Q q =>
  hs F0 H0 σ F H e _ fun v F1 H1 e1 r1 => ⟨⟨_, r1.str_eq⟩, ha F0 H0 σ F1 H1 (e.ext e1) _ fun u F2 H2 d e2 ⟨ws, ed, aw⟩ r2 => by
    subst ed
    obtain ⟨p, vs, rfl, hk, r⟩ := r2.lst_eq
    have em : (ws.map sD) = ((ws.map S).map PyData.str) := by rw [List.map_map]; rfl
    rw [em] at r
    refine ⟨S sep, p, ws.map S, r1.str_eq, rfl, .inl (SqL.of (by rw [← r.strs]; exact e2.fh _ _ hk)), ?_, ?_⟩
    · rw [List.map_map, List.length_map, S_len]
      have : (fun x : Str => x.length) ∘ S = fun l : List Nat => l.length := by funext l; exact S_len l
      rw [this]
      exact hl ws aw
    · have ej : Txt.join (S sep) (ws.map S) = S (joinL sep ws) := by
        rw [join_eq]
        apply ext_tl
        rw [tl_join, List.map_map]
        have : tl ∘ S = id := rfl
        rw [this, List.map_id]
      rw [ej]
      exact q _ F2 H2 _ (e1.trans e2) ⟨ws, rfl, aw⟩ (.str _)⟩
end
/-! ### comprehensions by chance -/
/-- what is walked is one of many; each turn is told -/
theorem eo_lcS {T : Tn} {ρ : List Sl} {wi : TI} {g : TG} {te : TE} {vs : List Nat} {α : Type} {A : List α → Prop} {h : α → PyData} {f : List α → α → PyData} {r : α → List Sl} (hw : Wk T wi ρ fun xs => ∃ as, A as ∧ xs = as.map h) (hl : ∀ as, A as → as.length < sizeLine)
    (hg : ∀ a, TgW T g vs (h a) (wipeR ρ vs) (r a)) (he : ∀ as, A as → ∀ a ∈ as, Ev T te (r a) (f as a)) :
    EvO T (tLc wi g tYes te vs) ρ fun ys => ∃ as, A as ∧ ys = as.map (f as) := by
  refine eo_lcI hw fun xs ⟨as, aas, ex⟩ => ⟨by rw [ex, List.length_map]; exact hl as aas, fun i acc => acc = (as.take i).map (f as), by simp, fun i acc e => ?_, fun i x acc hx e => ?_, fun acc e => ⟨as, aas, ?_⟩⟩
  · rw [e, List.length_map, List.length_take]
    exact Nat.min_le_left _ _
  · subst ex
    rw [List.getElem?_map] at hx
    cases ha : as[i]? with
    | none =>
      rw [ha] at hx
      cases hx
    | some a =>
      rw [ha] at hx
      cases hx
      have hm : a ∈ as := List.mem_of_getElem? ha
      have ht1 : as.take (i + 1) = as.take i ++ [a] := by rw [List.take_add_one, ha]; rfl
      refine ⟨r a, fun b => b = true, fun y => y = f as a, hg a, et_yes, fun _ => (he as aas a hm).p rfl, fun _ y hy => ?_, fun hb => nomatch hb⟩
      show acc ++ [y] = _
      rw [ht1, List.map_append, e, hy]
      rfl
  · subst ex
    rw [List.length_map, List.take_length] at e
    exact e
/-- things as, each gives some data that R allows -/
theorem eo_lcR {T : Tn} {ρ : List Sl} {wi : TI} {g : TG} {te : TE} {vs : List Nat} {α : Type} {as : List α} {h : α → PyData} {R : α → PyData → Prop} {r : α → List Sl} (hw : Wk T wi ρ fun xs => xs = as.map h) (hl : as.length < sizeLine)
    (hg : ∀ a ∈ as, TgW T g vs (h a) (wipeR ρ vs) (r a)) (he : ∀ a ∈ as, EvP T te (r a) (R a)) :
    EvO T (tLc wi g tYes te vs) ρ fun ys => Paired R as ys := by
  have snoc : ∀ {as : List α} {ys : List PyData} {a : α} {y : PyData}, Paired R as ys → R a y → Paired R (as ++ [a]) (ys ++ [y]) := fun {as ys a y} hp hr => by
    induction hp with
    | nil => exact .cons hr .nil
    | cons h t ih => exact .cons h ih
  have len : ∀ {as : List α} {ys : List PyData}, Paired R as ys → ys.length = as.length := fun {as ys} hp => by
    induction hp with
    | nil => rfl
    | cons h t ih => rw [List.length_cons, List.length_cons, ih]
  refine eo_lcI hw fun xs ex => ⟨by rw [ex, List.length_map]; exact hl, fun i acc => Paired R (as.take i) acc, .nil, fun i acc e => ?_, fun i x acc hx e => ?_, fun acc e => ?_⟩
  · rw [len e, List.length_take]
    exact Nat.min_le_left _ _
  · subst ex
    rw [List.getElem?_map] at hx
    cases ha : as[i]? with
    | none =>
      rw [ha] at hx
      cases hx
    | some a =>
      rw [ha] at hx
      cases hx
      have hm : a ∈ as := List.mem_of_getElem? ha
      have ht1 : as.take (i + 1) = as.take i ++ [a] := by rw [List.take_add_one, ha]; rfl
      refine ⟨r a, fun b => b = true, R a, hg a hm, et_yes, fun _ => he a hm, fun _ y hy => ?_, fun hb => nomatch hb⟩
      show Paired R (as.take (i + 1)) _
      rw [ht1]
      exact snoc e hy
  · subst ex
    have e' : Paired R (as.take (as.map h).length) acc := e
    rw [List.length_map, List.take_length] at e'
    exact e'
section
variable {T : Tn} {W : WX} {ρ : List Sl} {P : Po} {te tb : TE} {i : Nat}
/-- d[key] = value, both by chance -/
theorem sm_dputP {ds : List (Key × PyData)} {A : PyData → Prop} {B : Key → Prop} (hs : ρ[i]? = some (.od ds)) (hv : EvP T te ρ A) (hk : EvP T tb ρ fun d => ∃ k, B k ∧ d = kD k) (hl : ds.length < sizeLine) (q : ∀ x k, A x → B k → P.nx (ρ.set i (.od (putD ds k x)))) : Sm T W (sDPut (tVar i) tb te) ρ P := fun F0 H0 σ F H D e k1 _ _ _ _ => by
  refine hv F0 H0 σ F H e _ fun v F1 H1 x e1 ax r1 => ?_
  obtain ⟨a, vs, hσ, ha, r, _⟩ := (e.ext e1).writeD hs
  refine ⟨.ref a, hσ, hk F0 H0 σ F1 H1 (e.ext e1) _ fun u F2 H2 d e2 ⟨k, bk, ed⟩ r2 => ?_⟩
  subst ed
  obtain ⟨a', vs', hσ', ha', r', wr⟩ := ((e.ext e1).ext e2).writeD hs
  have ea : a' = a := by
    rw [hσ] at hσ'
    exact (V.ref.inj (Option.some.inj (Option.some.inj hσ'))).symm
  subst ea
  refine ⟨a', _, rfl, ?_, k1 _ F2 _ _ (e1.ff.trans e2.ff) (wr _ _ (r'.put (k := k) (r1.mono e2.ff))) (q x k ax bk)⟩
  rw [kV_kD r2]
  exact DPut.k ha' (by rw [r'.length]; exact hl)
/-! ### a, b = x, y with a new list -/
theorem sm_parDO {i j : Nat} {ta tb : TE} {x : PyData} {R : List PyData → Prop} (h1 : Ev T ta ρ x) (h2 : EvO T tb ρ R) (k : ∀ ys, R ys → P.nx ((ρ.set i (.d x)).set j (.ol ys))) : Sm T W (tPar i j (tCons ta (tCons tb tNil))) ρ P := fun F0 H0 σ F H D e k1 _ _ _ _ =>
  h1 F0 H0 σ F H e _ fun v F1 H1 e1 r1 => h2 F0 H0 σ F1 H1 (e.ext e1) _ fun a vs xs F2 H2 e2 n f hv px r => ⟨_, _, rfl, k1 _ F2 H2 _ (e1.ff.trans e2.ff) (((e.ext e1).setD r1).newL e2 n f hv r) (k xs px)⟩
theorem sm_parOD {i j : Nat} {ta tb : TE} {x : PyData} {R : List PyData → Prop} (h1 : EvO T ta ρ R) (h2 : Ev T tb ρ x) (k : ∀ ys, R ys → P.nx ((ρ.set i (.ol ys)).set j (.d x))) : Sm T W (tPar i j (tCons ta (tCons tb tNil))) ρ P := fun F0 H0 σ F H D e k1 _ _ _ _ =>
  h1 F0 H0 σ F H e _ fun a vs xs F1 H1 e1 n f hv px r => h2 F0 H0 σ F1 H1 (e.ext e1) _ fun v F2 H2 e2 r2 => ⟨_, _, rfl, k1 _ F2 H2 _ (e1.ff.trans e2.ff) (((e.newL (i := i) e1 n f hv r).ext e2).setD r2) (k xs px)⟩
/-- the same through a tuple that is laid -/
theorem sm_tupDO {K : PySem.W.Frag} {i j : Nat} {ta tb : TE} {x : PyData} {R : List PyData → Prop} (h1 : Ev T ta ρ x) (h2 : EvO T tb ρ R) (k : ∀ ys, R ys → P.nx ((ρ.set i (.d x)).set j (.ol ys))) : Sm T W (tAsg (tTupF (tCons ta (tCons tb tNil))) (gTup K 2 (gCons (gName i) (gCons (gName j) gNil)))) ρ P := fun F0 H0 σ F H D e k1 _ _ _ _ =>
  h1 F0 H0 σ F H e _ fun v F1 H1 e1 r1 => h2 F0 H0 σ F1 H1 (e.ext e1) _ fun a vs xs F2 H2 e2 n f hv px r => by
    refine ⟨szok (by simp), fun p o hp ho => ⟨p, [v, .ref a], rfl, sqT_frz upd_same, rfl, _, _, rfl, _, _, rfl, rfl, ?_⟩⟩
    have e3 : Env T F0 H0 F2 H2 ((σ.set i (some v)).set j (some (.ref a))) ((ρ.set i (.d x)).set j (.ol xs)) := ((e.ext e1).setD r1).newL e2 n f hv r
    exact k1 _ F2 _ _ (e1.ff.trans e2.ff) (e3.ext (Ext.new1 e3.le hp)) (k xs px)
/-! ### try: .. except X: .. -/
theorem sm_try {K : PySem.W.Frag} {C : Addr} {tb : WX → TS} {ts : Addr → Value → Option Addr → TS} {Wout : WX} {X : Addr → List Sl → Prop} (hb : ∀ W', Sm T W' (tb W') ρ { P with xx := X }) (hs : ∀ c r, X c r → ∃ b, PySem.W.exmOne K (.ref c) (.ref C) = some b ∧ (b = true → ∀ a, Sm T Wout (ts a (.ref c) none) r { rt := P.rt }) ∧ (b = false → P.xx c r)) :
    Sm T Wout (fun D σ H => tb (wOnly K (.ref C) ts Wout D) D σ H) ρ P := fun F0 H0 σ F H D e k1 k2 k3 k4 k5 => by
  refine hb _ F0 H0 σ F H D e k1 k2 k3 k4 fun c σ' F' H' ρ' s' e' pc => ?_
  obtain ⟨b, h1, h2, h3⟩ := hs c ρ' pc
  exact ⟨b, h1, fun hbt a _ => h2 hbt a F0 H0 σ' F' H' D e' (fun _ _ _ _ _ _ z => z.elim) k2 (fun _ _ _ _ _ _ z => z.elim) (fun _ _ _ _ _ _ z => z.elim) fun _ _ _ _ _ _ _ z => z.elim, fun hbf => k5 c σ' F' H' ρ' s' e' (h3 hbf)⟩
/-! ### startswith -/
theorem starts_S (a b : List Nat) : Txt.startswith (S a) (S b) = decide (a.take b.length = b) := by
  unfold Txt.startswith
  have e : Builtin.Str.subAt (S a) (S b) 0 = decide (a.take b.length = b) := by
    rw [StrLaws.subAt_eq, S_len]
    show (a.take b.length == b) = _
    by_cases h : a.take b.length = b
    · rw [decide_eq_true h, h]
      exact beq_self_eq_true _
    · rw [decide_eq_false h]
      exact beq_eq_false_iff_ne.mpr h
  rw [e, S_len, S_len, Nat.zero_add]
  by_cases h : a.take b.length = b
  · have : b.length ≤ a.length := by
      have := congrArg List.length h
      rw [List.length_take] at this
      omega
    rw [decide_eq_true h, decide_eq_true this]
    rfl
  · rw [decide_eq_false h, Bool.and_false]
theorem ev_starts {ta tb : TE} {a b : List Nat} (ha : Ev T ta ρ (sD a)) (hb : Ev T tb ρ (sD b)) : Ev T (tM1 rStarts ta tb) ρ (.bool (decide (a.take b.length = b))) := fun F0 H0 σ F H e Q q =>
  ha F0 H0 σ F H e _ fun v F1 H1 e1 r1 => ⟨⟨_, r1.str_eq⟩, hb F0 H0 σ F1 H1 (e.ext e1) _ fun u F2 H2 e2 r2 => ⟨S a, S b, r1.str_eq, by rw [r2.str_eq], by rw [starts_S]; exact q _ F2 H2 (e1.trans e2) (.bl _)⟩⟩
end
end Tr

set_option Elab.async false
set_option linter.all false
set_option maxRecDepth 100000
/-! Lay10: a def that is handed the error which is handled; isinstance of it; a list of defs, one of them called. -/
namespace Tr
open PySem PySem.Spec PyProof.Rows L2 TL
variable [PWc]
/-! ### a def called with the handled error -/
structure FnP (P : Program) (w : World) (K : PySem.W.Frag) (mg : Str → Option Value) (base : Heap) (k : Nat) (f : Addr) (fd : FuncData) (ps : List Str) (sp : Addr × Obj → Sp) : Prop where
  ln : ∀ p vs H Q E, sp p vs H Q E → vs.length = ps.length
  go : ∀ (A : Around) (outer : List PySem.Env) (s : Shared) (H : Hp) (us : List Value) (vs : List V) (Q : VK) (E : XK) (p : Addr × Obj),
    L2H.RoomH k A → L2H.Hot1 A p → L2H.PinOk outer H s p → Env0 P w K mg base A outer s H → BindsTo s fd ⟨us, []⟩ (ps.zip us) → Vals vs us → sp p vs H Q E →
    codeAny (model P w) A (.call (.ref f) ⟨us, []⟩) (CR L2.CX0 outer P w H s Q E) s
section
variable {P : Program} {w : World} {K : PySem.W.Frag} {mg : Str → Option Value} {base : Heap}
theorem fnP_of {x : Str} {pa : Arguments} {bd : List Stmt} {sc : Scope} {f : Addr} {fd : FuncData} {N ps : List Str} {k : Nat} {sp : Addr × Obj → Sp} (F : FunD K x x pa bd sc [] [] f fd) (S : FnScope N ps sc)
    (ln : ∀ p vs H Q E, sp p vs H Q E → vs.length = ps.length)
    (hb : ∀ (cdv : Value) (A : Around) (outer : List PySem.Env) (s : Shared) (H : Hp) (vs : List V) (Q : VK) (E : XK) (p : Addr × Obj), L2H.Hot1 A p → L2H.RoomH k (A.deeper (envOfC x sc s.heap.objs.size f cdv)) → sp p vs H Q E →
      ∃ t, PSs (L2H.cxH L2.CX0 P w K mg base N x sc f cdv A outer s H E p) bd t ∧ t { nx := fun _ H' => Q .non H', rt := Q } (L2.start N vs) H) : FnP P w K mg base (k + 1) f fd ps sp := by
  obtain ⟨oc, od, dV, kV, doc, pm, an, cdv, ct, osl, ef, look0, code0, _, _⟩ := F.ex
  subst ef
  refine ⟨ln, ?_⟩
  intro A outer s H us vs Q E p room hot pin env0 binds rel hsp
  have hlen := ln p vs H Q E hsp
  have kin : K.In s.heap := env0.mod.kin.keeps fun b o e => (env0.bs b o e).1
  have nolim : s.heap.NoLimit := env0.mod.nolimit.keeps fun b o e => (env0.bs b o e).1
  have kinds : ∀ y ∈ ps.zip us, sc.names.lookup y.1 = some .local ∨ (sc.names.lookup y.1 = some .cell ∧ ((cellsFrom (s.heap.objs.size + 1) sc.names []).lookup y.1).isSome = true) := by
    rintro ⟨n, v⟩ hy
    rcases S.par n (List.of_mem_zip hy).1 with q | q
    · exact Or.inl q
    · exact Or.inr ⟨q, PySem.W.cellsFrom_some _ _ _ (Or.inl q)⟩
  apply codeAny_call_function room.depth (kin _ _ look0) rfl S.co S.gen rfl (PySem.W.codeRec_of kin code0)
  apply binds
  apply wpAny_newFunctionEnv_cells S.kind kinds
  intro env henv s1 inC
  subst henv
  refine ⟨nolim.keeps inC.toInCall.keep, ?_⟩
  apply codeAny_func
  obtain ⟨t, dt, ht⟩ := hb cdv A outer s H vs Q E p hot (room.deeper _) hsp
  have start := L2H.inv_startH (CX := L2.CX0) (E := E) S pin env0 hlen rel inC
  refine wpAny_mono (dt.run [] s1 (L2.start N vs) H _ start ht) ?_ fun e s' hs => hs
  intro fl s' hs
  cases fl with
  | ret u =>
    obtain ⟨v, σ', H', J, rv, q⟩ := hs
    exact ⟨v, H', J.os, J.bare, J.base, J.hok, rv, q⟩
  | next =>
    obtain ⟨σ', H', J, q⟩ := hs
    exact ⟨V.non, H', J.os, J.bare, J.base, J.hok, rfl, q⟩
  | brk =>
    obtain ⟨σ', H', J, q⟩ := hs
    cases q
  | cont =>
    obtain ⟨σ', H', J, q⟩ := hs
    cases q
end
section
variable {X : Cx} {k : Nat} {f : Addr} {fd : FuncData} {ps : List Str} {sp : Addr × Obj → Sp} {x : Str} {q pos : Pos} {e : Expr} {es : List Expr} {t : TA} {p : Addr × Obj}
/-- f(error), in the clause that holds the error p -/
theorem pe_callP (F : FnP X.prog X.w X.K X.mg X.base k f fd ps sp) (room : L2H.RoomH k X.A) (hot : L2H.Hot1 X.A p) (hp : p ∈ X.pn) (hg : Gl X x) (hm : X.mg x = some (.ref f)) (hk : PySem.W.keepIn X.K (.ref f) = true) (hb : Binds X.K fd ps [])
    (ha : PA X (e :: es) t) (hdb : (x == ("__debug__" : Str)) = false := by decide) (he : starEach (e :: es) X.env = (false, eval e X.env) :: starEach es X.env := by rfl) (hpl : (backTo pos (starEach es X.env)).any (·.1) = false := by rfl) :
    PE X (.Call (.Name x q) (e :: es) [] pos) (tCallS (sp p) (fun _ => E0) t) := by
  refine ⟨fun pins s σ H Q I h => ?_⟩
  apply wpAny_Call_Name_kw
  refine ld_glob I hg hm ?_ hdb
  refine PySem.W.callWith_K (h₀ := X.base) I.ok.mod.kin hk (thn (ha.run pos pins s σ H _ I h) fun us s2 ⟨vs, H2, I2, r, hq⟩ => ⟨I2.kIn, ?_⟩) he hpl
  show wpAny _ _ (call (.ref f) us) _ _ _
  have hl : us.length = ps.length := by rw [← r.length]; exact F.ln p _ _ _ _ hq
  have b := hb s2 us I2.kIn (by rw [List.append_nil]; exact hl)
  rw [List.append_nil] at b
  have pn := I2.pin p (List.mem_append_left _ hp)
  have pin : L2H.PinOk X.stack H2 s2 p := ⟨pn.1, pn.2.1, fun hm => (List.mem_cons.mp (I2.stkSub p.1 hm)).elim pn.2.2.1 pn.2.2.2.1, pn.2.2.2.2⟩
  refine wpAny_call (codeAny_mono (F.go X.A X.stack s2 H2 us vs Q E0 p room hot pin I2.env0 b r hq) ?_)
  intro res s' hr
  match res, hr with
  | .error e, hr => exact False.elim hr
  | .ok (.ret u), hr => exact I2.after hr
/-- isinstance(error, c) -/
theorem call_isP {a D : Addr} {oe : Obj} (C : ExcC X.K D) (hz : Zc (.ref D) none oe) (hf : ∃ vs, oe.data = .fields vs) (hp : (a, oe) ∈ X.pn) : CallR X (.builtin "isinstance") (rIsE X.K D a) := by
  intro pins s σ H xs us Q I r h
  obtain ⟨c, cv, b, rfl, hcv, ek, q⟩ := h
  match us, r with
  | [u1, u2], .cons rx (.cons rt .nil) =>
    cases rx
    have ec := hcv _ rt
    subst ec
    have at0 := (I.pin (a, oe) (List.mem_append_left _ hp)).1
    have inst : PySem.W.InstAt s.heap a oe D none := by
      obtain ⟨vs, hv⟩ := hf
      obtain ⟨h1, h2⟩ := hz
      cases oe
      dsimp only at h1 h2 hv
      subst h1 h2 hv
      exact ⟨at0, rfl, rfl, trivial⟩
    refine PySem.W.kia_one (PySem.W.handS_kitx_exc C.hg C.hk C.hs C.hd C.ha C.hn C.ht C.hm) I.kIn inst ek (by intro z; cases z) ?_
    intro tk
    exact ⟨.bl b, H, I.kept (t' := tk) fun _ _ z => z, rfl, q⟩
/-- xs.count(b) of bools -/
def rCntB (K : PySem.W.Frag) : V → List V → Hp → VK → Prop := fun x xs H Q => ∃ (p : Addr) (bs : List Bool) (b : Bool), x = .ref p ∧ xs = [.bl b] ∧ SqL K H p (bs.map V.bl) ∧ Q (.int (bs.count b : Nat)) H
theorem cnt_bools {b : Bool} : ∀ {us : List Value} {bs : List Bool}, Vals (bs.map V.bl) us → us.countP (eqU (.bl b)) = bs.count b
  | [], [], _ => rfl
  | [], b' :: bs, h => by cases h
  | u :: us, [], h => by cases h
  | u :: us, c :: bs, h => by
    cases h with
    | cons r t =>
      have e1 : eqU (.bl b) u = (c == b) := by
        rw [eqU_of r rfl]
        cases b <;> cases c <;> rfl
      rw [List.countP_cons, List.count_cons, cnt_bools t, e1]
theorem flat_bools (bs : List Bool) : (bs.map V.bl).all flatV = true := by
  rw [List.all_map, List.all_eq_true]
  intro b _
  rfl
theorem mt_countB : MtR X "list.count" (rCntB X.K) := by
  intro pins s σ H x xs v us Q I rx rxs h
  obtain ⟨p, bs, b, rfl, rfl, hs, hq⟩ := h
  cases rx
  obtain ⟨u, eu, ru⟩ := rxs.one
  subst eu
  obtain ⟨its, rv, ⟨⟨cls, dd, data, sl⟩, n, hob, hcl, _, hda⟩, _⟩ := I.list hs
  dsimp only at hcl hda
  subst hcl hda
  refine call_meets PySem.F.slot_list_count ⟨_, hob, rfl⟩ PySem.F.entry_list_count (PySem.F.args_list_count_2 _ _) (SeqAt.list_countAt p its.toArray n dd sl u (eqU (.bl b))) ⟨hob, fun y hy => mem_eqAt ru rfl rv (flat_bools bs) y (by simpa using hy), ?_⟩
  refine ⟨.int (bs.count b : Nat), H, I.tok _, ⟨s.toks, ?_⟩, hq⟩
  have ec : its.toArray.toList.countP (eqU (.bl b)) = bs.count b := cnt_bools (by simpa using rv)
  show Value.int ((its.toArray.toList.countP (eqU (.bl b)) : Nat) : Int) s.toks = _
  rw [ec]
/-! ### one of a list of defs, called -/
def tRefs : List Addr → TA
  | [] => tNil
  | f :: fs => tCons (tC (.ref f)) (tRefs fs)
/-- tf gives a def, which is called -/
def tCallE (tf : TE) (R : Addr → Sp → Prop) (E : L2.St → XK) (t : TA) : TE := fun σ H Q => tf σ H fun v H1 => ∃ g sp, v = .ref g ∧ R g sp ∧ t σ H1 fun vs H2 => sp vs H2 Q (E σ)
theorem pe_callE {W : WX} {fe : Expr} {tf : TE} {R : Addr → Sp → Prop} {j : Nat} (hf : PE X fe tf) (tk : L2N.Takes X W) (hr : Room j X.A)
    (hR : ∀ g sp, R g sp → ∃ k fd ps, FnOk X.prog X.w X.K X.mg X.base (L2N.CX X.prog X.w) k g fd ps sp ∧ k ≤ j ∧ PySem.W.keepIn X.K (.ref g) = true ∧ Binds X.K fd ps []) (ha : PA X (e :: es) t)
    (harm : eval (.Call fe (e :: es) [] pos) X.env = (do callWith pos (← eval fe X.env) [] (backTo pos (starEach (e :: es) X.env)) (backToKw pos (keywordEach [] X.env))) := by rfl) (he : starEach (e :: es) X.env = (false, eval e X.env) :: starEach es X.env := by rfl) (hpl : (backTo pos (starEach es X.env)).any (·.1) = false := by rfl) :
    PE X (.Call fe (e :: es) [] pos) (tCallE tf R (WE W) t) := by
  refine ⟨fun pins s σ H Q I h => ?_⟩
  rw [harm]
  refine wpAny_bind (thn (hf.run pins s σ H _ I h) fun u s1 ⟨v, H1, I1, r1, g, sp, ev, hRg, hq⟩ => ?_)
  subst ev
  cases r1
  obtain ⟨k, fd, ps, F, hk, kp, b⟩ := hR g sp hRg
  refine PySem.W.callWith_K (h₀ := X.base) I1.ok.mod.kin kp (thn (ha.run pos pins s1 σ H1 _ I1 hq) fun us s2 ⟨vs, H2, I2, r, q2⟩ => ⟨I2.kIn, ?_⟩) he hpl
  exact run_fnS F (hr.mono hk) b (L2N.passAt tk σ) I2 r q2
end
section
variable {T : Tn} {W : WX} {K : PySem.W.Frag} {ρ : List Sl} {P : Po} {ta : TA} {te : TE} {ι : Type} {args : ι → List PyData} {pre : ι → Prop} {post : ι → PyData → Prop} {xx : ι → Addr → Prop}
theorem refs_run {σ : L2.St} {H : Hp} : ∀ (fs : List Addr) (Q : List V → Hp → Prop), Q (fs.map V.ref) H → tRefs fs σ H Q
  | [], Q, h => h
  | f :: fs, Q, h => refs_run fs (fun vs H' => Q (.ref f :: vs) H') h
/-- [f, g, ..][what](..) is returned -/
theorem sm_retE {fs : List Addr} {R : Addr → Sp → Prop} {n : Nat} {g : Addr} (i : ι) (hw : Ev T te ρ (.int (n : Nat))) (hn : fs[n]? = some g) (hl : fs.length ≤ 100000) (hR : R g (Fsp args pre post xx)) (ha : EvA T ta ρ fun zs => zs = args i) (hp : pre i) (hq : ∀ y, post i y → P.rt y ρ) (hx : ∀ c, xx i c → P.xx c ρ) :
    Sm T W (tRet (tCallE (tOp (rIxU K) (tLst (tRefs fs)) te) R (WE W) ta)) ρ P := fun F0 H0 σ F H D e k1 k2 k3 k4 k5 => by
  refine refs_run fs _ ⟨by rw [List.length_map]; exact szok hl, fun p hp0 => ?_⟩
  have x1 : Ext T F H F (upd H p (.lst (fs.map V.ref))) := Ext.new1 e.le hp0
  have e1 := e.ext x1
  refine hw F0 H0 σ F _ e1 _ fun v F2 H2 x2 r2 => ?_
  have e2 := e1.ext x2
  have nT : ¬ T p := fun t => by
    obtain ⟨_, z, _⟩ := e.town p t
    rw [hp0] at z
    cases z
  have hlst : H2 p = some (.lst (fs.map V.ref)) := x2.hh p _ nT upd_same
  have hat : atI (fs.map V.ref) (n : Nat) = some (.ref g) := by
    have hlt := (List.getElem?_eq_some_iff.mp hn).1
    unfold atI
    have ei : ixN (fs.map V.ref).length (n : Int) = some n := by
      unfold ixN
      rw [if_pos (by omega), if_pos (by rw [List.length_map]; omega)]
      rfl
    rw [ei]
    show (fs.map V.ref)[n]? = _
    rw [List.getElem?_map, hn]
    rfl
  refine .inl (.inl ⟨p, fs.map V.ref, (n : Nat), .ref g, rfl, r2.int_eq, SqL.of hlst, hat, g, _, rfl, hR, ?_⟩)
  refine ha F0 H0 σ F2 H2 e2 _ fun vs F3 H3 zs x3 pd r => ?_
  subst pd
  have e3 := e2.ext x3
  have xa := (x1.trans x2).trans x3
  exact ⟨F3, i, x3.fh, r, hp, fun v F' H' y ex py rv => k2 v σ F' H' ρ y (e3.ext (ex.wide e3.town)) rv (hq y py), fun c F' H' ex pc => k5 c σ F' H' ρ (xa.ff.trans ex.ff) (e3.ext (ex.wide e3.town)) (hx c pc)⟩
end
end Tr

set_option Elab.async false
set_option linter.all false
set_option maxRecDepth 100000
/-! Lay11: what the top has left, told with more tests: classes of errors under isinstance. -/
namespace Tr
open PySem PySem.Spec PyProof.Rows L2 TL
inductive Xt where
  | exc (x : Str)
  | kit (x y : Str) (b : Bool)
  | kv (x : Str)
  | nec (x y : Str)
def Xt.ok (K : PySem.W.Frag) : Xt → Bool
  | .exc x => decide (PySem.W.findIn K (.ref (He.ga K x)) "__getattribute__" = some (some (.builtin "BaseException.__getattribute__"))) && (decide (PySem.W.findIn K (.ref (He.ga K x)) "__getattr__" = some none) && (decide (PySem.W.subIn K (.ref (He.ga K x)) (.type "BaseException") = some true) &&
    (PySem.W.hasDictIn K (He.ga K x) && (decide (PySem.W.findIn K (.ref (He.ga K x)) "__class__" = some (some (.builtin "object.__class__"))) && (decide (PySem.W.specialIn K (.builtin "object.__class__") "__get__" = some (some (.builtin "getset_descriptor.__get__"))) &&
    (decide (PySem.W.takesIn K (.builtin "object.__class__") = some true) && decide (PySem.W.mroIn K (He.ga K x) (.type "object") = some true)))))))
  | .kit x y b => decide (PySem.W.kitOne K (.ref (He.ga K x)) (.ref (He.ga K y)) = some b)
  | .kv x => decide (PySem.W.kitOne K (.ref (He.ga K x)) (.type "ValueError") = some true)
  | .nec x y => decide ((He.cT K (x, none)).2 ≠ (He.cT K (y, none)).2)
theorem and2 {a b : Bool} (h : (a && b) = true) : a = true ∧ b = true := by simpa using h
theorem xt_exc {K : PySem.W.Frag} {x : Str} (h : (Xt.exc x).ok K = true) : L2.ExcC K (He.ga K x) := by
  obtain ⟨h1, h⟩ := and2 h
  obtain ⟨h2, h⟩ := and2 h
  obtain ⟨h3, h⟩ := and2 h
  obtain ⟨h4, h⟩ := and2 h
  obtain ⟨h5, h⟩ := and2 h
  obtain ⟨h6, h⟩ := and2 h
  obtain ⟨h7, h8⟩ := and2 h
  exact ⟨of_decide_eq_true h1, of_decide_eq_true h2, of_decide_eq_true h3, h4, of_decide_eq_true h5, of_decide_eq_true h6, of_decide_eq_true h7, of_decide_eq_true h8⟩
theorem xt_kit {K : PySem.W.Frag} {x y : Str} {b : Bool} (h : (Xt.kit x y b).ok K = true) : PySem.W.kitOne K (.ref (He.ga K x)) (.ref (He.ga K y)) = some b := of_decide_eq_true h
theorem xt_kv {K : PySem.W.Frag} {x : Str} (h : (Xt.kv x).ok K = true) : PySem.W.kitOne K (.ref (He.ga K x)) (.type "ValueError") = some true := of_decide_eq_true h
/-- two defs have tables of their own -/
theorem xt_nec {K : PySem.W.Frag} {x y : Str} (h : (Xt.nec x y).ok K = true) : (He.cT K (x, none)).2 ≠ (He.cT K (y, none)).2 := of_decide_eq_true h
/-! ### the hook -/
abbrev AlX : Type := He.AlD × Bool
def obsX (fa : List He.Fa) (fn : List He.DefD) (ts : List Xt) (K : PySem.W.Frag) : AlX := (He.obsD fa fn K, ts.all fun t => t.ok K)
def obsXG (n : Nat) (fa : List He.Fa) (fn : List He.DefD) (ts : List Xt) (g : Addr → Option Obj) : AlX := obsX fa fn ts (He.frG g (He.asD g n))
def SaysX (fa : List He.Fa) (fn : List He.DefD) (ts : List Xt) (K : PySem.W.Frag) : Prop := obsX fa fn ts K = (He.valD fn, true)
def hookX (n : Nat) (fa : List He.Fa) (fn : List He.DefD) (ts : List Xt) : PySem.W.Hook where
  α := AlX
  obs := fun s => obsXG n fa fn ts s.heap.get?
  val := fun _ => (He.valD fn, true)
  says := fun _ h => ∃ K : PySem.W.Frag, K.In h ∧ SaysX fa fn ts K
  of := fun _ _ e => ⟨_, He.frG_in, e⟩
  keeps := fun _ _ _ ⟨K, hK, c⟩ k => ⟨K, PySem.W.Frag.In.keeps hK k, c⟩
theorem obsXG_eq {n : Nat} {fa : List He.Fa} {fn : List He.DefD} {ts : List Xt} {g : Addr → Option Obj} {s : Shared} (h : ∀ a, g a = s.heap.get? a) : obsXG n fa fn ts g = (hookX n fa fn ts).obs s := by
  have e : g = s.heap.get? := funext h
  subst e
  rfl
theorem SaysX.d {fa : List He.Fa} {fn : List He.DefD} {ts : List Xt} {K : PySem.W.Frag} (c : SaysX fa fn ts K) : He.SaysD fa fn K := congrArg Prod.fst c
theorem SaysX.t {fa : List He.Fa} {fn : List He.DefD} {ts : List Xt} {K : PySem.W.Frag} (c : SaysX fa fn ts K) (i : Nat) {t : Xt} (h : ts[i]? = some t) : t.ok K = true := by
  have h2 : (ts.all fun t => t.ok K) = true := congrArg Prod.snd c
  exact List.all_eq_true.mp h2 t (List.mem_of_getElem? h)
end Tr

set_option Elab.async false
set_option linter.all false
set_option maxRecDepth 100000
/-! Lay12: split, lists and texts times ints, joins of tuples, slices from behind. -/
namespace Tr
open PySem PySem.Spec PyProof.Rows L2 TL
variable [PWc]
section
variable {X : Cx} {a b o e : Expr} {ta tb to te : TE} {pos apos : Pos}
def rSplit : V → List V → Hp → VK → Prop := fun x xs H Q => ∃ a b, x = .str a ∧ xs = [.str b] ∧ (b.length == 0) = false ∧ a.length + 2 ≤ sizeLine ∧ rNewStrs (Txt.split a b) H Q
theorem k_split (ho : PE X o to) (he : PE X e te) (hs : starEach [e] X.env = [(false, eval e X.env)] := by rfl) (hbase : attributeBase o "split" X.env (eval o X.env) = eval o X.env := by rfl) (hline : (apos.endLine == pos.line) = true := by rfl) : PE X (.Call (.Attribute o "split" apos) [e] [] pos) (tM1 rSplit to te) := pe_m1 F.slot_str_split F.type_str_split mt_split ho he (hs := hs) (hbase := hbase) (hline := hline)
def rRepS : R2 := fun x y H Q => ∃ (z : Str) (k : Int), x = .str z ∧ y = .int k ∧ 0 ≤ k ∧ k < 100000 ∧ z.length ≤ 100 ∧ Q (.str ⟨((List.replicate k.toNat z.cps.toList).flatten).toArray⟩) H
end
theorem spl_S {a : List Nat} {c : Nat} (hc : c < 256) : Txt.split (S a) (S [c]) = (TL.spl [c] 0 [] a).map S := SX.split_S (a := a) (b := [c]) (by simp) (by simpa using hc)
section
variable {T : Tn} {W : WX} {K : PySem.W.Frag} {ρ : List Sl} {P : Po} {ta tb te : TE} {x y z : PyData}
theorem eo_split {a : List Nat} {c : Nat} (ha : Ev T ta ρ (sD a)) (hb : Ev T tb ρ (sD [c])) (hc : c < 256) (hl : a.length ≤ 100000) : EvO T (tM1 rSplit ta tb) ρ fun ys => ys = (TL.spl [c] 0 [] a).map sD := fun F0 H0 σ F H e Q q =>
  ha F0 H0 σ F H e _ fun v F1 H1 e1 r1 => ⟨⟨_, r1.str_eq⟩, hb F0 H0 σ F1 H1 (e.ext e1) _ fun u F2 H2 e2 r2 => ⟨S a, S [c], r1.str_eq, by rw [r2.str_eq], rfl, by rw [S_len]; exact Nat.le_trans (Nat.add_le_add_right hl 2) (by decide), fun p hp => by
    have x12 := e1.trans e2
    have e3 := e.ext x12
    refine q p _ _ F2 _ (x12.trans (Ext.new1 e3.le hp)) (freshH e x12 hp) (e3.le.free hp) upd_same rfl ?_
    rw [spl_S hc]
    have := RpAll.of_strs (F := F2) ((TL.spl [c] 0 [] a).map S)
    rw [List.map_map (g := PyData.str)] at this
    exact this⟩⟩
theorem rv_rep {xs : List PyData} {k : Nat} (hk : xs.length * k ≤ 100000) (hk2 : k ≤ 100000) : Rv T rRep (.list xs) (.int (k : Nat)) (.list (List.replicate k xs).flatten) := fun F H v u s t rx ry Q q => by
  obtain ⟨a, vs, rfl, ha, ra⟩ := rx.lst_eq
  refine ⟨a, k, vs, rfl, ry.int_eq, s _ _ ha, by omega, by omega, ?_, fun p hp => ?_⟩
  · rw [ra.length]
    exact szok hk
  · have x2 : Ext T F H (upd F p (.lst (List.replicate k vs).flatten)) (upd H p (.lst (List.replicate k vs).flatten)) := Ext.new s (fun b hb => (t b hb).2) hp
    refine q _ _ _ x2 (.lst upd_same (RpAll.mono x2.ff ?_))
    clear hk hk2 ry q x2
    induction k with
    | zero => exact .nil
    | succ n ih =>
      rw [List.replicate_succ, List.replicate_succ, List.flatten_cons, List.flatten_cons]
      exact ra.append ih
theorem ev_rep {xs : List PyData} {k : Nat} (ha : Ev T ta ρ (.list xs)) (hb : Ev T tb ρ (.int (k : Nat))) (hk : xs.length * k ≤ 100000) (hk2 : k ≤ 100000) : Ev T (tOp rRep ta tb) ρ (.list (List.replicate k xs).flatten) := ev_op ha hb (rv_rep hk hk2)
/-- sep.join of a tuple -/
theorem ev_joinT {sep : List Nat} {ws : List (List Nat)} (hs : Ev T ta ρ (sD sep)) (ha : Ev T tb ρ (.tuple (ws.map sD))) (hl : (ws.map (·.length)).sum + ws.length * sep.length ≤ 16777216) : Ev T (tM1 (rJoin K) ta tb) ρ (sD (joinL sep ws)) := fun F0 H0 σ F H e Q q =>
  hs F0 H0 σ F H e _ fun v F1 H1 e1 r1 => ⟨⟨_, r1.str_eq⟩, ha F0 H0 σ F1 H1 (e.ext e1) _ fun u F2 H2 e2 r2 => by
    obtain ⟨p, o, vs, rfl, hk, _, r⟩ := r2.tup_eq
    have em : (ws.map sD) = ((ws.map S).map PyData.str) := by rw [List.map_map]; rfl
    rw [em] at r
    refine ⟨S sep, p, ws.map S, r1.str_eq, rfl, .inr (sqT_frz (o := o) (by rw [← r.strs]; exact e2.fh _ _ hk)), ?_, ?_⟩
    · rw [List.map_map, List.length_map, S_len]
      have : (fun x : Str => x.length) ∘ S = fun l : List Nat => l.length := by funext l; exact S_len l
      rw [this]
      exact hl
    · have ej : Txt.join (S sep) (ws.map S) = S (joinL sep ws) := by
        rw [join_eq]
        apply ext_tl
        rw [tl_join, List.map_map]
        have : tl ∘ S = id := rfl
        rw [this, List.map_id]
      rw [ej]
      exact q _ F2 H2 (e1.trans e2) (.str _)⟩
theorem cut_neg {α : Type} (l : List α) (n : Nat) (hn : 0 < n) : cutL l none (some (-(n : Int))) = l.take (l.length - n) := by
  unfold cutL
  have e : HT.sIx l.length l.length (some (-(n : Int))) = l.length - n := by
    show (if (-(n : Int)) < 0 then (-(n : Int) + (l.length : Int)).toNat else min (-(n : Int)).toNat l.length) = _
    rw [if_pos (by omega)]
    omega
  rw [e, HT.sIx_none, List.drop_zero, Nat.sub_zero]
/-- a slice, known only to be short -/
def EvBP (T : Tn) (to : TO) (ρ : List Sl) : Prop := ∀ F0 H0 σ F H, Env T F0 H0 F H σ ρ → ∀ Q : Option Int → Hp → Prop, (∀ o F' H', Ext T F H F' H' → Q o H') → to σ H Q
theorem ebp_none : EvBP T tNoPart ρ := fun F0 H0 σ F H e Q q => q none F H (Ext.refl e.le)
theorem ebp_some {A : Int → Prop} (h : EvI T te ρ A) : EvBP T (tPart te) ρ := fun F0 H0 σ F H e Q q => h F0 H0 σ F H e _ fun v F' H' x ex ⟨i, _, ei⟩ r => by
  subst ei
  exact ⟨i, r.int_eq, q _ F' H' ex⟩
theorem cut_len {α : Type} (l : List α) (lo hi : Option Int) : (cutL l lo hi).length ≤ l.length := by
  unfold cutL
  rw [List.length_take, List.length_drop]
  omega
theorem cut_mem {α : Type} {l : List α} {lo hi : Option Int} {c : α} (h : c ∈ cutL l lo hi) : c ∈ l := by
  unfold cutL at h
  exact List.mem_of_mem_drop (List.mem_of_mem_take h)
theorem evp_slS {tl th : TO} {A : List Nat → Prop} {n : Nat} (ha : EvP T ta ρ fun d => ∃ l, d = sD l ∧ l.length ≤ n ∧ A l) (h1 : EvBP T tl ρ) (h2 : EvBP T th ρ) (hn : n ≤ 100000) : EvP T (tSl (rSlU K) ta tl th) ρ fun d => ∃ l l', d = sD l' ∧ A l ∧ l'.length ≤ n ∧ ∀ c ∈ l', c ∈ l := fun F0 H0 σ F H e Q q =>
  ha F0 H0 σ F H e _ fun v F1 H1 x e1 ⟨l, ex, hl, al⟩ r1 => h1 F0 H0 σ F1 H1 (e.ext e1) _ fun lo F2 H2 e2 => h2 F0 H0 σ F2 H2 ((e.ext e1).ext e2) _ fun hi F3 H3 e3 => by
    subst ex
    exact .inl ⟨S l, r1.str_eq, by rw [S_len]; exact szok (Nat.le_trans hl hn), by rw [cutS_S]; exact q _ F3 H3 _ ((e1.trans e2).trans e3) ⟨l, _, rfl, al, Nat.le_trans (cut_len l lo hi) hl, fun c hc => cut_mem hc⟩ (.str _)⟩
theorem evp_addS {n m : Nat} {A B : List Nat → Prop} (ha : EvP T ta ρ fun d => ∃ l, d = sD l ∧ l.length ≤ n ∧ A l) (hb : EvP T tb ρ fun d => ∃ l, d = sD l ∧ l.length ≤ m ∧ B l) (h : n + m ≤ 100000) : EvP T (tOp (rAddU K) ta tb) ρ fun d => ∃ l, d = sD l ∧ l.length ≤ n + m ∧ ∃ l1 l2, l = l1 ++ l2 ∧ A l1 ∧ B l2 :=
  evp_op ha hb fun x y ⟨l1, e1, h1, a1⟩ ⟨l2, e2, h2, b2⟩ => by
    subst e1 e2
    exact (rv_addS (szok (by omega))).p ⟨l1 ++ l2, rfl, by rw [List.length_append]; omega, l1, l2, rfl, a1, b2⟩
end
end Tr

set_option Elab.async false
set_option linter.all false
set_option maxRecDepth 100000
/-! Lay13: dicts whose keys are tuples, nested. -/
namespace Tr
open PySem PySem.Spec PyProof.Rows L2 TL
variable [PWc]
mutual
theorem Rp.nk {F H : Hp} (s : Same F H) : ∀ {k : NestedKey} {v : V}, Rp F v (nkD k) → NkV H k v
  | .none, _, r => by rw [r.non_eq]; exact .non
  | .num i, v, r => by
    have r' : Rp F v (.int i) := by simpa only [nkD] using r
    rw [r'.int_eq]
    exact .int i
  | .text x, v, r => by
    have r' : Rp F v (.str x) := by simpa only [nkD] using r
    rw [r'.str_eq]
    exact .str x
  | .tup ks, v, r => by
    have r' : Rp F v (.tuple (nkDs ks)) := by simpa only [nkD] using r
    obtain ⟨a, o, xs, rfl, h, ho, t⟩ := r'.tup_eq
    exact .tup (s _ _ h) ho (RpAll.nk s t)
theorem RpAll.nk {F H : Hp} (s : Same F H) : ∀ {ks : List NestedKey} {vs : List V}, RpAll F vs (nkDs ks) → NkAll H ks vs
  | [], vs, r => by
    have r' : RpAll F vs [] := by simpa only [nkDs] using r
    match vs, r' with
    | _, .nil => exact .nil
  | k :: ks, vs, r => by
    have r' : RpAll F vs (nkD k :: nkDs ks) := by simpa only [nkDs] using r
    match vs, r' with
    | _, .cons h t => exact .cons (Rp.nk s h) (RpAll.nk s t)
end
/-- every key's tuple stands -/
def NkOk (H : Hp) (kvs : NKV) : Prop := ∀ p ∈ kvs, NkV H p.1 (.ref p.2.1) ∧ p.1.depth ≤ 8
section
variable {X : Cx} {pins : List (Addr × Obj)} {σ : L2.St} {H : Hp} {s : Shared}
theorem ndO_get (I : Inv X pins σ H s) {a : Addr} {kvs : NKV} (h : H a = some (ndO X.prog X.w a kvs)) (hk : NkOk H kvs) : ∃ xs, Paired NRel kvs xs ∧ s.heap.DictOfH (nestedKind X.prog X.w) a xs ∧ (a == sysModules) = false ∧ kvs.length ≤ sizeLine := by
  obtain ⟨n1, n2, xs, r, o, es, ep, ho, n3, n4, n5, n6⟩ := (I.hok a _ h).1
  refine ⟨xs, r, ⟨o, es, ep, ho, n3, n4, n5, ?_, n6⟩, n1, n2⟩
  clear n5 n6 n2 h
  induction r with
  | nil => intro x hx; cases hx
  | cons h t ih =>
    intro x hx
    rcases List.mem_cons.mp hx with rfl | hx
    · obtain ⟨e1, e2, e3⟩ := h
      obtain ⟨k1, k2⟩ := hk _ (List.mem_cons_self ..)
      rw [← e1, ← e2]
      exact ⟨NkV.is I k1 rfl, k2⟩
    · exact ih (fun p hp => hk p (by simp [hp])) x hx
def atN (kvs : NKV) (k : NestedKey) : Option V := (kvs.find? fun p => decide (p.1 = k)).map fun p => p.2.2
theorem atKey_cons (q : NestedKey × Addr × Value) (xs : List (NestedKey × Addr × Value)) (k : NestedKey) : atKey (q :: xs) k = if q.1 = k then some q.2 else atKey xs k := by
  unfold atKey
  by_cases h : q.1 = k
  · rw [List.find?_cons, if_pos h]
    simp [h]
  · rw [List.find?_cons, if_neg h]
    simp [h]
theorem atKey_rel {k : NestedKey} : ∀ {kvs : NKV} {xs : List (NestedKey × Addr × Value)}, Paired NRel kvs xs → (∃ v q, atN kvs k = some v ∧ atKey xs k = some q ∧ RelV v q.2) ∨ (atN kvs k = none ∧ atKey xs k = none)
  | _, _, .nil => .inr ⟨rfl, rfl⟩
  | _, _, .cons (a := p) (b := q) h t => by
    obtain ⟨e1, e2, e3⟩ := h
    by_cases hk : p.1 = k
    · left
      refine ⟨p.2.2, q.2, ?_, ?_, e3⟩
      · unfold atN
        rw [List.find?_cons, decide_eq_true hk]
        rfl
      · have : q.1 = k := by rw [← e1]; exact hk
        rw [atKey_cons, if_pos this]
    · have hq : ¬ q.1 = k := by rw [← e1]; exact hk
      rcases atKey_rel (k := k) t with ⟨v, r, h1, h2, h3⟩ | ⟨h1, h2⟩
      · left
        refine ⟨v, r, ?_, ?_, h3⟩
        · unfold atN at h1 ⊢
          rw [List.find?_cons, decide_eq_false hk]
          exact h1
        · rw [atKey_cons, if_neg hq]
          exact h2
      · right
        refine ⟨?_, ?_⟩
        · unfold atN at h1 ⊢
          rw [List.find?_cons, decide_eq_false hk]
          exact h1
        · rw [atKey_cons, if_neg hq]
          exact h2
/-! ### operations -/
def putN (kvs : NKV) (k : NestedKey) (b : Addr) (v : V) : NKV := if (atN kvs k).isSome = true then kvs.map (fun p => if p.1 = k then (p.1, p.2.1, v) else p) else kvs ++ [(k, b, v)]
theorem NRel.put {k : NestedKey} {b : Addr} {v : V} {u : Value} (rv : RelV v u) {kvs : NKV} {xs : List (NestedKey × Addr × Value)} (r : Paired NRel kvs xs) : Paired NRel (putN kvs k b v) (storedH xs k b u) := by
  have he : (atN kvs k).isSome = (atKey xs k).isSome := by
    rcases atKey_rel (k := k) r with ⟨v', q, h1, h2, _⟩ | ⟨h1, h2⟩
    · rw [h1, h2]
      rfl
    · rw [h1, h2]
      rfl
  unfold putN storedH
  rw [he]
  split
  · clear he
    rename_i hx
    clear hx
    induction r with
    | nil => exact .nil
    | cons h t ih =>
      obtain ⟨e1, e2, e3⟩ := h
      refine .cons ?_ ih
      unfold putAt
      rename_i p q _ _
      dsimp only
      by_cases hk : p.1 = k
      · rw [if_pos hk, if_pos (by rw [← e1]; exact hk)]
        exact ⟨e1, e2, rv⟩
      · rw [if_neg hk, if_neg (by rw [← e1]; exact hk)]
        exact ⟨e1, e2, e3⟩
  · clear he
    rename_i hx
    clear hx
    induction r with
    | nil => exact .cons ⟨rfl, rfl, rv⟩ .nil
    | cons h t ih => exact .cons h ih
theorem putN_len (kvs : NKV) (k : NestedKey) (b : Addr) (v : V) : (putN kvs k b v).length ≤ kvs.length + 1 := by
  unfold putN
  split
  · rw [List.length_map]
    omega
  · rw [List.length_append, List.length_singleton]
    exact Nat.le_refl _
def rInN (P : Program) (w : World) (f : Bool → Bool) : R2 := fun x y H Q => ∃ a kvs k b, x = .ref b ∧ y = .ref a ∧ H a = some (ndO P w a kvs) ∧ NkOk H kvs ∧ NkV H k (.ref b) ∧ k.depth ≤ 8 ∧ Q (.bl (f (atN kvs k).isSome)) H
theorem isSome_rel {k : NestedKey} {kvs : NKV} {xs : List (NestedKey × Addr × Value)} (r : Paired NRel kvs xs) : (atN kvs k).isSome = (atKey xs k).isSome := by
  rcases atKey_rel (k := k) r with ⟨v', q, h1, h2, _⟩ | ⟨h1, h2⟩
  · rw [h1, h2]
    rfl
  · rw [h1, h2]
    rfl
theorem roomN {k : Nat} (hr : Room k X.A) : (nestedKind X.prog X.w).room X.A.in1 := by
  show X.A.in1.units + 8 < cLine
  have := hr.un
  show X.A.units + 1 + 8 < cLine
  omega
theorem op_inN {k : Nat} (hr : Room k X.A) : OpR X (compareOp .In) (rInN X.prog X.w fun b => b) := by
  intro pins s σ H x y v u Q I rx ry h
  obtain ⟨a, kvs, k, b, rfl, rfl, ha, hk, hb, hd, q⟩ := h
  cases rx
  cases ry
  obtain ⟨xs, r, hm, hs, _⟩ := ndO_get I ha hk
  refine wpAny_in_heap (roomN hr) ⟨NkV.is I hb rfl, hd⟩ hs hm ?_
  rw [← isSome_rel r]
  exact ⟨.bl _, H, I.tok _, rfl, q⟩
theorem op_ninN {k : Nat} (hr : Room k X.A) : OpR X (compareOp .NotIn) (rInN X.prog X.w fun b => !b) := by
  intro pins s σ H x y v u Q I rx ry h
  obtain ⟨a, kvs, k, b, rfl, rfl, ha, hk, hb, hd, q⟩ := h
  cases rx
  cases ry
  obtain ⟨xs, r, hm, hs, _⟩ := ndO_get I ha hk
  refine notIn_keyed (roomN hr) ⟨NkV.is I hb rfl, hd⟩ hs ⟨xs, hm, rfl⟩ ?_
  rw [valueAt_pairsH, Option.isSome_map, ← isSome_rel r]
  exact ⟨.bl _, H, I.tok _, rfl, q⟩
def rIxN (P : Program) (w : World) : R2 := fun x y H Q => ∃ a kvs k b v, x = .ref a ∧ y = .ref b ∧ H a = some (ndO P w a kvs) ∧ NkOk H kvs ∧ NkV H k (.ref b) ∧ k.depth ≤ 8 ∧ atN kvs k = some v ∧ Q v H
theorem ix_N {k : Nat} (hr : Room k X.A) : IxR X (rIxN X.prog X.w) := by
  intro value slice pins s σ H x y v u Q I rx ry h hs
  obtain ⟨a, kvs, k, b, z, rfl, rfl, ha, hk, hb, hd, hv, q⟩ := h
  cases rx
  cases ry
  obtain ⟨xs, r, hm, hsy, _⟩ := ndO_get I ha hk
  refine tail_any hm.typeIs F.slot_dict_getitem.lookup ?_ hs
  rcases atKey_rel (k := k) r with ⟨v', p, h1, h2, h3⟩ | ⟨h1, h2⟩
  · rw [hv] at h1
    cases h1
    exact wpAny_getItem_heap (roomN hr) ⟨NkV.is I hb rfl, hd⟩ hm h2 ⟨z, H, I.tok _, h3, q⟩
  · rw [hv] at h1
    cases h1
def rSetN (P : Program) (w : World) : V → V → V → Hp → (Hp → Prop) → Prop := fun o i v H Q => ∃ a kvs k b, o = .ref a ∧ i = .ref b ∧ H a = some (ndO P w a kvs) ∧ NkOk H kvs ∧ NkV H k (.ref b) ∧ k.depth ≤ 8 ∧ kvs.length < sizeLine ∧ Q (upd H a (ndO P w a (putN kvs k b v)))
theorem set_N {k : Nat} (hr : Room k X.A) : PSet X (rSetN X.prog X.w) := by
  intro pins s σ H o i v ov iv u Q I ro ri rv h
  obtain ⟨a, kvs, k, b, rfl, rfl, ha, hk, hb, hd, hl, q⟩ := h
  cases ro
  cases ri
  obtain ⟨xs, r, hm, hsy, hlen⟩ := ndO_get I ha hk
  have hxl : xs.length = kvs.length := r.length.symm
  refine wpAny_setItem_heap (hsz := by rw [hxl]; exact hlen) (roomN hr) ⟨NkV.is I hb rfl, hd⟩ hm fun h' hm' same => ?_
  obtain ⟨o', es, ep, ho, n3, n4, n5, _, n6⟩ := hm'
  refine ⟨_, I.write (e := a) (t' := s.toks + (nestedKind X.prog X.w).draws k) (by rw [ha]; trivial) (.inl rfl) (fun c u hc hu => (same.2 c hc).trans hu) ⟨_, ho⟩ (ndO_ok ⟨hsy, ?_, _, NRel.put rv r, o', es, ep, ho, n3, n4, n5, n6⟩), q⟩
  exact Nat.le_trans (putN_len _ _ _ _) hl
def tDNewN (P : Program) (w : World) : TE := fun _ H Q => ∀ p, H p = none → Q (.ref p) (upd H p (ndO P w p []))
theorem pe_dnewN {pos : Pos} : PE X (.Dict [] [] pos) (tDNewN X.prog X.w) := ⟨fun pins s σ H Q I h => by
  refine wpAny_Dict_empty ⟨.ref s.heap.objs.size, _, I.laid (a := s.heap.objs.size) (t' := s.toks) (fun _ _ q => Heap.get?_push_of_some _ q) (Nat.le_refl _) (ndO_ok (kvs := []) ⟨?_, Nat.zero_le _, [], .nil, _, #[], 0, Heap.get?_push_size _ rfl, ⟨rfl, rfl, rfl⟩, rfl, rfl, List.nodup_nil⟩), rfl, h _ (I.hok.fresh (Nat.le_refl _))⟩
  exact beq_eq_false_iff_ne.mpr (Nat.ne_of_gt I.big)⟩
end
end Tr

set_option Elab.async false
set_option linter.all false
set_option maxRecDepth 100000
/-! Lay14: own dicts with nested keys as data; a call that is handed one. -/
namespace Tr
open PySem PySem.Spec PyProof.Rows L2 TL
variable [PWc]
theorem RpN.ok {F H : Hp} (s : Same F H) : ∀ {kvs : NKV} {ds : ND}, RpN F kvs ds → NkOk H kvs
  | _, _, .nil => fun p hp => (nomatch hp)
  | _, _, .cons h1 h2 h3 t => fun p hp => by
    rcases List.mem_cons.mp hp with rfl | hp
    · exact ⟨h1.mono s, h2⟩
    · exact RpN.ok s t p hp
theorem RpN.length {F : Hp} : ∀ {kvs : NKV} {ds : ND}, RpN F kvs ds → kvs.length = ds.length
  | _, _, .nil => rfl
  | _, _, .cons _ _ _ t => by rw [List.length_cons, List.length_cons, RpN.length t]
def atM (ds : ND) (k : NestedKey) : Option PyData := (ds.find? fun p => decide (p.1 = k)).map (·.2)
theorem RpN.at {F : Hp} {k : NestedKey} : ∀ {kvs : NKV} {ds : ND}, RpN F kvs ds → (∃ v d, atN kvs k = some v ∧ atM ds k = some d ∧ Rp F v d) ∨ (atN kvs k = none ∧ atM ds k = none)
  | _, _, .nil => .inr ⟨rfl, rfl⟩
  | _, _, .cons (k := k') (b := b) (v := v) (d := d) h1 h2 h3 t => by
    by_cases hk : k' = k
    · left
      refine ⟨v, d, ?_, ?_, h3⟩
      · unfold atN
        rw [List.find?_cons, show decide (((k', b, v) : NestedKey × Addr × V).1 = k) = true from decide_eq_true hk]
        rfl
      · unfold atM
        rw [List.find?_cons, show decide (((k', d) : NestedKey × PyData).1 = k) = true from decide_eq_true hk]
        rfl
    · have e1 : ∀ kvs : NKV, atN ((k', b, v) :: kvs) k = atN kvs k := fun kvs => by
        unfold atN
        rw [List.find?_cons, show decide (((k', b, v) : NestedKey × Addr × V).1 = k) = false from decide_eq_false hk]
      have e2 : ∀ ds : ND, atM ((k', d) :: ds) k = atM ds k := fun ds => by
        unfold atM
        rw [List.find?_cons, show decide (((k', d) : NestedKey × PyData).1 = k) = false from decide_eq_false hk]
      rw [e1, e2]
      exact RpN.at t
def putM (ds : ND) (k : NestedKey) (d : PyData) : ND := if (atM ds k).isSome = true then ds.map (fun p => if p.1 = k then (p.1, d) else p) else ds ++ [(k, d)]
theorem RpN.repl {F : Hp} {k : NestedKey} {v : V} {d : PyData} (r : Rp F v d) : ∀ {kvs : NKV} {ds : ND}, RpN F kvs ds → RpN F (kvs.map fun p => if p.1 = k then (p.1, p.2.1, v) else p) (ds.map fun p => if p.1 = k then (p.1, d) else p)
  | _, _, .nil => .nil
  | _, _, .cons (k := k') h1 h2 h3 t => by
    rw [List.map_cons, List.map_cons]
    dsimp only
    by_cases hk' : k' = k
    · rw [if_pos hk', if_pos hk']
      exact .cons h1 h2 r (RpN.repl r t)
    · rw [if_neg hk', if_neg hk']
      exact .cons h1 h2 h3 (RpN.repl r t)
theorem RpN.snoc {F : Hp} {k : NestedKey} {b : Addr} {v : V} {d : PyData} (hk : NkV F k (.ref b)) (hd : k.depth ≤ 8) (r : Rp F v d) : ∀ {kvs : NKV} {ds : ND}, RpN F kvs ds → RpN F (kvs ++ [(k, b, v)]) (ds ++ [(k, d)])
  | _, _, .nil => .cons hk hd r .nil
  | _, _, .cons h1 h2 h3 t => .cons h1 h2 h3 (RpN.snoc hk hd r t)
theorem RpN.put {F : Hp} {k : NestedKey} {b : Addr} {v : V} {d : PyData} (hk : NkV F k (.ref b)) (hd : k.depth ≤ 8) (r : Rp F v d) {kvs : NKV} {ds : ND} (t : RpN F kvs ds) : RpN F (putN kvs k b v) (putM ds k d) := by
  have he : (atN kvs k).isSome = (atM ds k).isSome := by
    rcases t.at (k := k) with ⟨v', d', h1, h2, _⟩ | ⟨h1, h2⟩
    · rw [h1, h2]
      rfl
    · rw [h1, h2]
      rfl
  unfold putN putM
  rw [he]
  split
  · exact RpN.repl r t
  · exact RpN.snoc hk hd r t
theorem putM_len (ds : ND) (k : NestedKey) (d : PyData) : (putM ds k d).length ≤ ds.length + 1 := by
  unfold putM
  split
  · rw [List.length_map]
    omega
  · rw [List.length_append, List.length_singleton]
    exact Nat.le_refl _
theorem atM_any (k : NestedKey) : ∀ ds : ND, (ds.any fun p => decide (p.1 = k)) = (atM ds k).isSome
  | [] => rfl
  | (j, d) :: r => by
    unfold atM
    rw [List.any_cons, List.find?_cons]
    by_cases e : j = k
    · rw [show decide (((j, d) : NestedKey × PyData).1 = k) = true from decide_eq_true e]
      rfl
    · rw [show decide (((j, d) : NestedKey × PyData).1 = k) = false from decide_eq_false e]
      show (false || _) = _
      rw [Bool.false_or, atM_any k r]
      rfl
theorem atM_put (ds : ND) (k j : NestedKey) (d : PyData) : atM (putM ds k d) j = if j = k then some d else atM ds j := by
  rw [show putM ds k d = (if (ds.any fun p => decide (p.1 = k)) = true then ds.map (fun p => if p.1 = k then (p.1, d) else p) else ds ++ [(k, d)]) by unfold putM; rw [atM_any]]
  split
  · rename_i h
    have : ∀ ds : ND, atM (ds.map fun p => if p.1 = k then (p.1, d) else p) j = (atM ds j).map fun x => if j = k then d else x := by
      intro ds
      induction ds with
      | nil => rfl
      | cons p r ih =>
        obtain ⟨q, e⟩ := p
        rw [List.map_cons]
        unfold atM at ih ⊢
        by_cases hq : q = j
        · rw [List.find?_cons, show decide ((if ((q, e) : NestedKey × PyData).1 = k then (((q, e) : NestedKey × PyData).1, d) else (q, e)).1 = j) = true from decide_eq_true (by split <;> exact hq), List.find?_cons, show decide (((q, e) : NestedKey × PyData).1 = j) = true from decide_eq_true hq]
          by_cases hk : q = k
          · rw [if_pos hk]
            show some d = some (if j = k then d else e)
            rw [if_pos (hq.symm.trans hk)]
          · rw [if_neg hk]
            show some e = some (if j = k then d else e)
            rw [if_neg fun z => hk (hq.trans z)]
        · rw [List.find?_cons, show decide ((if ((q, e) : NestedKey × PyData).1 = k then (((q, e) : NestedKey × PyData).1, d) else (q, e)).1 = j) = false from decide_eq_false (by split <;> exact hq), List.find?_cons, show decide (((q, e) : NestedKey × PyData).1 = j) = false from decide_eq_false hq]
          exact ih
    rw [this]
    by_cases hj : j = k
    · rw [if_pos hj]
      rw [atM_any] at h
      rw [hj]
      cases e : atM ds k with
      | none =>
        rw [e] at h
        cases h
      | some z => simp
    · rw [if_neg hj]
      cases atM ds j with
      | none => rfl
      | some z => simp [hj]
  · rename_i h
    have h' : (ds.any fun p => decide (p.1 = k)) = false := (Bool.not_eq_true _).mp h
    have : ∀ ds : ND, (ds.any fun p => decide (p.1 = k)) = false → atM (ds ++ [(k, d)]) j = if j = k then some d else atM ds j := by
      intro ds
      induction ds with
      | nil =>
        intro _
        unfold atM
        show Option.map _ (List.find? _ [(k, d)]) = _
        rw [List.find?_cons]
        by_cases hj : j = k
        · rw [if_pos hj, show decide (((k, d) : NestedKey × PyData).1 = j) = true from decide_eq_true hj.symm]
          rfl
        · rw [if_neg hj, show decide (((k, d) : NestedKey × PyData).1 = j) = false from decide_eq_false fun z => hj z.symm]
          first | rfl | done
      | cons p r ih =>
        intro hh
        obtain ⟨q, e⟩ := p
        rw [List.any_cons, Bool.or_eq_false_iff] at hh
        have ih' := ih hh.2
        have nq : q ≠ k := of_decide_eq_false hh.1
        unfold atM at ih' ⊢
        rw [List.cons_append, List.find?_cons, List.find?_cons]
        by_cases hq : q = j
        · rw [show decide (((q, e) : NestedKey × PyData).1 = j) = true from decide_eq_true hq, if_neg fun z => nq (hq.trans z)]
        · rw [show decide (((q, e) : NestedKey × PyData).1 = j) = false from decide_eq_false hq]
          exact ih'
    exact this ds h'
/-- an own dict with nested keys -/
def ndI (P : Program) (w : World) (g : Addr → Prop) (ds : ND) : Hp → Addr → HO → Prop := fun F a o => g a ∧ ∃ kvs, o = ndO P w a kvs ∧ RpN F kvs ds
abbrev anyA : Addr → Prop := fun _ => True
section
variable {T : Tn} {W : WX} {K : PySem.W.Frag} {ρ : List Sl} {Po' : Po} {ta tb te : TE} {x y : PyData} {i : Nat} {P : Program} {w : World} {ds : ND} {g : Addr → Prop}
theorem Env.getN {F0 H0 F H : Hp} {σ : L2.St} (e : Env T F0 H0 F H σ ρ) (h : ρ[i]? = some (.og (ndI P w g ds))) : ∃ a kvs, σ[i]? = some (some (.ref a)) ∧ ¬ T a ∧ F a = none ∧ H0 a = none ∧ g a ∧ H a = some (ndO P w a kvs) ∧ RpN F kvs ds ∧
    ∀ kvs' ds', RpN F kvs' ds' → Env T F0 H0 F (upd H a (ndO P w a kvs')) σ (ρ.set i (.og (ndI P w g ds'))) := by
  obtain ⟨a, h1, ⟨_, nt, f, h0, u, hv, q⟩, _, _, k⟩ := e.write h rfl
  obtain ⟨hg, kvs, rfl, r⟩ := q F (Same.refl _)
  exact ⟨a, kvs, h1, nt, f, h0, hg, hv, r, fun kvs' ds' r' => k _ _ rfl ⟨rfl, nt, f, h0, _, upd_same, fun F' s' => ⟨hg, kvs', rfl, r'.mono s'⟩⟩⟩
/-- {} -/
theorem sm_newN (k : Po'.nx (ρ.set i (.og (ndI P w anyA [])))) : Sm T W (tAsg (tDNewN P w) (gName i)) ρ Po' := fun F0 H0 σ F H D e k1 _ _ _ _ => fun p hp => by
  refine k1 _ F _ _ (Same.refl _) (e.putNew (s := .og (ndI P w anyA [])) (Ext.new1 e.le hp) hp fun nt n0 => ⟨rfl, nt, e.le.free hp, n0, _, upd_same, fun F' s' => ⟨trivial, [], rfl, .nil⟩⟩) k
/-- key in d, key not in d -/
theorem ev_inN {f : Bool → Bool} {k : NestedKey} (hd : ρ[i]? = some (.og (ndI P w g ds))) (ha : Ev T ta ρ (nkD k)) (hk : ∃ ks, k = .tup ks) (hdep : k.depth ≤ 8) : Ev T (tOp (rInN P w f) ta (tVar i)) ρ (.bool (f (atM ds k).isSome)) := fun F0 H0 σ F H e Q q =>
  ha F0 H0 σ F H e _ fun v F1 H1 e1 r1 => by
    obtain ⟨a, kvs, hσ, _, _, _, _, hH, r, _⟩ := (e.ext e1).getN hd
    obtain ⟨ks, rfl⟩ := hk
    have r1' : Rp F1 v (.tuple (nkDs ks)) := by simpa only [nkD] using r1
    obtain ⟨b, o, xs, rfl, _⟩ := r1'.tup_eq
    refine ⟨_, hσ, a, kvs, .tup ks, b, rfl, rfl, hH, r.ok e1.fh, Rp.nk e1.fh r1, hdep, ?_⟩
    have he : (atN kvs (.tup ks)).isSome = (atM ds (.tup ks)).isSome := by
      rcases r.at (k := .tup ks) with ⟨v', d', h1, h2, _⟩ | ⟨h1, h2⟩
      · rw [h1, h2]
        rfl
      · rw [h1, h2]
        rfl
    rw [he]
    exact q _ F1 H1 e1 (.bl _)
/-- d[key] -/
theorem ev_ixN {k : NestedKey} {d : PyData} (hd : ρ[i]? = some (.og (ndI P w g ds))) (ha : Ev T ta ρ (nkD k)) (hk : ∃ ks, k = .tup ks) (hdep : k.depth ≤ 8) (h : atM ds k = some d) : Ev T (tOp (rIxN P w) (tVar i) ta) ρ d := fun F0 H0 σ F H e Q q => by
  obtain ⟨a, kvs, hσ, _, _, _, _, hH, r, _⟩ := e.getN hd
  refine ⟨_, hσ, ha F0 H0 σ F H e _ fun v F1 H1 e1 r1 => ?_⟩
  obtain ⟨a', kvs', hσ', _, _, _, _, hH', r', _⟩ := (e.ext e1).getN hd
  have ea : a' = a := by
    rw [hσ] at hσ'
    exact (V.ref.inj (Option.some.inj (Option.some.inj hσ'))).symm
  subst ea
  obtain ⟨ks, rfl⟩ := hk
  have r1' : Rp F1 v (.tuple (nkDs ks)) := by simpa only [nkD] using r1
  obtain ⟨b, o, xs, rfl, _⟩ := r1'.tup_eq
  rcases r'.at (k := .tup ks) with ⟨v', d', h1, h2, h3⟩ | ⟨h1, h2⟩
  · rw [h] at h2
    cases h2
    exact ⟨a', kvs', .tup ks, b, v', rfl, rfl, hH', r'.ok e1.fh, Rp.nk e1.fh r1, hdep, h1, q _ F1 H1 e1 h3⟩
  · rw [h] at h2
    cases h2
/-- d[key] = value -/
theorem sm_putN {k : NestedKey} (hd : ρ[i]? = some (.og (ndI P w g ds))) (hv : Ev T te ρ x) (ha : Ev T ta ρ (nkD k)) (hk : ∃ ks, k = .tup ks) (hdep : k.depth ≤ 8) (hl : ds.length < sizeLine) (q : Po'.nx (ρ.set i (.og (ndI P w g (putM ds k x))))) : Sm T W (tAsg te (gSub (tVar i) ta (rSetN P w))) ρ Po' := fun F0 H0 σ F H D e k1 _ _ _ _ => by
  refine hv F0 H0 σ F H e _ fun v F1 H1 e1 r1 => ?_
  have e2 := e.ext e1
  obtain ⟨a, kvs, hσ, _, _, _, _, hH, r, _⟩ := e2.getN hd
  refine ⟨_, hσ, ha F0 H0 σ F1 H1 e2 _ fun u F2 H2 x2 r2 => ?_⟩
  obtain ⟨a', kvs', hσ', _, _, _, _, hH', r', wr⟩ := (e2.ext x2).getN hd
  have ea : a' = a := by
    rw [hσ] at hσ'
    exact (V.ref.inj (Option.some.inj (Option.some.inj hσ'))).symm
  subst ea
  obtain ⟨ks, rfl⟩ := hk
  have r2' : Rp F2 u (.tuple (nkDs ks)) := by simpa only [nkD] using r2
  obtain ⟨b, o, xs, rfl, _⟩ := r2'.tup_eq
  have nk : NkV F2 (.tup ks) (.ref b) := Rp.nk (Same.refl _) r2
  exact ⟨a', kvs', .tup ks, b, rfl, rfl, hH', r'.ok x2.fh, nk.mono x2.fh, hdep, by rw [r'.length]; exact hl, k1 _ F2 _ _ (e1.ff.trans x2.ff) (wr _ _ (r'.put nk hdep (r1.mono x2.ff))) q⟩
/-! ### a call that is handed an own dict -/
def er (H : Hp) (a : Addr) : Hp := fun b => if b = a then none else H b
theorem er_ne {H : Hp} {a b : Addr} (h : b ≠ a) : er H a b = H b := by
  unfold er
  rw [if_neg h]
theorem er_self {H : Hp} {a : Addr} : er H a a = none := by
  unfold er
  rw [if_pos rfl]
theorem er_some {H : Hp} {a b : Addr} {o : HO} (h : er H a b = some o) : b ≠ a ∧ H b = some o := by
  unfold er at h
  split at h
  · cases h
  · rename_i hb
    exact ⟨hb, h⟩
/-- the dict at slot i is lent: behind the call it has new content -/
theorem Env.lent {F0 H0 F H F' H' : Hp} {σ : L2.St} {kn : Addr} {kvs' : NKV} {ds' : ND} (e : Env T F0 H0 F H σ ρ) (hi : ρ[i]? = some (.og (ndI P w g ds))) (hσ : σ[i]? = some (some (.ref kn))) (x : Ext T0 F (er H kn) F' H') (hf : F' kn = none) (hh : H' kn = some (ndO P w kn kvs')) (r : RpN F' kvs' ds') : Env T F0 H0 F' H' σ (ρ.set i (.og (ndI P w g ds'))) := by
  obtain ⟨a, kvs, hσ', nt, fa, h0, hg, hH, _, _⟩ := e.getN hi
  have ea : a = kn := by
    rw [hσ] at hσ'
    exact (V.ref.inj (Option.some.inj (Option.some.inj hσ'))).symm
  subst ea
  have town : ∀ b, T b → Town T F (er H a) b := fun b hb => by
    obtain ⟨o, h1, h2⟩ := e.town b hb
    have nb : b ≠ a := fun z => nt (z ▸ hb)
    exact ⟨o, by rw [er_ne nb]; exact h1, h2⟩
  have xw : Ext T F (er H a) F' H' := x.wide town
  have ex0 : Ext T F0 H0 F (er H a) := ⟨e.ex.ff, fun b o hb => by
      have nb : b ≠ a := fun z => by rw [z, fa] at hb; cases hb
      rw [er_ne nb]
      exact e.le b o hb, fun b o nb hb => by
      have nb' : b ≠ a := fun z => by rw [z, h0] at hb; cases hb
      rw [er_ne nb']
      exact e.ex.hh b o nb hb, e.ex.ow, e.ex.tf, fun b hb z => by
      obtain ⟨o, h1, h2⟩ := e.ex.tw b hb z
      have nb : b ≠ a := fun z => nt (z ▸ hb)
      exact ⟨o, by rw [er_ne nb]; exact h1, h2⟩⟩
  obtain ⟨α, s1, s2⟩ := e.sl
  have hil : i < ρ.length := (List.getElem?_eq_some_iff.mp hi).1
  have ai : α i = a := by
    have := s1 i _ hi
    obtain ⟨q, _⟩ := this
    rw [hσ] at q
    exact (V.ref.inj (Option.some.inj q)).symm
  refine ⟨ex0.trans xw, fun b hb => ⟨xw.tf b hb (e.tn b hb).1, xw.tw b hb (town b hb)⟩, by rw [List.length_set, e.len], α, fun j s hs => ?_, fun j k s t hs ht os ot q => ?_⟩
  · by_cases hj : j = i
    · subst hj
      rw [List.getElem?_set_self hil] at hs
      cases hs
      rw [hσ, ai]
      exact ⟨rfl, nt, hf, h0, _, hh, fun F2 s2 => ⟨hg, kvs', rfl, r.mono s2⟩⟩
    · rw [List.getElem?_set_ne (Ne.symm hj)] at hs
      have z := s1 j s hs
      have ne : s.own = true → α j ≠ a := fun os q => hj (s2 j i _ _ hs hi os rfl (by rw [ai]; exact q))
      have z2 : SlOk T H0 F (er H a) (σ[j]?).join (α j) s := by
        cases s with
        | ol xs =>
          obtain ⟨z1, z2, z3, z4, vs, hv, rr⟩ := z
          exact ⟨z1, z2, z3, z4, vs, by rw [er_ne (ne rfl)]; exact hv, rr⟩
        | od xs =>
          obtain ⟨z1, z2, z3, z4, vs, hv, rr⟩ := z
          exact ⟨z1, z2, z3, z4, vs, by rw [er_ne (ne rfl)]; exact hv, rr⟩
        | og φ =>
          obtain ⟨z1, z2, z3, z4, vs, hv, rr⟩ := z
          exact ⟨z1, z2, z3, z4, vs, by rw [er_ne (ne rfl)]; exact hv, rr⟩
        | un => trivial
        | d y => exact z
        | tn I => exact z
        | raw v => exact z
        | pr φ => exact z
      exact z2.ext xw
  · have back : ∀ {j : Nat} {s : Sl}, (ρ.set i (.og (ndI P w g ds')))[j]? = some s → s.own = true → ∃ s3, ρ[j]? = some s3 ∧ s3.own = true := fun {j s} h os => by
      by_cases hj : j = i
      · subst hj
        exact ⟨_, hi, rfl⟩
      · rw [List.getElem?_set_ne (Ne.symm hj)] at h
        exact ⟨s, h, os⟩
    obtain ⟨s3, g1, o1⟩ := back hs os
    obtain ⟨t3, g2, o2⟩ := back ht ot
    exact s2 j k s3 t3 g1 g2 o1 o2 q
end
end Tr

set_option Elab.async false
set_option linter.all false
set_option maxRecDepth 100000
/-! Lay15: the promise of a def that is lent a dict with nested keys. -/
namespace Tr
open PySem PySem.Spec PyProof.Rows L2 TL
variable [PWc]
def Osp (P : Program) (w : World) {ι : Type} (args : ι → List PyData) (pre : ι → ND → Prop) (post : ι → ND → PyData → ND → Prop) : Sp := fun vs H Q _ => ∃ (F : Hp) (ix : ι) (kn : Addr) (kvs : NKV) (ds : ND) (rest : List V),
  vs = rest ++ [.ref kn] ∧ Same F H ∧ F kn = none ∧ H kn = some (ndO P w kn kvs) ∧ RpN F kvs ds ∧ RpAll F rest (args ix) ∧ pre ix ds ∧
  ∀ v F' H' y kvs' ds', Ext T0 F (er H kn) F' H' → F' kn = none → H' kn = some (ndO P w kn kvs') → RpN F' kvs' ds' → post ix ds y ds' → Rp F' v y → Q v H'
def slotsO (P : Program) (w : World) (N : List Str) (xs : List PyData) (kn : Addr) (ds : ND) : List Sl := xs.map Sl.d ++ (.og (ndI P w (fun a => a = kn) ds) :: List.replicate (N.length - xs.length - 1) .un)
theorem slotsO_get {P : Program} {w : World} {N : List Str} {xs : List PyData} {kn : Addr} {ds : ND} (i : Nat) (s : Sl) (h : (slotsO P w N xs kn ds)[i]? = some s) : (∃ x, xs[i]? = some x ∧ s = .d x) ∨ (i = xs.length ∧ s = .og (ndI P w (fun a => a = kn) ds)) ∨ s = .un := by
  unfold slotsO at h
  by_cases hi : i < xs.length
  · rw [List.getElem?_append_left (by rw [List.length_map]; exact hi), List.getElem?_map, List.getElem?_eq_getElem hi] at h
    cases h
    exact .inl ⟨_, List.getElem?_eq_getElem hi, rfl⟩
  · rw [List.getElem?_append_right (by rw [List.length_map]; omega), List.length_map] at h
    right
    cases hk : i - xs.length with
    | zero =>
      rw [hk] at h
      cases h
      exact .inl ⟨by omega, rfl⟩
    | succ n =>
      rw [hk] at h
      exact .inr (List.eq_of_mem_replicate (List.mem_of_getElem? (show (List.replicate (N.length - xs.length - 1) Sl.un)[n]? = some s from h)))
theorem env_startO {P : Program} {w : World} {F H : Hp} {N : List Str} {rest : List V} {xs : List PyData} {kn : Addr} {kvs : NKV} {ds : ND} (s : Same F H) (hf : F kn = none) (hh : H kn = some (ndO P w kn kvs)) (rn : RpN F kvs ds) (r : RpAll F rest xs) (hN : xs.length + 1 ≤ N.length) : Env T0 F (er H kn) F H (L2.start N (rest ++ [.ref kn])) (slotsO P w N xs kn ds) := by
  have hl := r.length
  have sl0 : ∀ i x, xs[i]? = some x → ∃ v, (L2.start N (rest ++ [V.ref kn]))[i]? = some (some v) ∧ Rp F v x := fun i x hx => by
    obtain ⟨v, hv, rv⟩ := r.get hx
    have hi := (List.getElem?_eq_some_iff.mp hv).1
    refine ⟨v, ?_, rv⟩
    unfold L2.start
    rw [List.getElem?_append_left (by rw [List.length_map, List.length_append]; omega), List.getElem?_map, List.getElem?_append_left hi, hv]
    rfl
  have slk : (L2.start N (rest ++ [V.ref kn]))[xs.length]? = some (some (.ref kn)) := by
    unfold L2.start
    rw [List.getElem?_append_left (by rw [List.length_map, List.length_append, List.length_singleton]; omega), List.getElem?_map, List.getElem?_append_right (by omega), hl, Nat.sub_self]
    rfl
  refine ⟨⟨Same.refl _, s, fun b o _ e => (er_some e).2, fun _ _ _ _ e => e, fun _ t => (T0.no t).elim, fun _ t => (T0.no t).elim⟩, fun b t => (T0.no t).elim, ?_, fun _ => kn, fun i sl hs => ?_, fun i j s t hs ht os ot _ => ?_⟩
  · unfold L2.start slotsO
    simp only [List.length_append, List.length_map, List.length_replicate, List.length_cons, List.length_nil]
    omega
  · rcases slotsO_get i sl hs with ⟨x, hx, rfl⟩ | ⟨rfl, rfl⟩ | rfl
    · obtain ⟨v, hv, rv⟩ := sl0 i x hx
      rw [hv]
      exact ⟨v, rfl, rv⟩
    · rw [slk]
      exact ⟨rfl, fun t => T0.no t, hf, er_self, _, hh, fun F2 s2 => ⟨rfl, kvs, rfl, rn.mono s2⟩⟩
    · trivial
  · have one : ∀ {i : Nat} {s : Sl}, (slotsO P w N xs kn ds)[i]? = some s → s.own = true → i = xs.length := fun {i s} hs os => by
      rcases slotsO_get i s hs with ⟨x, hx, rfl⟩ | ⟨h, _⟩ | rfl
      · cases os
      · exact h
      · cases os
    rw [one hs os, one ht ot]
section
variable {P : Program} {w : World} {K : PySem.W.Frag} {mg : Str → Option Value} {base : Heap}
theorem cl_osp {x : Str} {st : Stmt} {N ps : List Str} {k : Nat} {ι : Type} {args : ι → List PyData} {pre : ι → ND → Prop} {post : ι → ND → PyData → ND → Prop} (d : Defn K mg x st ps) (sc : FnScope N ps (defScope st)) (hl : ∀ i, (args i).length + 1 = ps.length) (hN : ps.length ≤ N.length)
    (hb : ∀ (f : Addr) (cdv : Value) (A : Around) (outer : List PySem.Env) (s : Shared) (H : Hp) (E : XK), Room k (A.deeper (envOfC x (defScope st) s.heap.objs.size f cdv)) →
      ∃ t, PSs (cxOf (L2N.CX P w) P w K mg base N x (defScope st) f cdv A outer s H E) (defBody st) t ∧ ∀ i ds kn, pre i ds → Sm T0 (fun c d _ H' => E c d H') t (slotsO P w N (args i) kn ds) { rt := fun y ρ' => ∃ ds', ρ'[(args i).length]? = some (.og (ndI P w (fun a => a = kn) ds')) ∧ post i ds y ds' }) : Cl P w K mg base (k + 1) x (Osp P w args pre post) := by
  refine cl_of d sc (fun vs H Q E h => ?_) fun f cdv A outer s H vs Q E hr h => ?_
  · obtain ⟨F, ix, kn, kvs, ds, rest, rfl, _, _, _, _, r, _⟩ := h
    rw [List.length_append, List.length_singleton, r.length]
    exact hl ix
  · obtain ⟨F, ix, kn, kvs, ds, rest, rfl, sF, fk, hk, rn, r, p, q⟩ := h
    obtain ⟨t, ht, hs⟩ := hb f cdv A outer s H E hr
    refine ⟨t, ht, ?_⟩
    refine hs ix ds kn p F (er H kn) _ F H _ (env_startO sF fk hk rn r (by have := hl ix; omega)) (fun _ _ _ _ _ _ z => z.elim) (fun v σ' F' H' ρ' y en rv ⟨ds', hs', hp'⟩ => ?_) (fun _ _ _ _ _ _ z => z.elim) (fun _ _ _ _ _ _ z => z.elim) fun _ _ _ _ _ _ _ z => z.elim
    obtain ⟨a, kvs', _, _, fa, _, ea, ha, rn', _⟩ := en.getN hs'
    cases (show a = kn from ea)
    exact q v F' H' y kvs' ds' en.ex fa ha rn' hp' rv
end
/-! ### such calls -/
section
variable {T : Tn} {W : WX} {ρ : List Sl} {Po' : Po} {i : Nat} {P : Program} {w : World} {ds : ND} {g : Addr → Prop} {ι : Type} {args : ι → List PyData} {pre : ι → ND → Prop} {post : ι → ND → PyData → ND → Prop}
/-- the arguments' data, the dict at slot i behind them -/
def EvAO (T : Tn) (ta : TA) (ρ : List Sl) (i : Nat) (xs : List PyData) : Prop := ∀ F0 H0 σ F H, Env T F0 H0 F H σ ρ → ∀ Q : List V → Hp → Prop, (∀ rest kn F' H', Ext T F H F' H' → σ[i]? = some (some (.ref kn)) → RpAll F' rest xs → Q (rest ++ [.ref kn]) H') → ta σ H Q
theorem eao_last (h : ρ[i]? = some (.og (ndI P w g ds))) : EvAO T (tCons (tVar i) tNil) ρ i [] := fun F0 H0 σ F H e Q q => by
  obtain ⟨a, kvs, hσ, _⟩ := e.getN h
  exact ⟨_, hσ, q [] a F H (Ext.refl e.le) hσ .nil⟩
theorem eao_cons {te : TE} {t : TA} {x : PyData} {xs : List PyData} (h : Ev T te ρ x) (ht : EvAO T t ρ i xs) : EvAO T (tCons te t) ρ i (x :: xs) := fun F0 H0 σ F H e Q q =>
  h F0 H0 σ F H e _ fun v F1 H1 e1 r1 => ht F0 H0 σ F1 H1 (e.ext e1) _ fun rest kn F2 H2 e2 hσ r2 => q (v :: rest) kn F2 H2 (e1.trans e2) hσ (.cons (r1.mono e2.ff) r2)
theorem sm_asgL {j : Nat} {ta : TA} (ix : ι) (ha : EvAO T ta ρ i (args ix)) (hi : ρ[i]? = some (.og (ndI P w g ds))) (hp : pre ix ds) (hq : ∀ y ds', post ix ds y ds' → Po'.nx ((ρ.set i (.og (ndI P w g ds'))).set j (.d y))) : Sm T W (tAsg (tCall (Osp P w args pre post) [] E0 ta) (gName j)) ρ Po' := fun F0 H0 σ F H D e k1 _ _ _ _ =>
  ha F0 H0 σ F H e _ fun rest kn F1 H1 x1 hσ r => by
    have e2 := e.ext x1
    obtain ⟨a, kvs, hσ', nt, fa, h0, hg, hH, rn, _⟩ := e2.getN hi
    have ea : a = kn := by
      rw [hσ] at hσ'
      exact (V.ref.inj (Option.some.inj (Option.some.inj hσ'))).symm
    subst ea
    exact ⟨F1, ix, a, kvs, ds, rest, by rw [List.append_nil], e2.le, fa, hH, rn, r, hp, fun v F' H' y kvs' ds' ex hf hh rn' py rv => k1 _ F' H' _ (x1.ff.trans ex.ff) ((e2.lent hi hσ ex hf hh rn').setD rv) (hq y ds' py)⟩
theorem sm_retL {ta : TA} (ix : ι) (ha : EvAO T ta ρ i (args ix)) (hi : ρ[i]? = some (.og (ndI P w g ds))) (hp : pre ix ds) (hq : ∀ y ds', post ix ds y ds' → Po'.rt y (ρ.set i (.og (ndI P w g ds')))) : Sm T W (tRet (tCall (Osp P w args pre post) [] E0 ta)) ρ Po' := fun F0 H0 σ F H D e _ k2 _ _ _ =>
  ha F0 H0 σ F H e _ fun rest kn F1 H1 x1 hσ r => by
    have e2 := e.ext x1
    obtain ⟨a, kvs, hσ', nt, fa, h0, hg, hH, rn, _⟩ := e2.getN hi
    have ea : a = kn := by
      rw [hσ] at hσ'
      exact (V.ref.inj (Option.some.inj (Option.some.inj hσ'))).symm
    subst ea
    exact ⟨F1, ix, a, kvs, ds, rest, by rw [List.append_nil], e2.le, fa, hH, rn, r, hp, fun v F' H' y kvs' ds' ex hf hh rn' py rv => k2 v _ F' H' _ y (e2.lent hi hσ ex hf hh rn') rv (hq y ds' py)⟩
/-- the arguments' data, a new dict behind them -/
def EvAN (T : Tn) (P : Program) (w : World) (ta : TA) (ρ : List Sl) (xs : List PyData) : Prop := ∀ F0 H0 σ F H, Env T F0 H0 F H σ ρ → ∀ Q : List V → Hp → Prop, (∀ rest kn F' H', Ext T F H F' H' → H' kn = none → RpAll F' rest xs → Q (rest ++ [.ref kn]) (upd H' kn (ndO P w kn []))) → ta σ H Q
theorem ean_last : EvAN T P w (tCons (tDNewN P w) tNil) ρ [] := fun F0 H0 σ F H e Q q => fun p hp => q [] p F H (Ext.refl e.le) hp .nil
theorem ean_cons {te : TE} {t : TA} {x : PyData} {xs : List PyData} (h : Ev T te ρ x) (ht : EvAN T P w t ρ xs) : EvAN T P w (tCons te t) ρ (x :: xs) := fun F0 H0 σ F H e Q q =>
  h F0 H0 σ F H e _ fun v F1 H1 e1 r1 => ht F0 H0 σ F1 H1 (e.ext e1) _ fun rest kn F2 H2 e2 hk r2 => q (v :: rest) kn F2 H2 (e1.trans e2) hk (.cons (r1.mono e2.ff) r2)
theorem er_upd {H : Hp} {a : Addr} {o : HO} (h : H a = none) : er (upd H a o) a = H := by
  funext b
  by_cases hb : b = a
  · subst hb
    rw [er_self, h]
  · rw [er_ne hb, upd_ne hb]
theorem sm_retN {ta : TA} (ix : ι) (ha : EvAN T P w ta ρ (args ix)) (hp : pre ix []) (hq : ∀ y ds', post ix [] y ds' → Po'.rt y ρ) : Sm T W (tRet (tCall (Osp P w args pre post) [] E0 ta)) ρ Po' := fun F0 H0 σ F H D e _ k2 _ _ _ =>
  ha F0 H0 σ F H e _ fun rest kn F1 H1 x1 hk r => by
    have e2 := e.ext x1
    have fk : F1 kn = none := e2.le.free hk
    refine ⟨F1, ix, kn, [], [], rest, by rw [List.append_nil], same_right e2.le fk, fk, upd_same, .nil, r, hp, fun v F' H' y kvs' ds' ex hf hh rn' py rv => ?_⟩
    rw [er_upd hk] at ex
    exact k2 v σ F' H' ρ y (e2.ext (ex.wide e2.town)) rv (hq y ds' py)
end
end Tr

set_option Elab.async false
set_option linter.all false
set_option maxRecDepth 100000
/-! Lay16: text * int; sorted of data. -/
namespace Tr
open PySem PySem.Spec PyProof.Rows L2 TL
variable [PWc]
theorem foldl_cps (l : List Nat) : ∀ (n : Nat) (acc : Array Nat), ((List.replicate n l.toArray).foldl (· ++ ·) acc).toList = acc.toList ++ (List.replicate n l).flatten
  | 0, acc => by simp
  | n + 1, acc => by
    rw [List.replicate_succ, List.foldl_cons, foldl_cps l n, List.replicate_succ, List.flatten_cons]
    simp
theorem rep_len (l : List Nat) : ∀ k, ((List.replicate k l).flatten).length = k * l.length
  | 0 => by simp
  | k + 1 => by rw [List.replicate_succ, List.flatten_cons, List.length_append, rep_len l k, Nat.succ_mul]; omega
def rRepT2 : R2 := fun x y H Q => ∃ (l : List Nat) (k : Nat), x = .str (S l) ∧ y = .int (k : Nat) ∧ k ≤ 1000 ∧ l.length ≤ 1000 ∧ Q (.str (S (List.replicate k l).flatten)) H
section
variable {X : Cx}
theorem op_repS : OpR X (binaryOp .Mult) rRepT2 := by
  intro pins s σ H x y v u Q I rx ry h
  obtain ⟨l, k, rfl, rfl, hk, hl, q⟩ := h
  obtain ⟨t, rfl⟩ := rx
  obtain ⟨t', rfl⟩ := ry
  have hlen : (S l).length = l.length := S_len l
  have hml : l.length * k ≤ 1000 * 1000 := Nat.mul_le_mul hl hk
  refine P.mul_str ?_ (fun h1 _ => ?_) (fun _ _ => ?_) ?_
  · rw [decide_eq_false (by omega), decide_eq_false (by omega)]
    rfl
  · rw [hlen]
    have : (1000 : Int) ≤ ((2 : Int) ^ 63 - 1) / (k : Int) := Int.le_ediv_of_mul_le (by omega) (by omega)
    omega
  · rw [hlen]
    show decide (l.length * k > sizeLine) = false
    refine decide_eq_false (Nat.not_lt.mpr (Nat.le_trans hml (by decide)))
  · by_cases h1 : (k : Int) < 1
    · rw [if_pos h1]
      have : k = 0 := by omega
      subst this
      exact ⟨by decide, .str (S []), H, I.tok _, ⟨_, rfl⟩, q⟩
    · rw [if_neg h1]
      by_cases h2 : ((k : Int) == 1 || (S l).length == 0) = true
      · rw [if_pos h2]
        have e : (List.replicate k l).flatten = l := by
          rw [hlen] at h2
          rcases Bool.or_eq_true_iff.mp h2 with h | h
          · have : (k : Int) = 1 := by simpa using h
            have : k = 1 := by omega
            subst this
            simp
          · have : l = [] := by simpa using h
            subst this
            simp
        rw [e] at q
        exact ⟨.str (S l), H, I, ⟨_, rfl⟩, q⟩
      · rw [if_neg h2]
        have e : (⟨(List.replicate (k : Int).toNat (S l).cps).foldl (· ++ ·) #[]⟩ : Str) = S (List.replicate k l).flatten := by
          apply ext_tl
          show ((List.replicate k l.toArray).foldl (· ++ ·) #[]).toList = _
          rw [foldl_cps]
          simp
        rw [e]
        exact ⟨by rw [S_len, rep_len, Nat.mul_comm]; exact Nat.le_trans hml (by decide), .str _, H, I.tok _, ⟨_, rfl⟩, q⟩
/-! ### sorted(a list of data) -/
def leD (a b : V × PyData) : Bool := PySem.W.dataLe false Prod.snd a b
def rSortDt (K : PySem.W.Frag) : List V → Hp → VK → Prop := fun xs H Q => ∃ (a : Addr) (bs : List (V × PyData)), xs = [.ref a] ∧ SqL K H a (bs.map Prod.fst) ∧ DpAll K H (bs.map Prod.fst) (bs.map Prod.snd) ∧ PySem.W.AllAlike (bs.map Prod.snd) ∧ PySem.W.Sortable (bs.map Prod.snd) ∧ (∀ b ∈ bs, b.2.depth ≤ 60) ∧ bs.length ≤ 100000 ∧ ∀ p, H p = none → Q (.ref p) (upd H p (.lst ((bs.mergeSort leD).map Prod.fst)))
theorem each_of_vals : ∀ {bs : List (V × PyData)} {its : List Value}, Vals (bs.map Prod.fst) its → PySem.W.EachIs (fun v (b : V × PyData) => RelV b.1 v) its bs
  | [], _, r => by
    cases r
    exact .nil
  | b :: bs, _, r => by
    cases r with
    | cons h t => exact .cons h (each_of_vals t)
theorem vals_of_each {bs : List (V × PyData)} {its : List Value} (h : PySem.W.EachIs (fun v (b : V × PyData) => RelV b.1 v) its bs) : Vals (bs.map Prod.fst) its := by
  induction h with
  | nil => exact .nil
  | cons h t ih => exact .cons h ih
theorem each_reads {pins : List (Addr × Obj)} {σ : L2.St} {H : Hp} {s : Shared} (I : Inv X pins σ H s) : ∀ {bs : List (V × PyData)} {its : List Value}, Vals (bs.map Prod.fst) its → DpAll X.K H (bs.map Prod.fst) (bs.map Prod.snd) → PySem.W.EachIs (fun v (b : V × PyData) => ∃ as, Reads s.heap v b.2 as) its bs
  | [], _, r, _ => by
    cases r
    exact .nil
  | b :: bs, _, r, d => by
    cases r with
    | cons h t =>
      cases d with
      | cons d1 d2 => exact .cons (Dp.reads I _ _ _ d1 h) (each_reads I t d2)
theorem cr_sortDt {k : Nat} (hr : Room k X.A) : CallR X (.builtin "sorted") (rSortDt X.K) := by
  intro pins s σ H xs us Q I r h
  obtain ⟨a, bs, rfl, hq, hd, hal, hso, hdep, hlen, q⟩ := h
  obtain ⟨u, rfl, rx⟩ := vals1 r
  cases rx
  obtain ⟨its, rv, pl, hz⟩ := I.list hq
  have hun := hr.un
  refine PySem.W.sorted_data (R := fun v (b : V × PyData) => RelV b.1 v) (enc := Prod.snd) (bs := bs) pl.isList (each_of_vals rv) (each_reads I rv hd) hal hso (szok hlen) (fun b hb => by have := hdep b hb; omega) fun out ho eo => ?_
  obtain ⟨ep, he⟩ := PyProof.Rows.sortedAll_at s.heap its out.toArray
  have hl2 : ((bs.mergeSort leD).map Prod.fst).length ≤ sizeLine := by
    rw [List.length_map, List.length_mergeSort]
    exact szok hlen
  exact ⟨.ref _, upd H (s.heap.objs.size + 1) (.lst ((bs.mergeSort leD).map Prod.fst)), I.laid (t' := s.toks) (fun _ _ => PyProof.Rows.sortedAll_old) (Nat.le_succ _) ⟨hl2, out, ep, vals_of_each eo, he⟩, rfl, q _ (I.hok.fresh (Nat.le_succ _))⟩
end
section
variable {T : Tn} {W : WX} {K : PySem.W.Frag} {ρ : List Sl} {P : Po} {ta tb te : TE}
theorem ev_repS {l : List Nat} {k : Nat} (ha : Ev T ta ρ (sD l)) (hb : Ev T tb ρ (.int (k : Nat))) (hk : k ≤ 1000) (hl : l.length ≤ 1000) : Ev T (tOp rRepT2 ta tb) ρ (sD (List.replicate k l).flatten) := ev_op ha hb (rv_str fun F H v u s rx ry Q q => ⟨l, k, rx.str_eq, ry.int_eq, hk, hl, q⟩)
/-- data in order -/
def srtD (xs : List PyData) : List PyData := xs.mergeSort (PySem.W.dataLe false id)
theorem rp_pairs {F : Hp} : ∀ {bs : List (V × PyData)}, (∀ b ∈ bs, Rp F b.1 b.2) → RpAll F (bs.map Prod.fst) (bs.map Prod.snd)
  | [], _ => .nil
  | b :: bs, h => .cons (h b (by simp)) (rp_pairs fun c hc => h c (List.mem_cons_of_mem _ hc))
theorem rp_zip {F : Hp} : ∀ {vs : List V} {xs : List PyData}, RpAll F vs xs → (∀ b ∈ vs.zip xs, Rp F b.1 b.2) ∧ (vs.zip xs).map Prod.fst = vs ∧ (vs.zip xs).map Prod.snd = xs
  | _, _, .nil => ⟨fun b hb => (nomatch hb), rfl, rfl⟩
  | _, _, .cons h t => by
    obtain ⟨h1, h2, h3⟩ := rp_zip t
    refine ⟨fun b hb => ?_, by rw [List.zip_cons_cons, List.map_cons, h2], by rw [List.zip_cons_cons, List.map_cons, h3]⟩
    rcases List.mem_cons.mp hb with rfl | hb
    · exact h
    · exact h1 b hb
theorem eo_sortDt {xs : List PyData} (ha : Ev T ta ρ (.list xs)) (hp : PyData.plainAll xs = true) (hal : PySem.W.AllAlike xs) (hso : PySem.W.Sortable xs) (hd : ∀ x ∈ xs, x.depth ≤ 60) (hl : xs.length ≤ 100000) : EvO T (tCB (rSortDt K) (tCons ta tNil)) ρ fun ys => ys = srtD xs := fun F0 H0 σ F H e Q q =>
  ha F0 H0 σ F H e _ fun v F1 H1 e1 r1 => by
    obtain ⟨a, vs, rfl, hk, r⟩ := r1.lst_eq
    have e2 := e.ext e1
    obtain ⟨z1, z2, z3⟩ := rp_zip r
    refine ⟨a, vs.zip xs, rfl, by rw [z2]; exact SqL.of (e1.fh _ _ hk), by rw [z2, z3]; exact r.dp e1.fh hp, by rw [z3]; exact hal, by rw [z3]; exact hso, fun b hb => hd b.2 (by rw [← z3]; exact List.mem_map.mpr ⟨b, hb, rfl⟩), ?_, fun p hp => ?_⟩
    · have := congrArg List.length z3
      rw [List.length_map] at this
      rw [this]
      exact hl
    · have em : ((vs.zip xs).mergeSort leD).map Prod.snd = srtD xs := by
        rw [List.map_mergeSort (s := PySem.W.dataLe false id), z3]
        · rfl
        · intro a _ b _
          rfl
      refine q p _ (srtD xs) F1 _ (e1.trans (Ext.new1 e2.le hp)) (freshH e e1 hp) (e2.le.free hp) upd_same rfl ?_
      rw [← em]
      exact rp_pairs fun b hb => z1 b (List.mem_mergeSort.mp hb)
end
section
variable {X : Cx} {k : Nat} {e : Expr} {t : TA} {p pos : Pos}
theorem k_sortDt (K : PySem.W.Frag) (hr : Room k X.A) (hg : Gl X "sorted") (hm : X.mg "sorted" = none) (ha : PA X [e] t) (he : starEach [e] X.env = (false, eval e X.env) :: starEach [] X.env := by rfl) (hK : X.K = K := by rfl) : PE X (.Call (.Name "sorted" p) [e] [] pos) (tCB (rSortDt K) t) := by subst hK; exact pe_callB (cr_sortDt hr) hg hm (by decide +kernel) ha (he := he)
end
end Tr
namespace Tr
open PySem PySem.Spec PyProof.Rows L2 TL
variable [PWc]
section
variable {X : Cx} {k j : Nat} {x : Str} {sp : Sp} {p pos : Pos}
/-- f() -/
theorem pe_f0 (c : Cl X.prog X.w X.K X.mg X.base k x sp) (hr : Room j X.A) (hk : k ≤ j) (hg : Gl X x) (hdb : (x == ("__debug__" : Str)) = false := by decide) : PE X (.Call (.Name x p) [] [] pos) (tCall sp [] E0 tNil) := by
  obtain ⟨f, fd, ps, F, hm, kp, b⟩ := c.ex
  exact pe_call0 F (hr.mono hk) hg hm kp b .nil passN hdb
end
end Tr

set_option Elab.async false
set_option linter.all false
set_option maxRecDepth 100000
/-! Lay17: dicts with nested keys as data. -/
namespace Tr
open PySem PySem.Spec PyProof.Rows L2 TL
variable [PWc]
section
variable {T : Tn} {W : WX} {K : PySem.W.Frag} {ρ : List Sl} {Po' : Po} {t : TS} {ta tb te : TE} {x y : PyData} {i j : Nat} {ds : ND} {g : Addr → Prop}
/-- an own dict becomes data -/
theorem sm_freezeN (hs : ρ[i]? = some (.og (ndI P w g ds))) (h : Sm T W t (ρ.set i (.d (ndD ds))) Po') : Sm T W t ρ Po' := fun F0 H0 σ F H D e k1 k2 k3 k4 k5 => by
  obtain ⟨F', a, _, sF, e', _⟩ := e.freezeG (s1 := .d (ndD ds)) hs rfl rfl fun a o F' s1 h1 h2 q => by
    obtain ⟨_, _, _, _, u, hv, hq⟩ := q
    rw [h1] at hv
    cases hv
    obtain ⟨_, kvs, rfl, r⟩ := hq F' s1
    exact ⟨_, rfl, .nd h2 r rfl⟩
  exact h F0 H0 σ F' H D e' (fun a b c d s e p => k1 a b c d (sF.trans s) e p) k2 (fun a b c d s e p => k3 a b c d (sF.trans s) e p) (fun a b c d s e p => k4 a b c d (sF.trans s) e p) fun a b c d f s e p => k5 a b c d f (sF.trans s) e p
theorem ev_inM {f : Bool → Bool} {k : NestedKey} (ha : Ev T ta ρ (nkD k)) (hd : Ev T tb ρ (ndD ds)) (hk : ∃ ks, k = .tup ks) (hdep : k.depth ≤ 8) : Ev T (tOp (rInN P w f) ta tb) ρ (.bool (f (atM ds k).isSome)) := ev_op ha hd (rv_bl fun F H v u s rx ry Q q => by
  obtain ⟨a, kvs, rfl, hH, r⟩ := ry.nd_eq
  obtain ⟨ks, rfl⟩ := hk
  have rx' : Rp F v (.tuple (nkDs ks)) := by simpa only [nkD] using rx
  obtain ⟨b, o, xs, rfl, _⟩ := rx'.tup_eq
  refine ⟨a, kvs, .tup ks, b, rfl, rfl, s _ _ hH, r.ok s, Rp.nk s rx, hdep, ?_⟩
  have he : (atN kvs (.tup ks)).isSome = (atM ds (.tup ks)).isSome := by
    rcases r.at (k := .tup ks) with ⟨v', d', h1, h2, _⟩ | ⟨h1, h2⟩
    · rw [h1, h2]
      rfl
    · rw [h1, h2]
      rfl
  rw [he]
  exact q)
theorem ev_ixM {k : NestedKey} {d : PyData} (hd : Ev T tb ρ (ndD ds)) (ha : Ev T ta ρ (nkD k)) (hk : ∃ ks, k = .tup ks) (hdep : k.depth ≤ 8) (h : atM ds k = some d) : Ev T (tOp (rIxN P w) tb ta) ρ d := ev_op hd ha fun F H v u s tt rx ry Q q => by
  obtain ⟨a, kvs, rfl, hH, r⟩ := rx.nd_eq
  obtain ⟨ks, rfl⟩ := hk
  have ry' : Rp F u (.tuple (nkDs ks)) := by simpa only [nkD] using ry
  obtain ⟨b, o, xs, rfl, _⟩ := ry'.tup_eq
  rcases r.at (k := .tup ks) with ⟨v', d', h1, h2, h3⟩ | ⟨h1, h2⟩
  · rw [h] at h2
    cases h2
    exact ⟨a, kvs, .tup ks, b, v', rfl, rfl, s _ _ hH, r.ok s, Rp.nk s ry, hdep, h1, q _ F H (Ext.refl s) h3⟩
  · rw [h] at h2
    cases h2
/-- a, b = {}, {} -/
theorem sm_parNN (hij : i ≠ j) (hi : i < ρ.length) (k : Po'.nx ((ρ.set i (.og (ndI P w anyA []))).set j (.og (ndI P w anyA [])))) : Sm T W (tPar i j (tCons (tDNewN P w) (tCons (tDNewN P w) tNil))) ρ Po' := fun F0 H0 σ F H D e k1 _ _ _ _ => fun p hp q hq => by
  have hnew : ∀ {F H : Hp} {σ : L2.St} {ρ : List Sl} {n : Nat} {p : Addr}, Env T F0 H0 F H σ ρ → H p = none → Env T F0 H0 F (upd H p (ndO P w p [])) (σ.set n (some (.ref p))) (ρ.set n (.og (ndI P w anyA []))) := fun {F H σ ρ n p} e hp =>
    e.putNew (s := .og (ndI P w anyA [])) (Ext.new1 e.le hp) hp fun nt n0 => ⟨rfl, nt, e.le.free hp, n0, _, upd_same, fun F' s' => ⟨trivial, [], rfl, .nil⟩⟩
  exact ⟨_, _, rfl, k1 _ F _ _ (Same.refl _) (hnew (hnew e hp) hq) k⟩
end
end Tr

set_option Elab.async false
set_option linter.all false
set_option maxRecDepth 100000
/-! Lay18: own dicts read; dict displays. -/
namespace Tr
open PySem PySem.Spec PyProof.Rows L2 TL
variable [PWc]
section
variable {T : Tn} {W : WX} {K : PySem.W.Frag} {ρ : List Sl} {Po' : Po} {t : TS} {ta tb te : TE} {x y : PyData} {i j : Nat} {ds : List (Key × PyData)}
theorem ev_inO {f : Bool → Bool} {k : Key} (hd : ρ[i]? = some (.od ds)) (ha : Ev T ta ρ (kD k)) : Ev T (tOp (rInU K f) ta (tVar i)) ρ (.bool (f (atK ds k).isSome)) := fun F0 H0 σ F H e Q q =>
  ha F0 H0 σ F H e _ fun v F1 H1 e1 r1 => by
    obtain ⟨a, vs, hσ, hH, r, _⟩ := (e.ext e1).writeD hd
    refine ⟨_, hσ, .inr (.inr ⟨a, valV vs k, rfl, ?_, ?_⟩)⟩
    · rw [kV_kD r1]
      exact DGet.k hH
    · rcases r.at k with ⟨d, v', h1, h2, _⟩ | ⟨h1, h2⟩
      · rw [h2]
        have := q (.bl (f true)) F1 H1 e1
        rw [h1] at this
        exact this (.bl _)
      · rw [h2]
        have := q (.bl (f false)) F1 H1 e1
        rw [h1] at this
        exact this (.bl _)
theorem ev_ixO {k : Key} {d : PyData} (hd : ρ[i]? = some (.od ds)) (ha : Ev T ta ρ (kD k)) (h : atK ds k = some d) : Ev T (tOp (rIxU K) (tVar i) ta) ρ d := fun F0 H0 σ F H e Q q => by
  obtain ⟨a, vs, hσ, hH, r, _⟩ := e.writeD hd
  refine ⟨_, hσ, ha F0 H0 σ F H e _ fun v F1 H1 e1 r1 => ?_⟩
  obtain ⟨a', vs', hσ', hH', r', _⟩ := (e.ext e1).writeD hd
  have ea : a' = a := by
    rw [hσ] at hσ'
    exact (V.ref.inj (Option.some.inj (Option.some.inj hσ'))).symm
  subst ea
  rcases r'.at k with ⟨d', v', h1, h2, h3⟩ | ⟨h1, h2⟩
  · rw [h] at h1
    cases h1
    refine .inr ⟨a', v', rfl, ?_, q v' F1 H1 e1 h3⟩
    rw [kV_kD r1, ← h2]
    exact DGet.k hH'
  · rw [h] at h1
    cases h1
/-- a call whose answer is taken apart -/
theorem sm_asgTP {g : TG} {R : PyData → Prop} (h : EvP T te ρ R) (k : ∀ x, R x → ∃ ρ', Tg T g x ρ ρ' ∧ Po'.nx ρ') : Sm T W (tAsg te g) ρ Po' := fun F0 H0 σ F H D e k1 _ _ _ _ =>
  h F0 H0 σ F H e _ fun v F' H' x ex px r => by
    obtain ⟨ρ', tg, n⟩ := k x px
    exact tg F0 H0 σ F' H' v (e.ext ex) r _ fun σ' e' => k1 _ F' H' _ ex.ff e' n
theorem evp_call1 {ι : Type} {args : ι → List PyData} {pre : ι → Prop} {post : ι → PyData → Prop} {xx : ι → Addr → Prop} {ta : TA} {R : PyData → Prop} (i : ι) (ha : EvA T ta ρ fun zs => zs = args i) (hp : pre i) (hq : ∀ y, post i y → R y) (hx : ∀ c, ¬ xx i c := by exact fun c z => z) : EvP T (tCall (Fsp args pre post xx) [] E0 ta) ρ R :=
  evp_call (A := fun j => j = i) (ha.mono fun zs e => ⟨i, e, rfl⟩) (fun j e => e ▸ hp) (fun j y e h => hq y (e ▸ h)) fun j c e h => hx c (e ▸ h)
/-! ### displays -/
def EvPs (T : Tn) (trs : List (TE × TE)) (ρ : List Sl) (kxs : List (Key × PyData)) : Prop := ∀ F0 H0 σ F H, Env T F0 H0 F H σ ρ → ∀ Q : List (V × V) → Hp → Prop, (∀ F' H' kvs, Ext T F H F' H' → RpKV F' kvs kxs → Q (kvs.map fun kv => (kV kv.1, kv.2)) H') → tPairs trs σ H Q
theorem RpKV.mono' {F F' : Hp} (s : Same F F') {vs : List (Key × V)} {ds : List (Key × PyData)} (h : RpKV F vs ds) : RpKV F' vs ds := h.mono s
theorem eps_nil : EvPs T [] ρ [] := fun F0 H0 σ F H e Q q => q F H [] (Ext.refl e.le) .nil
theorem eps_cons {trs : List (TE × TE)} {k : Key} {kxs : List (Key × PyData)} (hk : Ev T ta ρ (kD k)) (hv : Ev T tb ρ x) (hr : EvPs T trs ρ kxs) : EvPs T ((ta, tb) :: trs) ρ ((k, x) :: kxs) := fun F0 H0 σ F H e Q q =>
  hk F0 H0 σ F H e _ fun v F1 H1 e1 r1 => hv F0 H0 σ F1 H1 (e.ext e1) _ fun u F2 H2 e2 r2 => hr F0 H0 σ F2 H2 ((e.ext e1).ext e2) _ fun F3 H3 kvs e3 r3 => by
    rw [kV_kD r1]
    exact q F3 H3 ((k, u) :: kvs) ((e1.trans e2).trans e3) (.cons (r2.mono e3.ff) r3)
theorem en_disp {trs : List (TE × TE)} {kxs : List (Key × PyData)} (h : EvPs T trs ρ kxs) (hl : kxs.length ≤ 15) : EvN T (tDisp trs) ρ fun es => es = mergeD kxs := fun F0 H0 σ F H e Q q => fun p hp => by
  have x0 : Ext T F H F (upd H p (.dK [])) := Ext.new1 e.le hp
  have nT : ¬ T p := fun t => by
    obtain ⟨_, z, _⟩ := e.town p t
    rw [hp] at z
    cases z
  refine h F0 H0 σ F _ (e.ext x0) _ fun F1 H1 kvs x1 r1 => ?_
  have hp1 : H1 p = some (.dK []) := x1.hh p _ nT upd_same
  have fp1 : F1 p = none := x1.ow p _ nT upd_same (e.le.free hp)
  refine ⟨hp1, kvs, rfl, by rw [r1.length]; exact hl, ?_⟩
  have x2 : Ext T F H F1 (upd H1 p (.dK (mergeK [] kvs))) := by
    refine ⟨x1.ff, same_right x1.fh fp1, fun b o nb hb => ?_, fun b o nb hb hf => x1.ow b o nb (by rw [upd_ne (ne_of_none hb hp)]; exact hb) hf, x1.tf, fun b hb z => ?_⟩
    · rw [upd_ne (ne_of_none hb hp)]
      exact x1.hh b o nb (by rw [upd_ne (ne_of_none hb hp)]; exact hb)
    · have nb : b ≠ p := fun z => nT (z ▸ hb)
      have z' : Town T F (upd H p (.dK [])) b := by
        obtain ⟨o, h1, h2⟩ := z
        exact ⟨o, by rw [upd_ne nb]; exact h1, h2⟩
      obtain ⟨o, h1, h2⟩ := x1.tw b hb z'
      exact ⟨o, by rw [upd_ne nb]; exact h1, h2⟩
  refine q p (mergeK [] kvs) (mergeD kxs) F1 _ x2 hp fp1 upd_same rfl ?_
  exact RpKV.merge r1 .nil
end
section
variable {X : Cx} {a b : Expr} {ta tb : TE} {pos : Pos} {k : Nat}
theorem k_ixN (hr : Room k X.A) (ha : PE X a ta) (hb : PE X b tb) (hs : PlainIx b) (hP : X.prog = P := by rfl) (hw : X.w = w := by rfl) : PE X (.Subscript a b pos) (tOp (rIxN P w) ta tb) := by
  rw [← hP, ← hw]
  exact pe_ix (ix_N hr) ha hb hs
theorem k_inN (hr : Room k X.A) (ha : PE X a ta) (hb : PE X b tb) (hm : behindInMarks .In b = false := by rfl) (hP : X.prog = P := by rfl) (hw : X.w = w := by rfl) : PE X (.Compare a [.In] [b] pos) (tOp (rInN P w fun b => b) ta tb) := by
  rw [← hP, ← hw]
  exact pe_cmpR (op_inN hr) ha hb hm
theorem k_ninN (hr : Room k X.A) (ha : PE X a ta) (hb : PE X b tb) (hm : behindInMarks .NotIn b = false := by rfl) (hP : X.prog = P := by rfl) (hw : X.w = w := by rfl) : PE X (.Compare a [.NotIn] [b] pos) (tOp (rInN P w fun b => !b) ta tb) := by
  rw [← hP, ← hw]
  exact pe_cmpR (op_ninN hr) ha hb hm
theorem kt_inN (hr : Room k X.A) (ha : PE X a ta) (hb : PE X b tb) (hm : behindInMarks .In b = false := by rfl) (hP : X.prog = P := by rfl) (hw : X.w = w := by rfl) : PT X (.Compare a [.In] [b] pos) (tTest (tOp (rInN P w fun b => b) ta tb)) := by
  rw [← hP, ← hw]
  exact pt_cmpR (op_inN hr) ha hb hm
theorem kt_ninN (hr : Room k X.A) (ha : PE X a ta) (hb : PE X b tb) (hm : behindInMarks .NotIn b = false := by rfl) (hP : X.prog = P := by rfl) (hw : X.w = w := by rfl) : PT X (.Compare a [.NotIn] [b] pos) (tTest (tOp (rInN P w fun b => !b) ta tb)) := by
  rw [← hP, ← hw]
  exact pt_cmpR (op_ninN hr) ha hb hm
end
end Tr

set_option Elab.async false
set_option linter.all false
set_option maxRecDepth 100000
/-! Lay19: enumerate. -/
namespace Tr
open PySem PySem.Spec PyProof.Rows L2 TL
variable [PWc]
section
variable {T : Tn} {K : PySem.W.Frag} {ρ : List Sl} {te : TE} {ta : TA}
def enumD (xs : List PyData) : List PyData := xs.zipIdx.map fun p => loD [.int (p.2 : Nat), p.1]
theorem enumD_get {xs : List PyData} {i : Nat} {x : PyData} (h : (enumD xs)[i]? = some x) : ∃ y, xs[i]? = some y ∧ x = loD [.int (i : Nat), y] := by
  unfold enumD at h
  rw [List.getElem?_map, List.getElem?_zipIdx] at h
  cases e : xs[i]? with
  | none =>
    rw [e] at h
    cases h
  | some y =>
    rw [e] at h
    refine ⟨y, rfl, ?_⟩
    have := Option.some.inj h
    rw [← this]
    simp
theorem enumD_len (xs : List PyData) : (enumD xs).length = xs.length := by
  unfold enumD
  rw [List.length_map, List.length_zipIdx]
theorem walks_enum {F : Hp} {a : Addr} {vs : List V} {xs : List PyData} (ha : F a = some (.lst vs)) (ra : RpAll F vs xs) : Walks T F (Ite K a) (enumD xs) where
  go := fun i F2 H s s2 hi => by
    rw [enumD_len] at hi
    obtain ⟨v, hv, _⟩ := ra.get (List.getElem?_eq_getElem hi)
    exact ⟨vs, v, SqL.of (s2 _ _ (s _ _ ha)), hv⟩
  stop := fun i F2 H s s2 hi => by
    rw [enumD_len] at hi
    exact ⟨vs, SqL.of (s2 _ _ (s _ _ ha)), by rw [ra.length]; exact hi⟩
  yld := fun i F2 H v H' s s2 t hi hy => by
    have hi' := hi
    rw [enumD_len] at hi
    obtain ⟨y, h1⟩ : ∃ y, xs[i]? = some y := ⟨_, List.getElem?_eq_getElem hi⟩
    obtain ⟨w, w1, rfl, nT, rfl, q1⟩ := hy
    obtain ⟨v, hv, rv⟩ := ra.get h1
    have e1 := (q1 vs (SqL.of (s2 _ _ (s _ _ ha)))).symm.trans hv
    cases e1
    have x2 : Ext T F2 H (upd F2 w (.tup [.int (i : Nat), w1])) (upd H w (.tup [.int (i : Nat), w1])) := Ext.new s2 (fun b hb => (t b hb).2) nT
    refine ⟨_, loD [.int (i : Nat), y], ?_, x2, .lo upd_same (.cons (.int _) (.cons ((rv.mono s).mono x2.ff) .nil))⟩
    unfold enumD
    rw [List.getElem?_map, List.getElem?_zipIdx, h1]
    simp
theorem wk_enum {xs : List PyData} (h : EvA T ta ρ fun zs => zs = [.list xs]) : Wk T (iEnum K ta) ρ fun zs => zs = enumD xs := fun F0 H0 σ F H e R k =>
  h F0 H0 σ F H e _ fun vs F' H' zs ex ez r => by
    subst ez
    cases r with
    | cons r1 r =>
      cases r
      obtain ⟨a, vs1, rfl, ha, ra⟩ := r1.lst_eq
      exact ⟨a, vs1, rfl, SqL.of (ex.fh _ _ ha), k _ F' H' _ ex rfl (walks_enum ha ra)⟩
end
section
variable {X : Cx} {e : Expr} {t : TA} {p pos : Pos}
theorem k_ie (K : PySem.W.Frag) {tpos : Pos} {elts : List Expr} {kk : Nat} (hg : Gl X "enumerate") (hm : X.mg "enumerate" = none) (ha : PA X [e] t) (hs : starEach [e] X.env = [(false, eval e X.env)] := by rfl) (hK : X.K = K := by rfl) : PI X (.Tuple elts kk tpos) (.Call (.Name "enumerate" p) [e] [] pos) (iEnum K t) := by subst hK; exact pi_enum hg hm ha hs
end
end Tr

set_option Elab.async false
set_option linter.all false
set_option maxRecDepth 100000
/-! Lay20: promises of defs that may change things; defs within defs that are handed on. -/
namespace Tr
open PySem PySem.Spec PyProof.Rows L2 TL
variable [PWc]
/-! ### promises over things that may change -/
structure SubT (T' T : Tn) : Prop where
  all : ∀ b, T' b → T b ∧ ∀ F o, T'.inv b F o ↔ T.inv b F o
theorem SubT.refl (T : Tn) : SubT T T := ⟨fun b h => ⟨h, fun _ _ => Iff.rfl⟩⟩
theorem SubT.zero (T : Tn) : SubT T0 T := ⟨fun b h => (T0.no h).elim⟩
theorem SubT.town {T' T : Tn} {F H : Hp} {b : Addr} (s : SubT T' T) (hb : T' b) (h : Town T F H b) : Town T' F H b := by
  obtain ⟨o, h1, h2⟩ := h
  exact ⟨o, h1, fun F' s' => ((s.all b hb).2 F' o).mpr (h2 F' s')⟩
theorem SubT.tn {T' T : Tn} {F H : Hp} (s : SubT T' T) (h : ∀ b, T b → F b = none ∧ Town T F H b) : ∀ b, T' b → F b = none ∧ Town T' F H b := fun b hb => ⟨(h b (s.all b hb).1).1, s.town hb (h b (s.all b hb).1).2⟩
def Gsp (T' : Tn) {ι : Type} (args : ι → List PyData) (pre : ι → Prop) (post : ι → PyData → Prop) (xx : ι → Addr → Prop) : Sp := fun vs H Q E => ∃ F i, Same F H ∧ (∀ b, T' b → F b = none ∧ Town T' F H b) ∧ RpAll F vs (args i) ∧ pre i ∧ (∀ v F' H' y, Ext T' F H F' H' → post i y → Rp F' v y → Q v H') ∧ ∀ c F' H', Ext T' F H F' H' → xx i c → E (.ref c) none H'
section
variable {P : Program} {w : World} {K : PySem.W.Frag} {mg : Str → Option Value} {base : Heap}
theorem cl_gn (T' : Tn) {x : Str} {st : Stmt} {N ps : List Str} {k : Nat} {ι : Type} {args : ι → List PyData} {pre : ι → Prop} {post : ι → PyData → Prop} {xx : ι → Addr → Prop} (d : Defn K mg x st ps) (sc : FnScope N ps (defScope st)) (hl : ∀ i, (args i).length = ps.length)
    (hb : ∀ (f : Addr) (fd : FuncData) (cdv : Value) (A : Around) (outer : List PySem.Env) (s : Shared) (H : Hp) (E : XK), FunD K x x (defArgs st) (defBody st) (defScope st) [] [] f fd → fd.code = cdv → Room k (A.deeper (envOfC x (defScope st) s.heap.objs.size f cdv)) →
      ∃ t, PSs (cxOf (L2N.CX P w) P w K mg base N x (defScope st) f cdv A outer s H E) (defBody st) t ∧ ∀ i, pre i → Sm T' (fun c d _ H' => E c d H') t (slots N (args i)) { nx := fun _ => post i .none, rt := fun y _ => post i y, xx := fun c _ => xx i c }) : Cl P w K mg base (k + 1) x (Gsp T' args pre post xx) := by
  obtain ⟨f, fd, F, hm, b⟩ := d
  refine ⟨f, fd, ps, ?_, hm, F.kp, b⟩
  have F' := F
  obtain ⟨oc, od, dV, kV, doc, pm, an, cdv, ct, osl, rfl, lk, hcd, _, _⟩ := F.ex
  refine fn_of lk hcd sc (fun vs H Q E h => ?_) fun A outer s H vs Q E hr h => ?_
  · obtain ⟨_, i, _, _, r, _⟩ := h
    rw [r.length]
    exact hl i
  · obtain ⟨F, i, sF, tn, r, p, q1, q2⟩ := h
    obtain ⟨t, ht, hs⟩ := hb f _ cdv A outer s H E F' rfl hr
    refine ⟨t, ht, ?_⟩
    exact hs i p F H _ F H _ (env_start sF tn r) (fun σ' F' H' ρ' _ e' pn => q1 .non F' H' .none e'.ex pn .non) (fun v σ' F' H' ρ' y en rv py => q1 v F' H' y en.ex py rv) (fun _ _ _ _ _ _ z => z.elim) (fun _ _ _ _ _ _ z => z.elim) fun c σ' F' H' ρ' _ e' pc => q2 c F' H' e'.ex pc
end
section
variable {T T' : Tn} {W : WX} {ρ : List Sl} {P : Po} {ta : TA} {ι : Type} {args : ι → List PyData} {pre : ι → Prop} {post : ι → PyData → Prop} {xx : ι → Addr → Prop} {x y z : PyData}
theorem Ext.sub {F H F' H' : Hp} (s : SubT T' T) (x : Ext T' F H F' H') (t : ∀ b, T b → Town T F H b) : Ext T F H F' H' := x.wideT s.all t
theorem evp_callG {R : PyData → Prop} (s : SubT T' T) (i : ι) (ha : EvA T ta ρ fun zs => zs = args i) (hp : pre i) (hq : ∀ y, post i y → R y) (hx : ∀ c, ¬ xx i c := by exact fun c z => z) : EvP T (tCall (Gsp T' args pre post xx) [] E0 ta) ρ R := fun F0 H0 σ F H e Q q =>
  ha F0 H0 σ F H e _ fun vs F1 H1 ds e1 ed r => by
    subst ed
    have e2 := e.ext e1
    exact ⟨F1, i, e1.fh, s.tn e2.tn, by rw [List.append_nil]; exact r, hp, fun v F' H' y ex py rv => q v F' H' y (e1.trans (ex.sub s e2.town)) (hq y py) rv, fun c F' H' ex pc => hx c pc⟩
theorem ev_callG (s : SubT T' T) (i : ι) (ha : EvA T ta ρ fun zs => zs = args i) (hp : pre i) (hq : ∀ y, post i y → y = z) (hx : ∀ c, ¬ xx i c := by exact fun c z => z) : Ev T (tCall (Gsp T' args pre post xx) [] E0 ta) ρ z := (evp_callG s i ha hp hq hx).det
theorem sm_callGX (s : SubT T' T) (i : ι) (ha : EvA T ta ρ fun zs => zs = args i) (hp : pre i) (hq : ∀ y, post i y → P.nx ρ) (hx : ∀ c, xx i c → P.xx c ρ) : Sm T W (tDrop (tCallS (Gsp T' args pre post xx) (WE W) ta)) ρ P := fun F0 H0 σ F H D e k1 k2 k3 k4 k5 =>
  ha F0 H0 σ F H e _ fun vs F1 H1 zs e1 pd r => by
    subst pd
    have e2 := e.ext e1
    exact ⟨F1, i, e1.fh, s.tn e2.tn, r, hp, fun v F' H' y ex py rv => k1 _ F' H' _ (e1.ff.trans ex.ff) (e2.ext (ex.sub s e2.town)) (hq y py), fun c F' H' ex pc => k5 c σ F' H' ρ (e1.ff.trans ex.ff) (e2.ext (ex.sub s e2.town)) (hx c pc)⟩
theorem sm_retGX (s : SubT T' T) (i : ι) (ha : EvA T ta ρ fun zs => zs = args i) (hp : pre i) (hq : ∀ y, post i y → P.rt y ρ) (hx : ∀ c, xx i c → P.xx c ρ) : Sm T W (tRet (tCallS (Gsp T' args pre post xx) (WE W) ta)) ρ P := fun F0 H0 σ F H D e k1 k2 k3 k4 k5 =>
  ha F0 H0 σ F H e _ fun vs F1 H1 zs e1 pd r => by
    subst pd
    have e2 := e.ext e1
    exact ⟨F1, i, e1.fh, s.tn e2.tn, r, hp, fun v F' H' y ex py rv => k2 v σ F' H' ρ y (e2.ext (ex.sub s e2.town)) rv (hq y py), fun c F' H' ex pc => k5 c σ F' H' ρ (e1.ff.trans ex.ff) (e2.ext (ex.sub s e2.town)) (hx c pc)⟩
theorem sm_asgGX (s : SubT T' T) {j : Nat} (i : ι) (ha : EvA T ta ρ fun zs => zs = args i) (hp : pre i) (hq : ∀ y, post i y → P.nx (ρ.set j (.d y))) (hx : ∀ c, xx i c → P.xx c ρ) : Sm T W (tAsg (tCallS (Gsp T' args pre post xx) (WE W) ta) (gName j)) ρ P := fun F0 H0 σ F H D e k1 k2 k3 k4 k5 =>
  ha F0 H0 σ F H e _ fun vs F1 H1 zs e1 pd r => by
    subst pd
    have e2 := e.ext e1
    exact ⟨F1, i, e1.fh, s.tn e2.tn, r, hp, fun v F' H' y ex py rv => k1 _ F' H' _ (e1.ff.trans ex.ff) ((e2.ext (ex.sub s e2.town)).setD rv) (hq y py), fun c F' H' ex pc => k5 c σ F' H' ρ (e1.ff.trans ex.ff) (e2.ext (ex.sub s e2.town)) (hx c pc)⟩
end
/-! ### tables of code objects -/
def tabI (nm : Nat → Nat → Str) (_ : Addr) (F : Hp) (o : HO) : Prop := ∃ ps : Array Value, o = .tbl ps ∧ TriplesOk ps.toList ∧ ∀ (q : Pos) (cv : Value), codeAmong q ps.toList = some cv → ∃ c, cv = .ref c ∧ F c = some (LamX.CodeO c (nm q.line q.col))
def Tb (tab : Addr) (nm : Nat → Nat → Str) : Tn := ⟨fun b => b = tab, tabI nm⟩
/-- the reading of a def within a def: the table tells its code object, or is told it -/
def tMkF (tab : Addr) (q : Pos) (i : Nat) (qual : Str) (mk : Addr → NdefX.NF) : TS := fun D σ H => ∃ ps : Array Value, H tab = some (.tbl ps) ∧ TriplesOk ps.toList ∧
  (∀ cv, codeAmong q ps.toList = some cv → ∃ c, cv = .ref c ∧ H c = some (LamX.CodeO c qual) ∧ ∀ f, H f = none → D.nx (σ.set i (some (.ref f))) (upd H f (NdefX.FnO f (mk c)))) ∧
  (codeAmong q ps.toList = none → ∀ c f, H c = none → upd (upd H tab (.tbl (ps ++ #[rawInt q.line, rawInt q.col, .ref c]))) c (LamX.CodeO c qual) f = none →
    D.nx (σ.set i (some (.ref f))) (upd (upd (upd H tab (.tbl (ps ++ #[rawInt q.line, rawInt q.col, .ref c]))) c (LamX.CodeO c qual)) f (NdefX.FnO f (mk c))))
section
variable {X : Cx}
theorem ps_mkF {st : Stmt} {c0 tab : Addr} {name : Str} {q : Pos} {i : Nat} (hst : st = .FunctionDef name (C8.fnArgs st) (C8.fnBody st) [] none [] (C8.fnScope st) none name q) (TB : LamX.TabB X.base X.mg c0 tab) (hcode : X.env.code = .ref c0)
    (hfree : ∀ y ∈ (C8.fnScope st).names, y.2 = .free → X.env.scope.names.lookup y.1 = some .cell ∨ X.env.scope.names.lookup y.1 = some .free) (hd0 : (C8.fnArgs st).defaults = []) (hk0 : (C8.fnArgs st).kw_defaults = []) (ha : annTrees (C8.fnArgs st) none X.env = [])
    (hN : X.N.Nodup) (hi : X.N[i]? = some name) (hx : Loc X.env.scope name) (hf : X.fn name = true ∨ X.env.scope.names.lookup name = some .local) :
    PS X st (tMkF tab q i (X.env.qual ++ name) (NdefX.NF.of st name (X.env.qual ++ name) (cloFrom X.env.cells (C8.fnScope st).names []))) := by
  rw [hst]
  refine ⟨fun pins s σ H D I h => ?_⟩
  obtain ⟨ps, hP, hT, hhit, hnew⟩ := h
  have hqn : qualnameIn X.env name name = X.env.qual ++ name := by
    have hk : X.env.kindOf name = some .local ∨ X.env.kindOf name = some .cell := hx
    unfold qualnameIn
    rcases hk with z | z
    · rw [z]
      rfl
    · rw [z]
      rfl
  refine PySem.W.nestDef_K hd0 hk0 ha ?_
  rw [hqn]
  have hcells : ∀ y ∈ (C8.fnScope st).names, y.2 = .free → ∃ c, X.env.cells.lookup y.1 = some c := fun y hy e => by
    rcases hfree y hy e with z | z
    · exact I.ok.has _ (.inl z)
    · exact I.ok.has _ (.inr z)
  have bmP : s.heap.BuiltinsAt X.mg tab := TB.bm.keeps I.bk
  have objP : s.heap.get? tab = some { cls := .none, data := .fields ps } := I.hok tab _ hP
  have glb : s.heap.Ns mainGlobals X.mg := I.mod.glob.keeps I.bk
  cases hc : codeAmong q ps.toList with
  | none =>
    refine PySem.W.makeFunction_K (mg := X.mg) (c := c0) (P := tab) (ps := ps) (closure_ok hcells) I.ok.glob glb hcode (TB.code.keeps I.bk) objP hT hc TB.gP bmP ?_
    intro c ctv doc h' tk hx' hge hlt hrec htb
    obtain ⟨c2, oc, vs, tt, e2, hoc, hd, hv⟩ := hrec
    cases e2
    have I1 := LamX.inv_table (t' := tk) (more := #[rawInt q.line, rawInt q.col, .ref c]) (h' := h') I hP (fun b o hb e => hx' b o hb e) htb hge ⟨oc, vs, tt, hoc, hd, hv⟩
    have I2 := NdefX.inv_fn (F := NdefX.NF.of st name (X.env.qual ++ name) (cloFrom X.env.cells (C8.fnScope st).names []) c) (t' := tk) (doc := doc) (pm := (X.mg "__name__").getD .none) (ctv := ctv) I1 rfl
    exact store_ok I2 hN hi hx (v := .ref h'.objs.size) rfl (fun s'' J => ⟨_, _, J, hnew hc c h'.objs.size (I.hok.fresh hge) (I1.hok.fresh (Nat.le_refl _))⟩) hf
  | some cv =>
    obtain ⟨c, e, hco, hn⟩ := hhit cv hc
    subst e
    refine PySem.W.makeFunction_hit (mg := X.mg) (c := c0) (P := tab) (ps := ps) (closure_ok hcells) I.ok.glob glb hcode (TB.code.keeps I.bk) objP hT hc bmP ?_
    intro ctv doc h' tk hx' hsz
    have I1 : Inv X pins σ H { s with heap := h', toks := tk } := I.kept hx'
    have I2 := NdefX.inv_fn (F := NdefX.NF.of st name (X.env.qual ++ name) (cloFrom X.env.cells (C8.fnScope st).names []) c) (t' := tk) (doc := doc) (pm := (X.mg "__name__").getD .none) (ctv := ctv) I1 rfl
    exact store_ok I2 hN hi hx (v := .ref h'.objs.size) rfl (fun s'' J => ⟨_, _, J, hn h'.objs.size (I1.hok.fresh (Nat.le_refl _))⟩) hf
end
/-- a function made by mk -/
def fnM (mk : Addr → NdefX.NF) (F : Hp) (v : V) : Prop := ∃ f c, v = .ref f ∧ F f = some (NdefX.FnO f (mk c)) ∧ F c = some (LamX.CodeO c (mk c).qual)
/-- .. with what it has captured -/
def fnP (mk : Addr → NdefX.NF) (cs : List V) (caps : List PyData) (F : Hp) (v : V) : Prop := fnM mk F v ∧ RpAll F cs caps
theorem fnM_mono {mk : Addr → NdefX.NF} {F F' : Hp} {v : V} (s : Same F F') (h : fnM mk F v) : fnM mk F' v := by
  obtain ⟨f, c, e, h1, h2⟩ := h
  exact ⟨f, c, e, s _ _ h1, s _ _ h2⟩
theorem upd_comm {H : Hp} {a b : Addr} {o u : HO} (h : a ≠ b) : upd (upd H a o) b u = upd (upd H b u) a o := by
  funext x
  by_cases h1 : x = a
  · subst h1
    rw [upd_ne h, upd_same, upd_same]
  · by_cases h2 : x = b
    · subst h2
      rw [upd_same, upd_ne h1, upd_same]
    · rw [upd_ne h2, upd_ne h1, upd_ne h1, upd_ne h2]
section
variable {T : Tn} {W : WX} {ρ : List Sl} {P : Po}
theorem sm_mkF {tab : Addr} {nm : Nat → Nat → Str} {q : Pos} {i : Nat} {qual : Str} {mk : Addr → NdefX.NF} (hT : T tab) (hI : ∀ F o, T.inv tab F o ↔ tabI nm tab F o) (hq : nm q.line q.col = qual) (hm : ∀ c, (mk c).qual = qual) (k : P.nx (ρ.set i (.pr (fnM mk)))) : Sm T W (tMkF tab q i qual mk) ρ P := fun F0 H0 σ F H D e k1 _ _ _ _ => by
  obtain ⟨fT, o, ho, hinv⟩ := e.tn tab hT
  obtain ⟨ps, rfl, htr, hcode⟩ := (hI F o).mp (hinv F (Same.refl _))
  refine ⟨ps, ho, htr, fun cv hcv => ?_, fun hnone c f hc hf => ?_⟩
  · obtain ⟨c, e1, e2⟩ := hcode q cv hcv
    rw [hq] at e2
    refine ⟨c, e1, e.le _ _ e2, fun f hf => ?_⟩
    have x : Ext T F H (upd F f (NdefX.FnO f (mk c))) (upd H f (NdefX.FnO f (mk c))) := Ext.new e.le e.town hf
    refine k1 _ _ _ _ x.ff ((e.ext x).setPr fun F' s' => ⟨f, c, rfl, s' _ _ upd_same, s' _ _ ?_⟩) k
    rw [hm c]
    exact x.ff _ _ e2
  · have nct : c ≠ tab := fun z => by
      rw [z, ho] at hc
      cases hc
    have x1 : Ext T F H (upd F c (LamX.CodeO c qual)) (upd H c (LamX.CodeO c qual)) := Ext.new e.le e.town hc
    have e1 := e.ext x1
    have fT1 : upd F c (LamX.CodeO c qual) tab = none := by
      rw [upd_ne (Ne.symm nct)]
      exact fT
    have eL : (ps ++ #[rawInt q.line, rawInt q.col, .ref c]).toList = ps.toList ++ [rawInt q.line, rawInt q.col, .ref c] := by simp
    have x2 : Ext T (upd F c (LamX.CodeO c qual)) (upd H c (LamX.CodeO c qual)) (upd F c (LamX.CodeO c qual)) (upd (upd H c (LamX.CodeO c qual)) tab (.tbl (ps ++ #[rawInt q.line, rawInt q.col, .ref c]))) := by
      refine Ext.chg e1.le hT fT1 fun F' s' => (hI F' _).mpr ⟨_, rfl, ?_, fun q' cv hcv => ?_⟩
      · rw [eL]
        exact PySem.TriplesOk_snoc _ _ _ _ htr
      · rw [eL] at hcv
        rcases NdefX.among_app2 _ htr hcv with z | ⟨z, z1, z2⟩
        · obtain ⟨c', y1, y2⟩ := hcode q' cv z
          exact ⟨c', y1, s' _ _ (x1.ff _ _ y2)⟩
        · refine ⟨c, z, ?_⟩
          rw [← z1, ← z2, hq]
          exact s' _ _ upd_same
    rw [upd_comm (Ne.symm nct)] at hf ⊢
    have e2 := e1.ext x2
    have x3 := Ext.new (o := NdefX.FnO f (mk c)) e2.le e2.town hf
    refine k1 _ _ _ _ ((x1.trans x2).trans x3).ff ((e2.ext x3).setPr fun F' s' => ⟨f, c, rfl, s' _ _ upd_same, s' _ _ ?_⟩) k
    rw [hm c]
    exact x3.ff _ _ upd_same
end
end Tr

set_option Elab.async false
set_option linter.all false
set_option maxRecDepth 100000
/-! Lay21: functions that a def is handed: their promises, their calls, the def that is handed two of them. -/
namespace Tr
open PySem PySem.Spec PyProof.Rows L2 TL
variable [PWc]
/-- the promise of a function made within a def: caps is what it has captured -/
def Csp {ι : Type} (caps : List PyData) (args : ι → List PyData) (pre : ι → Prop) (post : ι → PyData → Prop) : List (Option V) → Sp := fun ws vs H Q _ => ∃ (F : Hp) (i : ι) (cs : List V), Same F H ∧ ws = cs.map some ∧ RpAll F cs caps ∧ RpAll F vs (args i) ∧ pre i ∧ ∀ v F' H' y, Ext T0 F H F' H' → post i y → Rp F' v y → Q v H'
section
variable {P : Program} {w : World} {K : PySem.W.Frag} {mg : Str → Option Value} {base : Heap} {N ps fr : List Str} {G : NdefX.NF} {f : Addr} {k : Nat} {ι : Type} {caps : List PyData} {args : ι → List PyData} {pre : ι → Prop} {post : ι → PyData → Prop}
theorem startF_eq (N : List Str) (vs cs : List V) : NdefX.startF N vs (cs.map some) = L2.start N (vs ++ cs) := by
  unfold NdefX.startF L2.start
  rw [List.map_append, List.append_assoc, List.length_append, List.length_map, Nat.sub_sub]
theorem nok_fn (S : NdefX.NScope N ps fr G.scope) (hb : ∀ (doc pm ctv : Value) (us : List Value), us.length = ps.length → bindArgs (G.fd doc pm ctv) ⟨us, []⟩ = pure (ps.zip us)) (hl : ∀ i, (args i).length = ps.length)
    (hbody : ∀ (A : Around) (outer : List PySem.Env) (s : Shared) (H : Hp) (E : XK), Room k (A.deeper (NdefX.envF G f s.heap.objs.size)) →
      ∃ t, PSs (NdefX.ncx (L2N.CX P w) P w K mg base N G f A outer s H E) G.body t ∧ ∀ i, pre i → Sm T0 (fun c d _ H' => E c d H') t (slots N (args i ++ caps)) { nx := fun _ => post i .none, rt := fun y _ => post i y }) :
    NdefX.NOk P w K mg base (L2N.CX P w) (k + 1) f G ps fr (Csp caps args pre post) := by
  refine NdefX.nok_of S hb (fun ws vs H Q E h => ?_) fun A outer s H vs ws Q E hr hf hc hw h => ?_
  · obtain ⟨_, i, _, _, _, _, r, _⟩ := h
    rw [r.length]
    exact hl i
  · obtain ⟨F, i, cs, sF, rfl, rc, r, p, q⟩ := h
    obtain ⟨t, ht, hs⟩ := hbody A outer s H E hr
    refine ⟨t, ht, ?_⟩
    rw [startF_eq]
    exact hs i p F H _ F H _ (env_start sF (fun _ z => (T0.no z).elim) (r.append rc)) (fun σ' F' H' ρ' _ e' pn => q .non F' H' .none e'.ex pn .non) (fun v σ' F' H' ρ' y en rv py => q v F' H' y en.ex py rv) (fun _ _ _ _ _ _ z => z.elim) (fun _ _ _ _ _ _ z => z.elim) fun c σ' F' H' ρ' _ e' pc => pc.elim
end
/-! ### a name that holds such a function is called -/
def tCallV (mk : Addr → NdefX.NF) (i : Nat) (ws : List (Option V)) (sp : List (Option V) → Sp) (t : TA) : TE := fun σ H Q => ∃ f c, σ[i]? = some (some (.ref f)) ∧ H f = some (NdefX.FnO f (mk c)) ∧ t σ H fun vs H1 => H1 f = some (NdefX.FnO f (mk c)) ∧ H1 c = some (LamX.CodeO c (mk c).qual) ∧ sp ws vs H1 Q E0
section
variable {X : Cx} {mk : Addr → NdefX.NF} {cl : List (Str × Addr)} {ps fr : List Str} {ws : List (Option V)} {i j k : Nat} {x : Str} {sp : List (Option V) → Sp} {t : TA} {e : Expr} {es : List Expr} {p pos : Pos}
theorem pe_callV (Fn : ∀ f c, NdefX.NOk X.prog X.w X.K X.mg X.base (L2N.CX X.prog X.w) k f (mk c) ps fr sp) (hcl : ∀ c, (mk c).cl = cl ∧ (mk c).c = c) (C : NdefX.CellsAt cl fr ws X.s_0.heap X.H_0) (nf : ∀ y c, cl.lookup y = some c → c ∉ X.fs) (hx : X.ex = [])
    (hr : Room j X.A) (hk : k ≤ j) (hN : X.N[i]? = some x) (hv : Vis X.env.scope x) (ha : PA X (e :: es) t)
    (hd : (x == ("__debug__" : Str)) = false := by decide) (hcd : (x == ("__classdict__" : Str)) = false := by decide) (he : starEach (e :: es) X.env = (false, eval e X.env) :: starEach es X.env := by rfl) (hpl : (backTo pos (starEach es X.env)).any (·.1) = false := by rfl) :
    PE X (.Call (.Name x p) (e :: es) [] pos) (tCallV mk i ws sp t) := by
  refine ⟨fun pins s σ H Q I h => ?_⟩
  obtain ⟨f, c, hs, hf, ht⟩ := h
  refine wpAny_Call_Name_kw (thn ((pe_var (pos := p) hN hv hd hcd).run pins s σ H (fun v H1 => v = .ref f ∧ H1 = H) I ⟨.ref f, hs, rfl, rfl⟩) ?_)
  rintro u s1 ⟨v, H1, I1, r1, ev, eH⟩
  subst ev
  subst eH
  cases r1
  refine PySem.W.callWith_F (first := []) (NdefX.fnAt_of I1 hf) (thn (ha.run pos pins s1 σ _ _ I1 ht) ?_) he hpl
  rintro us s2 ⟨vs, H2, I2, r, h1, h2, q⟩
  refine ⟨NdefX.fnAt_of I2 h1, ?_⟩
  show wpAny _ _ (call (.ref f) us) _ _ _
  have C2 : NdefX.CellsAt (mk c).cl fr ws s2.heap H2 := by
    rw [(hcl c).1]
    exact C.later nf (fun y c _ => by rw [hx]; simp) I2
  refine wpAny_call (codeAny_mono ((Fn f c).run X.A X.stack s2 H2 us vs ws Q E0 (hr.mono hk) I2.env0 h1 (by rw [(hcl c).2]; exact h2) C2 r q) fun r s' hq => ?_)
  cases r with
  | error e => exact passN pins σ H2 s2 e s' I2 hq
  | ok fl =>
    cases fl with
    | ret u => exact I2.after hq
    | next => exact False.elim hq
    | brk => exact False.elim hq
    | cont => exact False.elim hq
end
section
variable {T : Tn} {ρ : List Sl} {ta : TA} {ι : Type} {caps : List PyData} {args : ι → List PyData} {pre : ι → Prop} {post : ι → PyData → Prop} {mk : Addr → NdefX.NF} {cs : List V} {i : Nat} {z : PyData}
theorem ev_callV (j : ι) (hs : ρ[i]? = some (.pr (fnP mk cs caps))) (ha : EvA T ta ρ fun zs => zs = args j) (hp : pre j) (hq : ∀ y, post j y → y = z) : Ev T (tCallV mk i (cs.map some) (Csp caps args pre post) ta) ρ z := fun F0 H0 σ F H e Q q => by
  obtain ⟨v, hv, ⟨f, c, rfl, h1, h2⟩, rc⟩ := e.getPr hs
  refine ⟨f, c, hv, e.le _ _ h1, ha F0 H0 σ F H e _ fun vs F1 H1 zs x1 pd r => ?_⟩
  subst pd
  have e1 := e.ext x1
  exact ⟨x1.fh _ _ (x1.ff _ _ h1), x1.fh _ _ (x1.ff _ _ h2), F1, j, cs, x1.fh, rfl, rc.mono x1.ff, r, hp, fun v F' H' y ex py rv => q v F' H' (x1.trans (ex.wide e1.town)) (hq y py ▸ rv)⟩
end
/-! ### a def that is handed two such functions -/
structure FnS (P : Program) (w : World) (K : PySem.W.Frag) (mg : Str → Option Value) (base : Heap) (k : Nat) (f : Addr) (fd : FuncData) (ps : List Str) (cl1 cl2 : List (Str × Addr)) (fr1 fr2 : List Str) (sp : List (Option V) → List (Option V) → Sp) : Prop where
  len : ∀ ws1 ws2 vs H Q E, sp ws1 ws2 vs H Q E → vs.length = ps.length
  run : ∀ (A : Around) (outer : List PySem.Env) (s : Shared) (H : Hp) (args : Args) (us : List Value) (vs : List V) (ws1 ws2 : List (Option V)) (Q : VK) (E : XK), Room k A → Env0 P w K mg base A outer s H → BindsTo s fd args (ps.zip us) → Vals vs us →
    NdefX.CellsAt cl1 fr1 ws1 s.heap H → NdefX.CellsAt cl2 fr2 ws2 s.heap H → (∀ y c, cl1.lookup y = some c → c ∉ frs outer) → (∀ y c, cl2.lookup y = some c → c ∉ frs outer) → sp ws1 ws2 vs H Q E → codeAny (model P w) A (.call (.ref f) args) (CR (L2N.CX P w) outer P w H s Q E) s
section
variable {P : Program} {w : World} {K : PySem.W.Frag} {mg : Str → Option Value} {base : Heap} {N ps fr1 fr2 : List Str} {cl1 cl2 : List (Str × Addr)} {k : Nat} {x : Str} {st : Stmt} {f : Addr} {fd : FuncData} {sp : List (Option V) → List (Option V) → Sp}
theorem fnS_of (F : FunD K x x (defArgs st) (defBody st) (defScope st) [] [] f fd) (S : FnScope N ps (defScope st)) (len : ∀ ws1 ws2 vs H Q E, sp ws1 ws2 vs H Q E → vs.length = ps.length)
    (hbody : ∀ (cdv : Value) (A : Around) (outer : List PySem.Env) (s : Shared) (H : Hp) (vs : List V) (ws1 ws2 : List (Option V)) (Q : VK) (E : XK), Room k (A.deeper (envOfC x (defScope st) s.heap.objs.size f cdv)) → NdefX.CellsAt cl1 fr1 ws1 s.heap H → NdefX.CellsAt cl2 fr2 ws2 s.heap H →
      (∀ y c, cl1.lookup y = some c → c ∉ frs outer) → (∀ y c, cl2.lookup y = some c → c ∉ frs outer) → sp ws1 ws2 vs H Q E → ∃ t, PSs (cxOf (L2N.CX P w) P w K mg base N x (defScope st) f cdv A outer s H E) (defBody st) t ∧ t { nx := fun _ H' => Q .non H', rt := Q } (L2.start N vs) H) :
    FnS P w K mg base (k + 1) f fd ps cl1 cl2 fr1 fr2 sp := by
  obtain ⟨oc, od, dV, kV, doc, pm, an, cdv, ct, osl, rfl, lk, hcd, _, _⟩ := F.ex
  refine ⟨len, ?_⟩
  intro A outer s H args us vs ws1 ws2 Q E hr e0 hb r C1 C2 n1 n2 hsp
  have hlen := len _ _ _ _ _ _ hsp
  have KX : K.In s.heap := e0.mod.kin.keeps fun b o z => (e0.bs b o z).1
  have lim : s.heap.NoLimit := e0.mod.nolimit.keeps fun b o z => (e0.bs b o z).1
  refine codeAny_call_function hr.depth (KX _ _ lk) rfl S.co S.gen rfl (PySem.W.codeRec_of KX hcd) (hb _ _ _ _ ?_)
  refine wpAny_newFunctionEnv_cells S.kind ?_ ?_
  · rintro ⟨n, v⟩ hy
    rcases S.par n (List.of_mem_zip hy).1 with z | z
    · exact .inl z
    · exact .inr ⟨z, PySem.W.cellsFrom_some _ _ _ (.inl z)⟩
  · rintro env rfl s1 y
    refine ⟨lim.keeps y.toInCall.keep, codeAny_func ?_⟩
    obtain ⟨t, ht, hq⟩ := hbody cdv A outer s H vs ws1 ws2 Q E (hr.deeper _) C1 C2 n1 n2 hsp
    have I := inv_start (CX := L2N.CX P w) (E := E) (f := f) (cd := cdv) S hr.hd e0 hlen r y
    refine wpAny_mono (ht.run [] s1 (L2.start N vs) H _ I hq) ?_ fun e s' hs => hs
    intro fl s' hs
    cases fl with
    | ret u =>
      obtain ⟨v, σ', H', J, rv, q⟩ := hs
      exact ⟨v, H', J.os, J.bare, J.base, J.hok, rv, q⟩
    | next =>
      obtain ⟨σ', H', J, q⟩ := hs
      exact ⟨V.non, H', J.os, J.bare, J.base, J.hok, rfl, q⟩
    | brk =>
      obtain ⟨_, _, _, q⟩ := hs
      exact q.elim
    | cont =>
      obtain ⟨_, _, _, q⟩ := hs
      exact q.elim
end
/-- what the def asks of its arguments: data, and the two functions -/
def Hsp {ι : Type} (mk1 mk2 : Addr → NdefX.NF) (caps1 caps2 : ι → List PyData) (arg : ι → PyData) (pre : ι → Prop) (post : ι → PyData → Prop) : List (Option V) → List (Option V) → Sp := fun ws1 ws2 vs H Q _ => ∃ (F : Hp) (i : ι) (a b c : V) (cs1 cs2 : List V), vs = [a, b, c] ∧ Same F H ∧ ws1 = cs1.map some ∧ ws2 = cs2.map some ∧ Rp F a (arg i) ∧ fnP mk1 cs1 (caps1 i) F b ∧ fnP mk2 cs2 (caps2 i) F c ∧ pre i ∧ ∀ v F' H' y, Ext T0 F H F' H' → post i y → Rp F' v y → Q v H'
def slotsH (N : List Str) (d : PyData) (mk1 mk2 : Addr → NdefX.NF) (caps1 caps2 : List PyData) (cs1 cs2 : List V) : List Sl := .d d :: .pr (fnP mk1 cs1 caps1) :: .pr (fnP mk2 cs2 caps2) :: List.replicate (N.length - 3) .un
theorem fnP_mono {mk : Addr → NdefX.NF} {cs : List V} {caps : List PyData} {F F' : Hp} {v : V} (s : Same F F') (h : fnP mk cs caps F v) : fnP mk cs caps F' v := ⟨fnM_mono s h.1, h.2.mono s⟩
theorem env_startH {F H : Hp} {N : List Str} {a b c : V} {d : PyData} {mk1 mk2 : Addr → NdefX.NF} {caps1 caps2 : List PyData} {cs1 cs2 : List V} (s : Same F H) (ra : Rp F a d) (rb : fnP mk1 cs1 caps1 F b) (rc : fnP mk2 cs2 caps2 F c) : Env T0 F H F H (L2.start N [a, b, c]) (slotsH N d mk1 mk2 caps1 caps2 cs1 cs2) := by
  have e0 : L2.start N [a, b, c] = some a :: some b :: some c :: List.replicate (N.length - 3) none := rfl
  rw [e0]
  refine ⟨Ext.refl s, fun b hb => (T0.no hb).elim, by simp [slotsH], fun _ => 0, fun i sl hs => ?_, fun i j s t hs ht os => ?_⟩
  · match i, hs with
    | 0, hs =>
      cases hs
      exact ⟨a, rfl, ra⟩
    | 1, hs =>
      cases hs
      exact ⟨b, rfl, fun F' s' => fnP_mono s' rb⟩
    | 2, hs =>
      cases hs
      exact ⟨c, rfl, fun F' s' => fnP_mono s' rc⟩
    | i + 3, hs =>
      have hs' : (List.replicate (N.length - 3) Sl.un)[i]? = some sl := hs
      have := List.eq_of_mem_replicate (List.mem_of_getElem? hs')
      subst this
      trivial
  · exfalso
    match i, hs with
    | 0, hs =>
      cases hs
      cases os
    | 1, hs =>
      cases hs
      cases os
    | 2, hs =>
      cases hs
      cases os
    | i + 3, hs =>
      have hs' : (List.replicate (N.length - 3) Sl.un)[i]? = some s := hs
      have := List.eq_of_mem_replicate (List.mem_of_getElem? hs')
      subst this
      cases os
structure ClS (P : Program) (w : World) (K : PySem.W.Frag) (mg : Str → Option Value) (base : Heap) (k : Nat) (x : Str) (cl1 cl2 : List (Str × Addr)) (fr1 fr2 : List Str) (sp : List (Option V) → List (Option V) → Sp) : Prop where
  ex : ∃ (f : Addr) (fd : FuncData) (ps : List Str), FnS P w K mg base k f fd ps cl1 cl2 fr1 fr2 sp ∧ mg x = some (.ref f) ∧ PySem.W.keepIn K (.ref f) = true ∧ Binds K fd ps []
def tCallW (js1 js2 : List Nat) (sp : List (Option V) → List (Option V) → Sp) (t : TA) : TE := fun σ H Q => t σ H fun vs H1 => sp (js1.map (NdefX.slotAt σ)) (js2.map (NdefX.slotAt σ)) vs H1 Q E0
section
variable {X : Cx} {cl1 cl2 : List (Str × Addr)} {fr1 fr2 : List Str} {js1 js2 : List Nat} {j k : Nat} {x : Str} {sp : List (Option V) → List (Option V) → Sp} {t : TA} {e : Expr} {es : List Expr} {p pos : Pos}
theorem caps_frs {pins : List (Addr × Obj)} {σ : L2.St} {H : Hp} {s : Shared} {cl : List (Str × Addr)} {fr : List Str} {js : List Nat} (I : Inv X pins σ H s) (hfn : ∀ y, X.fn y = true) (c : NdefX.Caps X cl fr js) : ∀ y a, cl.lookup y = some a → a ∉ frs X.stack := fun y a h hm => by
  have h1 := c.sub y a h
  rcases List.mem_cons.mp (I.stkSub a hm) with z | z
  · exact I.cne y a h1 z
  · obtain ⟨_, o, ho, _⟩ := I.ok.funs.mem z
    exact absurd (Nat.lt_of_lt_of_le (Heap.lt_size ho) (I.ok.cab y a (hfn y) h1)) (Nat.lt_irrefl _)
theorem pe_callW (c : ClS X.prog X.w X.K X.mg X.base k x cl1 cl2 fr1 fr2 sp) (hfn : ∀ y, X.fn y = true) (cp1 : X.Ok → NdefX.Caps X cl1 fr1 js1) (cp2 : X.Ok → NdefX.Caps X cl2 fr2 js2) (hr : Room j X.A) (hk : k ≤ j) (hg : Gl X x) (ha : PA X (e :: es) t)
    (hdb : (x == ("__debug__" : Str)) = false := by decide) (he : starEach (e :: es) X.env = (false, eval e X.env) :: starEach es X.env := by rfl) (hpl : (backTo pos (starEach es X.env)).any (·.1) = false := by rfl) :
    PE X (.Call (.Name x p) (e :: es) [] pos) (tCallW js1 js2 sp t) := by
  obtain ⟨f, fd, ps, F, hm, kp, b⟩ := c.ex
  refine ⟨fun pins s σ H Q I h => ?_⟩
  refine wpAny_Call_Name_kw (ld_glob I hg hm ?_ hdb)
  refine PySem.W.callWith_K (h₀ := X.base) I.ok.mod.kin kp (thn (ha.run pos pins s σ H _ I h) ?_) he hpl
  rintro us s2 ⟨vs, H2, I2, r, q⟩
  refine ⟨I2.kIn, ?_⟩
  show wpAny _ _ (call (.ref f) us) _ _ _
  have hlen : us.length = ps.length := by
    rw [← r.length]
    exact F.len _ _ _ _ _ _ q
  have bt := b s2 us I2.kIn (by rw [List.append_nil]; exact hlen)
  rw [List.append_nil] at bt
  refine wpAny_call (codeAny_mono (F.run X.A X.stack s2 H2 ⟨us, []⟩ us vs _ _ Q E0 (hr.mono hk) I2.env0 bt r (NdefX.cells_of I2 (cp1 I2.ok)) (NdefX.cells_of I2 (cp2 I2.ok)) (caps_frs I2 hfn (cp1 I2.ok)) (caps_frs I2 hfn (cp2 I2.ok)) q) fun r s' hq => ?_)
  cases r with
  | error e => exact passN pins σ H2 s2 e s' I2 hq
  | ok fl =>
    cases fl with
    | ret u => exact I2.after hq
    | next => exact False.elim hq
    | brk => exact False.elim hq
    | cont => exact False.elim hq
end
section
variable {T : Tn} {W : WX} {ρ : List Sl} {P : Po} {te : TE} {ι : Type} {caps1 caps2 : ι → List PyData} {arg : ι → PyData} {pre : ι → Prop} {post : ι → PyData → Prop} {mk1 mk2 : Addr → NdefX.NF} {js1 js2 : List Nat} {i1 i2 : Nat}
theorem Env.caps {F0 H0 F H : Hp} {σ : L2.St} (e : Env T F0 H0 F H σ ρ) : ∀ {js : List Nat} {ds : List PyData}, Paired (fun j d => ρ[j]? = some (Sl.d d)) js ds → ∃ cs, js.map (NdefX.slotAt σ) = cs.map some ∧ RpAll F cs ds
  | _, _, .nil => ⟨[], rfl, .nil⟩
  | _, _, .cons h t => by
    obtain ⟨cs, h1, h2⟩ := Env.caps e t
    obtain ⟨v, hv, r⟩ := e.get h
    refine ⟨v :: cs, ?_, .cons r h2⟩
    rw [List.map_cons, List.map_cons, h1, NdefX.slotAt_of hv]
theorem sm_retW (i : ι) (h1 : Paired (fun j d => ρ[j]? = some (Sl.d d)) js1 (caps1 i)) (h2 : Paired (fun j d => ρ[j]? = some (Sl.d d)) js2 (caps2 i)) (hb : ρ[i1]? = some (.pr (fnM mk1))) (hc : ρ[i2]? = some (.pr (fnM mk2))) (ha : Ev T te ρ (arg i)) (hp : pre i) (hq : ∀ y, post i y → P.rt y ρ) :
    Sm T W (tRet (tCallW js1 js2 (Hsp mk1 mk2 caps1 caps2 arg pre post) (tCons te (tCons (tVar i1) (tCons (tVar i2) tNil))))) ρ P := fun F0 H0 σ F H D e _ k2 _ _ _ =>
  ha F0 H0 σ F H e _ fun v F1 H1 x1 r1 => by
    have e1 := e.ext x1
    obtain ⟨b, hb1, hb2⟩ := e1.getPr hb
    obtain ⟨c, hc1, hc2⟩ := e1.getPr hc
    obtain ⟨cs1, q1, r2⟩ := e1.caps h1
    obtain ⟨cs2, q2, r3⟩ := e1.caps h2
    refine ⟨b, hb1, c, hc1, F1, i, v, b, c, cs1, cs2, rfl, x1.fh, q1, q2, r1, ⟨hb2, r2⟩, ⟨hc2, r3⟩, hp, fun u F' H' y ex py rv => k2 u σ F' H' ρ y (e1.ext (ex.wide e1.town)) rv (hq y py)⟩
end
end Tr

set_option Elab.async false
set_option linter.all false
set_option maxRecDepth 100000
/-! Lay22: a law whose text makes functions within defs: its frame, its end. -/
namespace Tr
open PySem PySem.Spec PyProof.Rows L2 TL
abbrev Tabs : Type := List (Addr × (Nat → Nat → Str))
section
variable [PWc]
/-- what a law may change: its counter, the tables -/
def Tl (tw : Addr) (tabs : Tabs) : Tn := ⟨fun b => b = tw ∨ b ∈ tabs.map (·.1), fun b F o => if b = tw then twI b F o else ∀ p ∈ tabs, p.1 = b → tabI p.2 b F o⟩
def HasTabs (T : Tn) (tabs : Tabs) : Prop := ∀ p ∈ tabs, SubT (Tb p.1 p.2) T
theorem hasTabs_l {tw : Addr} {tabs : Tabs} (hd : (tabs.map (·.1)).Nodup) (ht : tw ∉ tabs.map (·.1)) : HasTabs (Tl tw tabs) tabs := fun p hp => ⟨fun b hb => by
  cases (show b = p.1 from hb)
  have hm : p.1 ∈ tabs.map (·.1) := List.mem_map.mpr ⟨p, hp, rfl⟩
  refine ⟨.inr hm, fun F o => ?_⟩
  have hn : p.1 ≠ tw := fun z => ht (z ▸ hm)
  show tabI p.2 p.1 F o ↔ if p.1 = tw then _ else _
  rw [if_neg hn]
  constructor
  · intro h q hq e
    have : q = p := by
      clear hm hn ht
      induction tabs with
      | nil => cases hp
      | cons a r ih =>
        rw [List.map_cons, List.nodup_cons] at hd
        rcases List.mem_cons.mp hp with z1 | z1
        · rcases List.mem_cons.mp hq with z2 | z2
          · rw [z1, z2]
          · exact absurd (List.mem_map.mpr ⟨q, z2, by rw [e, z1]⟩) hd.1
        · rcases List.mem_cons.mp hq with z2 | z2
          · exact absurd (List.mem_map.mpr ⟨p, z1, by rw [← e, z2]⟩) hd.1
          · exact ih hd.2 z1 z2
    rw [this]
    exact h
  · exact fun h => h p hp rfl⟩
def spLawT (K : PySem.W.Frag) (tabs : Tabs) : Sp := fun vs H Q _ => ∃ (a : Addr) (ns : List Int), vs = [.ref a] ∧ SqL K H a (ns.map V.int) ∧ (∀ p ∈ tabs, H p.1 = some (.tbl #[])) ∧ ∀ H', Q (.bl true) H'
def erL (H : Hp) (as : List Addr) : Hp := fun b => if b ∈ as then none else H b
theorem erL_some {H : Hp} {as : List Addr} {b : Addr} {o : HO} (h : erL H as b = some o) : b ∉ as ∧ H b = some o := by
  unfold erL at h
  split at h
  · cases h
  · rename_i hb
    exact ⟨hb, h⟩
variable {K : PySem.W.Frag}
theorem sqL_erL {H : Hp} {tabs : Tabs} {a : Addr} {xs : List V} (hT : ∀ p ∈ tabs, H p.1 = some (.tbl #[])) (h : SqL K H a xs) : SqL K (erL H (tabs.map (·.1))) a xs := by
  have no : ∀ o, H a = some o → (∀ ps, o ≠ .tbl ps) → erL H (tabs.map (·.1)) a = some o := fun o ho hn => by
    unfold erL
    rw [if_neg]
    · exact ho
    · intro hm
      obtain ⟨p, hp, e⟩ := List.mem_map.mp hm
      have := hT p hp
      rw [show p.1 = a from e, ho] at this
      exact hn _ (Option.some.inj this)
  rcases h with h | h
  · rcases h with h | ⟨o, h⟩
    · exact .inl (.inl (no _ h fun ps z => by cases z))
    · exact .inl (.inr ⟨o, no _ h fun ps z => by cases z⟩)
  · exact .inr h
theorem env_startL {F H : Hp} {N : List Str} {T : Tn} {sa tw : Addr} {ns : List Int} (hT : T tw) (hI : ∀ F o, T.inv tw F o ↔ twI tw F o) (s : Same F H) (tn : ∀ b, T b → F b = none ∧ Town T F H b) (hs : SqL K F sa (ns.map V.int)) : Env T F H F H (L2.start N [.ref sa, .ref tw]) (slotsT K ns N []) := by
  have e0 : L2.start N [.ref sa, .ref tw] = some (.ref sa) :: some (.ref tw) :: List.replicate (N.length - 2) none := rfl
  have e1 : slotsT K ns N [] = .pr (scrP K ns) :: .tw :: List.replicate (N.length - 2) .un := by
    unfold slotsT
    simp
  rw [e0, e1]
  refine ⟨Ext.refl s, tn, by simp, fun _ => tw, fun i sl hsl => ?_, fun i j s t hs ht os => ?_⟩
  · match i, hsl with
    | 0, hsl =>
      cases hsl
      exact ⟨.ref sa, rfl, fun F' sF => ⟨sa, rfl, sqL_mono sF hs⟩⟩
    | 1, hsl =>
      cases hsl
      exact ⟨rfl, hT, hI⟩
    | i + 2, hsl =>
      have h2 : (List.replicate (N.length - 2) Sl.un)[i]? = some sl := hsl
      have := List.eq_of_mem_replicate (List.mem_of_getElem? h2)
      subst this
      trivial
  · exfalso
    match i, hs with
    | 0, hs =>
      cases hs
      cases os
    | 1, hs =>
      cases hs
      cases os
    | i + 2, hs =>
      have h2 : (List.replicate (N.length - 2) Sl.un)[i]? = some s := hs
      have := List.eq_of_mem_replicate (List.mem_of_getElem? h2)
      subst this
      cases os
theorem law_bodyT {N : List Str} {W : WX} {a : Addr} {ns : List Int} {H : Hp} {D : Ends} {u : TS} {tabs : Tabs} (hd : (tabs.map (·.1)).Nodup) (hs : SqL K H a (ns.map V.int)) (hTb : ∀ p ∈ tabs, H p.1 = some (.tbl #[])) (hN : 2 ≤ N.length) (hq : ∀ H', D.rt (.bl true) H') (hb : ∀ T, HasTabs T tabs → Sm T W u (slotsT K ns N []) { rt := fun y _ => y = .bool true }) :
    tSeq (tAsg (tLst (tCons (tC (.int 0)) (tCons (tC (.int 0)) tNil))) (gName 1)) u D (L2.start N [.ref a]) H := by
  refine ⟨by show 2 ≤ sizeLine; decide, fun p hp => ?_⟩
  show u D ((L2.start N [.ref a]).set 1 (some (.ref p))) (upd H p (.lst [.int 0, .int 0]))
  have e0 : (L2.start N [V.ref a]).set 1 (some (.ref p)) = L2.start N [.ref a, .ref p] := by
    unfold L2.start
    obtain ⟨n, hn⟩ : ∃ n, N.length = n + 2 := ⟨N.length - 2, by omega⟩
    rw [hn]
    show ([some (V.ref a)] ++ List.replicate (n + 1) none).set 1 (some (.ref p)) = [some (V.ref a), some (V.ref p)] ++ List.replicate n none
    rw [List.replicate_succ]
    rfl
  rw [e0]
  have npt : p ∉ tabs.map (·.1) := fun z => by
    obtain ⟨q, hq', e⟩ := List.mem_map.mp z
    have := hTb q hq'
    rw [show q.1 = p from e, hp] at this
    cases this
  have hsub := hasTabs_l hd npt
  have sF : Same (erL H (tabs.map (·.1))) (upd H p (.lst [.int 0, .int 0])) := fun b o h => by
    obtain ⟨_, h2⟩ := erL_some h
    exact same_new hp _ _ h2
  have tn : ∀ b, Tl p tabs b → erL H (tabs.map (·.1)) b = none ∧ Town (Tl p tabs) (erL H (tabs.map (·.1))) (upd H p (.lst [.int 0, .int 0])) b := by
    rintro b (rfl | hb')
    · refine ⟨?_, _, upd_same, fun F' _ => ?_⟩
      · unfold erL
        rw [if_neg npt]
        exact hp
      · show (if b = b then twI b F' _ else _)
        rw [if_pos rfl]
        exact ⟨0, 0, Int.le_refl _, rfl⟩
    · obtain ⟨q, hq', e⟩ := List.mem_map.mp hb'
      have nb : b ≠ p := fun z => npt (z ▸ hb')
      refine ⟨?_, .tbl #[], ?_, fun F' _ => ?_⟩
      · unfold erL
        rw [if_pos hb']
      · rw [upd_ne nb, ← show q.1 = b from e]
        exact hTb q hq'
      · show (if b = p then _ else ∀ r ∈ tabs, r.1 = b → tabI r.2 b F' _)
        rw [if_neg nb]
        refine fun r _ _ => ⟨#[], rfl, True.intro, fun q' cv hcv => ?_⟩
        have z : codeAmong q' [] = some cv := hcv
        simp [codeAmong] at z
  have env := env_startL (K := K) (N := N) (T := Tl p tabs) (sa := a) (tw := p) (ns := ns) (.inl rfl) (fun F o => by show (if p = p then _ else _) ↔ _; rw [if_pos rfl]) sF tn (sqL_erL hTb hs)
  exact hb _ hsub _ _ _ _ _ D env (fun _ _ _ _ _ _ z => z.elim) (fun v σ' F' H' ρ' x _ r e => by cases (show x = .bool true from e); rw [r.bl_eq]; exact hq H') (fun _ _ _ _ _ _ z => z.elim) (fun _ _ _ _ _ _ z => z.elim) fun _ _ _ _ _ _ _ z => z.elim
theorem law_fnT {P : Program} {w : World} {mg : Str → Option Value} {base : Heap} {x : Str} {st : Stmt} {N : List Str} {k : Nat} {f : Addr} {fd : FuncData} {tabs : Tabs} (hd : (tabs.map (·.1)).Nodup) (F : FunD K x x (defArgs st) (defBody st) (defScope st) [] [] f fd) (sc : FnScope N ["script"] (defScope st)) (hN : 2 ≤ N.length)
    (hb : ∀ (cdv : Value) (A : Around) (outer : List PySem.Env) (s : Shared) (H : Hp) (E : XK), Room k (A.deeper (envOfC x (defScope st) s.heap.objs.size f cdv)) →
      ∃ u, PSs (cxOf L2.CX0 P w K mg base N x (defScope st) f cdv A outer s H E) (defBody st) (tSeq (tAsg (tLst (tCons (tC (.int 0)) (tCons (tC (.int 0)) tNil))) (gName 1)) u) ∧ ∀ T ns, HasTabs T tabs → Sm T (fun c d _ H' => E c d H') u (slotsT K ns N []) { rt := fun y _ => y = .bool true }) : FnOk P w K mg base L2.CX0 (k + 1) f fd ["script"] (spLawT K tabs) := by
  refine F.ok sc (fun vs H Q E h => ?_) fun cdv A outer s H vs Q E hr h => ?_
  · obtain ⟨a, ns, rfl, _⟩ := h
    rfl
  · obtain ⟨a, ns, rfl, hs, hT, q⟩ := h
    obtain ⟨u, hu, hsm⟩ := hb cdv A outer s H E hr
    exact ⟨_, hu, law_bodyT (K := K) hd hs hT hN q fun T h => hsm T ns h⟩
end
/-! ### a def whose code object is known -/
def DefnC (K : PySem.W.Frag) (mg : Str → Option Value) (x : Str) (st : Stmt) (ps : List Str) (c0 : Addr) : Prop := ∃ f fd, FunD K x x (defArgs st) (defBody st) (defScope st) [] [] f fd ∧ fd.code = .ref c0 ∧ mg x = some (.ref f) ∧ Binds K fd ps []
theorem DefnC.plain {K : PySem.W.Frag} {mg : Str → Option Value} {x : Str} {st : Stmt} {ps : List Str} {c0 : Addr} (d : DefnC K mg x st ps c0) : Defn K mg x st ps := by
  obtain ⟨f, fd, h1, _, h2, h3⟩ := d
  exact ⟨f, fd, h1, h2, h3⟩
theorem defnC_of {K : PySem.W.Frag} {mg : Str → Option Value} {x : Str} {st : Stmt} {ps : List Str} {fd : FuncData} (F : FunD K x x (defArgs st) (defBody st) (defScope st) [] [] (He.fAd K (x, none)) fd) (hm : mg x = some (.ref (He.fAd K (x, none)))) (b : Binds K fd ps []) : DefnC K mg x st ps (He.cT K (x, none)).1 := by
  refine ⟨_, fd, F, ?_, hm, b⟩
  obtain ⟨oc, od, dV, kV, doc, pm, an, cdv, ct, osl, rfl, lk, hcd, _, _⟩ := F.ex
  obtain ⟨c, rfl⟩ := He.codeIn_ref hcd
  show Value.ref c = .ref (He.codeOf K (x, none))
  rw [He.codeOf_eq lk rfl]
theorem cl_gnC {P : Program} {w : World} {K : PySem.W.Frag} {mg : Str → Option Value} {base : Heap} [PWc] (T' : Tn) {x : Str} {st : Stmt} {N ps : List Str} {k : Nat} {ι : Type} {args : ι → List PyData} {pre : ι → Prop} {post : ι → PyData → Prop} {xx : ι → Addr → Prop} {c0 : Addr} (d : DefnC K mg x st ps c0) (sc : FnScope N ps (defScope st)) (hl : ∀ i, (args i).length = ps.length)
    (hb : ∀ (f : Addr) (A : Around) (outer : List PySem.Env) (s : Shared) (H : Hp) (E : XK), Room k (A.deeper (envOfC x (defScope st) s.heap.objs.size f (.ref c0))) →
      ∃ t, PSs (cxOf (L2N.CX P w) P w K mg base N x (defScope st) f (.ref c0) A outer s H E) (defBody st) t ∧ ∀ i, pre i → Sm T' (fun c d _ H' => E c d H') t (slots N (args i)) { nx := fun _ => post i .none, rt := fun y _ => post i y, xx := fun c _ => xx i c }) : Cl P w K mg base (k + 1) x (Gsp T' args pre post xx) := by
  obtain ⟨f, fd, F, hc, hm, b⟩ := d
  refine ⟨f, fd, ps, ?_, hm, F.kp, b⟩
  obtain ⟨oc, od, dV, kV, doc, pm, an, cdv, ct, osl, rfl, lk, hcd, _, _⟩ := F.ex
  have hc' : cdv = .ref c0 := hc
  subst hc'
  refine fn_of lk hcd sc (fun vs H Q E h => ?_) fun A outer s H vs Q E hr h => ?_
  · obtain ⟨_, i, _, _, r, _⟩ := h
    rw [r.length]
    exact hl i
  · obtain ⟨F, i, sF, tn, r, p, q1, q2⟩ := h
    obtain ⟨t, ht, hs⟩ := hb f A outer s H E hr
    refine ⟨t, ht, ?_⟩
    exact hs i p F H _ F H _ (env_start sF tn r) (fun σ' F' H' ρ' _ e' pn => q1 .non F' H' .none e'.ex pn .non) (fun v σ' F' H' ρ' y en rv py => q1 v F' H' y en.ex py rv) (fun _ _ _ _ _ _ z => z.elim) (fun _ _ _ _ _ _ z => z.elim) fun c σ' F' H' ρ' _ e' pc => q2 c F' H' e'.ex pc
/-! ### the end -/
theorem walk_tabs {l : PySem.W.OpenLaw} {n k : Nat} {q : Program} {loose : List Str} {XP : (Str → Option Value) → Heap → Prop} {YP : World → Heap → Prop} {d : DefRec} {CX : CXT} {x : Str} (hn : l.most = some n) (hn2 : n ≤ sizeLine) (hdf : d.params.defaults = []) (hr : Room k callerA)
    (F : ∀ (w : World) (mg : Str → Option Value) (fa : Addr) (h : Heap), YP w h → h.Ns mainGlobals mg → mg d.name = some (.ref fa) → ∃ (K : PySem.W.Frag) (fd : FuncData) (cs : List (Addr × Addr)) (sp : Sp), K.In h ∧ (∀ p ∈ cs, h.get? p.2 = some { cls := .none, data := .fields #[] }) ∧ (∀ p ∈ cs, K.lookup p.2 = none) ∧ (∀ p ∈ cs, PySem.W.CodeHd h p.1 p.2) ∧
      (∀ (s : Shared) (u : Value), BindsTo s fd ⟨[u], []⟩ [(x, u)]) ∧ (∀ (H : Hp) (a : Addr) (ns : List Int), ns.length ≤ n → (∀ p ∈ cs, H p.2 = some (.tbl #[])) → SqL K H a (ns.map V.int) → sp [.ref a] H (fun v _ => v = .bl true) fun _ _ _ => False) ∧
      ∀ base : Heap, K.In base → base.Ns mainGlobals mg → (∀ p ∈ cs, LamX.TabB base mg p.1 p.2) → FnOk l.prog w K mg base CX k fa fd [x] sp)
    (hCX : ∀ (H : Hp) (s : Shared) (e : Value) (s' : Shared), CX [] H s (fun _ _ _ => False) e s' → False) : PySem.W.WalkO q loose XP YP l.row.toRowW d [] (fun f vs => PySem.call f vs) := by
  refine Att.attach_call hn hdf ?_
  intro w s0 s1 mg mb fa o pm cd doc a vs ns G Y ho hd hcd hmg hobj hints hlen hg
  obtain ⟨K, fd, cs, sp, KX, hT, nT, C, hb, hsp, hF⟩ := F w mg fa _ Y G.T.g hmg
  exact LamX.law_callTs KX G.T.g G.T.b G.T.builtins G.T.nolimit hg hT nT C G.T.bmain hobj hints (Nat.le_trans hlen hn2) hr hF hb (fun H hH hS => hsp H a ns hlen hH hS) fun H e s' => hCX H s1 e s'
/-- the further tests of the hook -/
def exX (ts : List Xt) (K : PySem.W.Frag) : Bool := ts.all fun t => t.ok K
theorem exX_t {ts : List Xt} {K : PySem.W.Frag} (c : exX ts K = true) (i : Nat) {t : Xt} (h : ts[i]? = some t) : t.ok K = true := List.all_eq_true.mp c t (List.mem_of_getElem? h)
end Tr

set_option Elab.async false
set_option linter.all false
set_option maxRecDepth 100000
/-! Lay23: dicts whose very object is known: they may be walked. -/
namespace Tr
open PySem PySem.Spec PyProof.Rows L2 TL
variable [PWc]
/-- the dict that te gives stands still from here on -/
def tFz (te : TE) : TE := fun σ H Q => te σ H fun v H1 => ∃ a kvs, v = .ref a ∧ H1 a = some (.dK kvs) ∧ ∀ o, Q v (upd H1 a (.frz o (.dK kvs)))
theorem pe_fz {X : Cx} {e : Expr} {te : TE} (h : PE X e te) : PE X e (tFz te) := by
  refine ⟨fun pins s σ H Q I q => thn (h.run pins s σ H _ I q) ?_⟩
  rintro u s1 ⟨v, H1, I1, r1, a, kvs, ev, ha, q1⟩
  obtain ⟨o, I2⟩ := I1.lock ha (by first | trivial | exact ⟨fun _ z => (nomatch z), fun _ _ z => (nomatch z), fun _ z => (nomatch z)⟩ | (simp [Mut]))
  exact ⟨v, _, I2, r1, q1 o⟩
section
variable {T : Tn} {W : WX} {K : PySem.W.Frag} {ρ : List Sl} {P : Po} {te : TE} {ds : List (Key × PyData)} {i : Nat}
theorem Ev.fd (h : Ev T te ρ (fdD ds)) : Ev T te ρ (dictD ds) := fun F0 H0 σ F H e Q q => h F0 H0 σ F H e Q fun v F' H' ex r => q v F' H' ex r.of_fd
theorem ev_fz (h : EvN T te ρ fun es => es = ds) : Ev T (tFz te) ρ (fdD ds) := fun F0 H0 σ F H e Q q => h F0 H0 σ F H e _ fun a vs xs F' H' ex n f hv px r => by
  subst px
  refine ⟨a, vs, rfl, hv, fun o => ?_⟩
  have nT : ¬ T a := fun t => by
    obtain ⟨_, z, _⟩ := e.town a t
    rw [n] at z
    cases z
  have sF : Same F' (upd F' a (.frz o (.dK vs))) := same_new f
  refine q (.ref a) (upd F' a (.frz o (.dK vs))) _ ⟨ex.ff.trans sF, fun b u hb => ?_, fun b u nt hb => ?_, fun b u nt hb hf => ?_, fun b hb hf => ?_, fun b hb z => ?_⟩ (.fd upd_same (r.mono sF) rfl)
  · by_cases hb' : b = a
    · subst hb'
      rw [upd_same] at hb ⊢
      exact hb
    · rw [upd_ne hb'] at hb ⊢
      exact ex.fh _ _ hb
  · rw [upd_ne (ne_of_none hb n)]
    exact ex.hh b u nt hb
  · rw [upd_ne (ne_of_none hb n)]
    exact ex.ow b u nt hb hf
  · have nb : b ≠ a := fun z => nT (z ▸ hb)
    rw [upd_ne nb]
    exact ex.tf b hb hf
  · have nb : b ≠ a := fun z => nT (z ▸ hb)
    obtain ⟨o', h1, h2⟩ := (ex.tw b hb z).mono sF
    exact ⟨o', by rw [upd_ne nb]; exact h1, h2⟩
/-- return d, d an own dict -/
theorem sm_retFz (hs : ρ[i]? = some (.od ds)) (k : ∀ ρ', P.rt (fdD ds) ρ') : Sm T W (tRet (tFz (tVar i))) ρ P := fun F0 H0 σ F H D e _ k2 _ _ _ => by
  obtain ⟨a, h1, ⟨_, nt, fa, h0, vs, hv, r⟩, _, _, wr⟩ := e.write hs rfl
  refine ⟨.ref a, h1, a, vs, rfl, hv, fun o => ?_⟩
  -- the slot is kept as an own thing of whatever kind, then frozen
  have e1 : Env T F0 H0 F (upd H a (.frz o (.dK vs))) σ (ρ.set i (.og fun F' b u => b = a ∧ u = .frz o (.dK vs) ∧ RpKV F' vs ds)) := wr _ _ rfl ⟨rfl, nt, fa, h0, _, upd_same, fun F' s' => ⟨rfl, rfl, r.mono s'⟩⟩
  have hil : i < ρ.length := (List.getElem?_eq_some_iff.mp hs).1
  obtain ⟨F', b, hb, sF, e2, hsl⟩ := e1.freezeG (i := i) (s := .og fun F' b u => b = a ∧ u = .frz o (.dK vs) ∧ RpKV F' vs ds) (s1 := .d (fdD ds)) (List.getElem?_set_self hil) rfl rfl fun b u F' s1 h1 h2 q => by
    obtain ⟨_, _, _, _, u', hv', hq⟩ := q
    rw [h1] at hv'
    cases hv'
    obtain ⟨rfl, rfl, r'⟩ := hq F' s1
    exact ⟨_, rfl, .fd h2 r' rfl⟩
  rw [h1] at hb
  cases hb
  obtain ⟨v, ev, rv⟩ := hsl
  cases ev
  exact k2 _ σ F' _ _ _ e2 rv (k _)
theorem walks_keys {F : Hp} {a : Addr} {o : Obj} {kvs : List (Key × V)} (h : F a = some (.frz o (.dK kvs))) (r : RpKV F kvs ds) : Walks T F (Itk a o kvs) (ds.map fun p => kD p.1) where
  go := fun i F2 H s s2 hi => by
    rw [List.length_map, ← r.length] at hi
    exact ⟨s2 _ _ (s _ _ h), hi⟩
  stop := fun i F2 H s s2 hi => by
    rw [List.length_map, ← r.length] at hi
    exact ⟨s2 _ _ (s _ _ h), hi⟩
  yld := fun i F2 H v H' s s2 t hi hy => by
    obtain ⟨rfl, k, v', hk, rfl⟩ := hy
    refine ⟨F2, kD k, ?_, Ext.refl s2, ?_⟩
    · have e := r.keys
      have h1 : (kvs.map (·.1))[i]? = some k := by rw [List.getElem?_map, hk]; rfl
      rw [e, List.getElem?_map] at h1
      obtain ⟨p, hp, hpk⟩ := Option.map_eq_some_iff.mp h1
      rw [List.getElem?_map, hp]
      show some (kD p.1) = _
      rw [hpk]
    · cases k with
      | inl n => exact .int n
      | inr x => exact .str x
theorem wk_keys (h : Ev T te ρ (fdD ds)) : Wk T (iKeys te) ρ fun ys => ys = ds.map fun p => kD p.1 := fun F0 H0 σ F H e R k => h F0 H0 σ F H e _ fun v F' H' ex r => by
  obtain ⟨a, o, kvs, rfl, ha, rs⟩ := r.fd_eq
  exact ⟨a, o, rfl, .inl ⟨kvs, ex.fh _ _ ha, k _ F' H' _ ex rfl (walks_keys ha rs)⟩⟩
end
end Tr

set_option Elab.async false
set_option linter.all false
set_option maxRecDepth 100000
/-! Lay24: enumerate of a tuple. -/
namespace Tr
open PySem PySem.Spec PyProof.Rows L2 TL
set_option maxHeartbeats 1000000 in
theorem meets_enum1 {v : Value} {o : Obj} {H : Heap → Prop} (B : Begins v o H) : Meets (Builtin.«enumerate.__new__» ⟨[.type "enumerate", v], []⟩) (fun _ R s => H s.heap ∧ R (.ok (.ret (.ref (s.heap.push o).objs.size))) { s with heap := (s.heap.push o).push { cls := .type "enumerate", data := .fields #[.none, .bool false, .ref s.heap.objs.size, rawInt 0, .none, .none] } }) :=
  .of_wp fun prog w A R s h => by
    obtain ⟨hp, g, d, tk, os⟩ := s
    obtain ⟨h1, h⟩ := h
    have hsub := sub_enumerate
    have go : ∀ {A' : Around} {E : Value → Shared → Prop} {Q : Value → Shared → Prop}, Q (.ref hp.objs.size) ⟨hp.push o, g, d, tk, os⟩ → wpAny (model prog w) A' (pyIter v) Q E ⟨hp, g, d, tk, os⟩ := fun q => B.iter prog w _ _ ⟨hp, g, d, tk, os⟩ _ h1 q
    wp_walk using go
    refine wpAny_stack_any fun st => wpAny_pure ?_
    split
    · rename_i c _ _ _ _ _
      cases (c == Value.type "enumerate")
      all_goals
        wp_walk using go
        exact ⟨_, rfl, h⟩
    · wp_walk using go
      exact ⟨_, rfl, h⟩
theorem call_enum1 {prog : Program} {w : World} {A : Around} {E : Value → Shared → Prop} {s : Shared} {v : Value} {o : Obj} {H : Heap → Prop} {Q : Value → Shared → Prop} (B : Begins v o H) (h1 : H s.heap)
    (h : ∀ h', IsEnum h' (s.heap.objs.size + 1) s.heap.objs.size 0 .none → h'.get? s.heap.objs.size = some o → (∀ b ob, s.heap.get? b = some ob → h'.get? b = some ob) → Q (.ref (s.heap.objs.size + 1)) { s with heap := h' }) : wpAny (model prog w) A (call (.type "enumerate") [v]) Q E s := by
  refine callType_new F.called_enumerate (by decide) (F.typeCall_enumerate_1 _) (F.newCall_enumerate_1 _) (fun obj => F.args_object_init_2 obj _) F.entry_enumerate_new (meets_enum1 B) ⟨h1, ?_⟩
  have e1 : (s.heap.push o).objs.size = s.heap.objs.size + 1 := Heap.size_push ..
  show _ ∧ _
  rw [e1]
  have he : IsEnum ((s.heap.push o).push { cls := .type "enumerate", data := .fields #[.none, .bool false, .ref s.heap.objs.size, rawInt 0, .none, .none] }) (s.heap.objs.size + 1) s.heap.objs.size 0 .none := by
    have q := Heap.get?_push_size (s.heap.push o) (o := { cls := .type "enumerate", data := .fields #[.none, .bool false, .ref s.heap.objs.size, rawInt 0, .none, .none] }) rfl
    rw [e1] at q
    exact q
  exact ⟨⟨_, he, rfl⟩, h _ he (Heap.get?_push_of_some _ (Heap.get?_push_size _ B.free)) fun b ob x => Heap.get?_push_of_some _ (Heap.get?_push_of_some _ x)⟩
/-- a tuple's iterator at its end -/
theorem draws_over {prog : Program} {w : World} {A : Around} (hh : A.handled = none) (it t : Addr) (hne : t ≠ it) (items : Array Value) (n : Nat) (hx : items[n]? = none) : Draws prog w A it [it, t] n (fun i v => items[i]? = some v) (fun i h => i = n ∧ h.IsTupleIter it t n ∧ h.IsTuple t items) where
  live := fun _ _ st => let ⟨o, ho, _⟩ := st.2.1; ⟨o, ho⟩
  frame := fun _ _ _ st hk => ⟨st.1, st.2.1.at fun o e => hk it (by simp) o e, st.2.2.at fun o e => hk t (by simp) o e⟩
  item := fun i s Q E hi st hQ => absurd st.1 (Nat.ne_of_lt hi)
  done := fun s Q E st hE => wpAny_nextOf_tuple_end hh st.2.1 st.2.2 hx hE
/-- the tuple at a, each item in a new pair -/
def IteT (K : PySem.W.Frag) (a : Addr) : It :=
  ⟨(fun i H => ∃ (xs : List V) (x : V), SqT K H a xs ∧ xs[i]? = some x), (fun i H v H' => ∃ T x, v = .ref T ∧ H T = none ∧ H' = upd H T (.tup [.int (i : Nat), x]) ∧ ∀ xs, SqT K H a xs → xs[i]? = some x), fun i H => ∃ xs : List V, SqT K H a xs ∧ xs.length ≤ i⟩
theorem turn_enumT {P : Program} {w : World} {K : PySem.W.Frag} {elts : List Expr} {kk : Nat} {tpos : Pos} (a e it : Addr) : Turn P w K (.Tuple elts kk tpos) (IteT K a) [e, it] e (fun i h => (∃ old, IsEnum h e it ((i : Nat) : Int) old) ∧ h.IsTupleIter it a i ∧ e ≠ it ∧ a ≠ it ∧ a ≠ e) where
  mem := List.mem_cons_self ..
  obj := fun i h st b hb => by
    obtain ⟨⟨old, he⟩, ⟨o, ho, hc, hd⟩, _⟩ := st
    rcases List.mem_cons.mp hb with rfl | hb
    · exact ⟨_, he, fun v q => nomatch q⟩
    · rw [List.mem_singleton.mp hb]
      exact ⟨o, ho, fun v q => by rw [hd] at q; cases q⟩
  keep := fun i h h' st k => let ⟨⟨old, he⟩, hi, hne⟩ := st; ⟨⟨old, k e (by simp) _ he⟩, hi.at fun o q => k it (by simp) o q, hne⟩
  item := by
    intro X hP hw hK hc i pins s σ H E I hf st hg
    subst hP hw hK
    obtain ⟨⟨old, he⟩, hit, hne, nai, nae⟩ := st
    obtain ⟨xs, x, hq, hx⟩ := hg
    obtain ⟨its, rv, p, hz⟩ := I.tuple hq
    obtain ⟨u, hu, ru⟩ := rv.get hx
    have hel : e < s.heap.objs.size := Heap.lt_size he
    have hil : it < s.heap.objs.size := by
      obtain ⟨_, q, _⟩ := hit
      exact Heap.lt_size q
    have hil2 : i < its.toArray.size := by
      have := (List.getElem?_eq_some_iff.mp hu).1
      simpa using this
    refine wpAny_pyNext_enum_itemD (Draws.tuple (A := X.A.in1) (show X.A.in1.handled = none from I.ok.hd hc) it a nai its.toArray) he ⟨hit, p⟩ hil2 hne (by simp [hne, Ne.symm nae]) fun y h' tk hy ho hst hT hsz hk => ?_
    have ey : y = u := by
      have : its[i]? = some y := by simpa using hy
      rw [hu] at this
      exact (Option.some.inj this).symm
    subst ey
    refine ⟨_, rfl, wpAny_letOwnedTupleGo_enum (s := { s with heap := h', toks := tk + 1 }) ho fun h'' he' sb => ?_⟩
    have hT2 : h''.get? s.heap.objs.size = some { cls := .type "tuple", data := .seq #[.int i tk, y] } := (sb.2 _ (Nat.ne_of_gt hel)).trans hT
    have new : ObjOk X.prog X.w (upd H s.heap.objs.size (.tup [.int (i : Nat), x])) h'' s.heap.objs.size (.tup [.int (i : Nat), x]) :=
      ⟨by show 2 ≤ sizeLine; decide, [.int i tk, y], .cons ⟨_, rfl⟩ (.cons ru .nil), ⟨_, hT2, rfl, _, rfl⟩⟩
    have I1 : Inv X pins σ (upd H s.heap.objs.size (.tup [.int (i : Nat), x])) { s with heap := h'', toks := tk + 1 } :=
      I.turnedNew (ch := [e, it]) (fun b ob hb q => (sb.2 b (fun z => hb (by simp [z]))).trans (hk b ob (fun z => hb (by simp [z])) (fun z => hb (by simp [z])) q)) hf (Nat.le_refl _) new
    refine ⟨.ref s.heap.objs.size, _, I1, rfl, ⟨_, x, rfl, I.hok.fresh (Nat.le_refl _), rfl, fun ys hy => by rw [I.tuple_inj hy hq]; exact hx⟩, ⟨⟨y, ?_⟩, hst.1.at fun o q => (sb.2 it (Ne.symm hne)).trans q, hne, nai, nae⟩, fun b hb => ?_⟩
    · have e1 : ((i + 1 : Nat) : Int) = (i : Int) + 1 := by omega
      rw [e1]
      exact he'
    · have hb' : b < s.heap.objs.size := by
        rcases List.mem_cons.mp hb with rfl | hb
        · exact hel
        · rw [List.mem_singleton.mp hb]
          exact hil
      rw [upd_ne (Nat.ne_of_lt hb')]
      exact (hf b hb).1
  done := by
    intro X hP hw hK hc i pins s σ H E I hf st hg
    subst hP hw hK
    obtain ⟨⟨old, he⟩, hit, hne, nai, nae⟩ := st
    obtain ⟨xs, hq, hx⟩ := hg
    obtain ⟨its, rv, p, hz⟩ := I.tuple hq
    obtain ⟨f0, f1, f2, f3, f4, f5⟩ := hf it (by simp)
    have hl := rv.length
    exact wpAny_pyNext_enum_endD (draws_over (A := X.A.in1) (show X.A.in1.handled = none from I.ok.hd hc) it a nai its.toArray i (by simp; omega)) he ⟨rfl, hit, p⟩ fun h' eb => ⟨rfl, I.turned (t' := s.toks) (fun b o hb q => eb b o hb q) f0 f1 f3 f4 f5⟩
  self := fun A i s Q E st h => let ⟨⟨_, he⟩, _⟩ := st; wpAny_pyIter_enum he h
def iEnumT (K : PySem.W.Frag) (ta : TA) : TI := fun σ H R => ta σ H fun vs H1 => ∃ a xs, vs = [.ref a] ∧ SqT K H1 a xs ∧ R (IteT K a) H1
theorem pi_enumT {X : Cx} {e : Expr} {ta : TA} {p pos tpos : Pos} {elts : List Expr} {kk : Nat} (hg : Gl X "enumerate") (hm : X.mg "enumerate" = none) (ha : PA X [e] ta) (hs : starEach [e] X.env = [(false, eval e X.env)] := by rfl) :
    PI X (.Tuple elts kk tpos) (.Call (.Name "enumerate" p) [e] [] pos) (iEnumT X.K ta) := by
  refine ⟨fun pins s σ H R I h => Call_ (ld_blt I hg hm boot_enumerate (PyProof.Rows.callWith_type1 (thn (ha.run pos pins s σ H _ I h) fun us s1 ⟨vs, H1, I1, r1, q1⟩ => ?_) hs rfl))⟩
  obtain ⟨a, xs, rfl, hq, q⟩ := q1
  cases r1 with
  | cons r rr =>
    cases rr
    cases r
    obtain ⟨its, rv, p', hz⟩ := I1.tuple hq
    have hal : a < s1.heap.objs.size := by
      obtain ⟨_, y, _⟩ := p'
      exact Heap.lt_size y
    refine call_enum1 (begins_tuple a its.toArray) p' fun h' he hit hk => wpAny_pyIter_enum he ?_
    refine ⟨s1.heap.objs.size + 1, [s1.heap.objs.size + 1, s1.heap.objs.size], _, _, H1, rfl, I1.kept (t' := s1.toks) hk, turn_enumT a (s1.heap.objs.size + 1) s1.heap.objs.size, ⟨⟨.none, he⟩, ⟨_, hit, rfl, rfl⟩, Nat.succ_ne_self _, Nat.ne_of_lt hal, Nat.ne_of_lt (Nat.lt_succ_of_lt hal)⟩, (fun b hb => ?_), q⟩
    have hle : s1.heap.objs.size ≤ b := by
      rcases List.mem_cons.mp hb with rfl | hb
      · exact Nat.le_add_right _ _
      · rw [List.mem_singleton.mp hb]
        exact Nat.le_refl _
    exact I1.fpOk hle (I1.hok.fresh hle)
section
variable [PWc] {T : Tn} {K : PySem.W.Frag} {ρ : List Sl} {te : TE} {ta : TA}
theorem walks_enumT {F : Hp} {a : Addr} {o : Obj} {vs : List V} {xs : List PyData} (ha : F a = some (.frz o (.tup vs))) (ra : RpAll F vs xs) : Walks T F (IteT K a) (enumD xs) where
  go := fun i F2 H s s2 hi => by
    rw [enumD_len] at hi
    obtain ⟨v, hv, _⟩ := ra.get (List.getElem?_eq_getElem hi)
    exact ⟨vs, v, sqT_frz (s2 _ _ (s _ _ ha)), hv⟩
  stop := fun i F2 H s s2 hi => by
    rw [enumD_len] at hi
    exact ⟨vs, sqT_frz (s2 _ _ (s _ _ ha)), by rw [ra.length]; exact hi⟩
  yld := fun i F2 H v H' s s2 t hi hy => by
    rw [enumD_len] at hi
    obtain ⟨y, h1⟩ : ∃ y, xs[i]? = some y := ⟨_, List.getElem?_eq_getElem hi⟩
    obtain ⟨w, w1, rfl, nT, rfl, q1⟩ := hy
    obtain ⟨v, hv, rv⟩ := ra.get h1
    have e1 := (q1 vs (sqT_frz (s2 _ _ (s _ _ ha)))).symm.trans hv
    cases e1
    have x2 : Ext T F2 H (upd F2 w (.tup [.int (i : Nat), w1])) (upd H w (.tup [.int (i : Nat), w1])) := Ext.new s2 (fun b hb => (t b hb).2) nT
    refine ⟨_, loD [.int (i : Nat), y], ?_, x2, .lo upd_same (.cons (.int _) (.cons ((rv.mono s).mono x2.ff) .nil))⟩
    unfold enumD
    rw [List.getElem?_map, List.getElem?_zipIdx, h1]
    simp
theorem wk_enumT {P : List PyData → Prop} (h : EvA T ta ρ fun zs => ∃ xs, zs = [.tuple xs] ∧ P xs) : Wk T (iEnumT K ta) ρ fun zs => ∃ xs, zs = enumD xs ∧ P xs := fun F0 H0 σ F H e R k =>
  h F0 H0 σ F H e _ fun vs F' H' zs ex ez r => by
    obtain ⟨xs, rfl, px⟩ := ez
    cases r with
    | cons r1 r =>
      cases r
      obtain ⟨a, o, vs1, rfl, ha, _, ra⟩ := r1.tup_eq
      exact ⟨a, vs1, rfl, sqT_frz (ex.fh _ _ ha), k _ F' H' _ ex ⟨xs, rfl, px⟩ (walks_enumT ha ra)⟩
end
section
variable {X : Cx} {e : Expr} {t : TA} {p pos : Pos}
theorem k_ieT (K : PySem.W.Frag) {tpos : Pos} {elts : List Expr} {kk : Nat} (hg : Gl X "enumerate") (hm : X.mg "enumerate" = none) (ha : PA X [e] t) (hs : starEach [e] X.env = [(false, eval e X.env)] := by rfl) (hK : X.K = K := by rfl) : PI X (.Tuple elts kk tpos) (.Call (.Name "enumerate" p) [e] [] pos) (iEnumT K t) := by
  subst hK
  exact pi_enumT hg hm ha hs
end
end Tr

set_option Elab.async false
set_option linter.all false
set_option maxRecDepth 100000
/-! Lay25: zip of a tuple with a list of the same length. -/
namespace Tr
open PySem PySem.Spec PyProof.Rows L2 TL
theorem draws_overL {prog : Program} {w : World} {A : Around} (hh : A.handled = none) (it t : Addr) (hne : t ≠ it) (items : Array Value) (n : Nat) (hx : items[n]? = none) : Draws prog w A it [it, t] n (fun i v => items[i]? = some v) (fun i h => i = n ∧ h.IsListIter it t n ∧ h.IsList t items) where
  live := fun _ _ st => let ⟨o, ho, _⟩ := st.2.1; ⟨o, ho⟩
  frame := fun _ _ _ st hk => ⟨st.1, st.2.1.at fun o e => hk it (by simp) o e, st.2.2.at fun o e => hk t (by simp) o e⟩
  item := fun i s Q E hi st hQ => absurd st.1 (Nat.ne_of_lt hi)
  done := fun s Q E st hE => wpAny_nextOf_list_end hh st.2.1 st.2.2 hx hE
theorem inv_still {X : Cx} {pins : List (Addr × Obj)} {σ : L2.St} {H : Hp} {s : Shared} {h' : Heap} {t' : Nat} {ch : List Addr} (I : Inv X pins σ H s) (hf : ∀ b ∈ ch, FpOk X pins H b) (k : ∀ b o, b ∉ ch → s.heap.get? b = some o → h'.get? b = some o) : Inv X pins σ H { s with heap := h', toks := t' } := by
  have nit : ∀ b u, H b = some u → b ∉ ch := fun b u e z => by
    rw [(hf b z).1] at e
    cases e
  refine I.step (g' := s.gens) (d' := s.drawn) (ch := ch) (fun b hb => ⟨(hf b hb).2.2.2.1, (hf b hb).2.1, (hf b hb).2.2.2.2.1, (hf b hb).2.2.2.2.2⟩) (fun b o _ _ hc e _ => k b o hc e) (fun b o _ _ hc e _ => ⟨o.slots, k b o hc e⟩) (fun _ _ _ _ n => n) (fun b o hc e => ⟨o, k b o hc e⟩) (fun _ _ e => e) (fun _ _ _ e => e) (fun b ps e => ⟨#[], by rw [e]; simp⟩) (fun m hm => ?_) (fun b u e => ?_) I.bare
  · obtain ⟨o, es, ep, ho, r⟩ := hm
    exact ⟨o, es, ep, k _ o (fun z => (hf _ z).2.1 rfl) ho, r⟩
  · refine (I.hok b u e).stay (fun c v hc q => k c v ?_ q) (fun c q => q) fun c xs q => q
    rcases hc with z | z
    · rw [z]
      exact nit b u e
    · exact nit c _ z
/-- the tuple at a, the list at b, the items in new pairs -/
def ItzM (K : PySem.W.Frag) (a b : Addr) : It :=
  ⟨(fun i H => ∃ (xs ys : List V) (x y : V), SqT K H a xs ∧ SqL K H b ys ∧ xs[i]? = some x ∧ ys[i]? = some y),
    (fun i H v H' => ∃ T x y, v = .ref T ∧ H T = none ∧ H' = upd H T (.tup [x, y]) ∧ (∀ xs, SqT K H a xs → xs[i]? = some x) ∧ ∀ ys, SqL K H b ys → ys[i]? = some y),
    fun i H => ∃ xs ys : List V, SqT K H a xs ∧ SqL K H b ys ∧ xs.length ≤ i ∧ ys.length ≤ i⟩
def ZmSt (a b z TI TO i1 i2 : Addr) (i : Nat) (h : Heap) : Prop := IsZip h z TI TO .none ∧ IsTupOf2 h TI (.ref i1) (.ref i2) ∧ (∃ a1 a2, IsTupOf2 h TO a1 a2) ∧ h.IsTupleIter i1 a i ∧ h.IsListIter i2 b i
theorem turn_zipM {P : Program} {w : World} {K : PySem.W.Frag} {elts : List Expr} {kk : Nat} {tpos : Pos} {a b z TI TO i1 i2 : Addr} (S : ZipSep2 z TI TO i1 i2 [i1, a] [i2, b]) (n1 : a ≠ i1) (n2 : b ≠ i2) : Turn P w K (.Tuple elts kk tpos) (ItzM K a b) [z, TI, TO, i1, i2] z (ZmSt a b z TI TO i1 i2) where
  mem := List.mem_cons_self ..
  obj := fun i h st c hc => by
    obtain ⟨hz, hTI, ⟨x, y, hTO⟩, ⟨o1, e1, _, d1⟩, ⟨o2, e2, _, d2⟩⟩ := st
    have e' : c = z ∨ c = TI ∨ c = TO ∨ c = i1 ∨ c = i2 := by simpa using hc
    rcases e' with rfl | rfl | rfl | rfl | rfl
    · exact ⟨_, hz, fun v q => nomatch q⟩
    · exact ⟨_, hTI, fun v q => nomatch q⟩
    · exact ⟨_, hTO, fun v q => nomatch q⟩
    · exact ⟨o1, e1, fun v q => by rw [d1] at q; cases q⟩
    · exact ⟨o2, e2, fun v q => by rw [d2] at q; cases q⟩
  keep := fun i h h' st k => by
    obtain ⟨hz, hTI, ⟨x, y, hTO⟩, h1, h2⟩ := st
    exact ⟨k z (by simp) _ hz, k TI (by simp) _ hTI, ⟨x, y, k TO (by simp) _ hTO⟩, h1.at fun o q => k i1 (by simp) o q, h2.at fun o q => k i2 (by simp) o q⟩
  item := by
    intro X hP hw hK hc i pins s σ H E I hf st hg
    subst hP hw hK
    obtain ⟨hz, hTI, hTO, h1, h2⟩ := st
    obtain ⟨xs, ys, x, y, hqx, hqy, hx, hy⟩ := hg
    obtain ⟨its, rv, p, _⟩ := I.tuple hqx
    obtain ⟨its2, rv2, p2, _⟩ := I.list hqy
    obtain ⟨u, hu, ru⟩ := rv.get hx
    obtain ⟨u2, hu2, ru2⟩ := rv2.get hy
    have hh : X.A.in1.handled = none := I.ok.hd hc
    have W := WalksT.zipD2 S (Draws.tuple (prog := X.prog) (w := X.w) (A := X.A.in1) hh i1 a n1 its.toArray) (Draws.list (prog := X.prog) (w := X.w) (A := X.A.in1) hh i2 b n2 its2.toArray)
    have hl1 := (List.getElem?_eq_some_iff.mp hu).1
    have hl2 := (List.getElem?_eq_some_iff.mp hu2).1
    have hlt : ∀ c ∈ [z, TI, TO, i1, i2], c < s.heap.objs.size := fun c hcm => by
      have e' : c = z ∨ c = TI ∨ c = TO ∨ c = i1 ∨ c = i2 := by simpa using hcm
      obtain ⟨_, _, hTO'⟩ := hTO
      rcases e' with rfl | rfl | rfl | rfl | rfl
      · exact Heap.lt_size hz
      · exact Heap.lt_size hTI
      · exact Heap.lt_size hTO'
      · obtain ⟨_, e1, _⟩ := h1
        exact Heap.lt_size e1
      · obtain ⟨_, e1, _⟩ := h2
        exact Heap.lt_size e1
    refine W.item i s _ _ (by rw [List.size_toArray, List.size_toArray]; omega) ⟨hz, hTI, hTO, ⟨h1, p⟩, ⟨h2, p2.isList⟩⟩ fun T vals h' tk hv hT hTv hmid hk => ?_
    refine ⟨_, rfl, W.go elts kk tpos i T { s with heap := h', toks := tk } _ _ hmid fun h'' hst hk2 => ?_⟩
    obtain ⟨x1, x2, q1, q2, rfl⟩ := hv
    have ex1 : x1 = u := by
      have : its[i]? = some x1 := by simpa using q1
      rw [hu] at this
      exact (Option.some.inj this).symm
    have ex2 : x2 = u2 := by
      have : its2[i]? = some x2 := by simpa using q2
      rw [hu2] at this
      exact (Option.some.inj this).symm
    subst ex1 ex2
    have hTw := W.apart i T h' hmid
    obtain ⟨o, ho, hoc, hod⟩ := hTv
    have new : ObjOk X.prog X.w (upd H T (.tup [x, y])) h'' T (.tup [x, y]) := ⟨by show 2 ≤ sizeLine; decide, [x1, x2], .cons ru (.cons ru2 .nil), ⟨o, hk2 T o hTw ho, hoc, hod⟩⟩
    have I1 : Inv X pins σ (upd H T (.tup [x, y])) { s with heap := h'', toks := tk } :=
      I.turnedNew (ch := [z, TI, TO, i1, i2]) (fun c ob hb q => hk2 c ob (fun z' => hb (by simp at z' ⊢; rcases z' with h | h | h | h <;> simp [h])) (hk c ob (fun z' => hb (by simp at z' ⊢; rcases z' with h | h | h | h <;> simp [h])) q)) hf hT new
    refine ⟨.ref T, _, I1, rfl, ⟨T, x, y, rfl, I.hok.fresh hT, rfl, (fun l hl => by rw [I.tuple_inj hl hqx]; exact hx), fun l hl => by rw [I.list_inj hl hqy]; exact hy⟩, ⟨hst.1, hst.2.1, hst.2.2.1, hst.2.2.2.1.1, hst.2.2.2.2.1⟩, fun c hcm => ?_⟩
    have hcT : c ≠ T := Nat.ne_of_lt (Nat.lt_of_lt_of_le (hlt c hcm) hT)
    rw [upd_ne hcT]
    exact (hf c hcm).1
  done := by
    intro X hP hw hK hc i pins s σ H E I hf st hg
    subst hP hw hK
    obtain ⟨hz, hTI, hTO, h1, h2⟩ := st
    obtain ⟨xs, ys, hqx, hqy, hx, hy⟩ := hg
    obtain ⟨its, rv, p, _⟩ := I.tuple hqx
    obtain ⟨its2, rv2, p2, _⟩ := I.list hqy
    have hl1 := rv.length
    have hl2 := rv2.length
    have hh : X.A.in1.handled = none := I.ok.hd hc
    have W := WalksT.zipD2 S (draws_over (prog := X.prog) (w := X.w) (A := X.A.in1) hh i1 a n1 its.toArray i (by simp; omega)) (draws_overL (prog := X.prog) (w := X.w) (A := X.A.in1) hh i2 b n2 its2.toArray i (by simp; omega))
    refine W.done s _ _ ?_ fun h' tk hk => ⟨rfl, ?_⟩
    · rw [Nat.min_self]
      exact ⟨hz, hTI, hTO, ⟨rfl, h1, p⟩, ⟨rfl, h2, p2.isList⟩⟩
    · exact inv_still I hf fun c ob hb q => hk c ob (fun z' => hb (by simp at z' ⊢; rcases z' with h | h | h | h <;> simp [h])) q
  self := fun A i s Q E st h => wpAny_pyIter_zip st.1 h
def iZipM (K : PySem.W.Frag) (ta : TA) : TI := fun σ H R => ta σ H fun vs H1 => ∃ a b xs ys, vs = [.ref a, .ref b] ∧ SqT K H1 a xs ∧ SqL K H1 b ys ∧ R (ItzM K a b) H1
theorem pi_zipM {X : Cx} {e e2 : Expr} {ta : TA} {p pos tpos : Pos} {elts : List Expr} {kk : Nat} (hg : Gl X "zip") (hm : X.mg "zip" = none) (ha : PA X [e, e2] ta)
    (hs : starEach [e, e2] X.env = (false, eval e X.env) :: starEach [e2] X.env := by rfl) (hpl : (backTo pos (starEach [e2] X.env)).any (·.1) = false := by rfl) : PI X (.Tuple elts kk tpos) (.Call (.Name "zip" p) [e, e2] [] pos) (iZipM X.K ta) := by
  refine ⟨fun pins s σ H R I h => Call_ (ld_blt I hg hm PyProof.Rows.boot_zip (PyProof.Rows.callWith_type1 (thn (ha.run pos pins s σ H _ I h) fun us s1 ⟨vs, H1, I1, r1, q1⟩ => ?_) hs hpl))⟩
  obtain ⟨a, b, xs, ys, rfl, hqx, hqy, q⟩ := q1
  cases r1 with
  | cons r rr =>
    cases rr with
    | cons r' rr =>
      cases rr
      cases r
      cases r'
      obtain ⟨its, rv, p1, _⟩ := I1.tuple hqx
      obtain ⟨its2, rv2, p2, _⟩ := I1.list hqy
      have la : a < s1.heap.objs.size := by
        obtain ⟨_, y, _⟩ := p1
        exact Heap.lt_size y
      have lb : b < s1.heap.objs.size := p2.lt
      refine zip_begins2 (begins_tuple a its.toArray) (begins_list b its2.toArray) p1 p2.isList fun h' hz hTI hTO h1 h2 hsz hk => wpAny_pyIter_zip hz ?_
      refine ⟨s1.heap.objs.size + 4, [s1.heap.objs.size + 4, s1.heap.objs.size + 2, s1.heap.objs.size + 3, s1.heap.objs.size, s1.heap.objs.size + 1], _, _, H1, rfl, I1.kept (t' := s1.toks) hk, turn_zipM (zip_sep2 (N := s1.heap.objs.size) (fp1 := [a]) (fp2 := [b]) (fun c hc => by rw [List.mem_singleton.mp hc]; exact la) fun c hc => by rw [List.mem_singleton.mp hc]; exact lb) (Nat.ne_of_lt la) (Nat.ne_of_lt (Nat.lt_succ_of_lt lb)), ⟨hz, hTI, ⟨_, _, hTO⟩, ⟨_, h1, rfl, rfl⟩, ⟨_, h2, rfl, rfl⟩⟩, (fun c hc => ?_), q⟩
      have hle : s1.heap.objs.size ≤ c := by
        have e' : c = s1.heap.objs.size + 4 ∨ c = s1.heap.objs.size + 2 ∨ c = s1.heap.objs.size + 3 ∨ c = s1.heap.objs.size ∨ c = s1.heap.objs.size + 1 := by simpa using hc
        rcases e' with rfl | rfl | rfl | rfl | rfl
        · exact Nat.le_add_right _ _
        · exact Nat.le_add_right _ _
        · exact Nat.le_add_right _ _
        · exact Nat.le_refl _
        · exact Nat.le_add_right _ _
      exact I1.fpOk hle (I1.hok.fresh hle)
section
variable [PWc] {T : Tn} {K : PySem.W.Frag} {ρ : List Sl} {ta : TA}
theorem walks_zipM {F : Hp} {a b : Addr} {o : Obj} {vs us : List V} {xs ys : List PyData} (ha : F a = some (.frz o (.tup vs))) (hb : F b = some (.lst us)) (ra : RpAll F vs xs) (rb : RpAll F us ys) (hl : xs.length = ys.length) : Walks T F (ItzM K a b) ((xs.zip ys).map fun p => loD [p.1, p.2]) where
  go := fun i F2 H s s2 hi => by
    rw [List.length_map, List.length_zip] at hi
    obtain ⟨v, hv, _⟩ := ra.get (List.getElem?_eq_getElem (l := xs) (i := i) (by omega))
    obtain ⟨u, hu, _⟩ := rb.get (List.getElem?_eq_getElem (l := ys) (i := i) (by omega))
    exact ⟨vs, us, v, u, sqT_frz (s2 _ _ (s _ _ ha)), SqL.of (s2 _ _ (s _ _ hb)), hv, hu⟩
  stop := fun i F2 H s s2 hi => by
    rw [List.length_map, List.length_zip] at hi
    exact ⟨vs, us, sqT_frz (s2 _ _ (s _ _ ha)), SqL.of (s2 _ _ (s _ _ hb)), by rw [ra.length]; omega, by rw [rb.length]; omega⟩
  yld := fun i F2 H v H' s s2 t hi hy => by
    rw [List.length_map, List.length_zip] at hi
    obtain ⟨x, h1⟩ : ∃ x, xs[i]? = some x := ⟨_, List.getElem?_eq_getElem (by omega)⟩
    obtain ⟨y, h2⟩ : ∃ y, ys[i]? = some y := ⟨_, List.getElem?_eq_getElem (by omega)⟩
    obtain ⟨w, w1, w2, rfl, nT, rfl, q1, q2⟩ := hy
    obtain ⟨v, hv, rv⟩ := ra.get h1
    obtain ⟨u, hu, ru⟩ := rb.get h2
    cases (q1 vs (sqT_frz (s2 _ _ (s _ _ ha)))).symm.trans hv
    cases (q2 us (SqL.of (s2 _ _ (s _ _ hb)))).symm.trans hu
    have x2 : Ext T F2 H (upd F2 w (.tup [w1, w2])) (upd H w (.tup [w1, w2])) := Ext.new s2 (fun b hb => (t b hb).2) nT
    refine ⟨_, loD [x, y], ?_, x2, .lo upd_same (.cons ((rv.mono s).mono x2.ff) (.cons ((ru.mono s).mono x2.ff) .nil))⟩
    rw [List.getElem?_map]
    have : (xs.zip ys)[i]? = some (x, y) := List.getElem?_zip_eq_some.mpr ⟨h1, h2⟩
    rw [this]
    rfl
theorem wk_zipM {P : List PyData → List PyData → Prop} (h : EvA T ta ρ fun zs => ∃ xs ys, zs = [.tuple xs, .list ys] ∧ xs.length = ys.length ∧ P xs ys) : Wk T (iZipM K ta) ρ fun zs => ∃ xs ys, zs = ((xs.zip ys).map fun p => loD [p.1, p.2]) ∧ xs.length = ys.length ∧ P xs ys := fun F0 H0 σ F H e R k =>
  h F0 H0 σ F H e _ fun vs F' H' zs ex ez r => by
    obtain ⟨xs, ys, rfl, hl, px⟩ := ez
    cases r with
    | cons r1 r =>
      cases r with
      | cons r2 r =>
        cases r
        obtain ⟨a, o, vs1, rfl, ha, _, ra⟩ := r1.tup_eq
        obtain ⟨b, us1, rfl, hb, rb⟩ := r2.lst_eq
        exact ⟨a, b, vs1, us1, rfl, sqT_frz (ex.fh _ _ ha), SqL.of (ex.fh _ _ hb), k _ F' H' _ ex ⟨xs, ys, rfl, hl, px⟩ (walks_zipM ha hb ra rb hl)⟩
end
section
variable {X : Cx} {e e2 : Expr} {t : TA} {p pos : Pos}
theorem k_izM (K : PySem.W.Frag) {tpos : Pos} {elts : List Expr} {kk : Nat} (hg : Gl X "zip") (hm : X.mg "zip" = none) (ha : PA X [e, e2] t) (hs : starEach [e, e2] X.env = (false, eval e X.env) :: starEach [e2] X.env := by rfl) (hpl : (backTo pos (starEach [e2] X.env)).any (·.1) = false := by rfl) (hK : X.K = K := by rfl) : PI X (.Tuple elts kk tpos) (.Call (.Name "zip" p) [e, e2] [] pos) (iZipM K t) := by
  subst hK
  exact pi_zipM hg hm ha hs hpl
end
end Tr

set_option Elab.async false
set_option linter.all false
set_option maxRecDepth 100000
/-! Lay26: slices of tuples, tuples one behind another. -/
namespace Tr
open PySem PySem.Spec PyProof.Rows L2 TL
section
variable {X : Cx}
/-- t[lo:hi], not the whole: a new tuple -/
def rSlF (K : PySem.W.Frag) : V → Option Int → Option Int → Hp → VK → Prop := fun x lo hi H Q => ∃ a xs, x = .ref a ∧ SqT K H a xs ∧ ¬ (HT.sIx xs.length 0 lo = 0 ∧ HT.sIx xs.length xs.length hi = xs.length) ∧ ∀ p o, H p = none → o.dict = none → Q (.ref p) (upd H p (.frz o (.tup (cutV xs lo hi))))
theorem sl_F : SlR X (rSlF X.K) := by
  intro pins s σ H x v vl vu lo hi sl Q I rx hs pl pu h
  obtain ⟨a, xs, rfl, hx, hw, q⟩ := h
  cases rx
  obtain ⟨its, r, ht, hz⟩ := I.tuple hx
  have hlen : its.toArray.size = xs.length := by rw [List.size_toArray]; exact r.length.symm
  refine ⟨"tuple", _, PyProof.Rows.slot_tuple_getitem.lookup, ht.typeIs, ?_⟩
  refine HT.getItem_tuple_cut ht hs pl pu (by rw [hlen]; exact hw) ?_ (by rw [hlen]; exact hz)
  rw [hlen]
  have r2 := (r.drop (HT.sIx xs.length 0 lo)).take (HT.sIx xs.length xs.length hi - HT.sIx xs.length 0 lo)
  refine ⟨.ref s.heap.objs.size, _, I.laid (t' := s.toks) (o := .frz { cls := .type "tuple", data := .seq ((its.drop (HT.sIx xs.length 0 lo)).take (HT.sIx xs.length xs.length hi - HT.sIx xs.length 0 lo)).toArray } (.tup (cutV xs lo hi))) (fun b ob q => Heap.get?_push_of_some _ q) (Nat.le_refl _) ?_, rfl, q _ _ (I.hok.fresh (Nat.le_refl _)) rfl⟩
  exact ⟨Heap.get?_push_size _ rfl, Nat.le_trans (cutV_length xs lo hi) hz, _, r2, IsTup.new _ _⟩
/-- t + u -/
def rCatF (K : PySem.W.Frag) : R2 := fun x y H Q => ∃ a b xs ys, x = .ref a ∧ y = .ref b ∧ SqT K H a xs ∧ SqT K H b ys ∧ xs.length + ys.length ≤ sizeLine ∧ (xs = [] → Q (.ref b) H) ∧ (xs ≠ [] → ys = [] → Q (.ref a) H) ∧ (xs ≠ [] → ys ≠ [] → ∀ p o, H p = none → o.dict = none → Q (.ref p) (upd H p (.frz o (.tup (xs ++ ys)))))
theorem op_catF : OpR X (binaryOp .Add) (rCatF X.K) := by
  intro pins s σ H x y v u Q I rx ry h
  obtain ⟨a, b, xs, ys, rfl, rfl, ha, hb, hl, q0, q1, q2⟩ := h
  cases rx
  cases ry
  obtain ⟨its, r1, p1, _⟩ := I.tuple ha
  obtain ⟨its2, r2, p2, _⟩ := I.tuple hb
  have l1 := r1.length
  have l2 := r2.length
  obtain ⟨⟨cls, dd, data, sl⟩, ho, hc, n, hd⟩ := id p1
  obtain ⟨⟨cls2, dd2, data2, sl2⟩, ho2, hc2, n2, hd2⟩ := id p2
  simp only at hc hd hc2 hd2
  subst hc hd hc2 hd2
  by_cases hx : xs = []
  · have e1 : its = [] := r1.nil_iff.mpr hx
    exact concat_meets ⟨_, ho, rfl⟩ ⟨_, ho2, rfl⟩ noFill_tuple_add seq_tuple_add PySem.F.slot_tuple_add PySem.F.entry_tuple_add (PySem.F.args_tuple_add_2 _ _) (tuple_addW0 a b its.toArray its2.toArray n n2 dd dd2 sl sl2 (by simp [e1])) ⟨ho, ho2, .ref b, H, I, rfl, q0 hx⟩
  · have e1 : its ≠ [] := fun e => hx (r1.nil_iff.mp e)
    by_cases hy : ys = []
    · exact HT.cat_tup p1 p2 e1 (fun _ => ⟨.ref a, H, I, rfl, q1 hx hy⟩) (fun e => absurd (r2.nil_iff.mpr hy) e) (by omega)
    · have e2 : its2 ≠ [] := fun e => hy (r2.nil_iff.mp e)
      refine HT.cat_tup p1 p2 e1 (fun e => absurd e e2) (fun _ => ?_) (by omega)
      refine ⟨.ref s.heap.objs.size, _, I.laid (t' := s.toks) (o := .frz { cls := .type "tuple", data := .seq (its ++ its2).toArray } (.tup (xs ++ ys))) (fun b ob q => Heap.get?_push_of_some _ q) (Nat.le_refl _) ?_, rfl, q2 hx hy _ _ (I.hok.fresh (Nat.le_refl _)) rfl⟩
      exact ⟨Heap.get?_push_size _ rfl, by rw [List.length_append]; exact hl, _, r1.append r2, IsTup.new _ _⟩
def rAddW (K : PySem.W.Frag) : R2 := fun x y H Q => rAddU K x y H Q ∨ rCatF K x y H Q
def rSlW (K : PySem.W.Frag) : V → Option Int → Option Int → Hp → VK → Prop := fun x lo hi H Q => rSlU K x lo hi H Q ∨ rSlF K x lo hi H Q
variable [PWc] {a b e : Expr} {ta tb te : TE} {pos : Pos}
theorem k_addW (K : PySem.W.Frag) (ha : PE X a ta) (hb : PE X b tb) (hK : X.K = K := by rfl) : PE X (.BinOp a .Add b pos) (tOp (rAddW K) ta tb) := by
  subst hK
  exact pe_op (OpR.or op_addU op_catF) ha hb
theorem k_slW (K : PySem.W.Frag) {lo hi : Option Expr} {tl th : TO} {p2 : Pos} (he : PE X e te) (hl : PO X lo tl) (hu : PO X hi th) (hK : X.K = K := by rfl) : PE X (.Subscript e (.Slice lo hi none p2) pos) (tSl (rSlW K) te tl th) := by
  subst hK
  exact pe_slice (SlR.or sl_U sl_F) he hl hu
end
section
variable [PWc] {T : Tn} {K : PySem.W.Frag} {ρ : List Sl} {ta tb : TE}
theorem ev_addIW {i j : Int} (ha : Ev T ta ρ (.int i)) (hb : Ev T tb ρ (.int j)) : Ev T (tOp (rAddW K) ta tb) ρ (.int (i + j)) := ev_op ha hb fun F H v u s t rx ry Q q => .inl (rv_addI F H v u s t rx ry Q q)
theorem ev_slT {tl th : TO} {xs : List PyData} {lo hi : Option Int} (ha : Ev T ta ρ (.tuple xs)) (h1 : EvB T tl ρ lo) (h2 : EvB T th ρ hi) (hw : ¬ (HT.sIx xs.length 0 lo = 0 ∧ HT.sIx xs.length xs.length hi = xs.length)) : Ev T (tSl (rSlW K) ta tl th) ρ (.tuple (cutL xs lo hi)) := fun F0 H0 σ F H e Q q =>
  ha F0 H0 σ F H e _ fun v F1 H1 e1 r1 => h1 F0 H0 σ F1 H1 (e.ext e1) _ fun F2 H2 e2 => h2 F0 H0 σ F2 H2 ((e.ext e1).ext e2) _ fun F3 H3 e3 => by
    obtain ⟨a, o, vs, rfl, hk, _, r⟩ := r1.tup_eq
    have x3 := (e1.trans e2).trans e3
    have e4 := ((e.ext e1).ext e2).ext e3
    refine .inr ⟨a, vs, rfl, sqT_frz (e3.fh _ _ (e3.ff _ _ (e2.ff _ _ hk))), by rw [r.length]; exact hw, fun p o hp ho => ?_⟩
    have x5 : Ext T F3 H3 (upd F3 p (.frz o (.tup (cutV vs lo hi)))) (upd H3 p (.frz o (.tup (cutV vs lo hi)))) := Ext.new e4.le e4.town hp
    exact q _ _ _ (x3.trans x5) (.tup upd_same ho (((r.cut lo hi).mono (e2.ff.trans e3.ff)).mono x5.ff))
theorem ev_addT {xs ys : List PyData} (ha : Ev T ta ρ (.tuple xs)) (hb : Ev T tb ρ (.tuple ys)) (hl : xs.length + ys.length ≤ sizeLine) : Ev T (tOp (rAddW K) ta tb) ρ (.tuple (xs ++ ys)) := ev_op ha hb fun F H v u s t rx ry Q q => by
  obtain ⟨a, o1, vs, rfl, hk, d1, r⟩ := rx.tup_eq
  obtain ⟨b, o2, us, rfl, hk2, d2, r2⟩ := ry.tup_eq
  refine .inr ⟨a, b, vs, us, rfl, rfl, sqT_frz (s _ _ hk), sqT_frz (s _ _ hk2), by rw [r.length, r2.length]; exact hl, fun e => ?_, fun _ e => ?_, fun _ _ p o hp ho => ?_⟩
  · have : xs = [] := by
      have := r.length
      rw [e] at this
      exact List.length_eq_zero_iff.mp this.symm
    subst this
    exact q _ F H (Ext.refl s) (.tup hk2 d2 r2)
  · have : ys = [] := by
      have := r2.length
      rw [e] at this
      exact List.length_eq_zero_iff.mp this.symm
    subst this
    exact q _ F H (Ext.refl s) (by rw [List.append_nil]; exact .tup hk d1 r)
  · have x5 : Ext T F H (upd F p (.frz o (.tup (vs ++ us)))) (upd H p (.frz o (.tup (vs ++ us)))) := Ext.new s (fun b hb => (t b hb).2) hp
    exact q _ _ _ x5 (.tup upd_same ho ((r.append r2).mono x5.ff))
end
end Tr

set_option Elab.async false
set_option linter.all false
set_option maxRecDepth 100000
/-! Lay27: tuple * int; the rest of a block that is never reached. -/
namespace Tr
open PySem PySem.Spec PyProof.Rows L2 TL
/-- what stands behind a statement that never ends -/
def tDead : TS := fun _ _ _ => False
theorem pss_dead {X : Cx} {ss : List Stmt} : PSs X ss tDead := ⟨fun _ _ _ _ _ _ h => h.elim⟩
/-- t * k, a new tuple whose object is known -/
def rRepF (K : PySem.W.Frag) : R2 := fun x y H Q => ∃ l xs, ∃ k : Nat, x = .ref l ∧ y = .int (k : Int) ∧ SqT K H l xs ∧ xs ≠ [] ∧ 2 ≤ k ∧ k ≤ 1000 ∧ xs.length ≤ 1000 ∧ ∀ p o, H p = none → o.dict = none → Q (.ref p) (upd H p (.frz o (.tup (List.replicate k xs).flatten)))
section
variable {X : Cx}
theorem op_repF : OpR X (binaryOp .Mult) (rRepF X.K) := by
  intro pins s σ H x y v u Q I rx ry h
  obtain ⟨l, xs, k, rfl, rfl, hT, hne, h1, h2, hz, q⟩ := h
  cases rx
  obtain ⟨t, rfl⟩ := ry
  obtain ⟨its, r, ⟨⟨cls, dd, data, sl⟩, ho, hc, n, hd⟩, hs⟩ := I.tuple hT
  cases (show cls = _ from hc); cases (show data = _ from hd)
  have hle := r.length
  have hn : its ≠ [] := fun e => hne (r.nil_iff.mp e)
  have hi : its.toArray.isEmpty = false := (by cases its with | nil => exact absurd rfl hn | cons a b => rfl)
  have hz2 : its.toArray.size = xs.length := List.size_toArray.trans hle.symm
  have hm : ((its.toArray.size : Nat) : Int) * (k : Int) ≤ 1000000 := by
    have := Nat.mul_le_mul hz h2
    rw [hz2]
    omega
  have hf : (List.replicate k its).flatten.length ≤ 1000000 := by
    rw [PyProof.Rows.lm_len_rep_flat, ← hle]
    exact Nat.mul_le_mul h2 hz
  have hf2 : (List.replicate k its).flatten.length ≤ sizeLine := by rw [sizeLine_eq]; omega
  have b0 : (decide ((k : Int) < -(2 ^ 63)) || decide ((k : Int) ≥ 2 ^ 63)) = false := (by rw [decide_eq_false (by omega), decide_eq_false (by omega)]; rfl)
  have b1 : (its.toArray.isEmpty || (k : Int) == 1) = false := (by rw [hi]; exact beq_eq_false_iff_ne.mpr (by omega))
  have b2 : (decide ((k : Int) ≤ 0) || its.toArray.isEmpty) = false := (by rw [hi, Bool.or_false]; exact decide_eq_false (by omega))
  have b4 : Builtin.Tuple.tupleTooMany (((its.toArray.size : Nat) : Int) * (k : Int)) = false := (by unfold Builtin.Tuple.tupleTooMany; rw [sizeLine_eq]; exact decide_eq_false (by omega))
  have mul := tuple_mulW l its.toArray n dd sl (k : Int) t b0 b1 b2 (by omega) b4 (by rw [Int.toNat_natCast, size_rep, List.size_toArray]; exact hf2)
  refine wpAny_binaryOp_repeat_ref (T := "tuple") (U := "int") (by decide) ⟨_, ho, rfl⟩ (fun s2 => typeIs_int s2 (k : Int) t) noFill_tuple_mul F.fills_int_mul F.slot_int_rmul repeat_tuple F.slot_int_index.lookup ?_
  refine call_meets F.slot_int_rmul (typeIs_int s (k : Int) t) F.entry_int_rmul (F.args_int_rmul_2 _ _) (int_rmul_tuple (k : Int) t l its.toArray n dd sl) ⟨ho, rfl, ⟨_, ho, rfl⟩, ?_⟩
  refine call_meets F.slot_tuple_mul ⟨_, ho, rfl⟩ F.entry_tuple_mul (F.args_tuple_mul_2 _ _) mul ⟨ho, ?_⟩
  rw [Int.toNat_natCast, size_rep]
  refine ⟨.ref s.heap.objs.size, _, I.laid (t' := s.toks) (o := .frz { cls := .type "tuple", data := .seq (List.replicate k its).flatten.toArray } (.tup (List.replicate k xs).flatten)) (fun b ob q => Heap.get?_push_of_some _ q) (Nat.le_refl _) ?_, rfl, q _ _ (I.hok.fresh (Nat.le_refl _)) rfl⟩
  refine ⟨Heap.get?_push_size _ rfl, ?_, _, r.rep k, IsTup.new _ _⟩
  rw [PyProof.Rows.lm_len_rep_flat, hle, ← PyProof.Rows.lm_len_rep_flat]
  exact hf2
theorem k_repF (K : PySem.W.Frag) {a b : Expr} {ta tb : TE} {pos : Pos} (ha : PE X a ta) (hb : PE X b tb) (hK : X.K = K := by rfl) : PE X (.BinOp a .Mult b pos) (tOp (rRepF K) ta tb) := by
  subst hK
  exact pe_op op_repF ha hb
end
section
variable [PWc] {T : Tn} {K : PySem.W.Frag} {ρ : List Sl} {ta tb : TE}
theorem rv_repF {xs : List PyData} {k : Nat} (hn : xs ≠ []) (h2 : 2 ≤ k) (hk : k ≤ 1000) (hx : xs.length ≤ 1000) : Rv T (rRepF K) (.tuple xs) (.int (k : Nat)) (.tuple (List.replicate k xs).flatten) := fun F H v u s tn rx ry Q q => by
  obtain ⟨a, o, vs, rfl, h, ho, r⟩ := rx.tup_eq
  refine ⟨a, vs, k, rfl, ry.int_eq, sqT_frz (s _ _ h), fun e => ?_, h2, hk, by rw [r.length]; exact hx, fun p o2 hp hd => ?_⟩
  · subst e
    cases r
    exact hn rfl
  · have rep : ∀ n, RpAll F (List.replicate n vs).flatten (List.replicate n xs).flatten := fun n => by
      induction n with
      | zero => exact .nil
      | succ n ih =>
        rw [List.replicate_succ, List.replicate_succ, List.flatten_cons, List.flatten_cons]
        exact r.append ih
    have x1 : Ext T F H (upd F p (.frz o2 (.tup (List.replicate k vs).flatten))) (upd H p (.frz o2 (.tup (List.replicate k vs).flatten))) := Ext.new s (fun b hb => (tn b hb).2) hp
    exact q _ _ _ x1 (.tup upd_same hd ((rep k).mono x1.ff))
theorem ev_repF {xs : List PyData} {k : Nat} (ha : Ev T ta ρ (.tuple xs)) (hb : Ev T tb ρ (.int (k : Nat))) (hn : xs ≠ []) (h2 : 2 ≤ k) (hk : k ≤ 1000) (hx : xs.length ≤ 1000) : Ev T (tOp (rRepF K) ta tb) ρ (.tuple (List.replicate k xs).flatten) := ev_op ha hb (rv_repF hn h2 hk hx)
end
end Tr

set_option Elab.async false
set_option linter.all false
set_option maxRecDepth 100000
/-! Lay28: own dicts: walked under a lock, popped, sorted. -/
namespace Tr
open PySem PySem.Spec PyProof.Rows L2 TL
variable [PWc]
/-- a slot seen where nothing may be changed -/
def keepD : Sl → Sl
  | .d x => .d x
  | .raw v => .raw v
  | .pr φ => .pr φ
  | _ => .un
theorem keepD_own (s : Sl) : (keepD s).own = false := by cases s <;> rfl
section
variable {T : Tn} {W : WX} {K : PySem.W.Frag} {ρ : List Sl} {P : Po} {ta tb te : TE} {i j : Nat} {ds : List (Key × PyData)}
theorem join_get {σ : L2.St} {i : Nat} {v : V} (h : σ[i]? = some (some v)) : (σ[i]?).join = some v := by rw [h]; rfl
/-- within a lock of the own dict at slot i: all else stands still -/
theorem Env.locked {F0 H0 F H : Hp} {σ : L2.St} {a : Addr} {o : Obj} {kvs : List (Key × V)} (e : Env T F0 H0 F H σ ρ) (hs : ρ[i]? = some (.od ds)) (hσ : σ[i]? = some (some (.ref a))) (hf : F a = none) (hr : RpKV F kvs ds) :
    Env T0 (upd F a (.frz o (.dK kvs))) (upd H a (.frz o (.dK kvs))) (upd F a (.frz o (.dK kvs))) (upd H a (.frz o (.dK kvs))) σ ((ρ.map keepD).set i (.d (fdD ds))) := by
  have sF : Same F (upd F a (.frz o (.dK kvs))) := same_new hf
  obtain ⟨α, h1, _⟩ := e.sl
  refine ⟨Ext.refl (same_both e.le), fun b hb => (T0.no hb).elim, by rw [List.length_set, List.length_map]; exact e.len, α, fun n s hn => ?_, fun n m s t hn hm os => ?_⟩
  · by_cases hni : n = i
    · subst hni
      have hl : n < ((ρ.map keepD)).length := by
        have := (List.getElem?_eq_some_iff.mp hn).1
        rwa [List.length_set] at this
      rw [List.getElem?_set_self hl] at hn
      cases hn
      exact ⟨_, join_get hσ, .fd upd_same (hr.mono sF) rfl⟩
    · rw [List.getElem?_set_ne (Ne.symm hni), List.getElem?_map] at hn
      obtain ⟨s0, g0, rfl⟩ := Option.map_eq_some_iff.mp hn
      have q := h1 n s0 g0
      cases s0 with
      | d x =>
        obtain ⟨v, z1, z2⟩ := q
        exact ⟨v, z1, z2.mono sF⟩
      | raw v => exact q
      | pr φ =>
        obtain ⟨v, z1, z2⟩ := q
        exact ⟨v, z1, fun F2 s2 => z2 F2 (sF.trans s2)⟩
      | _ => trivial
  · exfalso
    by_cases hni : n = i
    · subst hni
      have hl : n < ((ρ.map keepD)).length := by
        have := (List.getElem?_eq_some_iff.mp hn).1
        rwa [List.length_set] at this
      rw [List.getElem?_set_self hl] at hn
      cases hn
      cases os
    · rw [List.getElem?_set_ne (Ne.symm hni), List.getElem?_map] at hn
      obtain ⟨s0, g0, rfl⟩ := Option.map_eq_some_iff.mp hn
      rw [keepD_own] at os
      cases os
/-- the heap behind the lock -/
theorem Ext.unlock {F H F' H' : Hp} {a : Addr} {o : Obj} {u : HO} (ha : H a = some u) (hf : F a = none) (nT : ¬ T a) (s : Same F H) (x : Ext T0 (upd F a (.frz o u)) (upd H a (.frz o u)) F' H') : Ext T F H F (upd H' a u) := by
  have hk : ∀ b z, b ≠ a → H b = some z → (upd H' a u) b = some z := fun b z hb e => by
    rw [upd_ne hb]
    exact x.hh b z (fun t => t) (by rw [upd_ne hb]; exact e)
  have hk2 : ∀ b z, H b = some z → (upd H' a u) b = some z := fun b z e => by
    by_cases hb : b = a
    · subst hb
      rw [ha] at e
      rw [upd_same]
      exact e
    · exact hk b z hb e
  refine ⟨Same.refl _, fun b z e => hk2 b z (s _ _ e), fun b z _ e => hk2 b z e, fun _ _ _ _ e => e, fun _ _ e => e, fun b hb q => ?_⟩
  obtain ⟨z, e, q⟩ := q
  exact ⟨z, hk2 b z e, q⟩
/-- y = [.. for k in d ..], d an own dict: new texts -/
theorem sm_lockSet {g : TG} {tt : TT} {vs : List Nat} {zs : List (List Nat)} (hs : ρ[i]? = some (.od ds)) (h : EvO T0 (tLc (iKeys (tVar i)) g tt te vs) ((ρ.map keepD).set i (.d (fdD ds))) fun ys => ys = zs.map sD) (k : P.nx (ρ.set j (.ol (zs.map sD)))) :
    Sm T W (tLock (tAsg (tLc (iKeys (tVar i)) g tt te vs) (gName j))) ρ P := fun F0 H0 σ F H D e k1 _ _ _ _ => by
  obtain ⟨a, kvs, hσ, ha, r, _⟩ := e.writeD hs
  obtain ⟨a', hσ', ⟨_, nT, hf, h0, vs', hv', _⟩, _⟩ := e.write hs rfl
  have ea : a' = a := by
    rw [hσ] at hσ'
    exact (V.ref.inj (Option.some.inj (Option.some.inj hσ'))).symm
  subst ea
  refine ⟨a', .dK kvs, ha, trivial, fun od => ?_⟩
  refine h _ _ σ _ _ (e.locked (o := od) hs hσ hf r) _ fun c us xs F' H' x hc fc hc' ex rx => ?_
  subst ex
  have ne : c ≠ a' := fun z => by
    subst z
    rw [upd_same] at hc
    cases hc
  rw [upd_ne ne] at hc
  have x1 : Ext T F H F (upd H' a' (.dK kvs)) := x.unlock ha hf nT e.le
  have hcv : (upd H' a' (.dK kvs)) c = some (.lst us) := by
    rw [upd_ne ne]
    exact hc'
  show H' a' = some (.frz od (.dK kvs)) ∧ D.nx (σ.set j (some (.ref c))) (upd H' a' (.dK kvs))
  refine ⟨x.hh _ _ (fun t => t) upd_same, k1 _ F _ _ (Same.refl _) (e.newL (vs := us) x1 hc (e.le.free hc) hcv ?_) k⟩
  · have e1 : zs.map sD = (zs.map S).map PyData.str := by rw [List.map_map]; rfl
    rw [e1] at rx ⊢
    rw [rx.strs]
    exact RpAll.of_strs _
def dropD (ds : List (Key × PyData)) (k : Key) : List (Key × PyData) := ds.filter fun p => decide (p.1 ≠ k)
theorem RpKV.drop {F : Hp} {k : Key} : ∀ {kvs : List (Key × V)} {ds : List (Key × PyData)}, RpKV F kvs ds → RpKV F (dropK kvs k) (dropD ds k)
  | _, _, .nil => .nil
  | _, _, .cons (k := q) (v := v) (kvs := kvs) (d := d) (ds := ds) h r => by
    unfold dropK dropD
    rw [List.filter_cons, List.filter_cons]
    by_cases e : q = k
    · rw [if_neg (by simp [e]), if_neg (by simp [e])]
      exact RpKV.drop r
    · rw [if_pos (by simp [e]), if_pos (by simp [e])]
      exact .cons h (RpKV.drop r)
/-- d.pop(k), k is there -/
theorem sm_dpop {A : Key → Prop} (hs : ρ[i]? = some (.od ds)) (hk : EvP T te ρ fun d => ∃ k, A k ∧ d = kD k) (hin : ∀ k, A k → (atK ds k).isSome = true) (q : ∀ k, A k → P.nx (ρ.set i (.od (dropD ds k)))) : Sm T W (tDrop (tDPop1 (tVar i) te)) ρ P := fun F0 H0 σ F H D e k1 _ _ _ _ => by
  obtain ⟨a, kvs, hσ, ha, r, _⟩ := e.writeD hs
  refine ⟨.ref a, hσ, a, rfl, .inl ⟨kvs, .inl ha⟩, hk F0 H0 σ F H e _ fun u F1 H1 x e1 ⟨k, hA, ex⟩ r1 => ?_⟩
  subst ex
  obtain ⟨a', vs', hσ', ha', r', wr⟩ := (e.ext e1).writeD hs
  have ea : a' = a := by
    rw [hσ] at hσ'
    exact (V.ref.inj (Option.some.inj (Option.some.inj hσ'))).symm
  subst ea
  rcases r'.at k with ⟨d, w, q1, q2, _⟩ | ⟨q1, q2⟩
  · exact ⟨vs', k, w, ha', kV_kD r1, q2, k1 _ F1 _ _ e1.ff (wr _ _ r'.drop) (q k hA)⟩
  · have := hin k hA
    rw [q1] at this
    cases this
/-- sorted(d), d an own dict with text keys -/
theorem eo_sortO {ks : List (List Nat)} (hs : ρ[i]? = some (.od ds)) (hk : ds.map (·.1) = ks.map fun l => Sum.inr (S l)) (hl : ks.length < 64) : EvO T (tCB rSortD (tCons (tVar i) tNil)) ρ fun ys => ∃ zs : List (List Nat), ys = zs.map sD ∧ zs.Perm ks ∧ sortedS (zs.map S) = true := fun F0 H0 σ F H e Q q => by
  obtain ⟨a, kvs, hσ, ha, r, _⟩ := e.writeD hs
  refine ⟨.ref a, hσ, a, kvs, ks.map S, rfl, .inl ha, by rw [r.keys, hk, List.map_map]; rfl, by rw [List.length_map]; exact hl, fun ys p hy hs2 hp => ?_⟩
  have ey : ys = (ys.map tl).map S := by
    rw [List.map_map]
    have : S ∘ tl = id := by funext z; exact mk_tl z
    rw [this, List.map_id]
  refine q p _ ((ys.map tl).map sD) F _ (Ext.new1 e.le hp) hp (e.le.free hp) upd_same ⟨ys.map tl, rfl, ?_, by rw [← ey]; exact hs2⟩ ?_
  · have := hy.map tl
    rw [List.map_map] at this
    have e3 : tl ∘ S = id := rfl
    rwa [e3, List.map_id] at this
  · have e1 : (ys.map tl).map sD = ys.map PyData.str := by
      rw [List.map_map]
      exact List.map_congr_left fun z _ => by
        show PyData.str (S (tl z)) = _
        rw [show S (tl z) = z from mk_tl z]
    rw [e1]
    exact RpAll.of_strs ys
end
end Tr

set_option Elab.async false
set_option linter.all false
set_option maxRecDepth 100000
/-! Lay29: set(a list), whatever its items: what holds of the set while it is filled. -/
namespace Tr
open PySem PySem.Spec PyProof.Rows L2 TL
/-- Iv i h: what holds of the set at S when i items are in; S is new, what is older stands still -/
structure Fills (prog : Program) (w : World) (U : Nat) (S : Addr) (items : Array Value) (Iv : Nat → Heap → Prop) : Prop where
  keep : ∀ i h h', Iv i h → (∀ b o, b ≤ S → h.get? b = some o → h'.get? b = some o) → Iv i h'
  add : ∀ i v, items[i]? = some v → ∀ (A : Around) (E : Value → Shared → Prop) (s : Shared) (Q : Bool → Shared → Prop), A.units ≤ U → Iv i s.heap →
    (∀ b h' tk, Heap.SameBut S s.heap h' → Iv (i + 1) h' → s.toks ≤ tk → Q b { s with heap := h', toks := tk }) → wpAny (model prog w) A (setAdd S v) Q E s
section
variable {prog : Program} {w : World} {A : Around} {R : Result → Shared → Prop} {U : Nat} {S I l : Addr} {items : Array Value} {Iv : Nat → Heap → Prop}
theorem fill_loop (Fi : Fills prog w U S items Iv) {St : Nat → Shared → Prop} (W : WalksS prog w A.in1 I [I, l] [I] (fun a b => b = a) items.size (fun i v => items[i]? = some v) St) (hI : S < I) (hl : l < S) (hU : A.in1.units ≤ U) :
    ∀ (k i : Nat) (s : Shared), items.size - i = k → i ≤ items.size → St i s → Iv i s.heap → (∀ s', Moved [S, I] (fun a b => b = a) s s' → Iv items.size s'.heap → R (.ok (.ret .none)) s') →
      codeAny (model prog w) A (.builtin "set.update.loop" ⟨[.ref S, .ref I], []⟩) R s := by
  have hs1 : ∀ b ∈ [I], b ∈ [S, I] := fun b h => List.mem_cons_of_mem _ h
  have old : ∀ {s s' : Shared} {i : Nat}, Moved [I] (fun a b => b = a) s s' → Iv i s.heap → Iv i s'.heap := fun {s s' i} m h => Fi.keep i _ _ h fun b o hb e => m.heap b o (fun z => by
    have hz := List.mem_singleton.mp z
    rw [hz] at hb
    exact Nat.not_le_of_lt hI hb) e
  intro k
  induction k with
  | zero =>
    intro i s hk hi st iv hR
    obtain rfl : i = items.size := by omega
    refine codeAny_builtin F.entry_set_update_loop (by
      (rw [Around.under_plainId F.plain_set_update_loop _]; show wpAny _ A.in1 (pyNext (.ref I) >>= _) _ _ s)
      refine wpAny_bind (W.done s _ _ st fun s' m => wpAny_pure (hR s' (m.mono hs1) (old m iv))))
  | succ k ih =>
    intro i s hk hi st iv hR
    refine codeAny_builtin F.entry_set_update_loop (by
      (rw [Around.under_plainId F.plain_set_update_loop _]; show wpAny _ A.in1 (pyNext (.ref I) >>= _) _ _ s)
      refine wpAny_bind (W.item i s _ _ (by omega) st fun v s1 hP st1 m => ?_)
      show wpAny _ A.in1 (holding [v] (setAdd S v) >>= _) _ _ s1
      refine wpAny_bind (wpAny_holding (Fi.add i v hP A.in1 _ s1 _ hU (old m iv) fun b h' tk sb iv2 ht => ?_))
      refine wpAny_pure ⟨plainId_quiet F.plain_set_update_loop _, ih (i + 1) _ (by omega) (by omega) (W.frame _ s1 _ _ st1 ht fun c hc o e => ?_) iv2 fun s2 m2 iv3 => ?_⟩
      · have hne : c ≠ S := fun z => by
          simp only [List.mem_cons, List.not_mem_nil, or_false] at hc
          rcases hc with hc | hc
          · exact absurd (hc.symm.trans z) (Nat.ne_of_gt hI)
          · exact absurd (hc.symm.trans z) (Nat.ne_of_lt hl)
        rw [sb.2 c hne]
        exact e
      · refine hR s2 (Moved.trans W.gtrans ((m.mono hs1).then_heap ht fun c o hc e => ?_) m2) iv3
        have hne : c ≠ S := fun z => hc (by rw [z]; exact List.mem_cons_self)
        rw [sb.2 c hne]
        exact e)
variable {E : Value → Shared → Prop} {s : Shared}
/-- the object that set(..) makes first -/
abbrev freshSet (w : World) : Obj := { cls := .type "set", dict := none, data := .set #[] 0 (.fresh 0 0 (!w.params.followText "set-order")) }
theorem code_fresh1 (a : Value) {Q₁ : Value → Shared → Prop} (h : Q₁ (.ref s.heap.objs.size) { s with heap := s.heap.push (freshSet w) }) :
    codeAny (model prog w) A (.call (.builtin "set.__new__") ⟨[.type "set", a], []⟩) (wants Q₁ E) s := by
  refine codeAny_of_tree (by
    show wpAny _ A.in1 (do checkBuiltinCall "set.__new__" ⟨[.type "set", a], []⟩; again (.builtin "set.__new__" ⟨[.type "set", a], []⟩)) _ _ s
    refine wpAny_bind (wpAny_of_eq (F.newCall_set_1 a) (wpAny_pure ⟨plainId_quiet F.plain_set_new _, codeAny_builtin F.entry_set_new ?_⟩))
    (rw [Around.under_plainId F.plain_set_new _]; unfold Builtin.«set.__new__» Builtin.Frozenset.newClass)
    have hsub := sub_set_self
    (obtain ⟨hp, g, d, tk, os⟩ := s; dsimp only; wp_walk)
    refine wpAny_askSetting (wpAny_pure ?_)
    (dsimp only; simp only [newObj])
    exact wpAny_bind (wpAny_alloc (wpAny_pure (wpAny_pure h))))
set_option maxHeartbeats 3200000 in
/-- set(l), l a list -/
theorem call_fill {Q : Value → Shared → Prop} (hh : A.handled = none) (hl : s.heap.IsList l items) (Fi : Fills prog w (A.units + 20) s.heap.objs.size items Iv) (h0 : Iv 0 (s.heap.push (freshSet w)))
    (h : ∀ (h' : Heap) (tk : Nat), Iv items.size h' → (∀ b o, b < s.heap.objs.size → s.heap.get? b = some o → h'.get? b = some o) → Q (.ref s.heap.objs.size) { s with heap := h', toks := tk }) :
    wpAny (model prog w) A (call (.type "set") [.ref l]) Q E s := by
  (obtain ⟨c, tl, hmro⟩ := F.called_set.mro; have hmade := F.called_set.made; have hsub := F.called_set.sub)
  refine wpAny_call (codeAny_of_tree (by
    show wpAny _ _ (callAny (.type "set") _) _ _ _
    refine wpAny_pure ⟨Code.quiet_builtin _ (by decide +kernel), codeAny_builtin F.entry_type_call ?_⟩
    (rw [Around.under_plain (weight_type_call_type "set" [.ref l] []) rfl]; have h1 := F.called_set.notType; have h2 := F.called_set.canCreate; have hct := F.typeCall_set_1 (.ref l))
    repeat (any_goals (first | assumption | wp_step))
    refine codeAny_mono (code_fresh1 (.ref l) (E := E) (Q₁ := fun obj s₁ => obj = .ref s.heap.objs.size ∧ s₁ = { s with heap := s.heap.push (freshSet w) }) ⟨rfl, rfl⟩) fun r s₁ hr => ?_
    cases r with
    | error e => exact hr
    | ok fl =>
      cases fl with
      | ret obj =>
        obtain ⟨rfl, rfl⟩ := hr
        have hS : (s.heap.push (freshSet w)).get? s.heap.objs.size = some (freshSet w) := Heap.get?_push_size _ rfl
        have hT : Shared.TypeIs { s with heap := s.heap.push (freshSet w) } (.ref s.heap.objs.size) "set" := ⟨_, hS, rfl⟩
        (have hli := F.called_set.init.lookup; have hbi := F.called_set.init.bind (.ref s.heap.objs.size))
        repeat (any_goals (first | assumption | wp_step))
        refine codeAny_mono (codeAny_call_builtin (R := wants (fun r s₂ => r = .none ∧ ∃ h' tk, s₂ = { s with heap := h', toks := tk } ∧ Iv items.size h' ∧ ∀ b o, b < s.heap.objs.size → s.heap.get? b = some o → h'.get? b = some o) E) F.called_set.init.plain F.entry_set_init (check_set_init_1 hT ?_)) fun r₂ s₂ hr₂ => ?_
        · obtain ⟨⟨ocls, odict, odata, oslots⟩, hol, hcl, nl, hdl⟩ := hl
          (cases (show ocls = _ from hcl); cases (show odata = _ from hdl))
          have hol' : (s.heap.push (freshSet w)).get? l = some { cls := .type "list", dict := odict, data := .seq items nl, slots := oslots } := Heap.get?_push_of_some _ hol
          (have hsls := F.sub_list_set; have hslf := F.sub_list_frozenset; have hne : (Value.type "list" == Value.type "dict") = false := by decide)
          have hl1 : (s.heap.push (freshSet w)).IsList l items := ⟨_, hol', rfl, nl, rfl⟩
          unfold Builtin.«set.__init__» noKeywords Builtin.Frozenset.updateFrom
          (generalize hPI : pyIter = PI; wp_walk; subst hPI)
          refine wpAny_pyIter_list hl1 (wpAny_bind (wpAny_runValue ?_))
          have hlS : l < s.heap.objs.size := Heap.lt_size hol
          have hz : (s.heap.push (freshSet w)).objs.size = s.heap.objs.size + 1 := Heap.size_push ..
          refine fill_loop Fi ((Walks.list (by simp [hh]) _ l (by rw [hz]; exact Nat.ne_of_lt (Nat.lt_succ_of_lt hlS)) items).toS) (by rw [hz]; exact Nat.lt_succ_self _) hlS ?_ (items.size - 0) 0 _ (by omega) (Nat.zero_le _) ⟨⟨_, Heap.get?_push_size _ rfl, rfl, rfl⟩, hl1.push _⟩ ?_ ?_
          · show A.units + 1 + 1 + 1 ≤ A.units + 20
            omega
          · exact Fi.keep 0 _ _ h0 fun b o hb e => Heap.get?_push_of_some _ e
          · rintro ⟨h', g', d', tk', os'⟩ hm iv
            have eg : g' = s.gens := hm.gens
            (have ed : d' = s.drawn := hm.drawn; have eo : os' = s.os := hm.os; subst eg; subst ed; subst eo)
            refine wpAny_pure (wpAny_pure ⟨rfl, h', tk', rfl, iv, fun b o hb e => ?_⟩)
            refine hm.heap b o (fun z => ?_) (Heap.get?_push_of_some _ (Heap.get?_push_of_some _ e))
            simp only [List.mem_cons, List.not_mem_nil, or_false] at z
            rw [hz] at z
            rcases z with z | z
            · exact absurd z (Nat.ne_of_lt hb)
            · exact absurd z (Nat.ne_of_lt (Nat.lt_succ_of_lt hb))
        · cases r₂ with
          | error e => exact hr₂
          | ok fl₂ =>
            cases fl₂ with
            | ret r =>
              obtain ⟨rfl, h', tk, rfl, iv, hk'⟩ := hr₂
              repeat (any_goals (first | assumption | wp_step))
              exact h _ _ iv hk'
            | _ => exact hr₂.elim
      | _ => exact hr.elim))
end
end Tr

set_option Elab.async false
set_option linter.all false
set_option maxRecDepth 100000
/-! Lay30: sets of texts: set(a list of texts), sorted and len of it. -/
namespace Tr
open PySem PySem.Spec PyProof.Rows L2 TL
def txtOf (e : Int × Value) : Str := match e.2 with | .str z _ => z | _ => Str.empty
def GoodT (P : Program) (w : World) (e : Int × Value) : Prop := ∃ z t, e.2 = Value.str z t ∧ e.1 = (PySem.strKind P w).hash z
/-- the set at a has the texts zs -/
def SetRs (P : Program) (w : World) (h : Heap) (a : Addr) (zs : List Str) : Prop :=
  ∃ o es ep t, h.get? a = some o ∧ o.ExactSet ∧ o.data = .set es ep t ∧ (∀ e ∈ es.toList, GoodT P w e) ∧ (es.toList.map txtOf).Nodup ∧ zs.Perm (es.toList.map txtOf) ∧ es.size < scanBound ∧ t.fits es.size = true ∧ Ris t.place.toList ∧ (w.params.followText "set-order" = true ∨ t.led = true)
section
variable {P : Program} {w : World} {h h' : Heap} {a : Addr} {zs : List Str}
theorem SetRs.at (R : SetRs P w h a zs) (k : ∀ o, h.get? a = some o → h'.get? a = some o) : SetRs P w h' a zs := by
  obtain ⟨o, es, ep, t, ho, r⟩ := R
  exact ⟨o, es, ep, t, k o ho, r⟩
theorem SetRs.perm {ys : List Str} (R : SetRs P w h a zs) (p : ys.Perm zs) : SetRs P w h a ys := by
  obtain ⟨o, es, ep, t, ho, hx, hd, g, nd, hp, r⟩ := R
  exact ⟨o, es, ep, t, ho, hx, hd, g, nd, p.trans hp, r⟩
theorem goodT_elems {l : List (Int × Value)} (g : ∀ e ∈ l, GoodT P w e) : ElemsOf (PySem.strKind P w) l := fun e he => by
  obtain ⟨z, t, h1, h2⟩ := g e he
  exact ⟨⟨z, by rw [h1]; exact strKind_is P w z t, h2⟩, by rw [h1]; rfl⟩
theorem goodT_is {e : Int × Value} (g : GoodT P w e) (z : Str) : (PySem.strKind P w).is z e.2 = true ↔ txtOf e = z := by
  obtain ⟨y, t, h1, _⟩ := g
  unfold txtOf
  rw [h1]
  constructor
  · intro q
    exact (PySem.strKind P w).inj _ _ _ (strKind_is P w y t) q
  · rintro rfl
    exact strKind_is P w _ t
theorem setRs_fresh {h : Heap} : SetRs P w (h.push (freshSet w)) h.objs.size [] := by
  refine ⟨_, #[], 0, _, Heap.get?_push_size _ rfl, ⟨rfl, rfl, rfl⟩, rfl, (fun e he => by simp at he), by simp, by simp, by decide, rfl, List.Pairwise.nil, ?_⟩
  show _ ∨ (!w.params.followText "set-order") = true
  cases w.params.followText "set-order" with
  | true => exact .inl rfl
  | false => exact .inr rfl
end
/-- a text more -/
def insT (zs : List Str) (z : Str) : List Str := if z ∈ zs then zs else zs ++ [z]
section
variable {P : Program} {w : World} {A : Around} {E : Value → Shared → Prop} {s : Shared} {a : Addr} {zs : List Str}
theorem setRs_tail {g : Bool → Sem Unit} (hg : ∀ (b : Bool) (s₁ : Shared) (Q' : Unit → Shared → Prop), Q' () s₁ → wpAny (model P w) A (g b) Q' E s₁) {o : Obj} {es : Array (Int × Value)} {ep : Nat} {t : SetTable} (ho : s.heap.get? a = some o) (hex : o.ExactSet) (hd : o.data = .set es ep t)
    {es1 : Array (Int × Value)} {t2 : SetTable} {ys : List Str} (g1 : ∀ e ∈ es1.toList, GoodT P w e) (nd1 : (es1.toList.map txtOf).Nodup) (m1 : ys.Perm (es1.toList.map txtOf)) (hb1 : es1.size < scanBound) (hf2 : t2.fits es1.size = true) (hr : Ris t2.place.toList) (hl : w.params.followText "set-order" = true ∨ t2.led = true) {wasDummy : Bool} {R : Option Bool → Shared → Prop}
    (hR : ∀ h', Heap.SameBut a s.heap h' → SetRs P w h' a ys → R (some true) { s with heap := h' }) :
    wpAny (model P w) A (do
        storeSet a es1 t2
        if (!wasDummy && t2.tooFull) = true then do
            g (relayAll t2 es1 (SetTable.grown es1.size)).2.2
            storeSet a (relayAll t2 es1 (SetTable.grown es1.size)).1 (relayAll t2 es1 (SetTable.grown es1.size)).2.1
            pure (some true)
          else pure (some true)) R E s := by
  have st1 := store_at (es' := es1) (t' := t2) ho hd
  have sb1 := Heap.SameBut.update s.heap a (Obj.putSet es1 t2)
  refine wpAny_bind (wpAny_storeSet_of ho hd (by
    split
    · have q1 := relayAll_perm t2 es1 (SetTable.grown es1.size)
      have q2 := relayAll_fits t2 es1 (SetTable.grown es1.size)
      have q3 := relayAll_ris t2 es1 (SetTable.grown es1.size)
      have q4 := relayAll_led t2 es1 (SetTable.grown es1.size)
      (generalize relayAll t2 es1 (SetTable.grown es1.size) = Z at q1 q2 q3 q4 ⊢; obtain ⟨es2, t3, gave⟩ := Z; dsimp only at q1 q2 q3 q4 ⊢)
      have hsz : es2.size = es1.size := by
        have := q1.length_eq
        rwa [Array.length_toList, Array.length_toList] at this
      have hb2 : es2.size < scanBound := hsz ▸ hb1
      refine wpAny_bind (hg _ _ _ (wpAny_bind (wpAny_storeSet_of st1 rfl ?_ (fits_of_scanBound hb2))))
      have st2 := store_at (es' := es2) (t' := t3) st1 rfl
      exact wpAny_pure (hR _ (sb1.trans (Heap.SameBut.update _ a _)) ⟨_, es2, _, t3, st2, hex, rfl, fun e he => g1 e (q1.mem_iff.mp he), (q1.map txtOf).nodup_iff.mpr nd1, m1.trans (q1.map txtOf).symm, hb2, q2, q3, hl.imp id fun z => q4.trans z⟩)
    · exact wpAny_pure (hR _ sb1 ⟨_, es1, _, t2, st1, hex, rfl, g1, nd1, m1, hb1, hf2, hr, hl⟩)) (fits_of_scanBound hb1))
theorem setRs_add {k : Str} {tk : Tok} {Q : Bool → Shared → Prop} (R : SetRs P w s.heap a zs) (room : zs.length + 1 < scanBound) (hQ : ∀ b h', Heap.SameBut a s.heap h' → SetRs P w h' a (insT zs k) → Q b { s with heap := h' }) :
    wpAny (model P w) A (setAddHashed a (.str k tk) ((PySem.strKind P w).hash k)) Q E s := by
  obtain ⟨o, es, ep, t, ho, hex, hd, g, nd, hp, hb, hf, hr, hl⟩ := R
  have hkey : (PySem.strKind P w).is k (.str k tk) = true := strKind_is P w k tk
  have hsc : (Value.str k tk).scannable = true := rfl
  have hel := goodT_elems g
  unfold setAddHashed setAddHashedIn
  refine wpAny_holding (wpAny_bind (wpAny_setState_of ho hd hf ?_))
  (dsimp only; rw [byScan_of hsc hb hel]; simp only [↓reduceIte]; unfold setAddByScan)
  refine wpAny_bind (wpAny_bind (wpAny_rule (wpAny_bind (wpAny_setScan_of hkey ho hd hf hel ?_))))
  cases hfi : List.findIdx? (fun e => (PySem.strKind P w).is k e.2) es.toList with
  | some j =>
    dsimp only
    obtain ⟨hj, pj, _⟩ := List.findIdx?_eq_some_iff_getElem.mp hfi
    have hin : k ∈ zs := hp.mem_iff.mpr (List.mem_map.mpr ⟨_, List.getElem_mem hj, (goodT_is (g _ (List.getElem_mem hj)) k).mp pj⟩)
    have q := hQ false s.heap (Heap.SameBut.refl a s.heap) (by unfold insT; rw [if_pos hin]; exact ⟨o, es, ep, t, ho, hex, hd, g, nd, hp, hb, hf, hr, hl⟩)
    exact wpAny_pure (wpAny_pure q)
  | none =>
    dsimp only
    have hno : k ∉ zs := fun z => by
      obtain ⟨e, he, q⟩ := List.mem_map.mp (hp.mem_iff.mp z)
      have c := List.findIdx?_eq_none_iff.mp hfi e he
      rw [(goodT_is (g e he) k).mpr q] at c
      cases c
    have q1 := layNew_perm t es ((PySem.strKind P w).hash k) (.str k tk)
    have q2 := layNew_fits t es ((PySem.strKind P w).hash k) (.str k tk)
    have q3 := layNew_ris t es ((PySem.strKind P w).hash k) (.str k tk) hr
    have q4 := layNew_led t es ((PySem.strKind P w).hash k) (.str k tk)
    (generalize layNew t es ((PySem.strKind P w).hash k) (.str k tk) = Z at q1 q2 q3 q4 ⊢; obtain ⟨es1, t1, wasDummy, gave⟩ := Z; dsimp only at q1 q2 q3 q4 ⊢)
    rw [Array.toList_push] at q1
    have pk : (es1.toList.map txtOf).Perm (es.toList.map txtOf ++ [k]) := by
      have := q1.map txtOf
      rwa [List.map_append] at this
    have g1 : ∀ e ∈ es1.toList, GoodT P w e := fun e he => by
      rcases List.mem_append.mp (q1.mem_iff.mp he) with z | z
      · exact g e z
      · rw [List.mem_singleton.mp z]
        exact ⟨k, tk, rfl, rfl⟩
    have m1 : (insT zs k).Perm (es1.toList.map txtOf) := by
      unfold insT
      rw [if_neg hno]
      exact (hp.append_right [k]).trans pk.symm
    have nd1 : (es1.toList.map txtOf).Nodup := by
      refine pk.nodup_iff.mpr (List.nodup_append.mpr ⟨nd, by simp, fun x hx y hy => ?_⟩)
      rw [List.mem_singleton.mp hy]
      exact fun z => hno (hp.mem_iff.mpr (z ▸ hx))
    have hb1 : es1.size < scanBound := by
      have h1 : zs.length + 1 = es1.size := by
        have := m1.length_eq
        unfold insT at this
        rw [if_neg hno] at this
        simpa using this
      rw [← h1]
      exact room
    have hled : w.params.followText "set-order" = true ∨ t1.led = true := hl.imp id fun z => q4.trans z
    have hgw : ∀ (b : Bool) {s₁ : Shared} {Q' : Unit → Shared → Prop}, Q' () s₁ → wpAny (model P w) A (match b with | true => rule "set.scan.the-table-gave-way" | false => pure ()) Q' E s₁ := fun b s₁ Q' q => by
      cases b
      · exact wpAny_pure q
      · exact wpAny_rule q
    refine wpAny_bind (hgw _ ?_)
    have tail : ∀ {t2 : SetTable}, t2.fits es1.size = true → Ris t2.place.toList → (w.params.followText "set-order" = true ∨ t2.led = true) → wpAny (model P w) A (do
        storeSet a es1 t2
        if (!wasDummy && t2.tooFull) = true then do
            (match (relayAll t2 es1 (SetTable.grown es1.size)).2.2 with | true => rule "set.scan.the-table-gave-way" | false => pure ())
            storeSet a (relayAll t2 es1 (SetTable.grown es1.size)).1 (relayAll t2 es1 (SetTable.grown es1.size)).2.1
            pure (some true)
          else pure (some true)) (fun r s2 => ∃ h', s2 = { s with heap := h' } ∧ r = some true ∧ Heap.SameBut a s.heap h' ∧ SetRs P w h' a (insT zs k)) E s := fun {t2} x1 x2 x3 => setRs_tail (g := fun b => match b with | true => rule "set.scan.the-table-gave-way" | false => pure ()) (fun b s₁ Q' q => hgw b q) ho hex hd g1 nd1 m1 hb1 x1 x2 x3 fun h' sb r => ⟨h', rfl, rfl, sb, r⟩
    split
    · refine wpAny_bind (by
        (rw [hashByValue_scannable 8 hsc]; refine wpAny_pure ?_)
        refine wpAny_mono (tail ?_ ?_ ?_) (fun r s2 ⟨h', e1, e2, sb, rr⟩ => by subst e1 e2; exact wpAny_pure (hQ true h' sb rr)) fun _ _ z => z
        · first | (split <;> first | exact q2 | exact SetTable.fits_plain_off q2) | exact q2
        · first | (split <;> exact q3) | exact q3
        · first | (split <;> exact hled) | exact hled)
    · refine wpAny_bind (wpAny_pure (by
        simp only [↓reduceIte]
        exact wpAny_mono (tail q2 q3 hled) (fun r s2 ⟨h', e1, e2, sb, rr⟩ => by subst e1 e2; exact wpAny_pure (hQ true h' sb rr)) fun _ _ z => z))
/-- the texts of a list, each once -/
def oneT (zs : List Str) : List Str := zs.foldl insT []
theorem insT_len (ys : List Str) (z : Str) : (insT ys z).length ≤ ys.length + 1 := by
  unfold insT
  split
  · omega
  · rw [List.length_append, List.length_singleton]
    omega
theorem oneT_len : ∀ (zs ys : List Str), (zs.foldl insT ys).length ≤ ys.length + zs.length
  | [], ys => by simp
  | z :: zs, ys => by
    have h1 := oneT_len zs (insT ys z)
    have h2 := insT_len ys z
    rw [List.foldl_cons, List.length_cons]
    omega
theorem oneT_take {zs : List Str} {i : Nat} {z : Str} (h : zs[i]? = some z) : oneT (zs.take (i + 1)) = insT (oneT (zs.take i)) z := by
  unfold oneT
  rw [List.take_add_one, h, List.foldl_append]
  rfl
theorem strAt : ∀ {us : List Value} {xs : List Str} {i : Nat} {v : Value}, StrsAre us xs → us[i]? = some v → ∃ t, v = .str (xs.getD i Str.empty) t
  | _, _, _, _, .nil, h => by simp at h
  | _, _, 0, _, .cons x t r, h => by
    simp at h
    exact ⟨t, h.symm⟩
  | _, _, i + 1, _, .cons x t r, h => by
    have h2 := strAt (i := i) r (by simpa using h)
    simpa using h2
/-- set(l), l a list of texts -/
theorem call_setS {l : Addr} {items : Array Value} {Q : Value → Shared → Prop} (hh : A.handled = none) (hl : s.heap.IsList l items) (hi : StrsAre items.toList zs) (hb : zs.length + 1 < scanBound)
    (h : ∀ (h' : Heap) (tk : Nat), SetRs P w h' s.heap.objs.size (oneT zs) → (∀ b o, b < s.heap.objs.size → s.heap.get? b = some o → h'.get? b = some o) → Q (.ref s.heap.objs.size) { s with heap := h', toks := tk }) :
    wpAny (model P w) A (call (.type "set") [.ref l]) Q E s := by
  have hlen : items.size = zs.length := by
    rw [← Array.length_toList]
    exact hi.length
  refine call_fill (Iv := fun i h => SetRs P w h s.heap.objs.size (oneT (zs.take i))) hh hl ⟨fun i h h' R k => R.at fun o e => k _ o (Nat.le_refl _) e, fun i v hv A' E' s1 Q' _ R hq => ?_⟩ setRs_fresh fun h' tk R k => h h' tk (by rw [hlen, List.take_length] at R; exact R) k
  have hil : i < zs.length := by
    rw [← hlen]
    exact (Array.getElem?_eq_some_iff.mp hv).1
  obtain ⟨t, rfl⟩ := strAt hi (by rw [Array.getElem?_toList]; exact hv)
  have hz : zs[i]? = some (zs.getD i Str.empty) := by
    rw [List.getD_eq_getElem?_getD, List.getElem?_eq_getElem hil]
    rfl
  unfold setAdd
  refine wpAny_holding (wpAny_bind ((PySem.strKind P w).pyHash (strKind_is P w _ t) ?_))
  refine setRs_add (s := { s1 with toks := s1.toks + 1 }) R ?_ fun b h' sb R2 => hq b h' _ sb (by rw [oneT_take hz]; exact R2) (Nat.le_succ _)
  have := oneT_len (zs.take i) []
  have h2 := List.length_take_le i zs
  have h3 : (oneT (zs.take i)).length ≤ (zs.take i).length := by simpa [oneT] using this
  omega
/-- sorted(the set at a) -/
theorem sorted_setS {Q : Value → Shared → Prop} (R : SetRs P w s.heap a zs) (hh : A.handled = none) (hu : A.units + 10 < cLine)
    (hQ : ∀ s' p (out : List Value) (c : Nat) (ys : List Str), (∀ b o, s.heap.get? b = some o → s'.heap.get? b = some o) → s'.gens = s.gens → s'.os = s.os → s.heap.objs.size ≤ p → s'.heap.get? p = some (seqObj "list" out.toArray c) →
      PySem.W.EachIs (fun v z => ∃ t, v = Value.str z t) out ys → ys.Perm zs → ys.Pairwise (fun x y => PySem.W.dataLe false PyData.str x y = true) → Q (.ref p) s') : wpAny (model P w) A (call (.builtin "sorted") [.ref a]) Q E s := by
  obtain ⟨o, es, ep, t, ho, hex, hd, g, nd, hp, hb, hf, hr, hl⟩ := R
  refine Calls.call_function_entry kind_sorted plain_sorted entry_sorted (args_sorted1 _) (by
    (unfold Builtin.«sorted»; refine wpAny_bind (m := checkCount "sorted" 1 1 _) (wpAny_pure ?_))
    refine wpAny_bind (collect_set (A := A.in1) hh ⟨o, ho, hex.1, hd⟩ hf hb hr hl fun s1 vs k1 hz g1 o1 pm => ?_)
    have hvl : vs.length = es.size := by rw [pm.length_eq, List.length_map, Array.length_toList]
    have hvb : vs.length ≤ sizeLine := by
      rw [hvl]
      exact fits_of_scanBound hb
    have hgood : ∀ v ∈ vs, ∃ z t, v = Value.str z t := fun v hv => by
      obtain ⟨e, he, q⟩ := List.mem_map.mp (pm.mem_iff.mp hv)
      obtain ⟨z, t, h1, _⟩ := g e he
      exact ⟨z, t, q.symm.trans h1⟩
    have each : ∀ l : List Value, (∀ v ∈ l, ∃ z t, v = Value.str z t) → PySem.W.EachIs (fun v z => ∃ t, v = Value.str z t) l (l.map fun v => txtOf (0, v)) := fun l => by
      induction l with
      | nil => exact fun _ => .nil
      | cons v l ih =>
        intro hl
        obtain ⟨z, t, rfl⟩ := hl v (by simp)
        exact .cons ⟨t, rfl⟩ (ih fun u hu => hl u (by simp [hu]))
    have pz : (vs.map fun v => txtOf (0, v)).Perm zs := by
      refine List.Perm.trans ?_ hp.symm
      have := pm.map fun v => txtOf (0, v)
      rw [List.map_map] at this
      exact this
    refine wpAny_bind (wpAny_newList ?_ hvb)
    have hoL : (s1.heap.push (seqObj "list" vs.toArray 0)).get? s1.heap.objs.size = some (seqObj "list" vs.toArray 0) := Heap.get?_push_size _ rfl
    refine wpAny_bind (wpAny_holding (PySem.W.list_sort_data (s := { s1 with heap := s1.heap.push (seqObj "list" vs.toArray 0) }) (R := fun v z => ∃ t, v = Value.str z t) (enc := PyData.str) (bs := vs.map fun v => txtOf (0, v)) hoL (each vs hgood) ((each vs hgood).mono fun v z ⟨t, e⟩ => ⟨[], by subst e; exact .str _ _, by simp⟩) (.of fun b b' => rfl) (.others fun b => ⟨fun e => (nomatch e), fun xs e => (nomatch e)⟩) (by rw [List.length_map]; exact hvb) (fun b hb => by
      show A.units + 1 + 1 + 0 < cLine
      omega) fun out ho1 he => ?_))
    obtain ⟨c, hc⟩ := sortedHeap_at (vs := vs) (out := out.toArray) hoL
    refine wpAny_pure ⟨_, rfl, hQ _ s1.heap.objs.size out c _ (fun b u e => ?_) g1 o1 hz hc he ((List.mergeSort_perm _ _).trans pz) ?_⟩
    · have hlt := Heap.lt_size (k1 b u e)
      show (sortedHeap (s1.heap.push (seqObj "list" vs.toArray 0)) s1.heap.objs.size vs out.toArray).get? b = some u
      rw [sortedHeap_old (Nat.ne_of_lt hlt) (by rw [size_push']; exact Nat.lt_succ_of_lt hlt)]
      exact Heap.get?_push_of_some _ (k1 b u e)
    · refine List.pairwise_mergeSort (fun x y z h1 h2 => ?_) (fun x y => ?_) _
      · rw [PySem.W.dataLe_str] at h1 h2 ⊢
        exact decide_eq_true (List.le_trans (of_decide_eq_true h1) (of_decide_eq_true h2))
      · rw [PySem.W.dataLe_str, Bool.or_eq_true]
        rcases List.le_total x.cps.toList y.cps.toList with h | h
        · exact .inl (decide_eq_true h)
        · exact .inr (decide_eq_true h))
end
end Tr

set_option Elab.async false
set_option linter.all false
set_option maxRecDepth 100000
/-! Lay31: sorted(set(texts)), len(set(texts)) over data. -/
namespace Tr
open PySem PySem.Spec PyProof.Rows L2 TL
/-- the set of texts at a -/
def setO (P : Program) (w : World) (a : Addr) (zs : List Str) : HO := .ext fun h => SetRs P w h a zs
theorem setO_ok {P : Program} {w : World} {H : Hp} {h : Heap} {a : Addr} {zs : List Str} (R : SetRs P w h a zs) : ObjOk P w H h a (setO P w a zs) := by
  have ⟨o, _, _, _, ho, _⟩ := R
  exact ⟨R, ⟨o, ho⟩, fun h1 h2 p k => SetRs.at p k⟩
section
variable {X : Cx}
theorem strs_vals : ∀ {ys : List Str} {us : List Value}, Vals (ys.map V.str) us → StrsAre us ys
  | [], _, .nil => .nil
  | y :: ys, _, .cons h t => by
    obtain ⟨tk, rfl⟩ := h
    exact .cons y tk (strs_vals t)
theorem vals_each : ∀ {ys : List Str} {us : List Value}, PySem.W.EachIs (fun v z => ∃ t, v = Value.str z t) us ys → Vals (ys.map V.str) us
  | _, _, .nil => .nil
  | _, _, .cons h t => .cons h (vals_each t)
/-- set(l), l a list of texts -/
def rSetL (K : PySem.W.Frag) (P : Program) (w : World) : List V → Hp → VK → Prop := fun xs H Q => ∃ l, ∃ zs : List Str, xs = [.ref l] ∧ SqL K H l (zs.map V.str) ∧ zs.length + 1 < scanBound ∧ ∀ p, H p = none → Q (.ref p) (upd H p (setO P w p (oneT zs)))
theorem cr_setL (hc : X.calm = true) : CallR X (.type "set") (rSetL X.K X.prog X.w) := by
  intro pins s σ H xs us Q I r h
  obtain ⟨l, zs, rfl, hq, hb, q⟩ := h
  obtain ⟨u, rfl, rx⟩ := vals1 r
  cases rx
  obtain ⟨its, rv, pl, hz⟩ := I.list hq
  refine call_setS (zs := zs) (I.ok.hd hc) pl.isList (by simpa using strs_vals rv) hb fun h' tk R k => ?_
  exact ⟨.ref _, _, I.laid (t' := tk) (fun b o e => k b o (Heap.lt_size e) e) (Nat.le_refl _) (setO_ok R), rfl, q _ (I.hok.fresh (Nat.le_refl _))⟩
/-- sorted(set of texts) -/
def rSortSet (P : Program) (w : World) : List V → Hp → VK → Prop := fun xs H Q => ∃ a, ∃ zs : List Str, xs = [.ref a] ∧ H a = some (setO P w a zs) ∧ zs.length ≤ 100000 ∧
  ∀ (ys : List Str) p, ys.Perm zs → ys.Pairwise (fun x y => PySem.W.dataLe false PyData.str x y = true) → H p = none → Q (.ref p) (upd H p (.lst (ys.map V.str)))
theorem cr_sortSet {k : Nat} (hr : Room k X.A) (hc : X.calm = true) : CallR X (.builtin "sorted") (rSortSet X.prog X.w) := by
  intro pins s σ H xs us Q I r h
  obtain ⟨a, zs, rfl, ha, hlz, q⟩ := h
  have R : SetRs X.prog X.w s.heap a zs := (I.hok a _ ha).1
  obtain ⟨u, rfl, rx⟩ := vals1 r
  cases rx
  have hun := hr.un
  refine sorted_setS R (I.ok.hd hc) (by omega) fun s' p out c ys k g o hp hg he hpm hs => ?_
  have hlen : (ys.map V.str).length ≤ sizeLine := by
    rw [List.length_map, hpm.length_eq]
    exact Nat.le_trans hlz (by decide)
  have hn : H p = none := I.hok.fresh hp
  have J : Inv X pins σ (upd H p (.lst (ys.map V.str))) { s with heap := s'.heap, gens := s'.gens, drawn := s'.drawn, toks := s'.toks } := I.call (ch := []) (Un.laid k hp hn) (I.hok.laid k hp ⟨hlen, out, c, vals_each he, hg⟩) (by rw [g]; exact I.bare) (fun _ z => nomatch z)
  have e : s' = { s with heap := s'.heap, gens := s'.gens, drawn := s'.drawn, toks := s'.toks } := by
    (cases s'; cases s; cases o; rfl)
  rw [e]
  exact ⟨.ref p, _, J, rfl, q ys p hpm hs hn⟩
/-- len(set of texts) -/
def rLenSet (P : Program) (w : World) : List V → Hp → VK → Prop := fun xs H Q => ∃ a, ∃ zs : List Str, xs = [.ref a] ∧ H a = some (setO P w a zs) ∧ Q (.int (zs.length : Nat)) H
theorem cr_lenSet : CallR X (.builtin "len") (rLenSet X.prog X.w) := by
  intro pins s σ H xs us Q I r h
  obtain ⟨a, zs, rfl, ha, q⟩ := h
  obtain ⟨o, es, ep, t, ho, hex, hd, g, nd, hp, hb, hf, hr, hl⟩ : SetRs X.prog X.w s.heap a zs := (I.hok a _ ha).1
  obtain ⟨u, rfl, rx⟩ := vals1 r
  cases rx
  have hlen : zs.length = es.size := by
    rw [hp.length_eq, List.length_map, Array.length_toList]
  have hb2 : es.size < 4096 := hb
  exact call_len_set ho hex hd hf (by omega) ⟨.int (zs.length : Nat), H, I.tok _, ⟨s.toks + 1, by rw [hlen]⟩, q⟩
variable [PWc] {k : Nat} {e : Expr} {t : TA} {p pos p2 pos2 : Pos}
theorem k_set (K : PySem.W.Frag) (hc : X.calm = true) (hg : Gl X "set") (hm : X.mg "set" = none) (ha : PA X [e] t) (he : starEach [e] X.env = (false, eval e X.env) :: starEach [] X.env := by rfl) (hK : X.K = K := by rfl) (hP : X.prog = P := by rfl) (hw : X.w = w := by rfl) : PE X (.Call (.Name "set" p) [e] [] pos) (tCB (rSetL K P w) t) := by
  subst hK
  rw [← hP, ← hw]
  exact pe_callTy (cr_setL hc) hg hm (by decide +kernel) ha (he := he)
theorem k_sortSet (hr : Room k X.A) (hc : X.calm = true) (hg : Gl X "sorted") (hm : X.mg "sorted" = none) (ha : PA X [e] t) (he : starEach [e] X.env = (false, eval e X.env) :: starEach [] X.env := by rfl) (hP : X.prog = P := by rfl) (hw : X.w = w := by rfl) : PE X (.Call (.Name "sorted" p) [e] [] pos) (tCB (rSortSet P w) t) := by
  rw [← hP, ← hw]
  exact pe_callB (cr_sortSet hr hc) hg hm (by decide +kernel) ha (he := he)
theorem k_lenSet (hg : Gl X "len") (hm : X.mg "len" = none) (ha : PA X [e] t) (he : starEach [e] X.env = (false, eval e X.env) :: starEach [] X.env := by rfl) (hP : X.prog = P := by rfl) (hw : X.w = w := by rfl) : PE X (.Call (.Name "len" p) [e] [] pos) (tCB (rLenSet P w) t) := by
  rw [← hP, ← hw]
  exact pe_callB cr_lenSet hg hm (by decide +kernel) ha (he := he)
end
/-! ### texts in order, each once -/
def insU (u : List Nat) : List (List Nat) → List (List Nat)
  | [] => [u]
  | v :: r => if u < v then u :: v :: r else if u = v then v :: r else v :: insU u r
def srtU (ws : List (List Nat)) : List (List Nat) := ws.foldr insU []
theorem insU_mem {u x : List Nat} : ∀ {l : List (List Nat)}, x ∈ insU u l ↔ x = u ∨ x ∈ l
  | [] => by simp [insU]
  | v :: r => by
    unfold insU
    split
    · simp
    · split
      · rename_i h
        subst h
        simp
      · rw [List.mem_cons, insU_mem, List.mem_cons]
        constructor
        · rintro (h | h | h)
          · exact .inr (.inl h)
          · exact .inl h
          · exact .inr (.inr h)
        · rintro (h | h | h)
          · exact .inr (.inl h)
          · exact .inl h
          · exact .inr (.inr h)
theorem srtU_mem {x : List Nat} : ∀ {ws : List (List Nat)}, x ∈ srtU ws ↔ x ∈ ws
  | [] => by simp [srtU]
  | v :: r => by
    show x ∈ insU v (srtU r) ↔ _
    rw [insU_mem, srtU_mem, List.mem_cons]
theorem lt_tri : ∀ (u v : List Nat), u < v ∨ u = v ∨ v < u
  | [], [] => .inr (.inl rfl)
  | [], y :: v => .inl (List.nil_lt_cons ..)
  | x :: u, [] => .inr (.inr (List.nil_lt_cons ..))
  | x :: u, y :: v => by
    simp only [List.cons_lt_cons_iff, List.cons.injEq]
    have := lt_tri u v
    rcases Nat.lt_trichotomy x y with h | h | h
    · exact .inl (.inl h)
    · subst h
      rcases this with h | h | h
      · exact .inl (.inr ⟨rfl, h⟩)
      · exact .inr (.inl ⟨rfl, h⟩)
      · exact .inr (.inr (.inr ⟨rfl, h⟩))
    · exact .inr (.inr (.inl h))
theorem insU_srt {u : List Nat} : ∀ {l : List (List Nat)}, l.Pairwise (· < ·) → (insU u l).Pairwise (· < ·)
  | [], _ => by simp [insU]
  | v :: r, h => by
    obtain ⟨h1, h2⟩ := List.pairwise_cons.mp h
    unfold insU
    split
    · rename_i hlt
      exact List.pairwise_cons.mpr ⟨fun x hx => by
        rcases List.mem_cons.mp hx with rfl | hx
        · exact hlt
        · exact List.lt_trans hlt (h1 x hx), h⟩
    · split
      · exact h
      · rename_i n1 n2
        refine List.pairwise_cons.mpr ⟨fun x hx => ?_, insU_srt h2⟩
        rcases insU_mem.mp hx with rfl | hx
        · rcases lt_tri x v with g | g | g
          · exact absurd g n1
          · exact absurd g n2
          · exact g
        · exact h1 x hx
theorem srtU_srt : ∀ ws : List (List Nat), (srtU ws).Pairwise (· < ·)
  | [] => by simp [srtU]
  | v :: r => insU_srt (srtU_srt r)
theorem srt_ext : ∀ {a b : List (List Nat)}, a.Pairwise (· < ·) → b.Pairwise (· < ·) → (∀ x, x ∈ a ↔ x ∈ b) → a = b
  | [], [], _, _, _ => rfl
  | [], y :: b, _, _, h => absurd ((h y).mpr (by simp)) (by simp)
  | x :: a, [], _, _, h => absurd ((h x).mp (by simp)) (by simp)
  | x :: a, y :: b, ha, hb, h => by
    obtain ⟨a1, a2⟩ := List.pairwise_cons.mp ha
    obtain ⟨b1, b2⟩ := List.pairwise_cons.mp hb
    have hxy : x = y := by
      rcases List.mem_cons.mp ((h x).mp (by simp)) with e | e
      · exact e
      · rcases List.mem_cons.mp ((h y).mpr (by simp)) with e2 | e2
        · exact e2.symm
        · exact absurd (List.lt_trans (b1 x e) (a1 y e2)) (List.lt_irrefl _)
    subst hxy
    rw [srt_ext a2 b2 fun z => ?_]
    constructor
    · intro hz
      rcases List.mem_cons.mp ((h z).mp (by simp [hz])) with e | e
      · exact absurd (e ▸ a1 z hz) (List.lt_irrefl _)
      · exact e
    · intro hz
      rcases List.mem_cons.mp ((h z).mpr (by simp [hz])) with e | e
      · exact absurd (e ▸ b1 z hz) (List.lt_irrefl _)
      · exact e
theorem nodup_insT {ys : List Str} {z : Str} (h : ys.Nodup) : (insT ys z).Nodup := by
  unfold insT
  split
  · exact h
  · rename_i hn
    exact List.nodup_append.mpr ⟨h, by simp, fun x hx y hy => by rw [List.mem_singleton.mp hy]; exact fun e => hn (e ▸ hx)⟩
theorem mem_insT {ys : List Str} {z x : Str} : x ∈ insT ys z ↔ x ∈ ys ∨ x = z := by
  unfold insT
  split
  · rename_i h
    exact ⟨.inl, fun q => q.elim id fun e => e ▸ h⟩
  · simp
theorem oneT_both : ∀ (zs ys : List Str), ys.Nodup → (zs.foldl insT ys).Nodup ∧ ∀ x, x ∈ zs.foldl insT ys ↔ x ∈ ys ∨ x ∈ zs
  | [], ys, h => ⟨h, fun x => by simp⟩
  | z :: zs, ys, h => by
    obtain ⟨h1, h2⟩ := oneT_both zs (insT ys z) (nodup_insT h)
    refine ⟨h1, fun x => ?_⟩
    rw [List.foldl_cons, h2, mem_insT, List.mem_cons, or_assoc]
theorem oneT_nodup (zs : List Str) : (oneT zs).Nodup := (oneT_both zs [] (by simp)).1
theorem oneT_mem {zs : List Str} {x : Str} : x ∈ oneT zs ↔ x ∈ zs := by
  have := (oneT_both zs [] (by simp)).2 x
  show x ∈ zs.foldl insT [] ↔ _
  simpa using this
/-- how many texts -/
theorem oneT_count {ws : List (List Nat)} : (oneT (ws.map S)).length = (srtU ws).length := by
  have h : ((oneT (ws.map S)).map tl).Perm (srtU ws) := by
    refine (List.perm_ext_iff_of_nodup ?_ ?_).mpr fun x => ?_
    · exact List.Pairwise.map _ (fun a b hne e => hne (by rw [← mk_tl a, ← mk_tl b]; exact congrArg S e)) (oneT_nodup _)
    · exact (srtU_srt ws).imp fun h e => absurd (e ▸ h) (List.lt_irrefl _)
    · rw [srtU_mem, List.mem_map]
      constructor
      · rintro ⟨z, hz, rfl⟩
        obtain ⟨w, hw, rfl⟩ := List.mem_map.mp (oneT_mem.mp hz)
        exact hw
      · intro hx
        exact ⟨S x, oneT_mem.mpr (List.mem_map.mpr ⟨x, hx, rfl⟩), rfl⟩
  have := h.length_eq
  rwa [List.length_map] at this
theorem srtU_of {ws : List (List Nat)} {ys : List Str} (hp : ys.Perm (oneT (ws.map S))) (hs : ys.Pairwise (fun x y => PySem.W.dataLe false PyData.str x y = true)) : ys.map tl = srtU ws := by
  have hn : ys.Nodup := hp.nodup_iff.mpr (oneT_nodup _)
  refine srt_ext ?_ (srtU_srt ws) fun x => ?_
  · rw [List.pairwise_map]
    refine (List.pairwise_and_iff.mpr ⟨hs, hn⟩).imp fun {a b} ⟨h1, h2⟩ => ?_
    rw [PySem.W.dataLe_str] at h1
    have hle : tl a ≤ tl b := of_decide_eq_true h1
    rcases List.le_iff_lt_or_eq.mp hle with h | h
    · exact h
    · exact absurd (by rw [← mk_tl a, ← mk_tl b]; exact congrArg S h) h2
  · rw [srtU_mem, List.mem_map]
    constructor
    · rintro ⟨z, hz, rfl⟩
      obtain ⟨w, hw, rfl⟩ := List.mem_map.mp (oneT_mem.mp (hp.mem_iff.mp hz))
      exact hw
    · intro hx
      exact ⟨S x, hp.mem_iff.mpr (oneT_mem.mpr (List.mem_map.mpr ⟨x, hx, rfl⟩)), rfl⟩
section
variable [PWc] {T : Tn} {K : PySem.W.Frag} {ρ : List Sl} {ta : TE} {ws : List (List Nat)}
theorem strs_of_S {F : Hp} {vs : List V} (r : RpAll F vs (ws.map sD)) : vs = (ws.map S).map V.str := by
  have e : ws.map sD = (ws.map S).map PyData.str := by rw [List.map_map]; rfl
  rw [e] at r
  exact r.strs
/-- sorted(set(texts)) -/
theorem eo_sortSet (ha : Ev T ta ρ (.list (ws.map sD))) (hl : ws.length ≤ 4000) : EvO T (tCB (rSortSet P w) (tCons (tCB (rSetL K P w) (tCons ta tNil)) tNil)) ρ fun ys => ys = (srtU ws).map sD := fun F0 H0 σ F H e Q q =>
  ha F0 H0 σ F H e _ fun v F1 H1 e1 r1 => by
    obtain ⟨a, vs, rfl, hv, r⟩ := r1.lst_eq
    have ev := strs_of_S r
    subst ev
    have e2 := e.ext e1
    refine ⟨a, ws.map S, rfl, SqL.of (e1.fh _ _ hv), by rw [List.length_map]; show ws.length + 1 < 4096; omega, fun p hp => ?_⟩
    have x1 : Ext T F1 H1 F1 (upd H1 p (setO P w p (oneT (ws.map S)))) := Ext.new1 e2.le hp
    refine ⟨p, _, rfl, upd_same, ?_, fun ys p2 hpm hs hp2 => ?_⟩
    · have := oneT_len (ws.map S) []
      have h2 : (oneT (ws.map S)).length ≤ (ws.map S).length := by simpa [oneT] using this
      rw [List.length_map] at h2
      omega
    · have e3 := e2.ext x1
      have hq : ys.map V.str = ((srtU ws).map S).map V.str := by
        rw [← srtU_of hpm hs, List.map_map, List.map_map]
        exact List.map_congr_left fun z _ => by
          show V.str z = V.str (S (tl z))
          rw [show S (tl z) = z from mk_tl z]
      rw [hq]
      refine q p2 _ ((srtU ws).map sD) F1 _ ((e1.trans x1).trans (Ext.new1 e3.le hp2)) (freshH e (e1.trans x1) hp2) (e3.le.free hp2) upd_same rfl ?_
      have := RpAll.of_strs (F := F1) ((srtU ws).map S)
      rw [List.map_map (f := S) (g := PyData.str)] at this
      exact this
/-- len(set(texts)) -/
theorem ev_lenSet (ha : Ev T ta ρ (.list (ws.map sD))) (hl : ws.length ≤ 4000) : Ev T (tCB (rLenSet P w) (tCons (tCB (rSetL K P w) (tCons ta tNil)) tNil)) ρ (.int ((srtU ws).length : Nat)) := fun F0 H0 σ F H e Q q =>
  ha F0 H0 σ F H e _ fun v F1 H1 e1 r1 => by
    obtain ⟨a, vs, rfl, hv, r⟩ := r1.lst_eq
    have ev := strs_of_S r
    subst ev
    have e2 := e.ext e1
    refine ⟨a, ws.map S, rfl, SqL.of (e1.fh _ _ hv), by rw [List.length_map]; show ws.length + 1 < 4096; omega, fun p hp => ?_⟩
    have x1 : Ext T F1 H1 F1 (upd H1 p (setO P w p (oneT (ws.map S)))) := Ext.new1 e2.le hp
    refine ⟨p, _, rfl, upd_same, ?_⟩
    rw [oneT_count]
    exact q _ F1 _ (e1.trans x1) (.int _)
end
end Tr

set_option Elab.async false
set_option linter.all false
set_option maxRecDepth 100000
/-! Lay32: a dict of lists that nobody else holds, filled by setdefault(..).append(..), emptied by pop. -/
namespace Tr
open PySem PySem.Spec PyProof.Rows L2 TL
/-! ### d != {} -/
def rNeD0 : R2 := fun x y H Q => ∃ a b ks, x = .ref a ∧ y = .ref b ∧ H a = some (.dK ks) ∧ H b = some (.dK []) ∧ Q (.bl (!decide (ks = []))) H
section
variable {X : Cx}
theorem op_neD0 (hu : X.A.units < cLine) : OpR X (compareOp .NotEq) rNeD0 := by
  intro pins s σ H x y v u Q I rx ry h
  obtain ⟨a, b, ks, rfl, rfl, ea, eb, q⟩ := h
  (cases rx; cases ry)
  obtain ⟨_, ya, va, ra, da⟩ := (show ObjOk X.prog X.w H s.heap a (.dK ks) from I.hok a _ ea)
  obtain ⟨_, yb, vb, rb, db⟩ := (show ObjOk X.prog X.w H s.heap b (.dK []) from I.hok b _ eb)
  have hb0 : vb.length = 0 := by rw [← rb.length]; rfl
  have ha0 := ra.length
  refine PySem.W.keq_ne (knd := mixKind X.prog X.w) (r := true) ya yb da db hu (fun hl => ?_) ?_
  · rw [hb0] at hl
    rw [List.length_eq_zero_iff.mp hl]
    exact .nil
  · have : (!(va.length == vb.length && true)) = !decide (ks = []) := by
      rw [Bool.and_true, hb0, ← ha0]
      cases ks with
      | nil => rfl
      | cons p r => rfl
    exact ⟨_, H, I, by rw [this]; rfl, q⟩
theorem kt_neD0 {k : Nat} {a b : Expr} {ta tb : TE} {pos : Pos} (hr : Room k X.A) (ha : PE X a ta) (hb : PE X b tb) : PT X (.Compare a [.NotEq] [b] pos) (tTest (tOp rNeD0 ta tb)) := pt_cmpR (op_neD0 (by have := hr.un; omega)) ha hb (nomark _)
end
/-! ### two heaps joined -/
def joinH (H0 G : Hp) : Hp := fun b => match G b with | some o => some o | none => H0 b
theorem joinH_none {H0 G : Hp} {b : Addr} (h : joinH H0 G b = none) : G b = none ∧ H0 b = none := by
  unfold joinH at h
  cases e : G b with
  | none => rw [e] at h; exact ⟨rfl, h⟩
  | some o => rw [e] at h; cases h
theorem joinH_of {H0 G : Hp} {b : Addr} (h : G b = none) : joinH H0 G b = H0 b := by unfold joinH; rw [h]
theorem joinH_in {H0 G : Hp} {b : Addr} {o : HO} (h : G b = some o) : joinH H0 G b = some o := by unfold joinH; rw [h]
variable [PWc]
def GOk (T : Tn) (F0 H0 G : Hp) : Prop := ∀ b o, G b = some o → ¬ T b ∧ F0 b = none ∧ H0 b = none
section
variable {T : Tn} {F0 H0 G F H : Hp} {σ : L2.St} {ρ : List Sl}
theorem Env.inG (e : Env T F0 (joinH H0 G) F H σ ρ) (g : GOk T F0 H0 G) {b : Addr} {o : HO} (h : G b = some o) : H b = some o ∧ F b = none := by
  obtain ⟨h1, h2, h3⟩ := g b o h
  exact ⟨e.ex.hh b o h1 (joinH_in h), e.ex.ow b o h1 (joinH_in h) h2⟩
/-- things of G are changed, laid, given away -/
theorem Env.chg {G' F' H' : Hp} (e : Env T F0 (joinH H0 G) F H σ ρ) (g : GOk T F0 H0 G) (C : Addr → Prop) (c0 : ∀ b, C b → ¬ T b ∧ H0 b = none ∧ (G b ≠ none ∨ H b = none)) (c1 : ∀ b o, ¬ C b → H b = some o → H' b = some o) (c2 : ∀ b, ¬ C b → F b = none → F' b = none) (c3 : Same F F') (c4 : Same F' H')
    (c5 : ∀ b o, G' b = some o → H' b = some o ∧ F' b = none ∧ F0 b = none ∧ (C b ∨ G b = some o)) : Env T F0 (joinH H0 G') F' H' σ ρ ∧ GOk T F0 H0 G' := by
  have g' : GOk T F0 H0 G' := fun b o h => by
    obtain ⟨h1, h2, h3, h4⟩ := c5 b o h
    rcases h4 with h4 | h4
    · obtain ⟨z1, z2, _⟩ := c0 b h4
      exact ⟨z1, h3, z2⟩
    · exact g b o h4
  have nC : ∀ b, T b → ¬ C b := fun b hb hc => (c0 b hc).1 hb
  have tG : ∀ {G : Hp}, GOk T F0 H0 G → ∀ b, T b → joinH H0 G b = H0 b := fun {G} g b hb => joinH_of (by
    cases h : G b with
    | none => rfl
    | some o => exact absurd hb (g b o h).1)
  have town : ∀ b, T b → Town T F H b → Town T F' H' b := fun b hb ⟨o, h1, h2⟩ => ⟨o, c1 b o (nC b hb) h1, fun F2 s2 => h2 F2 (c3.trans s2)⟩
  have old : ∀ b o, H0 b = some o → G b = none ∧ ¬ C b := fun b o h => by
    constructor
    · cases q : G b with
      | none => rfl
      | some o2 =>
        rw [(g b o2 q).2.2] at h
        cases h
    · intro hc
      rw [(c0 b hc).2.1] at h
      cases h
  obtain ⟨α, h1, h2⟩ := e.sl
  have own : ∀ {a : Addr} {u : HO}, F a = none → joinH H0 G a = none → H a = some u → F' a = none ∧ joinH H0 G' a = none ∧ H' a = some u := fun {a u} f h0 hu => by
    obtain ⟨z1, z2⟩ := joinH_none h0
    have nc : ¬ C a := fun hc => by
      rcases (c0 a hc).2.2 with q | q
      · exact q z1
      · rw [q] at hu
        cases hu
    refine ⟨c2 a nc f, ?_, c1 a u nc hu⟩
    cases q : G' a with
    | none => rw [joinH_of q]; exact z2
    | some o =>
      rcases (c5 a o q).2.2.2 with q2 | q2
      · exact absurd q2 nc
      · rw [z1] at q2
        cases q2
  refine ⟨⟨⟨e.ex.ff.trans c3, c4, fun b o nt h => ?_, fun b o nt h hf => ?_, fun b hb hf => c2 b (nC b hb) (e.ex.tf b hb hf), fun b hb q => town b hb (e.ex.tw b hb ?_)⟩, fun b hb => ⟨c2 b (nC b hb) (e.tn b hb).1, town b hb (e.tn b hb).2⟩, e.len, α, fun i s hs => ?_, h2⟩, g'⟩
  · cases q : G' b with
    | some o2 =>
      rw [joinH_in q] at h
      cases h
      exact (c5 b _ q).1
    | none =>
      rw [joinH_of q] at h
      obtain ⟨z1, z2⟩ := old b o h
      exact c1 b o z2 (e.ex.hh b o nt (by rw [joinH_of z1]; exact h))
  · cases q : G' b with
    | some o2 => exact (c5 b _ q).2.1
    | none =>
      rw [joinH_of q] at h
      obtain ⟨z1, z2⟩ := old b o h
      exact c2 b z2 (e.ex.ow b o nt (by rw [joinH_of z1]; exact h) hf)
  · obtain ⟨o, q1, q2⟩ := q
    rw [tG g' b hb] at q1
    exact ⟨o, by rw [tG g b hb]; exact q1, q2⟩
  · have z := h1 i s hs
    cases s with
    | un => trivial
    | d x =>
      obtain ⟨v, z1, z2⟩ := z
      exact ⟨v, z1, z2.mono c3⟩
    | ol xs =>
      obtain ⟨z1, z2, z3, z4, vs, hv, r⟩ := z
      obtain ⟨y1, y2, y3⟩ := own z3 z4 hv
      exact ⟨z1, z2, y1, y2, vs, y3, r.mono c3⟩
    | od xs =>
      obtain ⟨z1, z2, z3, z4, vs, hv, r⟩ := z
      obtain ⟨y1, y2, y3⟩ := own z3 z4 hv
      exact ⟨z1, z2, y1, y2, vs, y3, r.mono c3⟩
    | og φ =>
      obtain ⟨z1, z2, z3, z4, u, hv, r⟩ := z
      obtain ⟨y1, y2, y3⟩ := own z3 z4 hv
      exact ⟨z1, z2, y1, y2, u, y3, fun F2 s2 => r F2 (c3.trans s2)⟩
    | tn I => exact z
    | raw v => exact z
    | pr φ =>
      obtain ⟨v, z1, z2⟩ := z
      exact ⟨v, z1, fun F2 s2 => z2 F2 (c3.trans s2)⟩
/-- G is forgotten -/
theorem Env.less (e : Env T F0 (joinH H0 G) F H σ ρ) (g : GOk T F0 H0 G) : Env T F0 H0 F H σ ρ := by
  have jn : ∀ b o, H0 b = some o → joinH H0 G b = some o := fun b o h => by
    rw [joinH_of]
    · exact h
    · cases q : G b with
      | none => rfl
      | some o2 =>
        rw [(g b o2 q).2.2] at h
        cases h
  obtain ⟨α, h1, h2⟩ := e.sl
  refine ⟨⟨e.ex.ff, e.ex.fh, fun b o nt h => e.ex.hh b o nt (jn b o h), fun b o nt h hf => e.ex.ow b o nt (jn b o h) hf, e.ex.tf, fun b hb ⟨o, q1, q2⟩ => e.ex.tw b hb ⟨o, jn b o q1, q2⟩⟩, e.tn, e.len, α, fun i s hs => ?_, h2⟩
  have z := h1 i s hs
  cases s with
  | ol xs =>
    obtain ⟨z1, z2, z3, z4, z5⟩ := z
    exact ⟨z1, z2, z3, (joinH_none z4).2, z5⟩
  | od xs =>
    obtain ⟨z1, z2, z3, z4, z5⟩ := z
    exact ⟨z1, z2, z3, (joinH_none z4).2, z5⟩
  | og φ =>
    obtain ⟨z1, z2, z3, z4, z5⟩ := z
    exact ⟨z1, z2, z3, (joinH_none z4).2, z5⟩
  | _ => exact z
end
/-! ### the queue -/
abbrev Que := List (Int × List PyData)
def QEn (F G : Hp) (e : Int × Addr) (x : Int × List PyData) : Prop := e.1 = x.1 ∧ ∃ vs, G e.2 = some (.lst vs) ∧ RpAll F vs x.2
def qK (es : List (Int × Addr)) : List (Key × V) := es.map fun e => (Sum.inl e.1, V.ref e.2)
/-- G has the dict d of the lists of q -/
def QRep (F G : Hp) (d : Addr) (q : Que) : Prop := ∃ es : List (Int × Addr), G d = some (.dK (qK es)) ∧ Paired (QEn F G) es q ∧ (es.map (·.2)).Nodup ∧ (es.map (·.1)).Nodup
theorem pair_imp2 {α β : Type} {R R' : α → β → Prop} : ∀ {as : List α} {bs : List β}, Paired R as bs → (∀ a b, a ∈ as → R a b → R' a b) → Paired R' as bs
  | _, _, .nil, _ => .nil
  | _, _, .cons h t, k => .cons (k _ _ (by simp) h) (pair_imp2 t fun a b ha hr => k a b (by simp [ha]) hr)
theorem QRep.mono {F F' G : Hp} {d : Addr} {q : Que} (h : QRep F G d q) (s : Same F F') : QRep F' G d q := by
  obtain ⟨es, h1, h2, h3, h4⟩ := h
  exact ⟨es, h1, pair_imp2 h2 fun a b _ ⟨e, vs, g, r⟩ => ⟨e, vs, g, r.mono s⟩, h3, h4⟩
structure PoQ where
  nx : List Sl → Que → Prop := fun _ _ => False
  rt : PyData → List Sl → Prop := fun _ _ => False
  bk : List Sl → Que → Prop := fun _ _ => False
  ct : List Sl → Que → Prop := fun _ _ => False
def SmQ (T : Tn) (W : WX) (t : TS) (d : Addr) (ρ : List Sl) (q : Que) (P : PoQ) : Prop := ∀ F0 H0 G σ F H (D : Ends), GOk T F0 H0 G → Env T F0 (joinH H0 G) F H σ ρ → QRep F G d q →
  (∀ σ' F' H' G' ρ' q', Same F F' → GOk T F0 H0 G' → Env T F0 (joinH H0 G') F' H' σ' ρ' → QRep F' G' d q' → P.nx ρ' q' → D.nx σ' H') →
  (∀ v σ' F' H' ρ' x, Env T F0 H0 F' H' σ' ρ' → Rp F' v x → P.rt x ρ' → D.rt v H') →
  (∀ σ' F' H' G' ρ' q', Same F F' → GOk T F0 H0 G' → Env T F0 (joinH H0 G') F' H' σ' ρ' → QRep F' G' d q' → P.bk ρ' q' → D.bk σ' H') →
  (∀ σ' F' H' G' ρ' q', Same F F' → GOk T F0 H0 G' → Env T F0 (joinH H0 G') F' H' σ' ρ' → QRep F' G' d q' → P.ct ρ' q' → D.ct σ' H') → t D σ H
section
variable {T : Tn} {W : WX} {K : PySem.W.Frag} {ρ : List Sl} {P : PoQ} {d : Addr} {q : Que} {t u : TS} {te : TE}
/-- a statement that leaves the queue alone -/
theorem smq_of (h : Sm T W t ρ { nx := fun r => P.nx r q, rt := P.rt, bk := fun r => P.bk r q, ct := fun r => P.ct r q }) : SmQ T W t d ρ q P := fun F0 H0 G σ F H D g e qr k1 k2 k3 k4 =>
  h F0 (joinH H0 G) σ F H D e (fun σ' F' H' ρ' s e' p => k1 σ' F' H' G ρ' q s g e' (qr.mono s) p) (fun v σ' F' H' ρ' x e' r p => k2 v σ' F' H' ρ' x (e'.less g) r p) (fun σ' F' H' ρ' s e' p => k3 σ' F' H' G ρ' q s g e' (qr.mono s) p) (fun σ' F' H' ρ' s e' p => k4 σ' F' H' G ρ' q s g e' (qr.mono s) p) fun _ _ _ _ _ _ _ z => z.elim
theorem smq_seq (h : SmQ T W t d ρ q { P with nx := fun r q' => SmQ T W u d r q' P }) : SmQ T W (tSeq t u) d ρ q P := fun F0 H0 G σ F H D g e qr k1 k2 k3 k4 =>
  h F0 H0 G σ F H { D with nx := u D } g e qr (fun σ' F' H' G' ρ' q' s g' e' qr' p => p F0 H0 G' σ' F' H' D g' e' qr' (fun a b c d' r q2 s2 => k1 a b c d' r q2 (s.trans s2)) k2 (fun a b c d' r q2 s2 => k3 a b c d' r q2 (s.trans s2)) fun a b c d' r q2 s2 => k4 a b c d' r q2 (s.trans s2)) k2 k3 k4
theorem smq_next (h : P.nx ρ q) : SmQ T W tNext d ρ q P := fun F0 H0 G σ F H D g e qr k1 _ _ _ => k1 σ F H G ρ q (Same.refl _) g e qr h
theorem smq_go (h : SmQ T W u d ρ q P) : ({ P with nx := fun r q' => SmQ T W u d r q' P } : PoQ).nx ρ q := h
theorem smq_ifb {c : TT} {b : Bool} (h : EvT T c ρ fun x => x = b) (h1 : b = true → SmQ T W t d ρ q P) (h2 : b = false → SmQ T W u d ρ q P) : SmQ T W (tIfS c t u) d ρ q P := fun F0 H0 G σ F H D g e qr k1 k2 k3 k4 =>
  h F0 _ σ F H e _ fun b' F1 H1 e1 p => by
    subst p
    cases b' with
    | true => exact iteT (h1 rfl F0 H0 G σ F1 H1 D g (e.ext e1) (qr.mono e1.ff) (fun a b c d' r q2 s2 => k1 a b c d' r q2 (e1.ff.trans s2)) k2 (fun a b c d' r q2 s2 => k3 a b c d' r q2 (e1.ff.trans s2)) fun a b c d' r q2 s2 => k4 a b c d' r q2 (e1.ff.trans s2))
    | false => exact iteF (h2 rfl F0 H0 G σ F1 H1 D g (e.ext e1) (qr.mono e1.ff) (fun a b c d' r q2 s2 => k1 a b c d' r q2 (e1.ff.trans s2)) k2 (fun a b c d' r q2 s2 => k3 a b c d' r q2 (e1.ff.trans s2)) fun a b c d' r q2 s2 => k4 a b c d' r q2 (e1.ff.trans s2))
theorem SmQ.mono {P' : PoQ} (h : SmQ T W t d ρ q P) (h1 : ∀ r q, P.nx r q → P'.nx r q) (h2 : ∀ x r, P.rt x r → P'.rt x r) (h3 : ∀ r q, P.bk r q → P'.bk r q) (h4 : ∀ r q, P.ct r q → P'.ct r q) : SmQ T W t d ρ q P' := fun F0 H0 G σ F H D g e qr k1 k2 k3 k4 =>
  h F0 H0 G σ F H D g e qr (fun a b c d' r q2 s g' e' qr' p => k1 a b c d' r q2 s g' e' qr' (h1 _ _ p)) (fun v a b c r x e' rr p => k2 v a b c r x e' rr (h2 _ _ p)) (fun a b c d' r q2 s g' e' qr' p => k3 a b c d' r q2 s g' e' qr' (h3 _ _ p)) fun a b c d' r q2 s g' e' qr' p => k4 a b c d' r q2 s g' e' qr' (h4 _ _ p)
/-- a for over data, its body may use the queue -/
theorem smq_for {wi : TI} {g : TG} {tb : TS} {R : List PyData → Prop} (hw : Wk T wi ρ R)
    (hx : ∀ xs, R xs → ∃ I : Nat → List Sl → Que → Prop, I 0 ρ q ∧ (∀ i x r q', xs[i]? = some x → I i r q' → ∃ r', Tg T g x r r' ∧ SmQ T W tb d r' q' { nx := I (i + 1), ct := I (i + 1), bk := P.nx, rt := P.rt }) ∧ ∀ r q', I xs.length r q' → P.nx r q') : SmQ T W (tFor wi g tb) d ρ q P := fun F0 H0 G σ F H D gk e qr k1 k2 k3 k4 => by
  refine hw F0 _ σ F H e _ fun J F1 H1 xs x1 px wk => ?_
  obtain ⟨I, h0, hs, hd⟩ := hx xs px
  refine ⟨fun i m σ' H' => m = xs.length - i ∧ i ≤ xs.length ∧ ∃ F' G' ρ' q', Same F1 F' ∧ GOk T F0 H0 G' ∧ Env T F0 (joinH H0 G') F' H' σ' ρ' ∧ QRep F' G' d q' ∧ I i ρ' q', ⟨xs.length, by simp, Nat.zero_le _, F1, G, ρ, q, Same.refl _, gk, e.ext x1, qr.mono x1.ff, h0⟩, ?_⟩
  rintro i m σ2 H2 ⟨rfl, hi, F2, G2, ρ2, q2, s2, g2, e2, qr2, i2⟩
  have sF : Same F F2 := x1.ff.trans s2
  by_cases hlt : i < xs.length
  · refine .inr ⟨wk.go i F2 H2 s2 e2.le hlt, fun σ' H' => ∃ F' G' ρ' q', Same F1 F' ∧ GOk T F0 H0 G' ∧ Env T F0 (joinH H0 G') F' H' σ' ρ' ∧ QRep F' G' d q' ∧ I (i + 1) ρ' q', fun σ' H' z => ⟨xs.length - (i + 1), by omega, rfl, hlt, z⟩, fun v H3 hy => ?_⟩
    obtain ⟨F3, x, hxi, x3, r3⟩ := wk.yld i F2 H2 v H3 s2 e2.le e2.tn hlt hy
    obtain ⟨ρ4, tg, body⟩ := hs i x ρ2 q2 hxi i2
    have s3 : Same F F3 := sF.trans x3.ff
    refine tg F0 _ σ2 F3 H3 v (e2.ext x3) r3 _ fun σ4 e4 => ?_
    exact body F0 H0 G2 σ4 F3 H3 _ g2 e4 (qr2.mono x3.ff) (fun a b c d' r q' s g' e' qr' p => ⟨b, d', r, q', (s2.trans x3.ff).trans s, g', e', qr', p⟩) k2 (fun a b c d' r q' s g' e' qr' p => k1 a b c d' r q' (s3.trans s) g' e' qr' p) fun a b c d' r q' s g' e' qr' p => ⟨b, d', r, q', (s2.trans x3.ff).trans s, g', e', qr', p⟩
  · obtain rfl : i = xs.length := by omega
    exact .inl ⟨wk.stop _ F2 H2 s2 e2.le (Nat.le_refl _), k1 _ F2 H2 G2 ρ2 q2 sF g2 e2 qr2 (hd ρ2 q2 i2)⟩
/-- while queue != {} -/
theorem smq_while {iq : Nat} {tb : TS} (I : Nat → List Sl → Que → Prop) {m0 : Nat} (h0 : I m0 ρ q) (hq : ∀ m r q', I m r q' → r[iq]? = some (.raw (.ref d)))
    (hs : ∀ m r q', I m r q' → q' ≠ [] → SmQ T W tb d r q' { nx := fun r' q2 => ∃ m', m' < m ∧ I m' r' q2, ct := fun r' q2 => ∃ m', m' < m ∧ I m' r' q2, bk := P.nx, rt := P.rt }) (hd : ∀ m r, I m r [] → P.nx r []) : SmQ T W (tWhile (tTest (tOp rNeD0 (tVar iq) tDNewK)) tb) d ρ q P := fun F0 H0 G σ F H D gk e qr k1 k2 k3 k4 => by
  refine ⟨fun m σ' H' => ∃ F' G' ρ' q', Same F F' ∧ GOk T F0 H0 G' ∧ Env T F0 (joinH H0 G') F' H' σ' ρ' ∧ QRep F' G' d q' ∧ I m ρ' q', ⟨m0, F, G, ρ, q, Same.refl _, gk, e, qr, h0⟩, ?_⟩
  rintro m σ1 H1 ⟨F1, G1, ρ1, q1, s1, g1, e1, qr1, i1⟩
  obtain ⟨es, hd1, hp, n1, n2⟩ := id qr1
  have hH := (e1.inG g1 hd1).1
  refine ⟨.ref d, e1.getRaw (hq m ρ1 q1 i1), fun p hp2 => ?_⟩
  have x2 : Ext T F1 H1 F1 (upd H1 p (.dK [])) := Ext.new1 e1.le hp2
  have hne : d ≠ p := ne_of_none hH hp2
  refine ⟨d, p, qK es, rfl, rfl, by rw [upd_ne hne]; exact hH, upd_same, ?_⟩
  have eqv : decide (qK es = []) = decide (q1 = []) := by
    refine decide_eq_decide.mpr ?_
    cases hp with
    | nil => exact ⟨fun _ => rfl, fun _ => rfl⟩
    | cons _ _ => exact ⟨fun z => (by cases z), fun z => (by cases z)⟩
  rw [eqv]
  have e2 := e1.ext x2
  refine ⟨_, rfl, ?_⟩
  cases hb : decide (q1 = []) with
  | true =>
    have := of_decide_eq_true hb
    subst this
    exact iteF (k1 _ F1 _ G1 ρ1 [] s1 g1 e2 qr1 (hd m ρ1 i1))
  | false =>
    refine iteT ⟨fun σ' H' => ∃ m', m' < m ∧ ∃ F' G' ρ' q', Same F F' ∧ GOk T F0 H0 G' ∧ Env T F0 (joinH H0 G') F' H' σ' ρ' ∧ QRep F' G' d q' ∧ I m' ρ' q', fun σ' H' ⟨m', lt, z⟩ => ⟨m', lt, z⟩, ?_⟩
    exact hs m ρ1 q1 i1 (of_decide_eq_false hb) F0 H0 G1 σ1 F1 _ _ g1 e2 qr1 (fun a b c d' r q' s g' e' qr' ⟨m', lt, p⟩ => ⟨m', lt, b, d', r, q', s1.trans s, g', e', qr', p⟩) k2 (fun a b c d' r q' s g' e' qr' p => k1 a b c d' r q' (s1.trans s) g' e' qr' p) fun a b c d' r q' s g' e' qr' ⟨m', lt, p⟩ => ⟨m', lt, b, d', r, q', s1.trans s, g', e', qr', p⟩
end
end Tr

set_option Elab.async false
set_option linter.all false
set_option maxRecDepth 100000
/-! Lay33: the queue filled and emptied. -/
namespace Tr
open PySem PySem.Spec PyProof.Rows L2 TL
variable [PWc]
def qAdd : Que → Int → PyData → Que
  | [], k, x => [(k, [x])]
  | (j, xs) :: r, k, x => if j = k then (j, xs ++ [x]) :: r else (j, xs) :: qAdd r k x
def qAt : Que → Int → List PyData
  | [], _ => []
  | (j, xs) :: r, k => if j = k then xs else qAt r k
def qDrop : Que → Int → Que
  | [], _ => []
  | (j, xs) :: r, k => if j = k then qDrop r k else (j, xs) :: qDrop r k
theorem qAdd_no : ∀ {q : Que} {k : Int} {x : PyData}, ¬ k ∈ q.map (·.1) → qAdd q k x = q ++ [(k, [x])]
  | [], k, x, _ => rfl
  | (j, xs) :: r, k, x, h => by
    have h1 : ¬ j = k := fun e => h (by simp [e])
    have h2 : ¬ k ∈ r.map (·.1) := fun e => h (List.mem_cons_of_mem _ e)
    show (if j = k then _ else _) = _
    rw [if_neg h1, qAdd_no h2]
    rfl
theorem qAdd_mid : ∀ {q1 q2 : Que} {k : Int} {xs : List PyData} {x : PyData}, ¬ k ∈ q1.map (·.1) → qAdd (q1 ++ (k, xs) :: q2) k x = q1 ++ (k, xs ++ [x]) :: q2
  | [], q2, k, xs, x, _ => by
    show (if k = k then _ else _) = _
    rw [if_pos rfl]
    rfl
  | (j, ys) :: r, q2, k, xs, x, h => by
    have h1 : ¬ j = k := fun e => h (by simp [e])
    have h2 : ¬ k ∈ r.map (·.1) := fun e => h (List.mem_cons_of_mem _ e)
    show (if j = k then _ else _) = _
    rw [if_neg h1]
    show _ :: qAdd (r ++ (k, xs) :: q2) k x = _
    rw [qAdd_mid h2]
    rfl
theorem qAt_no : ∀ {q : Que} {k : Int}, ¬ k ∈ q.map (·.1) → qAt q k = []
  | [], k, _ => rfl
  | (j, xs) :: r, k, h => by
    have h1 : ¬ j = k := fun e => h (by simp [e])
    have h2 : ¬ k ∈ r.map (·.1) := fun e => h (List.mem_cons_of_mem _ e)
    show (if j = k then _ else _) = _
    rw [if_neg h1, qAt_no h2]
theorem qAt_mid : ∀ {q1 q2 : Que} {k : Int} {xs : List PyData}, ¬ k ∈ q1.map (·.1) → qAt (q1 ++ (k, xs) :: q2) k = xs
  | [], q2, k, xs, _ => by
    show (if k = k then _ else _) = _
    rw [if_pos rfl]
  | (j, ys) :: r, q2, k, xs, h => by
    have h1 : ¬ j = k := fun e => h (by simp [e])
    have h2 : ¬ k ∈ r.map (·.1) := fun e => h (List.mem_cons_of_mem _ e)
    show (if j = k then _ else _) = _
    rw [if_neg h1]
    exact qAt_mid h2
theorem qDrop_no : ∀ {q : Que} {k : Int}, ¬ k ∈ q.map (·.1) → qDrop q k = q
  | [], k, _ => rfl
  | (j, xs) :: r, k, h => by
    have h1 : ¬ j = k := fun e => h (by simp [e])
    have h2 : ¬ k ∈ r.map (·.1) := fun e => h (List.mem_cons_of_mem _ e)
    show (if j = k then _ else _) = _
    rw [if_neg h1, qDrop_no h2]
theorem qDrop_mid : ∀ {q1 q2 : Que} {k : Int} {xs : List PyData}, ¬ k ∈ q1.map (·.1) → ¬ k ∈ q2.map (·.1) → qDrop (q1 ++ (k, xs) :: q2) k = q1 ++ q2
  | [], q2, k, xs, _, h3 => by
    show (if k = k then _ else _) = _
    rw [if_pos rfl]
    exact qDrop_no h3
  | (j, ys) :: r, q2, k, xs, h, h3 => by
    have h1 : ¬ j = k := fun e => h (by simp [e])
    have h2 : ¬ k ∈ r.map (·.1) := fun e => h (List.mem_cons_of_mem _ e)
    show (if j = k then _ else _) = _
    rw [if_neg h1]
    show _ :: qDrop (r ++ (k, xs) :: q2) k = _
    rw [qDrop_mid h2 h3]
    rfl
/-! ### the dict of the queue -/
theorem qK_val_no {es : List (Int × Addr)} {k : Int} (h : ¬ k ∈ es.map (·.1)) : valV (qK es) (.inl k) = none := by
  induction es with
  | nil => rfl
  | cons p r ih =>
    have h1 : ¬ p.1 = k := fun e => h (by simp [e])
    have h2 : ¬ k ∈ r.map (·.1) := fun e => h (List.mem_cons_of_mem _ e)
    show valV ((Sum.inl p.1, V.ref p.2) :: qK r) _ = _
    rw [valV_neg (by intro e; exact h1 (Sum.inl.inj e))]
    exact ih h2
theorem qK_val_mid {es1 es2 : List (Int × Addr)} {k : Int} {a : Addr} (h : ¬ k ∈ es1.map (·.1)) : valV (qK (es1 ++ (k, a) :: es2)) (.inl k) = some (.ref a) := by
  induction es1 with
  | nil => exact valV_pos rfl
  | cons p r ih =>
    have h1 : ¬ p.1 = k := fun e => h (by simp [e])
    have h2 : ¬ k ∈ r.map (·.1) := fun e => h (List.mem_cons_of_mem _ e)
    show valV ((Sum.inl p.1, V.ref p.2) :: qK (r ++ (k, a) :: es2)) _ = _
    rw [valV_neg (by intro e; exact h1 (Sum.inl.inj e))]
    exact ih h2
theorem qK_drop_no {es : List (Int × Addr)} {k : Int} (h : ¬ k ∈ es.map (·.1)) : dropK (qK es) (.inl k) = qK es := by
  induction es with
  | nil => rfl
  | cons p r ih =>
    have h1 : ¬ p.1 = k := fun e => h (by simp [e])
    have h2 : ¬ k ∈ r.map (·.1) := fun e => h (List.mem_cons_of_mem _ e)
    show dropK ((Sum.inl p.1, V.ref p.2) :: qK r) _ = _
    rw [dropK_neg (by intro e; exact h1 (Sum.inl.inj e)), ih h2]
    rfl
theorem qK_drop_mid {es1 es2 : List (Int × Addr)} {k : Int} {a : Addr} (h : ¬ k ∈ es1.map (·.1)) (h3 : ¬ k ∈ es2.map (·.1)) : dropK (qK (es1 ++ (k, a) :: es2)) (.inl k) = qK (es1 ++ es2) := by
  induction es1 with
  | nil =>
    show dropK ((Sum.inl k, V.ref a) :: qK es2) _ = _
    rw [dropK_pos rfl]
    exact qK_drop_no h3
  | cons p r ih =>
    have h1 : ¬ p.1 = k := fun e => h (by simp [e])
    have h2 : ¬ k ∈ r.map (·.1) := fun e => h (List.mem_cons_of_mem _ e)
    show dropK ((Sum.inl p.1, V.ref p.2) :: qK (r ++ (k, a) :: es2)) _ = _
    rw [dropK_neg (by intro e; exact h1 (Sum.inl.inj e)), ih h2]
    rfl
theorem pair_keys {F G : Hp} : ∀ {es : List (Int × Addr)} {q : Que}, Paired (QEn F G) es q → es.map (·.1) = q.map (·.1)
  | _, _, .nil => rfl
  | _, _, .cons h t => congr (congrArg List.cons h.1) (pair_keys t)
theorem pair_split {F G : Hp} {k : Int} : ∀ {es : List (Int × Addr)} {q : Que}, Paired (QEn F G) es q → ¬ k ∈ es.map (·.1) ∨ ∃ es1 a es2 q1 xs q2, es = es1 ++ (k, a) :: es2 ∧ q = q1 ++ (k, xs) :: q2 ∧ ¬ k ∈ es1.map (·.1) ∧ Paired (QEn F G) es1 q1 ∧ QEn F G (k, a) (k, xs) ∧ Paired (QEn F G) es2 q2
  | _, _, .nil => .inl (by simp)
  | _, _, .cons (a := a) (b := b) (l₁ := as) (l₂ := bs) h t => by
    by_cases e : a.1 = k
    · obtain ⟨j, p⟩ := a
      obtain ⟨j2, xs⟩ := b
      have e2 : j = j2 := h.1
      subst e2
      have e3 : j = k := e
      subst e3
      exact .inr ⟨[], p, as, [], xs, bs, rfl, rfl, by simp, .nil, h, t⟩
    · rcases pair_split (k := k) t with q | ⟨es1, p, es2, q1, xs, q2, e1, e2, hn, p1, p2, p3⟩
      · refine .inl fun m => ?_
        rcases List.mem_cons.mp m with m | m
        · exact e m.symm
        · exact q m
      · refine .inr ⟨a :: es1, p, es2, b :: q1, xs, q2, by rw [e1]; rfl, by rw [e2]; rfl, fun m => ?_, .cons h p1, p2, p3⟩
        rcases List.mem_cons.mp m with m | m
        · exact e m.symm
        · exact hn m
theorem pair_app {α β : Type} {R : α → β → Prop} : ∀ {as : List α} {bs : List β} {cs : List α} {ds : List β}, Paired R as bs → Paired R cs ds → Paired R (as ++ cs) (bs ++ ds)
  | _, _, _, _, .nil, h => h
  | _, _, _, _, .cons a t, h => .cons a (pair_app t h)
section
variable {T : Tn} {F0 H0 G F H : Hp} {σ : L2.St} {ρ : List Sl} {d : Addr} {q : Que}
theorem QRep.keys (h : QRep F G d q) : (q.map (·.1)).Nodup := by
  obtain ⟨es, _, h2, _, h4⟩ := h
  rw [← pair_keys h2]
  exact h4
/-- x joins the list at a, which stands for xs under k -/
theorem env_grow {k : Int} {a : Addr} {v : V} {x : PyData} {es : List (Int × Addr)} {vs : List V} (e : Env T F0 (joinH H0 G) F H σ ρ) (g : GOk T F0 H0 G) (hd : G d = some (.dK (qK es))) (hp : Paired (QEn F G) es q) (n1 : (es.map (·.2)).Nodup) (n2 : (es.map (·.1)).Nodup) (hm : (k, a) ∈ es) (ha : G a = some (.lst vs)) (r : Rp F v x) :
    ∃ G', Env T F0 (joinH H0 G') F (upd H a (.lst (vs ++ [v]))) σ ρ ∧ GOk T F0 H0 G' ∧ QRep F G' d (qAdd q k x) := by
  obtain ⟨hH, hF⟩ := e.inG g ha
  obtain ⟨nt, f0, h0⟩ := g a _ ha
  have hda : d ≠ a := fun z => by
    rw [z, ha] at hd
    cases hd
  obtain ⟨e', g'⟩ := e.chg (G' := upd G a (.lst (vs ++ [v]))) (F' := F) (H' := upd H a (.lst (vs ++ [v]))) g (fun b => b = a) (fun b z => by
    subst z
    exact ⟨nt, h0, .inl (by rw [ha]; intro z; cases z)⟩) (fun b o z hb => by rw [upd_ne z]; exact hb) (fun _ _ z => z) (Same.refl _) (fun b o hb => by
      have : b ≠ a := fun z => by
        rw [z, hF] at hb
        cases hb
      rw [upd_ne this]
      exact e.le _ _ hb) fun b o hb => by
    by_cases z : b = a
    · subst z
      rw [upd_same] at hb ⊢
      exact ⟨hb, hF, f0, .inl rfl⟩
    · rw [upd_ne z] at hb ⊢
      obtain ⟨y1, y2⟩ := e.inG g hb
      exact ⟨y1, y2, (g b _ hb).2.1, .inr hb⟩
  refine ⟨_, e', g', es, by rw [upd_ne hda]; exact hd, ?_, n1, n2⟩
  rcases pair_split (k := k) hp with z | ⟨es1, p, es2, q1, xs, q2, e1, e2, hn, p1, p2, p3⟩
  · exact absurd (List.mem_map_of_mem hm) z
  · subst e1
    subst e2
    rw [qAdd_mid (by rw [← pair_keys p1]; exact hn)]
    have pa : p = a := by
      rw [List.map_append, List.map_cons, List.nodup_append] at n2
      rcases List.mem_append.mp hm with m | m
      · exact absurd (List.mem_map_of_mem m) hn
      · rcases List.mem_cons.mp m with m | m
        · cases m
          rfl
        · exact absurd (List.mem_map_of_mem m) (List.nodup_cons.mp n2.2.1).1
    subst pa
    rw [List.map_append, List.map_cons, List.nodup_append] at n1
    have old : ∀ {es' : List (Int × Addr)} {q' : Que}, ¬ p ∈ es'.map (·.2) → Paired (QEn F G) es' q' → Paired (QEn F (upd G p (.lst (vs ++ [v])))) es' q' := fun {es' q'} hnm h => pair_imp2 h fun b y hb ⟨z1, us, z2, z3⟩ => ⟨z1, us, by
      rw [upd_ne fun z => hnm (by rw [← z]; exact List.mem_map_of_mem hb)]
      exact z2, z3⟩
    refine pair_app (old (fun m => n1.2.2 p m p (by simp) rfl) p1) (.cons ⟨rfl, vs ++ [v], upd_same, ?_⟩ (old (List.nodup_cons.mp n1.2.1).1 p3))
    obtain ⟨_, us, z2, z3⟩ := p2
    rw [ha] at z2
    cases z2
    exact z3.snoc r
end
section
variable {T : Tn} {W : WX} {K : PySem.W.Frag} {ρ : List Sl} {P : PoQ} {d : Addr} {q : Que} {t u : TS} {te tk : TE}
/-- queue.setdefault(k, []).append(x) -/
theorem smq_add {iq : Nat} {k : Int} {x : PyData} (hi : ρ[iq]? = some (.raw (.ref d))) (hk : Ev T tk ρ (.int k)) (hx : Ev T te ρ x) (hl : q.length < sizeLine) (hs : (qAt q k).length < sizeLine) (p : P.nx ρ (qAdd q k x)) :
    SmQ T W (tDrop (tBM K "list" rAppend (tDSetd (tVar iq) tk (tLst tNil)) (tCons te tNil))) d ρ q P := fun F0 H0 G σ F H D g e qr k1 _ _ _ => by
  obtain ⟨es, hd, hp, n1, n2⟩ := qr
  have hH := (e.inG g hd).1
  refine ⟨.ref d, e.getRaw hi, d, rfl, .inl ⟨_, .inl hH⟩, hk F0 _ σ F H e _ fun u F1 H1 x1 r1 => ⟨Nat.zero_le _, fun y hy => ?_⟩⟩
  have e1 := e.ext x1
  have hp1 : Paired (QEn F1 G) es q := pair_imp2 hp fun a b _ ⟨z1, us, z2, z3⟩ => ⟨z1, us, z2, z3.mono x1.ff⟩
  have hdH1 := (e1.inG g hd).1
  have hyd : d ≠ y := ne_of_none hdH1 hy
  have el : es.length = q.length := by
    have := congrArg List.length (pair_keys hp)
    rwa [List.length_map, List.length_map] at this
  have x2 : Ext T F1 H1 F1 (upd H1 y (.lst [])) := Ext.new1 e1.le hy
  refine ⟨qK es, .inl k, by rw [upd_ne hyd]; exact hdH1, r1.int_eq, by unfold qK; rw [List.length_map, el]; exact hl, fun v hv => ?_, fun hv => ?_⟩
  · rcases pair_split (k := k) hp1 with z | ⟨es1, a, es2, q1, xs, q2, eq1, eq2, hn, p1, p2, p3⟩
    · rw [qK_val_no z] at hv
      cases hv
    · obtain ⟨_, vs, ga, ra⟩ := id p2
      have hm : (k, a) ∈ es := by rw [eq1]; simp
      rw [eq1, qK_val_mid hn] at hv
      cases hv
      have e2 := e1.ext x2
      refine ⟨.inl ⟨rfl, vs, SqL.of (e2.inG g ga).1⟩, hx F0 _ σ F1 _ e2 _ fun w F3 H3 x3 r3 => ?_⟩
      have e3 := e2.ext x3
      have hp3 : Paired (QEn F3 G) es q := pair_imp2 hp1 fun a b _ ⟨z1, us, z2, z3⟩ => ⟨z1, us, z2, z3.mono x3.ff⟩
      obtain ⟨G', e4, g4, qr4⟩ := env_grow (x := x) (v := w) e3 g hd hp3 n1 n2 hm ga r3
      have ll : vs.length < sizeLine := by
        rw [eq2, qAt_mid (by rw [← pair_keys p1]; exact hn)] at hs
        rw [ra.length]
        exact hs
      exact ⟨a, vs, w, rfl, rfl, (e3.inG g ga).1, ll, k1 _ F3 _ G' ρ _ ((x1.ff).trans x3.ff) g4 e4 qr4 p⟩
  · have hn : ¬ k ∈ es.map (·.1) := by
      rcases pair_split (k := k) hp1 with z | ⟨es1, a, es2, q1, xs, q2, eq1, eq2, hn, p1, p2, p3⟩
      · exact z
      · rw [eq1, qK_val_mid hn] at hv
        cases hv
    have hyF : F1 y = none := e1.le.free hy
    have hyT : ¬ T y := fun z => by
      obtain ⟨_, o, h1, _⟩ := e1.tn y z
      rw [hy] at h1
      cases h1
    have hyJ : joinH H0 G y = none := by
      cases z : joinH H0 G y with
      | none => rfl
      | some o =>
        rw [e1.ex.hh y o hyT z] at hy
        cases hy
    obtain ⟨hyG, hyH⟩ := joinH_none hyJ
    have hyF0 : F0 y = none := by
      cases z : F0 y with
      | none => rfl
      | some o =>
        rw [e1.ex.ff y o z] at hyF
        cases hyF
    obtain ⟨dT, dF, dH⟩ := g d _ hd
    have dF1 := (e1.inG g hd).2
    have nk : putK (qK es) (.inl k) (.ref y) = qK (es ++ [(k, y)]) := by
      rw [putK_new _ hv]
      unfold qK
      rw [List.map_append]
      rfl
    rw [nk]
    obtain ⟨e2, g2⟩ := e1.chg (G' := upd (upd G y (.lst [])) d (.dK (qK (es ++ [(k, y)])))) (F' := F1) (H' := upd (upd H1 y (.lst [])) d (.dK (qK (es ++ [(k, y)])))) g (fun b => b = d ∨ b = y) (fun b z => by
      rcases z with z | z
      · subst z
        exact ⟨dT, dH, .inl (by rw [hd]; intro z; cases z)⟩
      · subst z
        exact ⟨hyT, hyH, .inr hy⟩) (fun b o z hb => by
      rw [upd_ne fun w => z (.inl w), upd_ne fun w => z (.inr w)]
      exact hb) (fun _ _ z => z) (Same.refl _) (fun b o hb => by
      have z1 : b ≠ d := fun z => by
        rw [z, dF1] at hb
        cases hb
      have z2 : b ≠ y := fun z => by
        rw [z, hyF] at hb
        cases hb
      rw [upd_ne z1, upd_ne z2]
      exact e1.le _ _ hb) fun b o hb => by
      by_cases z : b = d
      · subst z
        rw [upd_same] at hb ⊢
        exact ⟨hb, dF1, dF, .inl (.inl rfl)⟩
      · rw [upd_ne z] at hb ⊢
        by_cases z2 : b = y
        · subst z2
          rw [upd_same] at hb ⊢
          exact ⟨hb, hyF, hyF0, .inl (.inr rfl)⟩
        · rw [upd_ne z2] at hb ⊢
          obtain ⟨y1, y2⟩ := e1.inG g hb
          exact ⟨y1, y2, (g b _ hb).2.1, .inr hb⟩
    have ny : ¬ y ∈ es.map (·.2) := fun m => by
      obtain ⟨b, hb, eb⟩ := List.mem_map.mp m
      obtain ⟨i, hi'⟩ := List.getElem?_of_mem hb
      have : ∀ {es : List (Int × Addr)} {q : Que}, Paired (QEn F1 G) es q → b ∈ es → G b.2 ≠ none := fun {es q} h => by
        induction h with
        | nil => intro z; cases z
        | cons h _ ih =>
          intro z
          rcases List.mem_cons.mp z with z | z
          · subst z
            obtain ⟨_, us, z2, _⟩ := h
            rw [z2]
            intro w
            cases w
          · exact ih z
      exact this hp1 hb (by rw [eb]; exact hyG)
    have gy : (upd (upd G y (.lst [])) d (.dK (qK (es ++ [(k, y)])))) y = some (.lst []) := by
      rw [upd_ne hyd.symm, upd_same]
    have hp2 : Paired (QEn F1 (upd (upd G y (.lst [])) d (.dK (qK (es ++ [(k, y)]))))) (es ++ [(k, y)]) (q ++ [(k, [])]) := by
      refine pair_app (pair_imp2 hp1 fun b z hb ⟨z1, us, z2, z3⟩ => ⟨z1, us, ?_, z3⟩) (.cons ⟨rfl, [], gy, .nil⟩ .nil)
      rw [upd_ne, upd_ne]
      · exact z2
      · intro w
        exact ny (by rw [← w]; exact List.mem_map_of_mem hb)
      · intro w
        rw [w, hd] at z2
        cases z2
    refine ⟨.inl ⟨rfl, [], SqL.of (e2.inG g2 gy).1⟩, hx F0 _ σ F1 _ e2 _ fun w F3 H3 x3 r3 => ?_⟩
    have e3 := e2.ext x3
    have hp3 := pair_imp2 hp2 (R' := QEn F3 _) fun a b _ ⟨z1, us, z2, z3⟩ => ⟨z1, us, z2, z3.mono x3.ff⟩
    have m1 : ((es ++ [(k, y)]).map (·.2)).Nodup := by
      rw [List.map_append, List.nodup_append]
      exact ⟨n1, by simp, fun a ha b hb => by
        intro z
        have : b = y := by simpa using hb
        rw [z, this] at ha
        exact ny ha⟩
    have m2 : ((es ++ [(k, y)]).map (·.1)).Nodup := by
      rw [List.map_append, List.nodup_append]
      exact ⟨n2, by simp, fun a ha b hb => by
        intro z
        have : b = k := by simpa using hb
        rw [z, this] at ha
        exact hn ha⟩
    obtain ⟨G', e4, g4, qr4⟩ := env_grow (k := k) (x := x) (v := w) e3 g2 upd_same hp3 m1 m2 (by simp) gy r3
    have hnq : ¬ k ∈ q.map (·.1) := by
      rw [← pair_keys hp1]
      exact hn
    rw [qAdd_mid hnq] at qr4
    rw [qAdd_no hnq] at p
    exact ⟨y, [], w, rfl, rfl, (e3.inG g2 gy).1, by decide, k1 _ F3 _ G' ρ _ (x1.ff.trans x3.ff) g4 e4 qr4 p⟩
/-- the loop of a for whose things are walked as data -/
theorem for_loop {F0 H0 F1 H1 G : Hp} {σ : L2.St} {D : Ends} {J : It} {g : TG} {tb : TS} {xs : List PyData} (gk : GOk T F0 H0 G) (e : Env T F0 (joinH H0 G) F1 H1 σ ρ) (qr : QRep F1 G d q) (wk : Walks T F1 J xs) (I : Nat → List Sl → Que → Prop) (h0 : I 0 ρ q) (hs : ∀ i x r q', xs[i]? = some x → I i r q' → ∃ r', Tg T g x r r' ∧ SmQ T W tb d r' q' { nx := I (i + 1), ct := I (i + 1), bk := P.nx, rt := P.rt }) (hd : ∀ r q', I xs.length r q' → P.nx r q')
    (k1 : ∀ σ' F' H' G' ρ' q', Same F1 F' → GOk T F0 H0 G' → Env T F0 (joinH H0 G') F' H' σ' ρ' → QRep F' G' d q' → P.nx ρ' q' → D.nx σ' H') (k2 : ∀ v σ' F' H' ρ' x, Env T F0 H0 F' H' σ' ρ' → Rp F' v x → P.rt x ρ' → D.rt v H') :
    ∃ W : Nat → Nat → L2.St → Hp → Prop, (∃ m, W 0 m σ H1) ∧ ∀ i m σ H, W i m σ H → (J.stop i H ∧ D.nx σ H) ∨ (J.go i H ∧ ∃ N : L2.St → Hp → Prop, (∀ σ' H', N σ' H' → ∃ m', m' < m ∧ W (i + 1) m' σ' H') ∧ ∀ x H', J.yld i H x H' → g x σ H' fun σ2 H2 => tb { D with nx := N, ct := N, bk := D.nx } σ2 H2) := by
  refine ⟨fun i m σ' H' => m = xs.length - i ∧ i ≤ xs.length ∧ ∃ F' G' ρ' q', Same F1 F' ∧ GOk T F0 H0 G' ∧ Env T F0 (joinH H0 G') F' H' σ' ρ' ∧ QRep F' G' d q' ∧ I i ρ' q', ⟨xs.length, by simp, Nat.zero_le _, F1, G, ρ, q, Same.refl _, gk, e, qr, h0⟩, ?_⟩
  rintro i m σ2 H2 ⟨rfl, hi, F2, G2, ρ2, q2, s2, g2, e2, qr2, i2⟩
  by_cases hlt : i < xs.length
  · refine .inr ⟨wk.go i F2 H2 s2 e2.le hlt, fun σ' H' => ∃ F' G' ρ' q', Same F1 F' ∧ GOk T F0 H0 G' ∧ Env T F0 (joinH H0 G') F' H' σ' ρ' ∧ QRep F' G' d q' ∧ I (i + 1) ρ' q', fun σ' H' z => ⟨xs.length - (i + 1), by omega, rfl, hlt, z⟩, fun v H3 hy => ?_⟩
    obtain ⟨F3, x, hxi, x3, r3⟩ := wk.yld i F2 H2 v H3 s2 e2.le e2.tn hlt hy
    obtain ⟨ρ4, tg, body⟩ := hs i x ρ2 q2 hxi i2
    refine tg F0 _ σ2 F3 H3 v (e2.ext x3) r3 _ fun σ4 e4 => ?_
    exact body F0 H0 G2 σ4 F3 H3 _ g2 e4 (qr2.mono x3.ff) (fun a b c d' r q' s g' e' qr' p => ⟨b, d', r, q', (s2.trans x3.ff).trans s, g', e', qr', p⟩) k2 (fun a b c d' r q' s g' e' qr' p => k1 a b c d' r q' ((s2.trans x3.ff).trans s) g' e' qr' p) fun a b c d' r q' s g' e' qr' p => ⟨b, d', r, q', (s2.trans x3.ff).trans s, g', e', qr', p⟩
  · obtain rfl : i = xs.length := by omega
    exact .inl ⟨wk.stop _ F2 H2 s2 e2.le (Nat.le_refl _), k1 _ F2 H2 G2 ρ2 q2 s2 g2 e2 qr2 (hd ρ2 q2 i2)⟩
/-- for .. in queue.pop(k, []) -/
theorem smq_forPop {iq : Nat} {k : Int} {g : TG} {tb : TS} (hi : ρ[iq]? = some (.raw (.ref d))) (hk : Ev T tk ρ (.int k)) (I : Nat → List Sl → Que → Prop) (h0 : I 0 ρ (qDrop q k))
    (hs : ∀ i x r q', (qAt q k)[i]? = some x → I i r q' → ∃ r', Tg T g x r r' ∧ SmQ T W tb d r' q' { nx := I (i + 1), ct := I (i + 1), bk := P.nx, rt := P.rt }) (hd : ∀ r q', I (qAt q k).length r q' → P.nx r q') : SmQ T W (tFor (iAny K (tDPop2 (tVar iq) tk (tLst tNil))) g tb) d ρ q P := fun F0 H0 G σ F H D gk e qr k1 k2 k3 k4 => by
  obtain ⟨es, hdd, hp, n1, n2⟩ := qr
  have hH := (e.inG gk hdd).1
  refine ⟨.ref d, e.getRaw hi, d, rfl, .inl ⟨_, .inl hH⟩, hk F0 _ σ F H e _ fun u F1 H1 x1 r1 => ⟨Nat.zero_le _, fun y hy => ?_⟩⟩
  have e1 := e.ext x1
  have hp1 : Paired (QEn F1 G) es q := pair_imp2 hp fun a b _ ⟨z1, us, z2, z3⟩ => ⟨z1, us, z2, z3.mono x1.ff⟩
  obtain ⟨hdH1, hdF1⟩ := e1.inG gk hdd
  have hyd : d ≠ y := ne_of_none hdH1 hy
  refine ⟨qK es, .inl k, by rw [upd_ne hyd]; exact hdH1, r1.int_eq, fun v hv => ?_, fun hv => ?_⟩
  · have x2 : Ext T F1 H1 F1 (upd H1 y (.lst [])) := Ext.new1 e1.le hy
    have e2 := e1.ext x2
    rcases pair_split (k := k) hp1 with z | ⟨es1, a, es2, q1, xs, q2, eq1, eq2, hn, p1, p2, p3⟩
    · rw [qK_val_no z] at hv
      cases hv
    · obtain ⟨_, vs, ga, ra⟩ := id p2
      subst eq1
      subst eq2
      have hnq : ¬ k ∈ q1.map (·.1) := by rw [← pair_keys p1]; exact hn
      have hn2 : ¬ k ∈ es2.map (·.1) := by
        rw [List.map_append, List.map_cons, List.nodup_append] at n2
        exact (List.nodup_cons.mp n2.2.1).1
      have hnq2 : ¬ k ∈ q2.map (·.1) := by rw [← pair_keys p3]; exact hn2
      rw [qK_val_mid hn] at hv
      cases hv
      rw [qK_drop_mid hn hn2]
      rw [qAt_mid hnq] at hs hd
      rw [qDrop_mid hnq hnq2] at h0
      obtain ⟨haH, haF⟩ := e2.inG gk ga
      obtain ⟨aT, aF, aH⟩ := gk a _ ga
      obtain ⟨dT, dF, dH⟩ := gk d _ hdd
      have hda : d ≠ a := fun z => by
        rw [z, ga] at hdd
        cases hdd
      obtain ⟨hdH2, hdF2⟩ := e2.inG gk hdd
      have sF : Same F1 (upd F1 a (.lst vs)) := same_new haF
      obtain ⟨e3, g3⟩ := e2.chg (G' := fun b => if b = a then none else upd G d (.dK (qK (es1 ++ es2))) b) (F' := upd F1 a (.lst vs)) (H' := upd (upd H1 y (.lst [])) d (.dK (qK (es1 ++ es2)))) gk (fun b => b = d ∨ b = a) (fun b z => by
        rcases z with z | z
        · subst z
          exact ⟨dT, dH, .inl (by rw [hdd]; intro z; cases z)⟩
        · subst z
          exact ⟨aT, aH, .inl (by rw [ga]; intro z; cases z)⟩) (fun b o z hb => by
        rw [upd_ne fun w => z (.inl w)]
        exact hb) (fun b z hb => by
        rw [upd_ne fun w => z (.inr w)]
        exact hb) sF (fun b o hb => by
        by_cases z : b = a
        · subst z
          rw [upd_same] at hb
          rw [upd_ne hda.symm]
          rw [haH, hb]
        · rw [upd_ne z] at hb
          have z1 : b ≠ d := fun z => by
            rw [z, hdF2] at hb
            cases hb
          rw [upd_ne z1]
          exact e2.le _ _ hb) fun b o hb => by
        have hb' : (if b = a then none else upd G d (.dK (qK (es1 ++ es2))) b) = some o := hb
        by_cases z : b = a
        · rw [if_pos z] at hb'
          cases hb'
        · rw [if_neg z] at hb'
          rw [upd_ne z]
          by_cases z1 : b = d
          · subst z1
            rw [upd_same] at hb' ⊢
            exact ⟨hb', hdF2, dF, .inl (.inl rfl)⟩
          · rw [upd_ne z1] at hb' ⊢
            obtain ⟨y1, y2⟩ := e2.inG gk hb'
            exact ⟨y1, y2, (gk b _ hb').2.1, .inr hb'⟩
      have n1' := n1
      rw [List.map_append, List.map_cons, List.nodup_append] at n1'
      have na1 : ¬ a ∈ es1.map (·.2) := fun m => n1'.2.2 a m a (by simp) rfl
      have na2 : ¬ a ∈ es2.map (·.2) := (List.nodup_cons.mp n1'.2.1).1
      have old : ∀ {es' : List (Int × Addr)} {q' : Que}, ¬ a ∈ es'.map (·.2) → Paired (QEn F1 G) es' q' → Paired (QEn (upd F1 a (.lst vs)) fun b => if b = a then none else upd G d (.dK (qK (es1 ++ es2))) b) es' q' := fun {es' q'} hnm h => pair_imp2 h fun b y hb ⟨z1, us, z2, z3⟩ => ⟨z1, us, (by
        show (if b.2 = a then none else upd G d (.dK (qK (es1 ++ es2))) b.2) = _
        rw [if_neg fun z => hnm (by rw [← z]; exact List.mem_map_of_mem hb), upd_ne]
        · exact z2
        · intro w
          rw [w, hdd] at z2
          cases z2), z3.mono sF⟩
      have qr3 : QRep (upd F1 a (.lst vs)) (fun b => if b = a then none else upd G d (.dK (qK (es1 ++ es2))) b) d (q1 ++ q2) := by
        refine ⟨es1 ++ es2, ?_, pair_app (old na1 p1) (old na2 p3), ?_, ?_⟩
        · show (if d = a then none else upd G d (.dK (qK (es1 ++ es2))) d) = _
          rw [if_neg hda, upd_same]
        · rw [List.map_append, List.nodup_append]
          exact ⟨n1'.1, (List.nodup_cons.mp n1'.2.1).2, fun b hb c hc => n1'.2.2 b hb c (List.mem_cons_of_mem _ hc)⟩
        · rw [List.map_append, List.map_cons, List.nodup_append] at n2
          rw [List.map_append, List.nodup_append]
          exact ⟨n2.1, (List.nodup_cons.mp n2.2.1).2, fun b hb c hc => n2.2.2 b hb c (List.mem_cons_of_mem _ hc)⟩
      refine .inl ⟨a, rfl, ⟨vs, SqL.of (e3.le _ _ upd_same)⟩, ?_⟩
      exact for_loop g3 e3 qr3 (walks_list upd_same (ra.mono sF)) I h0 hs hd (fun a b c d' r q2 s => k1 a b c d' r q2 ((x1.ff.trans sF).trans s)) k2
  · have hn : ¬ k ∈ es.map (·.1) := by
      rcases pair_split (k := k) hp1 with z | ⟨es1, a, es2, q1, xs, q2, eq1, eq2, hn, p1, p2, p3⟩
      · exact z
      · rw [eq1, qK_val_mid hn] at hv
        cases hv
    have hnq : ¬ k ∈ q.map (·.1) := by
      rw [← pair_keys hp1]
      exact hn
    rw [qAt_no hnq] at hs hd
    rw [qDrop_no hnq] at h0
    have x2 : Ext T F1 H1 (upd F1 y (.lst [])) (upd H1 y (.lst [])) := Ext.new e1.le (fun b hb => (e1.tn b hb).2) hy
    have e2 := e1.ext x2
    refine .inl ⟨y, rfl, ⟨[], SqL.of upd_same⟩, ?_⟩
    exact for_loop gk e2 (QRep.mono ⟨es, hdd, hp1, n1, n2⟩ x2.ff) (walks_list upd_same .nil) I h0 hs hd (fun a b c d' r q2 s => k1 a b c d' r q2 ((x1.ff.trans x2.ff).trans s)) k2
/-- found, queue, seen = None, {}, {} -/
theorem sm_mkQ {P : Po} {i j l : Nat} (h : ∀ d, SmQ T W u d (((ρ.set i (.d .none)).set j (.raw (.ref d))).set l (.og (ndI PWc.P PWc.w anyA []))) [] { rt := P.rt }) : Sm T W (tSeq (tPar3 i j l (tCons (tC .non) (tCons tDNewK (tCons (tDNewN PWc.P PWc.w) tNil)))) u) ρ P := fun F0 H0 σ F H D e k1 k2 _ _ _ => fun p hp y hy => by
  have hpF : F p = none := e.le.free hp
  have hpT : ¬ T p := fun z => by
    obtain ⟨_, o, h1, _⟩ := e.tn p z
    rw [hp] at h1
    cases h1
  have hpH : H0 p = none := by
    cases z : H0 p with
    | none => rfl
    | some o =>
      rw [e.ex.hh p o hpT z] at hp
      cases hp
  have hpF0 : F0 p = none := by
    cases z : F0 p with
    | none => rfl
    | some o =>
      rw [e.ex.ff p o z] at hpF
      cases hpF
  have hj : joinH H0 (fun _ => none) = H0 := funext fun b => joinH_of rfl
  have e0 : Env T F0 (joinH H0 fun _ => none) F H σ ρ := by rw [hj]; exact e
  obtain ⟨e1, g1⟩ := e0.chg (G' := upd (fun _ => none) p (.dK [])) (F' := F) (H' := upd H p (.dK [])) (fun b o z => by cases z) (fun b => b = p) (fun b z => by
    subst z
    exact ⟨hpT, hpH, .inr hp⟩) (fun b o z hb => by
    rw [upd_ne z]
    exact hb) (fun _ _ z => z) (Same.refl _) (fun b o hb => by
    rw [upd_ne fun z => by
      rw [z, hpF] at hb
      cases hb]
    exact e.le _ _ hb) fun b o hb => by
    by_cases z : b = p
    · subst z
      rw [upd_same] at hb ⊢
      exact ⟨hb, hpF, hpF0, .inl rfl⟩
    · rw [upd_ne z] at hb
      cases hb
  have e2 := (e1.setD (i := i) (v := .non) (x := .none) .non).setRaw (i := j) (v := .ref p)
  have e3 := e2.putNew (i := l) (s := .og (ndI PWc.P PWc.w anyA [])) (Ext.new1 (o := ndO PWc.P PWc.w y []) e2.le hy) hy fun nt n0 => ⟨rfl, nt, e2.le.free hy, n0, _, upd_same, fun F' s' => ⟨trivial, [], rfl, .nil⟩⟩
  refine ⟨_, _, _, rfl, h p F0 H0 _ _ F _ D g1 e3 ⟨[], upd_same, .nil, .nil, .nil⟩ (fun _ _ _ _ _ _ _ _ _ _ z => z.elim) k2 (fun _ _ _ _ _ _ _ _ _ _ z => z.elim) fun _ _ _ _ _ _ _ _ _ _ z => z.elim⟩
/-- text + text -/
theorem ev_addSW {ta tb : TE} {a b : List Nat} (ha : Ev T ta ρ (sD a)) (hb : Ev T tb ρ (sD b)) (hl : a.length + b.length ≤ sizeLine) : Ev T (tOp (rAddW K) ta tb) ρ (sD (a ++ b)) := ev_op ha hb fun F H v u s t rx ry Q q => .inl (rv_addS hl F H v u s t rx ry Q q)
end
end Tr

set_option Elab.async false
set_option linter.all false
set_option maxRecDepth 100000
/-! Lay34: dict(zip(text, text)). -/
namespace Tr
open PySem PySem.Spec PyProof.Rows L2 TL
section
variable {prog : Program} {w : World} {A : Around} {E : Value → Shared → Prop} {s : Shared} {z TI TO i1 i2 T : Addr} {fp1 fp2 : List Addr} {n1 n2 i : Nat} {P1 P2 : Nat → Value → Prop} {St1 St2 : Nat → Heap → Prop} {f : Bool} {oT : Obj}
/-- the next pair of a zip over any two iterators whose last pair is still out -/
theorem zipH_item {Q : Value → Shared → Prop} (S : ZipSep2 z TI TO i1 i2 fp1 fp2) (D1 : Draws prog w A i1 fp1 n1 P1 St1) (D2 : Draws prog w A i2 fp2 n2 P2 St2) (hz : IsZipHeld s.heap z TI TO T f) (hT : s.heap.get? T = some oT) (hTI : IsTupOf2 s.heap TI (.ref i1) (.ref i2)) (st1 : St1 i s.heap) (st2 : St2 i s.heap) (hl1 : i < n1) (hl2 : i < n2)
    (hQ : ∀ x1 x2 h' tk, P1 i x1 → P2 i x2 → IsZipHeld h' z TI TO T true → St1 (i + 1) h' → St2 (i + 1) h' → IsTupOf2 h' s.heap.objs.size x1 x2 → (∀ c o, c ≠ z → c ≠ i1 → c ≠ i2 → s.heap.get? c = some o → h'.get? c = some o) → Q (.ref s.heap.objs.size) { s with heap := h', toks := tk }) :
    wpAny (model prog w) A (Builtin.«zip.__next__» ⟨[.ref z], []⟩) (fun fin s' => ∃ v, fin = .done (.ret v) ∧ Q v s') E s := by
  obtain ⟨hp, g, d, tk0, os⟩ := s
  (show wpAny _ _ (field (.ref z) 2 >>= _) _ _ _; refine wpAny_bind (wpAny_field hz rfl (x := .bool false) rfl ?_))
  (show wpAny _ _ (field (.ref z) 3 >>= _) _ _ _; refine wpAny_bind (wpAny_field hz rfl (x := .ref TI) rfl ?_))
  (refine wpAny_bind (wpAny_seqItems hTI rfl ?_); show wpAny _ _ (Builtin.SmallTypes.ownedTupleIsFree (.ref z) >>= _) _ _ _)
  (refine wpAny_bind (wpAny_tupleHeld_zip hz hT fun g0 hz0 hs0 => ?_); simp only [Bool.false_eq_true, if_false])
  (refine wpAny_bind ?_; rw [← Array.forIn_toList]; simp only [List.forIn_cons, List.forIn_nil])
  have hs0' : Heap.SameBut z hp g0 := hs0
  (refine wpAny_bind (wpAny_bind (wpAny_holding ?_)); show wpAny _ _ (Builtin.SmallTypes.nextOf (.ref i1) >>= _) _ _ ⟨g0, g, d, tk0, os⟩)
  refine wpAny_bind (D1.item i _ _ _ hl1 (D1.over st1 hs0' S.zf1) fun x1 p1 tk1 hx1 sn1 hp1 => wpAny_pure (wpAny_pure ?_))
  have hp1' : Heap.SameBut i1 g0 p1 := hp1
  (refine wpAny_bind (wpAny_bind (wpAny_holding ?_)); show wpAny _ _ (Builtin.SmallTypes.nextOf (.ref i2) >>= _) _ _ ⟨p1, g, d, tk1, os⟩)
  refine wpAny_bind (D2.item i _ _ _ hl2 (D2.over (D2.over st2 hs0' S.zf2) hp1' S.sep1_2) fun x2 p2 tk2 hx2 sn2 hp2 => wpAny_pure (wpAny_pure (wpAny_pure ?_)))
  have hp2' : Heap.SameBut i2 p1 p2 := hp2
  (show wpAny _ _ (newTuple [x1, x2] >>= _) _ _ ⟨p2, g, d, tk2, os⟩; refine wpAny_bind (wpAny_newTuple (wpAny_pure ⟨_, rfl, ?_⟩)))
  show Q (.ref p2.objs.size) ⟨p2.push { cls := .type "tuple", data := .seq #[x1, x2] }, g, d, tk2, os⟩
  have hsz : p2.objs.size = hp.objs.size := by rw [hp2'.1, hp1'.1, hs0'.1]
  have hz2 : IsZipHeld p2 z TI TO T true := hp2'.extBut _ _ S.zi2 (hp1'.extBut _ _ S.zi1 hz0)
  have hk : ∀ c o, c ≠ z → c ≠ i1 → c ≠ i2 → hp.get? c = some o → p2.get? c = some o := fun c o c1 c2 c3 e => hp2'.extBut _ _ c3 (hp1'.extBut _ _ c2 (hs0'.extBut _ _ c1 e))
  have hT2 : IsTupOf2 (p2.push { cls := .type "tuple", data := .seq #[x1, x2] }) p2.objs.size x1 x2 := Heap.get?_push_size _ rfl
  rw [hsz] at hT2 ⊢
  exact hQ x1 x2 _ tk2 hx1 hx2 (Heap.get?_push_of_some _ hz2) (D1.frame _ _ _ (D1.over sn1 hp2' S.sep2_1) fun b _ o e => Heap.get?_push_of_some _ e) (D2.frame _ _ _ sn2 fun b _ o e => Heap.get?_push_of_some _ e) hT2 fun c o c1 c2 c3 e => Heap.get?_push_of_some _ (hk c o c1 c2 c3 e)
theorem zipH_end {Q : Fin → Shared → Prop} (S : ZipSep2 z TI TO i1 i2 fp1 fp2) (D1 : Draws prog w A i1 fp1 n1 P1 St1) (D2 : Draws prog w A i2 fp2 n2 P2 St2) (hz : IsZipHeld s.heap z TI TO T f) (hT : s.heap.get? T = some oT) (hTI : IsTupOf2 s.heap TI (.ref i1) (.ref i2)) (st1 : St1 i s.heap) (st2 : St2 i s.heap) (hl1 : i ≤ n1) (hl2 : i ≤ n2) (hend : i = n1 ∨ i = n2)
    (hE : ∀ h' tk e, (∀ c o, c ≠ z → c ≠ i1 → c ≠ i2 → s.heap.get? c = some o → h'.get? c = some o) → (∃ o, h'.get? e = some o ∧ o.cls = .type "StopIteration") → E (.ref e) { s with heap := h', toks := tk }) :
    wpAny (model prog w) A (Builtin.«zip.__next__» ⟨[.ref z], []⟩) Q E s := by
  obtain ⟨hp, g, d, tk0, os⟩ := s
  (show wpAny _ _ (field (.ref z) 2 >>= _) _ _ _; refine wpAny_bind (wpAny_field hz rfl (x := .bool false) rfl ?_))
  (show wpAny _ _ (field (.ref z) 3 >>= _) _ _ _; refine wpAny_bind (wpAny_field hz rfl (x := .ref TI) rfl ?_))
  (refine wpAny_bind (wpAny_seqItems hTI rfl ?_); show wpAny _ _ (Builtin.SmallTypes.ownedTupleIsFree (.ref z) >>= _) _ _ _)
  (refine wpAny_bind (wpAny_tupleHeld_zip hz hT fun g0 hz0 hs0 => ?_); simp only [Bool.false_eq_true, if_false])
  (refine wpAny_bind ?_; rw [← Array.forIn_toList]; simp only [List.forIn_cons, List.forIn_nil])
  have hs0' : Heap.SameBut z hp g0 := hs0
  (refine wpAny_bind (wpAny_bind (wpAny_holding ?_)); show wpAny _ _ (Builtin.SmallTypes.nextOf (.ref i1) >>= _) _ _ ⟨g0, g, d, tk0, os⟩)
  by_cases h1 : i < n1
  · refine wpAny_bind (D1.item i _ _ _ h1 (D1.over st1 hs0' S.zf1) fun x1 p1 tk1 hx1 sn1 hp1 => wpAny_pure (wpAny_pure ?_))
    have hp1' : Heap.SameBut i1 g0 p1 := hp1
    have h2 : i = n2 := by omega
    (refine wpAny_bind (wpAny_bind (wpAny_holding ?_)); show wpAny _ _ (Builtin.SmallTypes.nextOf (.ref i2) >>= _) _ _ ⟨p1, g, d, tk1, os⟩)
    refine wpAny_bind (D2.done ⟨p1, g, d, tk1, os⟩ _ _ (by rw [← h2]; exact D2.over (D2.over st2 hs0' S.zf2) hp1' S.sep1_2) fun q e hq he => ?_)
    exact hE q tk1 e (fun c o c1 c2 c3 x => hq _ _ c3 (hp1'.extBut _ _ c2 (hs0'.extBut _ _ c1 x))) he
  · have h1' : i = n1 := by omega
    refine wpAny_bind (D1.done ⟨g0, g, d, tk0, os⟩ _ _ (by rw [← h1']; exact D1.over st1 hs0' S.zf1) fun q e hq he => ?_)
    exact hE q tk0 e (fun c o c1 c2 c3 x => hq _ _ c2 (hs0'.extBut _ _ c1 x)) he
theorem nextH_item {Q : Option Value → Shared → Prop} (S : ZipSep2 z TI TO i1 i2 fp1 fp2) (D1 : Draws prog w A.in1 i1 fp1 n1 P1 St1) (D2 : Draws prog w A.in1 i2 fp2 n2 P2 St2) (hz : IsZipHeld s.heap z TI TO T f) (hT : s.heap.get? T = some oT) (hTI : IsTupOf2 s.heap TI (.ref i1) (.ref i2)) (st1 : St1 i s.heap) (st2 : St2 i s.heap) (hl1 : i < n1) (hl2 : i < n2)
    (hQ : ∀ x1 x2 h' tk, P1 i x1 → P2 i x2 → IsZipHeld h' z TI TO T true → St1 (i + 1) h' → St2 (i + 1) h' → IsTupOf2 h' s.heap.objs.size x1 x2 → (∀ c o, c ≠ z → c ≠ i1 → c ≠ i2 → s.heap.get? c = some o → h'.get? c = some o) → Q (some (.ref s.heap.objs.size)) { s with heap := h', toks := tk }) :
    wpAny (model prog w) A (pyNext (.ref z)) Q E s := by
  have ty : s.TypeIs (.ref z) "zip" := ⟨_, hz, rfl⟩
  unfold pyNext
  exact wpAny_bind (wpAny_attempt (wpAny_callSpecial?_slot (name := Str.ofString "__next__") ty F.slot_zip_next (wpAny_call_entry F.slot_zip_next ty F.entry_zip_next (zipH_item S D1 D2 hz hT hTI st1 st2 hl1 hl2 fun x1 x2 h' tk y1 y2 b1 d1 d2 b5 b7 => wpAny_pure (hQ x1 x2 h' tk y1 y2 b1 d1 d2 b5 b7)) (F.args_zip_next_1 _))))
theorem nextH_end {Q : Option Value → Shared → Prop} (S : ZipSep2 z TI TO i1 i2 fp1 fp2) (D1 : Draws prog w A.in1 i1 fp1 n1 P1 St1) (D2 : Draws prog w A.in1 i2 fp2 n2 P2 St2) (hz : IsZipHeld s.heap z TI TO T f) (hT : s.heap.get? T = some oT) (hTI : IsTupOf2 s.heap TI (.ref i1) (.ref i2)) (st1 : St1 i s.heap) (st2 : St2 i s.heap) (hl1 : i ≤ n1) (hl2 : i ≤ n2) (hend : i = n1 ∨ i = n2)
    (hQ : ∀ h' tk, (∀ c o, c ≠ z → c ≠ i1 → c ≠ i2 → s.heap.get? c = some o → h'.get? c = some o) → Q none { s with heap := h', toks := tk }) : wpAny (model prog w) A (pyNext (.ref z)) Q E s := by
  have ty : s.TypeIs (.ref z) "zip" := ⟨_, hz, rfl⟩
  unfold pyNext
  refine wpAny_bind (wpAny_attempt (wpAny_callSpecial?_slot (name := Str.ofString "__next__") ty F.slot_zip_next (wpAny_call_entry F.slot_zip_next ty F.entry_zip_next (zipH_end S D1 D2 hz hT hTI st1 st2 hl1 hl2 hend fun h' tk e hk he => ?_) (F.args_zip_next_1 _))))
  obtain ⟨o, ho, hc⟩ := he
  exact wpAny_bind (wpAny_isInstance (T := "StopIteration") (b := true) ⟨o, ho, hc⟩ isSubtype_stop (wpAny_pure (hQ _ _ hk)))
end
section
variable {prog : Program} {w : World}
theorem strIt_at {h h' : Heap} {i : Addr} {T : String} {x : Str} {t : Tok} {k : Nat} (st : h.IsStrIter i T x t k) (e : ∀ o, h.get? i = some o → h'.get? i = some o) : h'.IsStrIter i T x t k := let ⟨o, a, b⟩ := st; ⟨o, e o a, b⟩
def chP (x : Str) (i : Nat) (v : Value) : Prop := ∃ c u, x.cps[i]? = some c ∧ v = .str ⟨#[c]⟩ u
/-- zip of two texts, as dict's argument -/
theorem pairArg_texts (z TI TO i1 i2 : Addr) (x y : Str) (t u : Tok) (S : ZipSep2 z TI TO i1 i2 [i1] [i2]) : PairArg prog w "zip" z [z, TI, TO, i1, i2] [z, TO, i1, i2] (min x.cps.size y.cps.size) (fun i k v => chP x i k ∧ chP y i v)
    (fun h => IsZip h z TI TO .none ∧ IsTupOf2 h TI (.ref i1) (.ref i2) ∧ (∃ a b, IsTupOf2 h TO a b) ∧ h.IsStrIter i1 (strIterType x) x t 0 ∧ h.IsStrIter i2 (strIterType y) y u 0) where
  type := fun s ok => ⟨_, ok.1, rfl⟩
  notDict := by decide
  keep := fun h h' ok hk => by
    obtain ⟨hz, hTI, ⟨a, b, hTO⟩, h1, h2⟩ := ok
    exact ⟨hk _ _ hz, hk _ _ hTI, ⟨a, b, hk _ _ hTO⟩, strIt_at h1 fun o e => hk _ o e, strIt_at h2 fun o e => hk _ o e⟩
  there := fun h ok b hb => by
    obtain ⟨hz, hTI, ⟨a, c, hTO⟩, ⟨o1, h1, _⟩, ⟨o2, h2, _⟩⟩ := ok
    (simp only [List.mem_cons, List.not_mem_nil, or_false] at hb; rcases hb with rfl | rfl | rfl | rfl | rfl)
    all_goals first | exact ⟨_, hz⟩ | exact ⟨_, hTI⟩ | exact ⟨_, hTO⟩ | exact ⟨_, h1⟩ | exact ⟨_, h2⟩
  sub := fun b hb => by (simp at hb ⊢; rcases hb with rfl | rfl | rfl | rfl <;> simp)
  noKeys := fun A s Q E hA ok h => getAttrOr_miss_zip ok.1 rfl rfl rfl zip_no_keys (by decide +kernel) hA h
  iter := fun A s d Q E hA ok hd hdf h => by
    obtain ⟨hz, hTI, ⟨a, b, hTO⟩, h1, h2⟩ := ok
    have dz : d ≠ z := fun e => hdf (by simp [e])
    have dTI : d ≠ TI := fun e => hdf (by simp [e])
    have dTO : d ≠ TO := fun e => hdf (by simp [e])
    have d1 : d ≠ i1 := fun e => hdf (by simp [e])
    have d2 : d ≠ i2 := fun e => hdf (by simp [e])
    have D1 := Draws.text (prog := prog) (w := w) (A := A.in1) hA i1 x t
    have D2 := Draws.text (prog := prog) (w := w) (A := A.in1) hA i2 y u
    refine wpAny_pyIter_zip hz (h z [z, TO, i1, i2] (fun i h => IsTupOf2 h TI (.ref i1) (.ref i2) ∧ h.IsStrIter i1 (strIterType x) x t i ∧ h.IsStrIter i2 (strIterType y) y u i ∧ ((IsZip h z TI TO .none ∧ ∃ a b, IsTupOf2 h TO a b) ∨ ∃ T f oT, IsZipHeld h z TI TO T f ∧ h.get? T = some oT ∧ T ≠ z ∧ T ≠ i1 ∧ T ≠ i2 ∧ T ≠ d)) s.heap s.toks ?_ ⟨hTI, h1, h2, .inl ⟨hz, a, b, hTO⟩⟩ (fun _ _ e => e) fun b hb => .inl hb)
    refine ⟨fun hm => ?_, fun i g g' st hk => ?_, fun i s1 Q1 E1 hi st hds hQ => ?_, fun s1 Q1 E1 st hQ => ?_⟩
    · have : d = z ∨ d = TO ∨ d = i1 ∨ d = i2 := by simpa using hm
      rcases this with e | e | e | e
      · exact dz e
      · exact dTO e
      · exact d1 e
      · exact d2 e
    · obtain ⟨hTI, h1, h2, hz⟩ := st
      refine ⟨hk _ _ dTI.symm hTI, strIt_at h1 fun o e => hk _ o d1.symm e, strIt_at h2 fun o e => hk _ o d2.symm e, ?_⟩
      rcases hz with ⟨hz, a, b, hTO⟩ | ⟨T, f, oT, hz, hT, r1, r2, r3, r4⟩
      · exact .inl ⟨hk _ _ dz.symm hz, a, b, hk _ _ dTO.symm hTO⟩
      · exact .inr ⟨T, f, oT, hk _ _ dz.symm hz, hk _ _ r4 hT, r1, r2, r3, r4⟩
    · obtain ⟨hTI, h1, h2, hz⟩ := st
      have hx : i < x.cps.size := Nat.lt_of_lt_of_le hi (Nat.min_le_left ..)
      have hy : i < y.cps.size := Nat.lt_of_lt_of_le hi (Nat.min_le_right ..)
      have lt : ∀ {c o}, s1.heap.get? c = some o → s1.heap.objs.size ≠ c := fun e => Nat.ne_of_gt (Heap.lt_size e)
      have q1 : s1.heap.objs.size ≠ i1 := let ⟨_, e, _⟩ := h1; lt e
      have q2 : s1.heap.objs.size ≠ i2 := let ⟨_, e, _⟩ := h2; lt e
      rcases hz with ⟨hz, a, b, hTO⟩ | ⟨T, f, oT, hz, hT, r1, r2, r3, r4⟩
      · refine wpAny_pyNext_zipD2_item S D1 D2 hz hTI hTO h1 h2 hx hy fun x1 x2 h' tk p1 p2 b1 b2 c1 c2 b5 _ b7 => ?_
        exact hQ s1.heap.objs.size x1 x2 h' tk ⟨p1, p2⟩ (.inl ⟨_, b5, rfl, _, rfl⟩) ⟨b7 _ _ S.TIz S.TITO S.TIi1 S.TIi2 hTI, c1, c2, .inr ⟨s1.heap.objs.size, false, _, b1, b5, lt hz, q1, q2, Nat.ne_of_gt hds⟩⟩ fun c o hc e => b7 c o (fun z => hc (by simp [z])) (fun z => hc (by simp [z])) (fun z => hc (by simp [z])) (fun z => hc (by simp [z])) e
      · refine nextH_item S D1 D2 hz hT hTI h1 h2 hx hy fun x1 x2 h' tk p1 p2 b1 c1 c2 b5 b7 => ?_
        exact hQ s1.heap.objs.size x1 x2 h' tk ⟨p1, p2⟩ (.inl ⟨_, b5, rfl, _, rfl⟩) ⟨b7 _ _ S.TIz S.TIi1 S.TIi2 hTI, c1, c2, .inr ⟨T, true, oT, b1, b7 _ _ r1 r2 r3 hT, r1, r2, r3, r4⟩⟩ fun c o hc e => b7 c o (fun z => hc (by simp [z])) (fun z => hc (by simp [z])) (fun z => hc (by simp [z])) e
    · obtain ⟨hTI, h1, h2, hz⟩ := st
      have hend : min x.cps.size y.cps.size = x.cps.size ∨ min x.cps.size y.cps.size = y.cps.size := by omega
      rcases hz with ⟨hz, a, b, hTO⟩ | ⟨T, f, oT, hz, hT, r1, r2, r3, r4⟩
      · exact wpAny_pyNext_zipD2_end S D1 D2 hz hTI hTO h1 h2 (Nat.min_le_left ..) (Nat.min_le_right ..) hend fun h' tk hk => hQ h' tk fun c o hc e => hk c o (fun z => hc (by simp [z])) (fun z => hc (by simp [z])) (fun z => hc (by simp [z])) (fun z => hc (by simp [z])) e
      · exact nextH_end S D1 D2 hz hT hTI h1 h2 (Nat.min_le_left ..) (Nat.min_le_right ..) hend fun h' tk hk => hQ h' tk fun c o hc e => hk c o (fun z => hc (by simp [z])) (fun z => hc (by simp [z])) (fun z => hc (by simp [z])) e
end
/-! ### the rule -/
def zipT (x y : Str) : List (Key × V) := (x.cps.toList.zip y.cps.toList).map fun p => (Sum.inr ⟨#[p.1]⟩, V.str ⟨#[p.2]⟩)
theorem zipT_len (x y : Str) : (zipT x y).length = min x.cps.size y.cps.size := by
  unfold zipT
  rw [List.length_map, List.length_zip]
  simp
theorem zipT_get {x y : Str} {i : Nat} {c d : _} (h1 : x.cps[i]? = some c) (h2 : y.cps[i]? = some d) : (zipT x y)[i]? = some (Sum.inr ⟨#[c]⟩, V.str ⟨#[d]⟩) := by
  unfold zipT
  rw [List.getElem?_map]
  have : (x.cps.toList.zip y.cps.toList)[i]? = some (c, d) := by
    rw [List.getElem?_zip_eq_some]
    simp only [Array.getElem?_toList]
    exact ⟨h1, h2⟩
  rw [this]
  rfl
def rDictZ : List V → Hp → VK → Prop := fun xs H Q => ∃ x y, xs = [.str x, .str y] ∧ min x.cps.size y.cps.size ≤ sizeLine ∧ ∀ p, H p = none → Q (.ref p) (upd H p (.dK (mergeK [] (zipT x y))))
def tDictZ (t : TA) : TE := fun σ H Q => t σ H fun xs H1 => rDictZ xs H1 Q
section
variable {X : Cx} {e1 e2 : Expr} {t : TA} {p p2 pos pos2 : Pos}
theorem KV_snoc {ks : List (Key × V)} {vs : List (Key × Value)} (h : KV ks vs) {k : Key} {v : V} {u : Value} (r : RelV v u) : KV (ks ++ [(k, v)]) (vs ++ [(k, u)]) := by
  unfold KV at h ⊢
  induction h with
  | nil => exact .cons ⟨rfl, r⟩ .nil
  | cons a _ ih => exact .cons a ih
theorem pe_dictZ (hc : X.calm = true) (hgd : Gl X "dict") (hmd : X.mg "dict" = none) (hgz : Gl X "zip") (hmz : X.mg "zip" = none) (ha : PA X [e1, e2] t)
    (hs : starEach [e1, e2] X.env = (false, eval e1 X.env) :: starEach [e2] X.env := by rfl) (hpl : (backTo pos2 (starEach [e2] X.env)).any (·.1) = false := by rfl)
    (hsd : starEach [Expr.Call (.Name "zip" p2) [e1, e2] [] pos2] X.env = (false, eval (.Call (.Name "zip" p2) [e1, e2] [] pos2) X.env) :: starEach [] X.env := by rfl) : PE X (.Call (.Name "dict" p) [.Call (.Name "zip" p2) [e1, e2] [] pos2] [] pos) (tDictZ t) := by
  refine ⟨fun pins s σ H Q I h => ?_⟩
  refine wpAny_Call_Name_kw (ld_blt I hgd hmd (show bootBuiltins "dict" = some (.type "dict") by decide +kernel) ?_ (by decide) (by decide))
  refine PyProof.Rows.callWith_type1 ?_ hsd rfl
  rw [hsd]
  refine Calls.spliced_cons (Call_ (ld_blt I hgz hmz PyProof.Rows.boot_zip (PyProof.Rows.callWith_type1 (thn (ha.run pos2 pins s σ H _ I h) fun us s1 ⟨vs, H1, I1, r1, q1⟩ => ?_) hs hpl)))
  obtain ⟨x, y, rfl, hz, q⟩ := q1
  cases r1 with
  | cons r rr =>
    cases rr with
    | cons r' rr =>
      cases rr
      obtain ⟨tx, rfl⟩ := r
      obtain ⟨ty, rfl⟩ := r'
      refine zip_begins2 (begins_text x tx) (begins_text y ty) trivial trivial fun h' iz hTI hTO h1 h2 hsz hk => Calls.spliced_nil ?_
      have P := pairArg_texts (prog := X.prog) (w := X.w) (s1.heap.objs.size + 4) (s1.heap.objs.size + 2) (s1.heap.objs.size + 3) s1.heap.objs.size (s1.heap.objs.size + 1) x y tx ty (zip_sep2 (N := s1.heap.objs.size) (fp1 := []) (fp2 := []) (fun c hc => (by cases hc)) fun c hc => (by cases hc))
      refine call_dict_arg P ⟨iz, hTI, ⟨_, _, hTO⟩, ⟨_, h1, rfl, rfl⟩, ⟨_, h2, rfl, rfl⟩⟩ fun s2 hs2 hdf ok2 => ?_
      subst hs2
      refine updateFrom_arg (A := X.A.in1) (Tab := fun i g => ∃ prs, KV ((zipT x y).take i) prs ∧ g.DictOf (mixKind X.prog X.w) h'.objs.size (merged [] prs)) P .none (I1.ok.hd hc) ok2 hdf ⟨[], by rw [List.take_zero]; exact .nil, Heap.DictOf.new h'⟩ (fun i g ⟨_, _, tb⟩ => tb.lt_size) (fun i g g' wr hd _ ⟨prs, kv, tb⟩ hk2 => ⟨prs, kv, tb.at' fun o e => hk2 _ o hd e⟩) ?_ ?_
      · rintro i k v s3 Q3 E3 hi ⟨⟨c, u1, c1, rfl⟩, d, u2, c2, rfl⟩ ⟨prs, kv, tb⟩ _ hQ3
        have hg := zipT_get c1 c2
        have hl : prs.length = i := by
          have e1 : ((zipT x y).take i).length = prs.length := kv.length
          rw [List.length_take, zipT_len] at e1
          omega
        have hi' : i < sizeLine := Nat.lt_of_lt_of_le hi hz
        refine wpAny_dictSet_pairs (k := Sum.inr ⟨#[c]⟩) (hsz := ?_) (kV_is (P := X.prog) (w := X.w) (k := Sum.inr ⟨#[c]⟩) ⟨u1, rfl⟩) tb fun g hm hsb => hQ3 g _ ⟨prs ++ [(Sum.inr ⟨#[c]⟩, .str ⟨#[d]⟩ u2)], ?_, ?_⟩ hsb
        · rw [List.take_add_one, hg]
          exact KV_snoc kv ⟨u2, rfl⟩
        · have e := merged_take_succ [] (prs ++ [(Sum.inr ⟨#[c]⟩, .str ⟨#[d]⟩ u2)]) i (Sum.inr ⟨#[c]⟩, .str ⟨#[d]⟩ u2) (by rw [← hl]; simp)
          rw [List.take_of_length_le (by simp; omega), List.take_append_of_le_length (by omega), List.take_of_length_le (by omega)] at e
          rw [e]
          exact hm
        · have := merged_length [] prs
          rw [List.length_nil] at this
          omega
      · intro g tk ⟨prs, kv, tb⟩ hk2
        rw [List.take_of_length_le (by rw [zipT_len]; exact Nat.le_refl _)] at kv
        have hbig : s1.heap.objs.size ≤ h'.objs.size := by rw [hsz]; exact Nat.le_add_right _ _
        have keep : ∀ b o, s1.heap.get? b = some o → g.get? b = some o := fun b o e => by
          have hb : b < s1.heap.objs.size := Heap.lt_size e
          refine hk2 b o (Nat.ne_of_lt (Nat.lt_of_lt_of_le hb hbig)) (fun hm => ?_) (Heap.get?_push_of_some _ (hk b o e))
          have : b = s1.heap.objs.size + 4 ∨ b = s1.heap.objs.size + 3 ∨ b = s1.heap.objs.size ∨ b = s1.heap.objs.size + 1 := by simpa using hm
          rcases this with z | z | z | z
          · exact absurd z (Nat.ne_of_lt (Nat.lt_of_lt_of_le hb (Nat.le_add_right _ _)))
          · exact absurd z (Nat.ne_of_lt (Nat.lt_of_lt_of_le hb (Nat.le_add_right _ _)))
          · exact absurd z (Nat.ne_of_lt hb)
          · exact absurd z (Nat.ne_of_lt (Nat.lt_of_lt_of_le hb (Nat.le_add_right _ _)))
        have hm : (h'.objs.size == sysModules) = false := beq_eq_false_iff_ne.mpr (Nat.ne_of_gt (Nat.lt_of_lt_of_le I1.big hbig))
        have hlen : (mergeK [] (zipT x y)).length ≤ sizeLine := by
          refine Nat.le_trans (length_mergeK (zipT x y) []) ?_
          rw [List.length_nil, Nat.zero_add, zipT_len]
          exact hz
        exact ⟨rfl, .ref h'.objs.size, upd H1 h'.objs.size (.dK (mergeK [] (zipT x y))), I1.laid (t' := tk) keep hbig (show ObjOk X.prog X.w _ _ _ (.dK (mergeK [] (zipT x y))) from ⟨hlen, hm, merged [] prs, KV.merge kv .nil, tb⟩), rfl, q _ (I1.hok.fresh hbig)⟩
/-! ### da > db -/
def rGtD (K : PySem.W.Frag) : R2 := fun x y H Q => ∃ d e, Dp K H x d ∧ Dp K H y e ∧ PySem.W.alike d e = true ∧ d ≠ .none ∧ min d.depth e.depth ≤ 60 ∧ Q (.bl (PySem.W.dataLt e d)) H
theorem op_gtD {k : Nat} (hr : Room k X.A) : OpR X (compareOp .Gt) (rGtD X.K) := by
  intro pins s σ H x y v u Q I rx ry h
  obtain ⟨d, e, hd, he, al, hn, hm, q⟩ := h
  obtain ⟨as, r1⟩ := Dp.reads I d x v hd rx
  obtain ⟨bs, r2⟩ := Dp.reads I e y u he ry
  have := hr.un
  exact PySem.W.gt_data r1 r2 al hn (by omega) ⟨.bl _, H, I, rfl, q⟩
theorem k_gtD {k : Nat} {a b : Expr} {ta tb : TE} {pos : Pos} (K : PySem.W.Frag) (hr : Room k X.A) (ha : PE X a ta) (hb : PE X b tb) (hK : X.K = K := by rfl) : PE X (.Compare a [.Gt] [b] pos) (tOp (rGtD K) ta tb) := by (subst hK; exact pe_cmpR (op_gtD hr) ha hb (nomark _))
theorem kt_gtD {k : Nat} {a b : Expr} {ta tb : TE} {pos : Pos} (K : PySem.W.Frag) (hr : Room k X.A) (ha : PE X a ta) (hb : PE X b tb) (hK : X.K = K := by rfl) : PT X (.Compare a [.Gt] [b] pos) (tTest (tOp (rGtD K) ta tb)) := by (subst hK; exact pt_cmpR (op_gtD hr) ha hb (nomark _))
end
section
variable [PWc] {T : Tn} {W : WX} {K : PySem.W.Frag} {ρ : List Sl} {P : Po} {ta tb te : TE} {x y : PyData} {i j : Nat}
theorem ev_gtD (ha : Ev T ta ρ x) (hb : Ev T tb ρ y) (hx : x.plain = true) (hy : y.plain = true) (al : PySem.W.alike x y = true) (hn : x ≠ .none) (hd : min x.depth y.depth ≤ 60) : Ev T (tOp (rGtD K) ta tb) ρ (.bool (PySem.W.dataLt y x)) := ev_op ha hb (rv_bl fun F H v u s rx ry Q q => ⟨x, y, rx.dp s hx, ry.dp s hy, al, hn, hd, q⟩)
def zipL (a b : List Nat) : List (Key × PyData) := (a.zip b).map fun p => (Sum.inr (S [p.1]), sD [p.2])
theorem zipL_rp {F : Hp} (a b : List Nat) : RpKV F (zipT (S a) (S b)) (zipL a b) := by
  unfold zipT zipL
  show RpKV F ((a.zip b).map _) _
  induction a.zip b with
  | nil => exact .nil
  | cons p r ih => exact .cons (.str _) ih
theorem en_dictZ {a b : List Nat} (ha : Ev T ta ρ (sD a)) (hb : Ev T tb ρ (sD b)) (hl : a.length ≤ sizeLine) : EvN T (tDictZ (tCons ta (tCons tb tNil))) ρ fun es => es = mergeD (zipL a b) := fun F0 H0 σ F H e Q q =>
  ha F0 H0 σ F H e _ fun v F1 H1 e1 r1 => hb F0 H0 σ F1 H1 (e.ext e1) _ fun u F2 H2 e2 r2 => by
    have e12 := e1.trans e2
    have e3 := e.ext e12
    refine ⟨S a, S b, by rw [r1.str_eq, r2.str_eq], Nat.le_trans (Nat.min_le_left ..) (by simpa using hl), fun p hp => ?_⟩
    exact q p _ _ _ _ (e12.trans (Ext.new1 e3.le hp)) (freshH e e12 hp) (e3.le.free hp) upd_same rfl ((zipL_rp a b).merge .nil)
/-- y = d.setdefault(k, x) -/
theorem sm_setdV {ds : List (Key × PyData)} {k : Key} (hs : ρ[i]? = some (.od ds)) (hk : Ev T tb ρ (kD k)) (hv : Ev T te ρ x) (hl : ds.length < sizeLine) (q : P.nx ((ρ.set i (.od (if (atK ds k).isSome = true then ds else putD ds k x))).set j (.d ((atK ds k).getD x)))) : Sm T W (tAsg (tDSetd (tVar i) tb te) (gName j)) ρ P := fun F0 H0 σ F H D e k1 _ _ _ _ => by
  obtain ⟨a, vs, hσ, ha, r, _⟩ := e.writeD hs
  refine ⟨.ref a, hσ, a, rfl, .inl ⟨vs, .inl ha⟩, hk F0 H0 σ F H e _ fun u F1 H1 e1 r1 => hv F0 H0 σ F1 H1 (e.ext e1) _ fun v F2 H2 e2 r2 => ?_⟩
  obtain ⟨a', vs', hσ', ha', r', wr⟩ := ((e.ext e1).ext e2).writeD hs
  have ea : a' = a := by
    rw [hσ] at hσ'
    exact (V.ref.inj (Option.some.inj (Option.some.inj hσ'))).symm
  subst ea
  have e12 := e1.trans e2
  refine ⟨vs', k, ha', kV_kD r1, by rw [r'.length]; exact hl, fun v' hv' => ?_, fun hn => ?_⟩
  · rcases r'.at k with ⟨d, w, q1, q2, rd⟩ | ⟨q1, q2⟩
    · rw [q1] at q
      have up : upd H2 a' (.dK vs') = H2 := by
        funext b
        by_cases hb : b = a'
        · rw [hb, upd_same, ha']
        · rw [upd_ne hb]
      have e4 := wr vs' ds r'
      rw [up] at e4
      rw [hv'] at q2
      cases q2
      exact k1 _ F2 _ _ e12.ff (e4.setD rd) q
    · rw [hv'] at q2
      cases q2
  · rcases r'.at k with ⟨d, w, q1, q2, _⟩ | ⟨q1, q2⟩
    · rw [hn] at q2
      cases q2
    · rw [q1] at q
      exact k1 _ F2 _ _ e12.ff ((wr _ _ (r'.put (k := k) r2)).setD r2) q
end
end Tr

set_option Elab.async false
set_option linter.all false
set_option maxRecDepth 100000
/-! Lay35: sorted(d), d a dict with nested tuple keys. -/
namespace Tr
open PySem PySem.Spec PyProof.Rows L2 TL
variable [PWc]
mutual
theorem NkV.dp {K : PySem.W.Frag} {H : Hp} : ∀ {k : NestedKey} {v : V}, NkV H k v → Dp K H v (nkD k)
  | _, _, .non => .non
  | _, _, .int i => .int i
  | _, _, .str x => .str x
  | _, _, .tup h _ t => by
    rw [nkD]
    exact .tup (sqT_frz h) (NkAll.dp t)
theorem NkAll.dp {K : PySem.W.Frag} {H : Hp} : ∀ {ks : List NestedKey} {vs : List V}, NkAll H ks vs → DpAll K H vs (nkDs ks)
  | _, _, .nil => by
    rw [nkDs]
    exact .nil
  | _, _, .cons h t => by
    rw [nkDs]
    exact .cons (NkV.dp h) (NkAll.dp t)
end
mutual
theorem NkV.rp {F : Hp} : ∀ {k : NestedKey} {v : V}, NkV F k v → Rp F v (nkD k)
  | _, _, .non => by
    rw [nkD]
    exact .non
  | _, _, .int i => by
    rw [nkD]
    exact .int i
  | _, _, .str x => by
    rw [nkD]
    exact .str x
  | _, _, .tup h o t => by
    rw [nkD]
    exact .tup h o (NkAll.rp t)
theorem NkAll.rp {F : Hp} : ∀ {ks : List NestedKey} {vs : List V}, NkAll F ks vs → RpAll F vs (nkDs ks)
  | _, _, .nil => by
    rw [nkDs]
    exact .nil
  | _, _, .cons h t => by
    rw [nkDs]
    exact .cons (NkV.rp h) (NkAll.rp t)
end
def prN (kvs : NKV) : List (V × PyData) := kvs.map fun q => (V.ref q.2.1, nkD q.1)
def rSortN (P : Program) (w : World) : List V → Hp → VK → Prop := fun xs H Q => ∃ (a : Addr) (kvs : NKV), xs = [.ref a] ∧ H a = some (ndO P w a kvs) ∧ (∀ q ∈ kvs, NkV H q.1 (.ref q.2.1)) ∧ PySem.W.AllAlike ((prN kvs).map Prod.snd) ∧ PySem.W.Sortable ((prN kvs).map Prod.snd) ∧ (∀ b ∈ prN kvs, b.2.depth ≤ 60) ∧ ∀ p, H p = none → Q (.ref p) (upd H p (.lst (((prN kvs).mergeSort leD).map Prod.fst)))
theorem paired_at {α β : Type} {R : α → β → Prop} : ∀ {as : List α} {bs : List β} {j : Nat} {a : α} {b : β}, Paired R as bs → as[j]? = some a → bs[j]? = some b → R a b
  | _, _, 0, _, _, .cons h _, e1, e2 => by
    have e1' := Option.some.inj e1
    have e2' := Option.some.inj e2
    subst e1' e2'
    exact h
  | _, _, j + 1, _, _, .cons _ t, e1, e2 => paired_at (j := j) t (by simpa using e1) (by simpa using e2)
theorem vals_refs : ∀ {us : List Value} {kvs : NKV}, us.length = kvs.length → (∀ (j : Nat) (v : Value), us[j]? = some v → ∃ q, kvs[j]? = some q ∧ v = .ref q.2.1) → Vals (kvs.map fun q => V.ref q.2.1) us
  | [], [], _, _ => .nil
  | u :: us, q :: kvs, hl, h => by
    obtain ⟨q', e1, e2⟩ := h 0 u rfl
    have e1' : q = q' := Option.some.inj e1
    subst e1'
    subst e2
    refine .cons rfl (vals_refs (by simpa using hl) fun j v e => ?_)
    obtain ⟨q2, a, b⟩ := h (j + 1) v (by simpa using e)
    exact ⟨q2, by simpa using a, b⟩
  | [], _ :: _, hl, _ => by simp at hl
  | _ :: _, [], hl, _ => by simp at hl
theorem dpN {K : PySem.W.Frag} {H : Hp} : ∀ {kvs : NKV}, (∀ q ∈ kvs, NkV H q.1 (.ref q.2.1)) → DpAll K H ((prN kvs).map Prod.fst) ((prN kvs).map Prod.snd)
  | [], _ => .nil
  | q :: r, h => .cons (NkV.dp (h q (by simp))) (dpN fun p hp => h p (List.mem_cons_of_mem _ hp))
section
variable {X : Cx}
theorem cr_sortN {k : Nat} (hr : Room k X.A) (hc : X.calm = true) : CallR X (.builtin "sorted") (rSortN X.prog X.w) := by
  intro pins s σ H xs us Q I r h
  obtain ⟨a, kvs, rfl, ha, hk, hal, hso, hdep, q⟩ := h
  obtain ⟨u, rfl, rx⟩ := vals1 r
  cases rx
  obtain ⟨⟨lo, hz, ys, rel, o, es, ep, ho, hex, hd, hes, hnd⟩, _⟩ := (show ObjOk X.prog X.w H s.heap a (ndO X.prog X.w a kvs) from I.hok a _ ha)
  have hun := hr.un
  have hyl : ys.length = kvs.length := rel.length.symm
  have hel : es.size = kvs.length := by
    have := congrArg List.length hes
    rw [Array.length_toList, List.length_map] at this
    omega
  refine Calls.call_function_entry kind_sorted plain_sorted entry_sorted (args_sorted1 _) (by
    (unfold Builtin.«sorted»; refine wpAny_bind (m := checkCount "sorted" 1 1 _) (wpAny_pure ?_))
    refine wpAny_bind (PySem.W.kdu_collect (A := X.A.in1) (PySem.KdlSrc.rawDict (es := es) (ep := ep) lo) (I.ok.hd hc) ⟨o, ho, hex, hd⟩ (by rw [hel]; exact hz) fun h' tk acc hkp hacc => ?_)
    have hal2 : acc.toList.length = kvs.length := by rw [Array.length_toList, hacc.1, hel]
    have keyAt : ∀ (j : Nat) (v : Value), acc.toList[j]? = some v → ∃ q, kvs[j]? = some q ∧ v = .ref q.2.1 := fun j v e => by
      obtain ⟨hi, ev⟩ := hacc.2 j v (by rw [← Array.getElem?_toList]; exact e)
      have e1 : es.toList[j]? = some es[j] := by rw [Array.getElem?_toList]; exact Array.getElem?_eq_getElem hi
      rw [hes, List.getElem?_map] at e1
      obtain ⟨y, hy, ey⟩ := Option.map_eq_some_iff.mp e1
      have hjk : j < kvs.length := by
        rw [← hel]
        exact hi
      refine ⟨kvs[j], List.getElem?_eq_getElem hjk, ?_⟩
      have hr2 := paired_at rel (List.getElem?_eq_getElem hjk) hy
      rw [ev, ← ey]
      show Value.ref y.2.1 = _
      rw [← hr2.2.1]
    have hva : Vals ((prN kvs).map Prod.fst) acc.toList := by
      have : (prN kvs).map Prod.fst = kvs.map fun q => V.ref q.2.1 := by
        unfold prN
        rw [List.map_map]
        rfl
      rw [this]
      exact vals_refs hal2 keyAt
    have hdp : DpAll X.K H ((prN kvs).map Prod.fst) ((prN kvs).map Prod.snd) := dpN hk
    have I1 : Inv X pins σ H { s with heap := h', toks := tk } := I.kept hkp
    have er := each_reads I1 hva hdp
    have hsl : acc.toList.length ≤ sizeLine := by rw [hal2]; exact hz
    refine wpAny_bind (wpAny_newList ?_ hsl)
    have hoL : (h'.push (seqObj "list" acc.toList.toArray 0)).get? h'.objs.size = some (seqObj "list" acc.toList.toArray 0) := Heap.get?_push_size _ rfl
    have er' : PySem.W.EachIs (fun v (b : V × PyData) => ∃ as, Reads (PySem.W.sortingHeap (h'.push (seqObj "list" acc.toList.toArray 0)) h'.objs.size acc.toList) v b.2 as) acc.toList (prN kvs) := er.mono fun v b ⟨as, r⟩ => ⟨as, PyProof.Rows.Reads.keeps (fun c ob e => PySem.W.sortingHeap_old (Nat.ne_of_lt (Heap.lt_size e)) (Heap.get?_push_of_some _ e)) r⟩
    refine wpAny_bind (wpAny_holding (wpAny_call_entry slot_list_sort ⟨_, hoL, rfl⟩ entry_list_sort (PySem.W.list_sort_vals (s := { s with heap := h'.push (seqObj "list" acc.toList.toArray 0), toks := tk }) (κ := PySem.W.dataKind (PySem.W.sortingHeap (h'.push (seqObj "list" acc.toList.toArray 0)) h'.objs.size acc.toList) ((prN kvs).map Prod.snd)) hoL (PySem.W.SortsAt.data (s := { s with heap := PySem.W.sortingHeap (h'.push (seqObj "list" acc.toList.toArray 0)) h'.objs.size acc.toList, toks := tk }) (PySem.W.each_map (R := fun v d => ∃ as, Reads (PySem.W.sortingHeap (h'.push (seqObj "list" acc.toList.toArray 0)) h'.objs.size acc.toList) v d as) Prod.snd er') hal hso (PySem.W.bound_map (A := X.A.in1.in1) fun b hb => by
      have := hdep b hb
      show X.A.units + 1 + 1 + b.2.depth < cLine
      omega)) hsl ⟨.none, rfl, ?_⟩) (args_list_sort _)))
    have eo := PySem.W.sortVals_data false (each_of_vals hva) er' hal
    obtain ⟨c, hcc⟩ := sortedHeap_at (vs := acc.toList) (out := (PySem.W.sortVals (PySem.W.dataKind (PySem.W.sortingHeap (h'.push (seqObj "list" acc.toList.toArray 0)) h'.objs.size acc.toList) ((prN kvs).map Prod.snd)) false acc.toList acc.toList).toArray) hoL
    have hl2 : (((prN kvs).mergeSort leD).map Prod.fst).length ≤ sizeLine := by
      rw [List.length_map, List.length_mergeSort]
      unfold prN
      rw [List.length_map]
      exact hz
    refine wpAny_pure ⟨_, rfl, .ref h'.objs.size, upd H h'.objs.size (.lst (((prN kvs).mergeSort leD).map Prod.fst)), I1.laid (t' := tk) (fun b ob e => ?_) (Nat.le_refl _) ⟨hl2, _, c, vals_of_each eo, hcc⟩, rfl, q _ (I1.hok.fresh (Nat.le_refl _))⟩
    have hb : b < h'.objs.size := Heap.lt_size e
    rw [sortedHeap_old (Nat.ne_of_lt hb) (by rw [size_push']; exact Nat.lt_succ_of_lt hb)]
    exact Heap.get?_push_of_some _ e)
theorem k_sortN {k : Nat} {e : Expr} {t : TA} {p pos : Pos} (hr : Room k X.A) (hc : X.calm = true) (hg : Gl X "sorted") (hm : X.mg "sorted" = none) (ha : PA X [e] t) (he : starEach [e] X.env = (false, eval e X.env) :: starEach [] X.env := by rfl) (hP : X.prog = P := by rfl) (hw : X.w = w := by rfl) : PE X (.Call (.Name "sorted" p) [e] [] pos) (tCB (rSortN P w) t) := by
  rw [← hP, ← hw]
  exact pe_callB (cr_sortN hr hc) hg hm (by decide +kernel) ha (he := he)
end
section
variable {T : Tn} {ρ : List Sl} {ta : TE}
theorem rpN_pr {F : Hp} : ∀ {kvs : NKV} {ds : ND}, RpN F kvs ds → (prN kvs).map Prod.snd = ds.map (fun p => nkD p.1) ∧ (∀ q ∈ kvs, NkV F q.1 (.ref q.2.1)) ∧ ∀ b ∈ prN kvs, Rp F b.1 b.2
  | _, _, .nil => ⟨rfl, fun q hq => (by cases hq), fun b hb => (by cases hb)⟩
  | _, _, .cons (k := k) (b := b) (v := v) (kvs := kvs) h1 h2 h3 t => by
    obtain ⟨z1, z2, z3⟩ := rpN_pr t
    refine ⟨?_, fun q hq => ?_, fun c hc => ?_⟩
    · show nkD k :: (prN kvs).map Prod.snd = _
      rw [z1]
      rfl
    · rcases List.mem_cons.mp hq with rfl | hq
      · exact h1
      · exact z2 q hq
    · rcases List.mem_cons.mp (show c ∈ (V.ref b, nkD k) :: prN kvs from hc) with rfl | hc
      · exact NkV.rp h1
      · exact z3 c hc
/-- sorted(d): the keys in order -/
theorem eo_sortN {ds : ND} (ha : Ev T ta ρ (ndD ds)) (hal : PySem.W.AllAlike (ds.map fun p => nkD p.1)) (hso : PySem.W.Sortable (ds.map fun p => nkD p.1)) (hd : ∀ p ∈ ds, (nkD p.1).depth ≤ 60) : EvO T (tCB (rSortN P w) (tCons ta tNil)) ρ fun ys => ys = srtD (ds.map fun p => nkD p.1) := fun F0 H0 σ F H e Q q =>
  ha F0 H0 σ F H e _ fun v F1 H1 e1 r1 => by
    obtain ⟨a, kvs, rfl, hk, r⟩ := r1.nd_eq
    have e2 := e.ext e1
    obtain ⟨z1, z2, z3⟩ := rpN_pr r
    refine ⟨a, kvs, rfl, e1.fh _ _ hk, fun c hc => (z2 c hc).mono e1.fh, by rw [z1]; exact hal, by rw [z1]; exact hso, fun b hb => ?_, fun p hp => ?_⟩
    · have hm : b.2 ∈ ds.map fun p => nkD p.1 := by
        rw [← z1]
        exact List.mem_map.mpr ⟨b, hb, rfl⟩
      obtain ⟨p, hp, ep⟩ := List.mem_map.mp hm
      rw [← ep]
      exact hd p hp
    · have em : ((prN kvs).mergeSort leD).map Prod.snd = srtD (ds.map fun p => nkD p.1) := by
        rw [List.map_mergeSort (s := PySem.W.dataLe false id), z1]
        · rfl
        · intro a _ b _
          rfl
      refine q p _ (srtD (ds.map fun p => nkD p.1)) F1 _ (e1.trans (Ext.new1 e2.le hp)) (freshH e e1 hp) (e2.le.free hp) upd_same rfl ?_
      rw [← em]
      exact rp_pairs fun b hb => z3 b (List.mem_mergeSort.mp hb)
end
end Tr

set_option Elab.async false
set_option linter.all false
set_option maxRecDepth 100000
/-! Lay36: d.get(k, x), sum of ints, how often a sign stands in a text. -/
namespace Tr
open PySem PySem.Spec PyProof.Rows L2 TL
variable [PWc]
section
variable {X : Cx} {k : Nat} {o e f : Expr} {to te tf : TE} {t : TA} {apos cpos p pos : Pos}
theorem k_get2 (hr : Room k X.A) (ho : PE X o to) (he : PE X e te) (hf : PE X f tf) (m : M2 X o "get" apos e f cpos) : PE X (.Call (.Attribute o "get" apos) [e, f] [] cpos) (tDGet2 to te tf) := pe_dget2 (hu_of hr) ho he hf m
theorem k_sum (K : PySem.W.Frag) (hc : X.calm = true) (hg : Gl X "sum") (hm : X.mg "sum" = none) (ha : PA X [e] t) (he : starEach [e] X.env = (false, eval e X.env) :: starEach [] X.env := by rfl) (hK : X.K = K := by rfl) : PE X (.Call (.Name "sum" p) [e] [] pos) (tCB (rSum K) t) := by
  subst hK
  exact pe_callB (cr_sum hc) hg hm (by decide +kernel) ha (he := he)
def rCountS : V → List V → Hp → VK → Prop := fun x xs H Q => ∃ a b, x = .str a ∧ xs = [.str b] ∧ Q (.int (Txt.count a b)) H
theorem k_countS (ho : PE X o to) (he : PE X e te) (hs : starEach [e] X.env = [(false, eval e X.env)] := by rfl) (hbase : attributeBase o "count" X.env (eval o X.env) = eval o X.env := by rfl) (hline : (apos.endLine == pos.line) = true := by rfl) : PE X (.Call (.Attribute o "count" apos) [e] [] pos) (tM1 rCountS to te) := pe_m1 PySem.F.slot_str_count PySem.F.type_str_count mt_count ho he (hs := hs) (hbase := hbase) (hline := hline)
end
section
variable {T : Tn} {K : PySem.W.Frag} {ρ : List Sl} {ta tb tc : TE} {x : PyData}
theorem ev_get2 {ds : List (Key × PyData)} {k : Key} (hd : Ev T ta ρ (dictD ds)) (hk : Ev T tb ρ (kD k)) (hx : Ev T tc ρ x) : Ev T (tDGet2 ta tb tc) ρ ((atK ds k).getD x) := fun F0 H0 σ F H e Q q =>
  hd F0 H0 σ F H e _ fun v F1 H1 e1 r1 => by
    obtain ⟨a, kvs, rfl, hkv, r⟩ := r1.dct_eq
    refine ⟨a, rfl, .inl ⟨kvs, rd_mono e1.fh hkv⟩, hk F0 H0 σ F1 H1 (e.ext e1) _ fun u F2 H2 e2 r2 => hx F0 H0 σ F2 H2 (e.ext (e1.trans e2)) _ fun z F3 H3 e3 r3 => ?_⟩
    have e123 := e1.trans (e2.trans e3)
    have r' := r.mono (e2.ff.trans e3.ff)
    refine ⟨valV kvs k, ?_, ?_⟩
    · rw [kV_kD r2]
      exact .inl ⟨kvs, k, rd_mono (e2.ff.trans (e3.ff.trans e3.fh)) hkv, rfl, rfl⟩
    · rcases r'.at k with ⟨d, v', h1, h2, h3⟩ | ⟨h1, h2⟩
      · rw [h2]
        rw [h1] at q
        exact q _ F3 H3 e123 h3
      · rw [h2]
        rw [h1] at q
        exact q _ F3 H3 e123 r3
theorem ev_sum {ns : List Int} (ha : Ev T ta ρ (.list (ns.map PyData.int))) : Ev T (tCB (rSum K) (tCons ta tNil)) ρ (.int ns.sum) := fun F0 H0 σ F H e Q q =>
  ha F0 H0 σ F H e _ fun v F1 H1 e1 r1 => by
    obtain ⟨a, vs, rfl, hk, r⟩ := r1.lst_eq
    refine ⟨a, ns, rfl, ?_, q _ F1 H1 e1 (.int _)⟩
    rw [← r.ints]
    exact SqL.of (e1.fh _ _ hk)
theorem spl_cnt (c : Nat) : ∀ (l acc : List Nat), (TL.spl [c] 0 acc l).length = l.count c + 1
  | [], acc => rfl
  | d :: r, acc => by
    show (if TL.pre [c] (d :: r) = true then acc :: TL.spl [c] ([c].length - 1) [] r else TL.spl [c] 0 (acc ++ [d]) r).length = _
    have hp : TL.pre [c] (d :: r) = decide (d = c) := by
      unfold TL.pre
      by_cases h : d = c <;> simp [h]
    rw [hp]
    by_cases h : d = c
    · subst h
      simp only [decide_true, if_true, List.length_cons, List.length_nil, Nat.zero_add, Nat.sub_self, List.count_cons_self]
      rw [spl_cnt d r []]
    · simp only [h, decide_false, Bool.false_eq_true, if_false]
      rw [spl_cnt c r _, List.count_cons_of_ne (by simpa using h)]
theorem count_S {a : List Nat} {c : Nat} (hc : c < 256) : Txt.count (S a) (S [c]) = ((a.count c : Nat) : Int) := by
  obtain ⟨f, g, hn⟩ := PySem.StrLaws.occ_tight (S a) (S [c]) (TL.len1 (by simp [tl]))
  have key := congrArg List.length (TL.parts_spl (y := S [c]) (by simp [tl]) _ 0 f (Nat.zero_le _) g hn)
  rw [List.drop_zero, List.length_map, ← PySem.StrLaws.partsBetween_eq, length_partsBetween] at key
  have h2 : (TL.spl (tl (S [c])) 0 [] (tl (S a))).length = a.count c + 1 := spl_cnt c a []
  rw [h2] at key
  unfold Txt.count
  have : (Builtin.Str.occurrences (S a) (S [c]) 0 (S a).length ((S a).length + 1)).length = a.count c := by omega
  rw [this]
theorem ev_countS {a : List Nat} {c : Nat} (ha : Ev T ta ρ (sD a)) (hb : Ev T tb ρ (sD [c])) (hc : c < 256) : Ev T (tM1 rCountS ta tb) ρ (.int (a.count c : Nat)) := fun F0 H0 σ F H e Q q =>
  ha F0 H0 σ F H e _ fun v F1 H1 e1 r1 => ⟨⟨_, r1.str_eq⟩, hb F0 H0 σ F1 H1 (e.ext e1) _ fun u F2 H2 e2 r2 => ⟨S a, S [c], r1.str_eq, by rw [r2.str_eq], by
    rw [count_S hc]
    exact q _ F2 H2 (e1.trans e2) (.int _)⟩⟩
end
end Tr

set_option Elab.async false
set_option linter.all false
set_option maxRecDepth 100000
/-! Lay37: the table of a set, of any size that comes: a free slot is met early, what is laid is found again. -/
namespace Tr
open PySem PySem.Spec PyProof.Rows L2 TL
/-! ### i -> 5 i + 1, modulo a power of two, comes back late -/
def geo : Nat → Nat
  | 0 => 0
  | n + 1 => 5 * geo n + 1
theorem geo_pow : ∀ n, 4 * geo n + 1 = 5 ^ n
  | 0 => rfl
  | n + 1 => by
    rw [Nat.pow_succ, ← geo_pow n]
    show 4 * (5 * geo n + 1) + 1 = (4 * geo n + 1) * 5
    omega
theorem geo_par : ∀ n, geo n % 2 = n % 2
  | 0 => rfl
  | n + 1 => by
    have := geo_par n
    show (5 * geo n + 1) % 2 = (n + 1) % 2
    omega
theorem geo_two (e : Nat) : geo (2 * e) = 2 * (geo e * (2 * geo e + 1)) := by
  have h1 := geo_pow (2 * e)
  have h2 := geo_pow e
  rw [Nat.two_mul, Nat.pow_add, ← h2] at h1
  rw [← Nat.two_mul] at h1
  have h3 : (4 * geo e + 1) * (4 * geo e + 1) = 16 * (geo e * geo e) + 8 * geo e + 1 := by
    rw [Nat.add_mul, Nat.mul_add, Nat.mul_one, Nat.one_mul, Nat.mul_mul_mul_comm]
    omega
  have h4 : geo e * (2 * geo e + 1) = 2 * (geo e * geo e) + geo e := by
    rw [Nat.mul_add, Nat.mul_one, Nat.mul_left_comm]
  rw [h3] at h1
  rw [h4]
  omega
theorem odd_out : ∀ (k a b : Nat), 2 ^ k ∣ a * (2 * b + 1) → 2 ^ k ∣ a
  | 0, a, _, _ => by simp
  | k + 1, a, b, h => by
    have hpar : a * (2 * b + 1) = 2 * (a * b) + a := by
      rw [Nat.mul_add, Nat.mul_one, Nat.mul_left_comm]
    have h2 : 2 ∣ a * (2 * b + 1) := Nat.dvd_trans ⟨2 ^ k, by rw [Nat.pow_succ, Nat.mul_comm]⟩ h
    obtain ⟨a', rfl⟩ : ∃ a', a = 2 * a' := by
      rw [hpar] at h2
      exact ⟨a / 2, by omega⟩
    have h3 : 2 ^ k ∣ a' * (2 * b + 1) := by
      rw [Nat.pow_succ, Nat.mul_comm (2 ^ k) 2, Nat.mul_assoc] at h
      exact Nat.dvd_of_mul_dvd_mul_left (by decide) h
    rw [Nat.pow_succ, Nat.mul_comm (2 ^ k) 2]
    exact Nat.mul_dvd_mul_left 2 (odd_out k a' b h3)
theorem geo_dvd : ∀ (k d : Nat), 2 ^ k ∣ geo d → 2 ^ k ∣ d
  | 0, d, _ => by simp
  | k + 1, d, h => by
    have h2 : 2 ∣ geo d := Nat.dvd_trans ⟨2 ^ k, by rw [Nat.pow_succ, Nat.mul_comm]⟩ h
    have hp := geo_par d
    obtain ⟨e, rfl⟩ : ∃ e, d = 2 * e := ⟨d / 2, by omega⟩
    rw [geo_two, Nat.pow_succ, Nat.mul_comm (2 ^ k) 2] at h
    rw [Nat.pow_succ, Nat.mul_comm (2 ^ k) 2]
    exact Nat.mul_dvd_mul_left 2 (geo_dvd k e (odd_out k _ _ (Nat.dvd_of_mul_dvd_mul_left (by decide) h)))
theorem five_mod {m a b : Nat} (h : a % (m + 1) = b % (m + 1)) : (a * 5 + 1) % (m + 1) = (b * 5 + 1) % (m + 1) := by
  rw [Nat.add_mod, Nat.mul_mod, h, ← Nat.mul_mod, ← Nat.add_mod]
theorem five_at (m x : Nat) : ∀ d, lcgI m x d % (m + 1) = (5 ^ d * x + geo d) % (m + 1)
  | 0 => by simp [lcgI, geo]
  | d + 1 => by
    show (lcgI m x d * 5 + 1) % (m + 1) % (m + 1) = _
    rw [Nat.mod_mod, five_mod (five_at m x d)]
    congr 1
    show (5 ^ d * x + geo d) * 5 + 1 = 5 ^ (d + 1) * x + (5 * geo d + 1)
    have e : 5 ^ d * x * 5 = 5 ^ d * 5 * x := Nat.mul_right_comm _ _ _
    rw [Nat.pow_succ, Nat.add_mul, e]
    omega
theorem five_le {m x : Nat} (hx : x ≤ m) : ∀ d, lcgI m x d ≤ m
  | 0 => hx
  | _ + 1 => Nat.le_of_lt_succ (Nat.mod_lt _ (Nat.succ_pos _))
theorem five_add (m x a : Nat) : ∀ d, lcgI m x (a + d) = lcgI m (lcgI m x a) d
  | 0 => rfl
  | d + 1 => congrArg (fun z => (z * 5 + 1) % (m + 1)) (five_add m x a d)
theorem five_apart {m k x a b : Nat} (hm : m + 1 = 2 ^ k) (hx : x ≤ m) (hab : a < b) (hb : b ≤ m) : lcgI m x a ≠ lcgI m x b := fun e => by
  obtain ⟨d, rfl⟩ : ∃ d, b = a + d := ⟨b - a, by omega⟩
  rw [five_add] at e
  have hy := five_le hx a
  generalize lcgI m x a = y at e hy
  have h1 := five_at m y d
  rw [← e, ← geo_pow d] at h1
  have h2 : (4 * geo d + 1) * y + geo d = y + geo d * (2 * (2 * y) + 1) := by
    have z : geo d * (2 * (2 * y) + 1) = 4 * geo d * y + geo d := by
      rw [Nat.mul_add, Nat.mul_one, ← Nat.mul_assoc 2 2 y, Nat.mul_left_comm, ← Nat.mul_assoc]
    rw [z, Nat.add_mul, Nat.one_mul]
    omega
  rw [h2] at h1
  have h3 := Nat.sub_mod_eq_zero_of_mod_eq h1.symm
  rw [Nat.add_sub_cancel_left] at h3
  have h4 := geo_dvd k d (odd_out k _ _ (hm ▸ Nat.dvd_of_mod_eq_zero h3))
  have := Nat.le_of_dvd (by omega) h4
  omega
/-- among the first runs one begins at a slot that is not taken -/
theorem run_gap {m k n : Nat} (hm : m + 1 = 2 ^ k) (h : Int) {occ : List Nat} (hl : occ.length ≤ n) (hn : n ≤ m) : ∃ N, N ≤ 12 + n ∧ runI m (SetTable.bits h) N ∉ occ := by
  rcases Classical.em (∃ N, N ≤ 12 + n ∧ runI m (SetTable.bits h) N ∉ occ) with c | c
  · exact c
  · exfalso
    have sub : ∀ x ∈ (List.range (n + 1)).map fun j => runI m (SetTable.bits h) (12 + j), x ∈ occ := fun x hx => by
      obtain ⟨j, hj, rfl⟩ := List.mem_map.mp hx
      have hj := List.mem_range.mp hj
      rcases Classical.em (runI m (SetTable.bits h) (12 + j) ∈ occ) with z | z
      · exact z
      · exact absurd ⟨12 + j, by omega, z⟩ c
    have nd : ((List.range (n + 1)).map fun j => runI m (SetTable.bits h) (12 + j)).Nodup := by
      refine List.pairwise_map.mpr (List.Pairwise.imp_of_mem (fun {a b} _ hb hab => ?_) (List.pairwise_lt_range (n := n + 1)))
      have hb := List.mem_range.mp hb
      rw [runI_tail (bits_lt h), runI_tail (bits_lt h)]
      exact five_apart hm (runI_le m _ 12) hab (by omega)
    have := nat_nodup_len _ occ nd sub
    rw [List.length_map, List.length_range] at this
    omega
theorem wayG_le (m : Nat) (h : Int) (c : Nat) : way m h c ≤ m := by
  have h1 : SetTable.bits h % (m + 1) ≤ m := Nat.le_of_lt_succ (Nat.mod_lt _ (Nat.succ_pos _))
  have h2 := runEnd_bd h1
  have h3 := nth_in (m := m) c (runAt m (SetTable.bits h % (m + 1)) (SetTable.bits h)) (by
    show SetTable.bits h % (m + 1) + (SetTable.runEnd m (SetTable.bits h % (m + 1)) - SetTable.bits h % (m + 1)) ≤ m
    omega)
  exact Nat.le_trans (Nat.le_add_right _ _) h3
/-- a table whose entries, with the hashes hs, are all met on their ways -/
structure TabG (t : SetTable) (hs : List Int) : Prop where
  up : Ris t.place.toList
  no : t.dummies = #[]
  ln : t.place.size = hs.length
  pw : ∃ k, t.mask + 1 = 2 ^ k ∧ 3 ≤ k
  le : ∀ x ∈ t.place.toList, x ≤ t.mask
  met : ∀ (i : Nat) (h : Int) (j : Nat), hs[i]? = some h → t.place.toList[i]? = some j → ∃ c, way t.mask h c = j ∧ ∀ d, d < c → way t.mask h d ∈ t.place.toList
theorem TabG.gap {t : SetTable} {hs : List Int} (T : TabG t hs) (hl : hs.length ≤ t.mask) (h : Int) : ∃ c, c ≤ 10 * (12 + hs.length) ∧ way t.mask h c ∉ t.place.toList ∧ ∀ d, d < c → way t.mask h d ∈ t.place.toList := by
  obtain ⟨k, hk, _⟩ := T.pw
  obtain ⟨N, hN, hno⟩ := run_gap hk h (occ := t.place.toList) (n := hs.length) (by rw [Array.length_toList, T.ln]; exact Nat.le_refl _) hl
  obtain ⟨q, hq, e⟩ := run_nth t.mask (SetTable.bits h) N
  have eq : way t.mask h q = runI t.mask (SetTable.bits h) N := congrArg SetTable.Probe.j e
  obtain ⟨c, c1, c2, c3⟩ := st_least (p := fun d => way t.mask h d ∉ t.place.toList) q (by show way t.mask h q ∉ _; rw [eq]; exact hno)
  exact ⟨c, by omega, c2, fun d hd => Classical.not_not.mp (c3 d hd)⟩
theorem TabG.early {t : SetTable} {hs : List Int} (T : TabG t hs) {h : Int} {c i j : Nat} (ho : way t.mask h c ∉ t.place.toList) (hi : hs[i]? = some h) (hj : t.place.toList[i]? = some j) : ∃ d, d < c ∧ way t.mask h d = j := by
  obtain ⟨d, e, hb⟩ := T.met i h j hi hj
  refine ⟨d, ?_, e⟩
  rcases Nat.lt_or_ge d c with z | z
  · exact z
  · exfalso
    rcases Nat.lt_or_ge c d with y | y
    · exact ho (hb c y)
    · have : d = c := Nat.le_antisymm y z
      rw [this] at e
      rw [e] at ho
      exact ho (List.mem_of_getElem? hj)
theorem TabG.put {t : SetTable} {hs : List Int} (T : TabG t hs) {h : Int} {c q : Nat} (hq : q = SetTable.below t.place (way t.mask h c)) (ho : way t.mask h c ∉ t.place.toList) (hb : ∀ d, d < c → way t.mask h d ∈ t.place.toList) :
    q ≤ hs.length ∧ TabG (t.put (way t.mask h c)).1 (hs.take q ++ h :: hs.drop q) ∧ (t.put (way t.mask h c)).1.fill = hs.length + 1 := by
  have hjm := wayG_le t.mask h c
  generalize hje : way t.mask h c = j at hq ho hjm
  have hle : q ≤ t.place.size := by
    rw [hq]
    exact (below_cut T.up j).1
  have hlh : q ≤ hs.length := by rw [← T.ln]; exact hle
  have hll : q ≤ t.place.toList.length := by rw [Array.length_toList]; exact hle
  have epl : (t.put j).1.place.toList = t.place.toList.take q ++ j :: t.place.toList.drop q := by rw [hq]; exact put_place t j
  have more : ∀ {x : Nat}, x ∈ t.place.toList → x ∈ (t.put j).1.place.toList := fun {x} hx => by
    rw [epl]
    exact mem_ins.2 (.inr hx)
  have hnot : t.place[SetTable.below t.place j]? ≠ some j := fun e => ho (List.mem_of_getElem? (by rw [Array.getElem?_toList]; exact e))
  have esz : (t.put j).1.place.size = hs.length + 1 := by
    rw [← Array.length_toList, epl, len_ins _ hll, Array.length_toList, T.ln]
  refine ⟨hlh, ⟨ris_insert T.up hnot, put_dm T.no j, by rw [len_ins _ hlh, esz], T.pw, fun x hx => ?_, fun i h' j' e1 e2 => ?_⟩, ?_⟩
  · rw [epl] at hx
    rcases mem_ins.1 hx with z | z
    · exact z ▸ hjm
    · exact T.le x z
  · rw [tins_get hs hlh] at e1
    rw [epl, tins_get _ hll] at e2
    have old : ∀ i0, hs[i0]? = some h' → t.place.toList[i0]? = some j' → ∃ c, way t.mask h' c = j' ∧ ∀ d, d < c → way t.mask h' d ∈ (t.put j).1.place.toList := fun i0 a1 a2 => by
      obtain ⟨d, z1, z2⟩ := T.met i0 h' j' a1 a2
      exact ⟨d, z1, fun d' hd => more (z2 d' hd)⟩
    rcases Nat.lt_trichotomy i q with z | z | z
    · rw [if_pos z] at e1 e2
      exact old i e1 e2
    · have nz : ¬ i < q := by omega
      rw [if_neg nz, if_pos z] at e1 e2
      cases e1
      cases e2
      exact ⟨c, hje, fun d hd => more (hb d hd)⟩
    · have nz : ¬ i < q := by omega
      have nz2 : ¬ i = q := by omega
      rw [if_neg nz, if_neg nz2] at e1 e2
      exact old (i - 1) e1 e2
  · show (t.put j).1.place.size + (t.put j).1.dummies.size = hs.length + 1
    rw [esz, put_dm T.no j]
    rfl
/-! ### all laid anew -/
/-- who sits where, when the hashes done are laid -/
structure Sits (m : Nat) (done : List Int) (ow : Array (Option Nat)) : Prop where
  sz : ow.size = m + 1
  who : ∀ j n, j ≤ m → oAt ow j = some n → ∃ h c, done[n]? = some h ∧ way m h c = j ∧ ∀ d, d < c → oAt ow (way m h d) ≠ none
  each : ∀ n, n < done.length → ∃ j, j ≤ m ∧ oAt ow j = some n
  few : ∃ occ : List Nat, occ.length = done.length ∧ ∀ j, j ≤ m → oAt ow j ≠ none → j ∈ occ
theorem Sits.more {m k : Nat} (hm : m + 1 = 2 ^ k) {done : List Int} {ow : Array (Option Nat)} (W : Sits m done ow) (hl : done.length ≤ m) (h : Int) :
    ∃ j, SetTable.layClean.free m ow (SetTable.turns m) (SetTable.bits h % (m + 1)) (SetTable.bits h) = some j ∧ Sits m (done ++ [h]) (ow.setIfInBounds j (some done.length)) := by
  obtain ⟨occ, ho1, ho2⟩ := W.few
  obtain ⟨N, hN, hno⟩ := run_gap hm h (occ := occ) (n := done.length) (by omega) hl
  have hst : way m h (off m (SetTable.bits h % (m + 1)) (SetTable.bits h) N) = runI m (SetTable.bits h) N := by
    show (nth m (runAt m (SetTable.bits h % (m + 1)) (SetTable.bits h)) (off m (SetTable.bits h % (m + 1)) (SetTable.bits h) N)).j = _
    rw [nth_off, itL_run]
    rfl
  have isN : ∀ {o : Option Nat}, ¬ o ≠ none → o = none := fun {o} z => Classical.not_not.mp z
  have free0 : oAt ow (runI m (SetTable.bits h) N) = none := isN fun z => hno (ho2 _ (runI_le m _ N) z)
  obtain ⟨c, c1, c2, c3⟩ := st_least (p := fun d => oAt ow (way m h d) = none) (off m (SetTable.bits h % (m + 1)) (SetTable.bits h) N) (by
    show oAt ow (way m h _) = none
    rw [hst]
    exact free0)
  have found : SetTable.layClean.free m ow (SetTable.turns m) (SetTable.bits h % (m + 1)) (SetTable.bits h) = some (way m h c) := by
    refine free_spec m ow (SetTable.turns m) N _ _ c (by unfold SetTable.turns; omega) c1 (fun d hd => ?_) ?_
    · cases z : oAt ow (nth m (runAt m (SetTable.bits h % (m + 1)) (SetTable.bits h)) d).j with
      | none => exact absurd z (c3 d hd)
      | some _ => rfl
    · have z : oAt ow (nth m (runAt m (SetTable.bits h % (m + 1)) (SetTable.bits h)) c).j = none := c2
      rw [z]
      rfl
  have hwm := wayG_le m h c
  have hws : way m h c < ow.size := by rw [W.sz]; omega
  have here := oAt_set_self (some done.length) hws
  have keep : ∀ {i : Nat}, oAt ow i ≠ none → oAt (ow.setIfInBounds (way m h c) (some done.length)) i ≠ none := fun {i} hi => by
    rcases Classical.em (i = way m h c) with z | z
    · rw [z, here]
      simp
    · rw [oAt_set_ne _ z]
      exact hi
  refine ⟨way m h c, found, by rw [Array.size_setIfInBounds, W.sz], fun j n hj e => ?_, fun n hn => ?_, way m h c :: occ, by simp [ho1], fun j hj e => ?_⟩
  · rcases Classical.em (j = way m h c) with z | z
    · rw [z, here] at e
      cases e
      exact ⟨h, c, by simp, z.symm, fun d hd => keep (c3 d hd)⟩
    · rw [oAt_set_ne _ z] at e
      obtain ⟨h', c', a1, a2, a3⟩ := W.who j n hj e
      exact ⟨h', c', by rw [List.getElem?_append_left (List.getElem?_eq_some_iff.mp a1).1]; exact a1, a2, fun d hd => keep (a3 d hd)⟩
  · rcases Nat.lt_or_ge n done.length with z | z
    · obtain ⟨j, hj, e⟩ := W.each n z
      refine ⟨j, hj, ?_⟩
      rw [oAt_set_ne _ fun y => by rw [y, c2] at e; cases e]
      exact e
    · have : n = done.length := by
        rw [List.length_append, List.length_singleton] at hn
        omega
      exact ⟨way m h c, hwm, this ▸ here⟩
  · rcases Classical.em (j = way m h c) with z | z
    · exact z ▸ List.mem_cons_self
    · rw [oAt_set_ne _ z] at e
      exact List.mem_cons_of_mem _ (ho2 j hj e)
theorem sits_all {m k : Nat} (hm : m + 1 = 2 ^ k) : ∀ (rest done : List Int) (ow : Array (Option Nat)), Sits m done ow → done.length + rest.length ≤ m →
    ∃ ow', rest.foldl (stepF m) (some (ow, done.length)) = some (ow', (done ++ rest).length) ∧ Sits m (done ++ rest) ow'
  | [], done, ow, W, _ => ⟨ow, by simp, by simpa using W⟩
  | h :: rest, done, ow, W, hl => by
    rw [List.length_cons] at hl
    obtain ⟨j, e, W1⟩ := W.more hm (by omega) h
    obtain ⟨ow', f, W2⟩ := sits_all hm rest (done ++ [h]) _ W1 (by rw [List.length_append, List.length_singleton]; omega)
    rw [List.append_assoc] at f W2
    refine ⟨ow', ?_, W2⟩
    rw [List.foldl_cons, stepF_some e]
    rw [List.length_append, List.length_singleton] at f
    exact f
theorem sits_clean {m k : Nat} (hm : m + 1 = 2 ^ k) {hs : Array Int} (hn : hs.size ≤ m) : ∃ ow, SetTable.layClean m hs = some ow ∧ Sits m hs.toList ow := by
  have W0 : Sits m [] (Array.replicate (m + 1) none) := ⟨by simp, fun j n hj e => (by rw [oAt_init hj] at e; cases e), fun n hn => absurd hn (Nat.not_lt_zero _), [], rfl, fun j hj e => absurd (oAt_init hj) e⟩
  obtain ⟨ow, f, W⟩ := sits_all hm hs.toList [] _ W0 (by show 0 + hs.toList.length ≤ m; rw [Array.length_toList]; omega)
  rw [List.nil_append] at W
  refine ⟨ow, ?_, W⟩
  rw [layClean_eq]
  have f' : hs.toList.foldl (stepF m) (some (Array.replicate (m + 1) none, 0)) = some (ow, _) := f
  rw [f']
  rfl
theorem anewG (t : SetTable) {hs : Array Int} {wanted m k : Nat} (hw : SetTable.sizeAbove wanted - 1 = m) (hm : m + 1 = 2 ^ k) (h3 : 3 ≤ k) (hn : hs.size ≤ m) :
    ∃ t' order, t.relaid hs wanted = some (t', order) ∧ order.toList.Perm (List.range hs.size) ∧ TabG t' (order.toList.map fun i => hs.getD i 0) ∧ t'.mask = m ∧ t'.led = t.led := by
  obtain ⟨ow, e, W⟩ := sits_clean hm hn
  have er : t.relaid hs wanted = some (tabOf t m ow, ((liveOf m ow).map (·.2)).toArray) := by
    rw [relaid_eq, hw, e]
    rfl
  obtain ⟨r1, r2⟩ := ris_live (fun j => ow.getD j none) (List.range (m + 1)) (List.pairwise_lt_range (n := m + 1))
  have r1 : Ris ((liveOf m ow).map (·.1)) := r1
  have r2 : ∀ x ∈ (liveOf m ow).map (·.1), x ∈ List.range (m + 1) := r2
  have lv := @mem_live m ow W.sz
  have all : ∀ n, n < hs.size → n ∈ (liveOf m ow).map (·.2) := fun n hn => by
    obtain ⟨j, b1, b2⟩ := W.each n (by rw [Array.length_toList]; exact hn)
    exact List.mem_map.mpr ⟨(j, n), lv.2 ⟨b1, b2⟩, rfl⟩
  have cnt : (liveOf m ow).length = hs.size := by
    obtain ⟨occ, p1, p2⟩ := W.few
    have nd : ((liveOf m ow).map (·.1)).Nodup := List.Pairwise.imp (fun z => Nat.ne_of_lt z) r1
    have a := nat_nodup_len ((liveOf m ow).map (·.1)) occ nd fun x hx => by
      obtain ⟨⟨y, n⟩, hq, rfl⟩ := List.mem_map.mp hx
      obtain ⟨b1, b2⟩ := lv.1 hq
      exact p2 y b1 (by rw [b2]; simp)
    have b := nat_nodup_len (List.range hs.size) ((liveOf m ow).map (·.2)) List.nodup_range fun n hn => all n (List.mem_range.mp hn)
    have a2 : (liveOf m ow).length ≤ hs.size := by
      rw [List.length_map, p1] at a
      exact a
    have b2 : hs.size ≤ (liveOf m ow).length := by
      rw [List.length_range, List.length_map] at b
      exact b
    exact Nat.le_antisymm a2 b2
  refine ⟨tabOf t m ow, ((liveOf m ow).map (·.2)).toArray, er, ?_, ⟨r1, rfl, ?_, ⟨k, hm, h3⟩, fun x hx => Nat.le_of_lt_succ (List.mem_range.mp (r2 x hx)), fun i h j e1 e2 => ?_⟩, rfl, rfl⟩
  · refine perm_range hs.size _ ?_ fun n hn => ?_
    · rw [List.length_map]
      exact cnt
    · exact all n hn
  · show ((liveOf m ow).map (·.1)).toArray.size = (((liveOf m ow).map (·.2)).map _).length
    rw [List.size_toArray, List.length_map, List.length_map, List.length_map]
  · have e1 : (((liveOf m ow).map (·.2)).map fun i => hs.getD i 0)[i]? = some h := e1
    have e2 : ((liveOf m ow).map (·.1))[i]? = some j := e2
    rw [List.getElem?_map, List.getElem?_map] at e1
    rw [List.getElem?_map] at e2
    cases hq : (liveOf m ow)[i]? with
    | none => rw [hq] at e2; cases e2
    | some q =>
      obtain ⟨y, n⟩ := q
      rw [hq] at e1 e2
      cases e2
      have e1 : hs.getD n 0 = h := Option.some.inj e1
      obtain ⟨b1, b2⟩ := lv.1 (List.mem_of_getElem? hq)
      obtain ⟨h0, c, a1, a2, a3⟩ := W.who y n b1 b2
      have e3 : hs.getD n 0 = h0 := by
        rw [Array.getD_eq_getD_getElem?, ← Array.getElem?_toList, a1]
        rfl
      rw [e3] at e1
      subst e1
      refine ⟨c, a2, fun d hd => ?_⟩
      show way m h0 d ∈ (liveOf m ow).map (·.1)
      cases z : oAt ow (way m h0 d) with
      | none => exact absurd z (a3 d hd)
      | some n2 => exact List.mem_map.mpr ⟨(way m h0 d, n2), lv.2 ⟨wayG_le m h0 d, z⟩, rfl⟩
/-- how large a table is laid -/
theorem above_go (n : Nat) : ∀ (f j : Nat), n < 2 ^ (j + f) → ∃ k, SetTable.sizeAbove.go n f (2 ^ j) = 2 ^ k ∧ j ≤ k ∧ n < 2 ^ k ∧ (2 ^ k ≤ 2 ^ j ∨ 2 ^ k ≤ 2 * n)
  | 0, j, h => ⟨j, rfl, Nat.le_refl _, h, .inl (Nat.le_refl _)⟩
  | f + 1, j, h => by
    show ∃ k, (if 2 ^ j ≤ n then SetTable.sizeAbove.go n f (2 ^ j * 2) else 2 ^ j) = 2 ^ k ∧ _
    by_cases c : 2 ^ j ≤ n
    · rw [if_pos c, ← Nat.pow_succ]
      obtain ⟨k, h1, h2, h3, h4⟩ := above_go n f (j + 1) (by rw [show j + 1 + f = j + (f + 1) by omega]; exact h)
      refine ⟨k, h1, by omega, h3, .inr ?_⟩
      rcases h4 with h4 | h4
      · rw [Nat.pow_succ] at h4
        omega
      · exact h4
    · rw [if_neg c]
      exact ⟨j, rfl, Nat.le_refl _, by omega, .inl (Nat.le_refl _)⟩
theorem above_ok {n : Nat} (h : n < 2 ^ 60) : ∃ k, SetTable.sizeAbove n = 2 ^ k ∧ 3 ≤ k ∧ n < 2 ^ k ∧ 2 ^ k ≤ 2 * n + 8 := by
  obtain ⟨k, h1, h2, h3, h4⟩ := above_go n 64 3 (Nat.lt_of_lt_of_le h (Nat.pow_le_pow_right (by decide) (by decide)))
  refine ⟨k, h1, h2, h3, ?_⟩
  rcases h4 with h4 | h4
  · have : (2 : Nat) ^ 3 = 8 := rfl
    omega
  · omega
end Tr

set_option Elab.async false
set_option linter.all false
set_option maxRecDepth 100000
/-! Lay38: sets of nested tuples: one more is put in. -/
namespace Tr
open PySem PySem.Spec PyProof.Rows L2 TL
abbrev KeyAt (h : Heap) (k : NestedKey) (a : Addr) : Prop := NestedIs h k (.ref a) ∧ k.depth ≤ 8
theorem items_keys {h : Heap} : ∀ {ks : List NestedKey} {vs : List Value}, NestedAll h ks vs → ∀ v ∈ vs, ∃ k, NestedIs h k v ∧ k.depth ≤ NestedKey.depthAll ks
  | _, _, .nil, v, hv => by cases hv
  | _, _, .cons (k := k) (ks := ks) h1 h2, v, hv => by
    rcases List.mem_cons.mp hv with rfl | hv
    · exact ⟨k, h1, by simp only [NestedKey.depthAll]; omega⟩
    · obtain ⟨k', h3, h4⟩ := items_keys h2 v hv
      exact ⟨k', h3, by simp only [NestedKey.depthAll]; omega⟩
section
variable {P : Program} {w : World} {A : Around} {E : Value → Shared → Prop} {s : Shared}
theorem plain_noClass {k : NestedKey} {v : Value} (hk : NestedIs s.heap k v) (hn : ∀ a, v ≠ .ref a) (n : Nat) : ofAClassStatement n v = pure false := by
  cases hk with
  | tup => exact absurd rfl (hn _)
  | _ => cases n <;> rfl
/-- a key is of no class statement -/
theorem key_noClass (n : Nat) : ∀ {k : NestedKey} {v : Value}, NestedIs s.heap k v → k.depth ≤ n → ∀ {Q : Bool → Shared → Prop}, Q false s → wpAny (model P w) A (ofAClassStatement n v) Q E s := by
  induction n with
  | zero =>
    intro k v hk hd Q h
    cases hk with
    | tup h1 h2 h3 h4 => simp only [NestedKey.depth] at hd; omega
    | none => rw [plain_noClass (s := s) .none (fun a e => nomatch e)]; exact wpAny_pure h
    | bool e => rw [plain_noClass (s := s) (.bool e) (fun a e => nomatch e)]; exact wpAny_pure h
    | int i t => rw [plain_noClass (s := s) (.int i t) (fun a e => nomatch e)]; exact wpAny_pure h
    | text x t => rw [plain_noClass (s := s) (.text x t) (fun a e => nomatch e)]; exact wpAny_pure h
  | succ n ih =>
    intro k v hk hd Q h
    cases hk with
    | @tup a o vs m ks h1 h2 h3 h4 =>
        simp only [NestedKey.depth] at hd
        have hT : s.TypeIs (.ref a) "tuple" := ⟨o, h1, h2⟩
        unfold ofAClassStatement
        refine wpAny_bind (wpAny_typeOf hT ?_)
        dsimp only
        simp only [show (("tuple" : String) == "tuple") = true from by decide, if_true, Bool.not_true, Bool.false_eq_true, if_false]
        try refine wpAny_bind (wpAny_pure ?_)
        try simp only [Bool.not_true, Bool.false_eq_true, if_false]
        show wpAny _ _ (seqItems? (.ref a) >>= _) _ _ s
        refine wpAny_bind (wpAny_seqItems h1 h3 ?_)
        dsimp only
        refine wpAny_bind ?_
        show wpAny _ _ (forIn vs _ _) _ _ s
        rw [← Array.forIn_toList]
        refine wpAny_forIn_list _ (fun l r z => r.1 = none ∧ z = s ∧ ∀ v ∈ l, ∃ k, NestedIs s.heap k v ∧ k.depth ≤ n) _ ?_ ?_ _ _ ⟨rfl, rfl, fun v hv => ?_⟩
        · rintro v l r z ⟨hr, rfl, hall⟩
          obtain ⟨k', hk1, hk2⟩ := hall v List.mem_cons_self
          refine wpAny_bind (ih hk1 hk2 ?_)
          simp only [Bool.false_eq_true, if_false]
          exact wpAny_pure ⟨rfl, rfl, fun y hy => hall y (List.mem_cons_of_mem _ hy)⟩
        · rintro ⟨r1, r2⟩ z ⟨hr, rfl, _⟩
          simp only at hr
          subst hr
          exact wpAny_pure h
        · obtain ⟨k', hk1, hk2⟩ := items_keys h4 v hv
          exact ⟨k', hk1, by omega⟩
    | none => rw [plain_noClass (s := s) .none (fun a e => nomatch e)]; exact wpAny_pure h
    | bool e => rw [plain_noClass (s := s) (.bool e) (fun a e => nomatch e)]; exact wpAny_pure h
    | int i t => rw [plain_noClass (s := s) (.int i t) (fun a e => nomatch e)]; exact wpAny_pure h
    | text x t => rw [plain_noClass (s := s) (.text x t) (fun a e => nomatch e)]; exact wpAny_pure h
/-- whether a key's hash is by value: whatever the answer, nothing changes -/
theorem key_hashBy (n : Nat) : ∀ {k : NestedKey} {v : Value}, NestedIs s.heap k v → ∀ {Q : Bool → Shared → Prop}, (∀ b, Q b s) → wpAny (model P w) A (hashByValue n v) Q E s := by
  induction n with
  | zero =>
    intro k v hk Q h
    cases hk with
    | text x t => exact wpAny_pure (h false)
    | tup h1 h2 h3 h4 => exact wpAny_pure (h false)
    | _ => exact wpAny_pure (h true)
  | succ n ih =>
    intro k v hk Q h
    cases hk with
    | @tup a o vs m ks h1 h2 h3 h4 =>
        have hT : s.TypeIs (.ref a) "tuple" := ⟨o, h1, h2⟩
        unfold hashByValue
        refine wpAny_bind (wpAny_specialOf hT F.slot_tuple_hash.lookup ?_)
        show wpAny _ _ (seqItems? (.ref a) >>= _) _ _ s
        refine wpAny_bind (wpAny_seqItems h1 h3 ?_)
        refine wpAny_bind ?_
        show wpAny _ _ (forIn vs _ _) _ _ s
        rw [← Array.forIn_toList]
        refine wpAny_forIn_list _ (fun l r z => r.1 = none ∧ z = s ∧ ∀ v ∈ l, ∃ k, NestedIs s.heap k v) _ ?_ ?_ _ _ ⟨rfl, rfl, fun v hv => ?_⟩
        · rintro v l r z ⟨hr, rfl, hall⟩
          obtain ⟨k', hk1⟩ := hall v List.mem_cons_self
          refine wpAny_bind (ih hk1 fun b => ?_)
          cases b with
          | true =>
            simp only [Bool.not_true, Bool.false_eq_true, if_false]
            exact wpAny_pure ⟨rfl, rfl, fun y hy => hall y (List.mem_cons_of_mem _ hy)⟩
          | false =>
            simp only [Bool.not_false, if_true]
            exact wpAny_pure (wpAny_pure (h false))
        · rintro ⟨r1, r2⟩ z ⟨hr, rfl, _⟩
          simp only at hr
          subst hr
          exact wpAny_pure (h true)
        · obtain ⟨k', hk1, _⟩ := items_keys h4 v hv
          exact ⟨k', hk1⟩
    | none => exact wpAny_pure (h true)
    | bool e => exact wpAny_pure (h true)
    | int i t => exact wpAny_pure (h true)
    | text x t => exact wpAny_pure (h false)
/-- a search among keys shows nothing -/
theorem key_seen {k : NestedKey} {b : Addr} {Q : Bool → Shared → Prop} (hk : KeyAt s.heap k b) {ys : List Value} (hy : ∀ y ∈ ys, ∃ k' c, y = Value.ref c ∧ KeyAt s.heap k' c) (h : Q false s) : wpAny (model P w) A (searchCouldBeSeen (.ref b) ys) Q E s := by
  unfold searchCouldBeSeen
  refine wpAny_bind ?_
  refine wpAny_forIn_list _ (fun l r z => r.1 = none ∧ z = s ∧ ∀ y ∈ l, ∃ k' c, y = Value.ref c ∧ KeyAt s.heap k' c) _ ?_ ?_ _ _ ⟨rfl, rfl, hy⟩
  · rintro v l r z ⟨hr, rfl, hall⟩
    obtain ⟨k', c, rfl, hc⟩ := hall v List.mem_cons_self
    have tail : ∀ y ∈ l, ∃ k' c, y = Value.ref c ∧ KeyAt z.heap k' c := fun u hu => hall u (List.mem_cons_of_mem _ hu)
    dsimp only
    by_cases hv : (b == c || (carriedByValue (.ref b) && carriedByValue (.ref c))) = true
    · exact wp_if_pos hv (wpAny_pure ⟨rfl, rfl, tail⟩)
    · refine wp_if_neg hv ?_
      refine wpAny_bind ((nestedKind P w).quiet hk ?_)
      simp only [Bool.not_true, Bool.false_eq_true, if_false]
      refine wpAny_bind ((nestedKind P w).quiet hc ?_)
      simp only [Bool.not_true, Bool.false_eq_true, if_false]
      refine wpAny_bind (key_noClass 8 hk.1 hk.2 ?_)
      simp only [Bool.false_eq_true, if_false]
      refine wpAny_bind (key_noClass 8 hc.1 hc.2 ?_)
      simp only [Bool.false_eq_true, if_false]
      exact wpAny_pure ⟨rfl, rfl, tail⟩
  · rintro ⟨r1, r2⟩ z ⟨hr, rfl, _⟩
    simp only at hr
    subst hr
    exact wpAny_pure h
end
/-! ### the set at a holds the keys L -/
def rowsN (w : World) (L : List (Addr × NestedKey)) : List (Int × Value) := L.map fun p => (p.2.hash w, Value.ref p.1)
structure SetN (P : Program) (w : World) (h : Heap) (a : Addr) (L : List (Addr × NestedKey)) (es : Array (Int × Value)) (ep : Nat) (t : SetTable) : Prop where
  ob : ∃ o, h.get? a = some o ∧ o.ExactSet ∧ o.data = .set es ep t
  rows : es.toList = rowsN w L
  tab : TabG t (L.map fun p => p.2.hash w)
  nd : (L.map (·.2)).Nodup
  key : ∀ p ∈ L, KeyAt h p.2 p.1
  led : w.params.followText "set-order" = true ∨ t.led = true
  room : L.length * 5 < t.mask * 3
  few : L.length ≤ 9900
section
variable {P : Program} {w : World} {A : Around} {E : Value → Shared → Prop} {s : Shared} {a : Addr} {L : List (Addr × NestedKey)} {es : Array (Int × Value)} {ep : Nat} {t : SetTable}
theorem rowsN_len {es : Array (Int × Value)} (h : es.toList = rowsN w L) : es.size = L.length := by
  have := congrArg List.length h
  unfold rowsN at this
  rwa [Array.length_toList, List.length_map] at this
theorem tab_fits {t : SetTable} {hs : List Int} {n : Nat} (T : TabG t hs) (hn : hs.length = n) (hm : n ≤ t.mask) : t.fits n = true := by
  have h1 := T.ln
  unfold SetTable.fits SetTable.fill
  rw [T.no, Bool.and_eq_true, beq_iff_eq, decide_eq_true_eq]
  show t.place.size = n ∧ t.place.size + 0 ≤ t.mask
  omega
theorem SetN.fits (R : SetN P w s.heap a L es ep t) : t.fits es.size = true := tab_fits R.tab (by rw [List.length_map, rowsN_len R.rows]) (by have := R.room; rw [rowsN_len R.rows]; omega)
theorem SetN.at (R : SetN P w s.heap a L es ep t) {i : Nat} {p : Addr × NestedKey} (h : L[i]? = some p) : es[i]? = some (p.2.hash w, Value.ref p.1) := by
  rw [← Array.getElem?_toList, R.rows]
  unfold rowsN
  rw [List.getElem?_map, h]
  rfl
theorem TabG.solid {hs : List Int} (T : TabG t hs) : ¬ t.gaveWay = true := by
  obtain ⟨k, hk, h3⟩ := T.pw
  obtain ⟨j, rfl⟩ : ∃ j, k = j + 1 := ⟨k - 1, by omega⟩
  rw [Nat.pow_succ] at hk
  have : t.mask % 2 = 1 := by omega
  unfold SetTable.gaveWay
  rw [this]
  decide
/-- the search, from the d-th step on -/
theorem searchN (R : SetN P w s.heap a L es ep t) {x : Addr} {k : NestedKey} (hx : KeyAt s.heap k x) (hu : A.units + 8 < cLine) {c : Nat} (hcf : c < 10 * SetTable.turns t.mask)
    (ho : way t.mask (k.hash w) c ∉ t.place.toList) (hb : ∀ d, d < c → way t.mask (k.hash w) d ∈ t.place.toList) {Q : SetFound → Shared → Prop}
    (yes : k ∈ L.map (·.2) → Q (.there none) s) (no : k ∉ L.map (·.2) → Q (.free (way t.mask (k.hash w) c) false) s) :
    ∀ (f d : Nat) (stand : Option SetTable.Probe), stand.getD (t.probeStart (k.hash w)) = nth t.mask (runAt t.mask (SetTable.bits (k.hash w) % (t.mask + 1)) (SetTable.bits (k.hash w))) d → d ≤ c → c - d < f →
      (∀ (i : Nat) p, L[i]? = some p → p.2 = k → ∃ d', d ≤ d' ∧ d' < c ∧ t.place.toList[i]? = some (way t.mask (k.hash w) d')) →
      wpAny (model P w) A (setSearchFrom a (.ref x) (k.hash w) true f stand) Q E s
  | 0, d, stand, _, _, hf, _ => absurd hf (Nat.not_lt_zero _)
  | f + 1, d, stand, hst, hd, hf, hre => by
    obtain ⟨o, hob, hex, hdat⟩ := R.ob
    rw [setSearchFrom_succ]
    refine wpAny_bind (wpAny_setState_of hob hdat R.fits ?_)
    dsimp only
    refine wp_if_neg R.tab.solid ?_
    try refine wpAny_bind (wpAny_pure ?_)
    have nod : (nth t.mask (runAt t.mask (SetTable.bits (k.hash w) % (t.mask + 1)) (SetTable.bits (k.hash w))) d).dummy = none := by
      have go : ∀ (n : Nat) (p : SetTable.Probe), p.dummy = none → (nth t.mask p n).dummy = none := fun n => by
        induction n with
        | zero => exact fun p hp => hp
        | succ n ih => exact fun p hp => ih (adv t.mask p) (by unfold adv; split <;> exact hp)
      exact go d _ rfl
    have shift : ∀ q, nth t.mask (nth t.mask (runAt t.mask (SetTable.bits (k.hash w) % (t.mask + 1)) (SetTable.bits (k.hash w))) d) q = nth t.mask (runAt t.mask (SetTable.bits (k.hash w) % (t.mask + 1)) (SetTable.bits (k.hash w))) (d + q) := fun q => (nth_add t.mask d _ q).symm
    have atq : ∀ q, (nth t.mask (nth t.mask (runAt t.mask (SetTable.bits (k.hash w) % (t.mask + 1)) (SetTable.bits (k.hash w))) d) q).j = way t.mask (k.hash w) (d + q) := fun q => congrArg SetTable.Probe.j (shift q)
    have spec := go_spec t R.tab.up R.tab.no (fun i => (es[i]?.map (·.1)).getD 0) (k.hash w) (10 * SetTable.turns t.mask) (c - d) _ nod (by omega)
      (fun q hq => by rw [atq]; exact hb (d + q) (by omega)) (by rw [atq, show d + (c - d) = c by omega]; exact ho)
    have hsh : ∀ (i : Nat) p, L[i]? = some p → (fun i => (es[i]?.map (·.1)).getD 0) i = p.2.hash w := fun i p hp => by
      show (es[i]?.map (·.1)).getD 0 = _
      rw [R.at hp]
      rfl
    rcases spec with ⟨q, i, hq, hi, hh, hno, hpr⟩ | ⟨hno, hpr⟩
    · have epr : t.probe (fun i => (es[i]?.map (·.1)).getD 0) (k.hash w) (stand.getD (t.probeStart (k.hash w))) = some (.candidate (way t.mask (k.hash w) (d + q)) i (nth t.mask (runAt t.mask (SetTable.bits (k.hash w) % (t.mask + 1)) (SetTable.bits (k.hash w))) (d + (q + 1)))) := by
        rw [hst, ← atq, ← shift]
        exact hpr
      rw [epr]
      dsimp only
      rw [atq] at hi
      have hil : i < L.length := by
        have z1 := (List.getElem?_eq_some_iff.mp hi).1
        have z2 := R.tab.ln
        rw [List.length_map] at z2
        rw [Array.length_toList] at z1
        omega
      obtain ⟨p, hp⟩ : ∃ p, L[i]? = some p := ⟨L[i], List.getElem?_eq_getElem hil⟩
      have hmem : p ∈ L := List.mem_of_getElem? hp
      have hslot : t.slot (way t.mask (k.hash w) (d + q)) = .live i := slot_live R.tab.up hi
      have behind : wpAny (model P w) A (searchRest a (.ref x) (k.hash w) true f es t (way t.mask (k.hash w) (d + q)) i (nth t.mask (runAt t.mask (SetTable.bits (k.hash w) % (t.mask + 1)) (SetTable.bits (k.hash w))) (d + (q + 1)))) Q E s := by
        unfold searchRest
        rw [R.at hp]
        dsimp only
        refine wpAny_bind (wpAny_holding ((nestedKind P w).eqBool hu (R.key p hmem) hx ?_))
        refine wpAny_bind (wpAny_setState_of hob hdat R.fits ?_)
        dsimp only
        rcases Classical.em (p.2 = k) with z | z
        · exact wp_if_pos (by simp [z]) (wpAny_pure (yes (List.mem_map.mpr ⟨p, hmem, z⟩)))
        · refine wp_if_neg (by simp [z]) ?_
          try refine wpAny_bind (wpAny_pure ?_)
          rw [sameMem]
          dsimp only
          simp only [if_true, hslot, R.at hp]
          refine wpAny_bind (wpAny_isSame_ref_self (wpAny_bind (wpAny_pure ?_)))
          simp only [if_true]
          refine wp_if_neg (by simp [z]) ?_
          refine searchN R hx hu hcf ho hb yes no f (d + (q + 1)) _ rfl (by omega) (by omega) fun i0 p0 h0 e0 => ?_
          obtain ⟨d', a1, a2, a3⟩ := hre i0 p0 h0 e0
          refine ⟨d', ?_, a2, a3⟩
          rcases Nat.lt_trichotomy d' (d + q) with y | y | y
          · exfalso
            refine hno (d' - d) i0 (by omega) (by rw [atq, show d + (d' - d) = d' by omega]; exact a3) ?_
            exact (hsh i0 p0 h0).trans (by rw [e0])
          · exfalso
            rw [y] at a3
            have sl := slot_live R.tab.up a3
            rw [hslot] at sl
            injection sl with sl
            rw [← sl, hp] at h0
            cases h0
            exact z e0
          · omega
      by_cases hl : t.led = true
      · refine wp_if_neg (by simp [hl]) ?_
        try refine wpAny_bind (wpAny_pure ?_)
        exact behind
      · refine wp_if_pos (by simp [hl]) ?_
        refine wpAny_bind (key_seen hx (fun y hy => ?_) ?_)
        · obtain ⟨e, he, rfl⟩ := List.mem_map.mp hy
          have he1 : e ∈ es ∧ e.1 = k.hash w := by simpa using he
          have he2 : e ∈ es.toList := by simpa using he1.1
          rw [R.rows] at he2
          obtain ⟨p2, hp2, rfl⟩ := List.mem_map.mp he2
          exact ⟨p2.2, p2.1, rfl, R.key p2 hp2⟩
        · refine wp_if_neg (by decide) ?_
          try refine wpAny_bind (wpAny_pure ?_)
          exact behind
    · have epr : t.probe (fun i => (es[i]?.map (·.1)).getD 0) (k.hash w) (stand.getD (t.probeStart (k.hash w))) = some (.empty (way t.mask (k.hash w) c) none) := by
        have e2 : way t.mask (k.hash w) c = (nth t.mask (nth t.mask (runAt t.mask (SetTable.bits (k.hash w) % (t.mask + 1)) (SetTable.bits (k.hash w))) d) (c - d)).j := by
          rw [atq, show d + (c - d) = c by omega]
        rw [hst, e2]
        exact hpr
      rw [epr]
      dsimp only
      refine wpAny_pure (no fun hm => ?_)
      obtain ⟨p0, h0, e0⟩ := List.mem_map.mp hm
      obtain ⟨i0, hi0⟩ := List.mem_iff_getElem?.mp h0
      obtain ⟨d', a1, a2, a3⟩ := hre i0 p0 hi0 e0
      refine hno (d' - d) i0 (by omega) (by rw [atq, show d + (d' - d) = d' by omega]; exact a3) ?_
      exact (hsh i0 p0 hi0).trans (by rw [e0])
theorem searchN_at (R : SetN P w s.heap a L es ep t) {x : Addr} {k : NestedKey} (hx : KeyAt s.heap k x) (hu : A.units + 8 < cLine) {Q : SetFound → Shared → Prop} (yes : k ∈ L.map (·.2) → Q (.there none) s)
    (no : ∀ c, k ∉ L.map (·.2) → way t.mask (k.hash w) c ∉ t.place.toList → (∀ d, d < c → way t.mask (k.hash w) d ∈ t.place.toList) → Q (.free (way t.mask (k.hash w) c) false) s) : wpAny (model P w) A (setSearch a (.ref x) (k.hash w) true) Q E s := by
  have hroom := R.room
  have hfew := R.few
  obtain ⟨c, hc, ho, hb⟩ := R.tab.gap (by rw [List.length_map]; omega) (k.hash w)
  rw [List.length_map] at hc
  have hcf : c < 10 * SetTable.turns t.mask := by
    unfold SetTable.turns
    omega
  unfold setSearch
  refine searchN R hx hu hcf ho hb yes (fun hn => no c hn ho hb) 100000 0 none rfl (Nat.zero_le _) (by omega) fun i p hp hk => ?_
  have hi : (L.map fun p => p.2.hash w)[i]? = some (k.hash w) := by
    rw [List.getElem?_map, hp, ← hk]
    rfl
  have hil : i < t.place.toList.length := by
    have h1 := (List.getElem?_eq_some_iff.mp hp).1
    have h2 := R.tab.ln
    rw [List.length_map] at h2
    rw [Array.length_toList]
    omega
  obtain ⟨d, hd, e⟩ := R.tab.early ho hi (List.getElem?_eq_getElem hil)
  exact ⟨d, Nat.zero_le _, hd, by rw [List.getElem?_eq_getElem hil, e]⟩
end
end Tr

set_option Elab.async false
set_option linter.all false
set_option maxRecDepth 100000
/-! Lay39: set(a list of nested tuples), sorted and len of it. -/
namespace Tr
open PySem PySem.Spec PyProof.Rows L2 TL
theorem key_same {h h' : Heap} {k : NestedKey} {a b : Addr} {o : Obj} {es : Array (Int × Value)} {ep : Nat} {t : SetTable} (hb : KeyAt h k b) (ho : h.get? a = some o) (hd : o.data = .set es ep t) (hs : Heap.SameBut a h h') : KeyAt h' k b :=
  ⟨NestedIs.at (fun c u vs n hc hv => (hs.2 c fun e => by
    subst e
    rw [ho] at hc
    cases hc
    rw [hd] at hv
    cases hv).trans hc) k _ hb.1, hb.2⟩
theorem rowsN_ins {w : World} (L : List (Addr × NestedKey)) (q : Nat) (x : Addr) (k : NestedKey) : rowsN w (L.take q ++ (x, k) :: L.drop q) = (rowsN w L).take q ++ (k.hash w, Value.ref x) :: (rowsN w L).drop q := by
  unfold rowsN
  simp only [List.map_append, List.map_cons, List.map_take, List.map_drop]
/-- the entries in the order of the new table -/
theorem order_N {w : World} (L : List (Addr × NestedKey)) (es : Array (Int × Value)) (order : Array Nat) (hr : es.toList = rowsN w L) (hp : order.toList.Perm (List.range L.length)) :
    ∃ L2, (order.filterMap (es[·]?)).toList = rowsN w L2 ∧ L2.Perm L ∧ (L2.map fun p => p.2.hash w) = order.toList.map fun i => (es.map (·.1)).getD i 0 := by
  have ent : ∀ i (h : i < L.length), es[i]? = some ((L[i]).2.hash w, Value.ref (L[i]).1) := fun i h => by
    rw [← Array.getElem?_toList, hr]
    unfold rowsN
    rw [List.getElem?_map, List.getElem?_eq_getElem h]
    rfl
  have go : ∀ l : List Nat, (∀ i ∈ l, i < L.length) → l.filterMap (fun i => es[i]?) = rowsN w (l.filterMap fun i => L[i]?) ∧ ((l.filterMap fun i => L[i]?).map fun p => p.2.hash w) = l.map fun i => (es.map (·.1)).getD i 0 := fun l => by
    induction l with
    | nil => exact fun _ => ⟨rfl, rfl⟩
    | cons i l ih =>
      intro hl
      have hi := hl i List.mem_cons_self
      obtain ⟨z1, z2⟩ := ih fun j hj => hl j (List.mem_cons_of_mem _ hj)
      rw [List.filterMap_cons_some (ent i hi), List.filterMap_cons_some (List.getElem?_eq_getElem hi), z1]
      refine ⟨rfl, ?_⟩
      rw [List.map_cons, List.map_cons, z2]
      congr 1
      have z3 : (es.map (·.1))[i]? = some ((L[i]).2.hash w) := by
        rw [Array.getElem?_map, ent i hi]
        rfl
      simp [Array.getD_eq_getD_getElem?, z3]
  obtain ⟨z1, z2⟩ := go order.toList fun i hi => List.mem_range.mp (hp.mem_iff.mp hi)
  refine ⟨order.toList.filterMap fun i => L[i]?, by simpa using z1, (hp.filterMap _).trans (List.Perm.of_eq ?_), z2⟩
  have : ∀ n, n ≤ L.length → (List.range n).filterMap (fun i => L[i]?) = L.take n := fun n => by
    induction n with
    | zero => exact fun _ => rfl
    | succ n ih =>
      intro hn
      rw [List.range_succ, List.filterMap_append, ih (by omega), List.take_add_one]
      simp [List.getElem?_eq_getElem (by omega : n < L.length)]
  rw [this L.length (Nat.le_refl _), List.take_length]
section
variable {P : Program} {w : World} {A : Around} {E : Value → Shared → Prop} {s : Shared} {a : Addr} {L : List (Addr × NestedKey)} {es : Array (Int × Value)} {ep : Nat} {t : SetTable}
theorem relayN {o : Obj} (ho : s.heap.get? a = some o) (hex : o.ExactSet) (hd : o.data = .set es ep t) (hrows : es.toList = rowsN w L) (T : TabG t (L.map fun p => p.2.hash w)) (hfl : es.size ≤ t.mask)
    (nd : (L.map (·.2)).Nodup) (key : ∀ p ∈ L, KeyAt s.heap p.2 p.1) (ld : w.params.followText "set-order" = true ∨ t.led = true) (few : L.length ≤ 9900) (pos : 1 ≤ L.length) {Q : Unit → Shared → Prop}
    (hQ : ∀ h' L' es' ep' t', Heap.SameBut a s.heap h' → SetN P w h' a L' es' ep' t' → L'.Perm L → Q () { s with heap := h' }) : wpAny (model P w) A (setRelay a (SetTable.grown L.length)) Q E s := by
  have hsl := rowsN_len hrows
  have hg : SetTable.grown L.length = L.length * 4 := by
    unfold SetTable.grown
    rw [if_neg (by omega)]
  rw [hg]
  obtain ⟨k, k1, k2, k3, k4⟩ := above_ok (n := L.length * 4) (Nat.lt_of_le_of_lt (by omega : L.length * 4 ≤ 39600) (by decide))
  have hM : SetTable.sizeAbove (L.length * 4) - 1 + 1 = 2 ^ k := by omega
  obtain ⟨t', order, e, hp, T', em, el⟩ := anewG t (hs := es.map (·.1)) (wanted := L.length * 4) rfl hM k2 (by rw [Array.size_map, hsl]; omega)
  rw [Array.size_map, hsl] at hp
  obtain ⟨L2, r1, r2, r3⟩ := order_N L es order hrows hp
  rw [← r3] at T'
  have hs2 := (rowsN_len r1).trans (r2.length_eq.trans hsl.symm)
  rw [setRelay_eq]
  refine wpAny_bind (wpAny_setState_of ho hd (tab_fits T (by rw [List.length_map, hsl]) hfl) ?_)
  dsimp only
  refine wp_if_neg (by rw [sizeLine_eq]; omega) ?_
  try refine wpAny_bind (wpAny_pure ?_)
  rw [e]
  dsimp only
  refine wpAny_bind ?_
  refine wp_if_neg (by rw [hs2]; simp) ?_
  try refine wpAny_bind (wpAny_pure ?_)
  refine wpAny_pure ?_
  dsimp only
  refine wpAny_storeSet_of ho hd ?_ (by rw [hs2, hsl, sizeLine_eq]; omega)
  have sb : Heap.SameBut a s.heap (s.heap.update a (Obj.putSet (order.filterMap (es[·]?)) t')) := Heap.SameBut.update ..
  refine hQ _ L2 _ (ep + 1) t' sb ⟨⟨_, store_at ho hd, ⟨hex.1, hex.2.1, hex.2.2⟩, rfl⟩, r1, T', (r2.map (·.2)).nodup_iff.mpr nd, fun p hpm => key_same (key p (r2.mem_iff.mp hpm)) ho hd sb, by rw [el]; exact ld, ?_, by rw [r2.length_eq]; exact few⟩ r2
  rw [r2.length_eq, em]
  omega
theorem addN (R : SetN P w s.heap a L es ep t) {x : Addr} {k : NestedKey} (hx : KeyAt s.heap k x) (hu : A.units + 8 < cLine) (hfew : L.length + 1 ≤ 9900) {Q : Bool → Shared → Prop}
    (hQ : ∀ b h' L' es' ep' t', Heap.SameBut a s.heap h' → SetN P w h' a L' es' ep' t' → (k ∈ L.map (·.2) → L' = L) → (k ∉ L.map (·.2) → L'.Perm ((x, k) :: L)) → Q b { s with heap := h' }) :
    wpAny (model P w) A (setAddHashed a (.ref x) (k.hash w)) Q E s := by
  obtain ⟨o, ho, hex, hd⟩ := R.ob
  have hsl := rowsN_len R.rows
  have hroom := R.room
  unfold setAddHashed
  refine wpAny_holding ?_
  rw [show (100000 : Nat) = 99999 + 1 from rfl, setAddHashedIn_succ]
  refine wpAny_bind (wpAny_setState_of ho hd R.fits ?_)
  dsimp only
  refine wp_if_neg (by simp [byScan, Value.scannable]) ?_
  try refine wpAny_bind (wpAny_pure ?_)
  refine wpAny_bind (searchN_at R hx hu (fun hm => ?_) fun c hm hc hb => ?_)
  · dsimp only
    exact wpAny_pure (hQ false s.heap L es ep t (Heap.SameBut.refl a s.heap) R (fun _ => rfl) fun z => absurd hm z)
  · dsimp only
    refine wpAny_bind (wpAny_setState_of ho hd R.fits ?_)
    dsimp only
    obtain ⟨q, hq⟩ : ∃ q, q = SetTable.below t.place (way t.mask (k.hash w) c) := ⟨_, rfl⟩
    obtain ⟨q1, q2, q3⟩ := R.tab.put hq hc hb
    have q4 : (t.put (way t.mask (k.hash w) c)).2 = q := hq.symm
    have q5 : (t.put (way t.mask (k.hash w) c)).1.mask = t.mask := rfl
    have q6 : (t.put (way t.mask (k.hash w) c)).1.led = t.led := rfl
    generalize hpt : t.put (way t.mask (k.hash w) c) = pt at q2 q3 q4 q5 q6 ⊢
    obtain ⟨t0, q'⟩ := pt
    dsimp only at q2 q3 q4 q5 q6 ⊢
    subst q4
    have pm := put_perm L q' (x, k)
    have hlen : (L.take q' ++ (x, k) :: L.drop q').length = L.length + 1 := pm.length_eq
    have hhs : (L.take q' ++ (x, k) :: L.drop q').map (fun p => p.2.hash w) = (L.map fun p => p.2.hash w).take q' ++ k.hash w :: (L.map fun p => p.2.hash w).drop q' := by
      simp only [List.map_append, List.map_cons, List.map_take, List.map_drop]
    rw [← hhs] at q2
    have hin : (SetTable.insertAt es q' (k.hash w, Value.ref x)).toList = rowsN w (L.take q' ++ (x, k) :: L.drop q') := by
      rw [SetTable.toList_insertAt, rowsN_ins, R.rows]
    have nd1 : ((L.take q' ++ (x, k) :: L.drop q').map (·.2)).Nodup := (pm.map (·.2)).nodup_iff.mpr (List.nodup_cons.mpr ⟨hm, R.nd⟩)
    have hes := rowsN_len hin
    rw [hlen] at hes
    generalize SetTable.insertAt es q' (k.hash w, Value.ref x) = es1 at hin hes ⊢
    generalize L.take q' ++ (x, k) :: L.drop q' = L1 at pm hlen q2 nd1 hin
    rw [List.length_map] at q3
    have fin : ∀ t1 : SetTable, TabG t1 (L1.map fun p => p.2.hash w) → t1.fill = L.length + 1 → t1.mask = t.mask → t1.led = t.led →
        wpAny (model P w) A (do
          storeSet a es1 t1
          if !false && t1.tooFull then setRelay a (SetTable.grown (es.size + 1))
          return true) Q E s := fun t1 T1 f1 m1 l1 => by
      refine wpAny_bind (wpAny_storeSet_of ho hd ?_ (by rw [hes, sizeLine_eq]; omega))
      have sb : Heap.SameBut a s.heap (s.heap.update a (Obj.putSet es1 t1)) := Heap.SameBut.update ..
      have ho1 := store_at (es' := es1) (t' := t1) ho hd
      generalize s.heap.update a (Obj.putSet es1 t1) = h1 at sb ho1 ⊢
      have key1 : ∀ p ∈ L1, KeyAt h1 p.2 p.1 := fun p hp => by
        rcases List.mem_cons.mp (pm.mem_iff.mp hp) with e | hp
        · rw [e]
          exact key_same hx ho hd sb
        · exact key_same (R.key p hp) ho hd sb
      have ld1 : w.params.followText "set-order" = true ∨ t1.led = true := by rw [l1]; exact R.led
      by_cases hf : t1.tooFull = true
      · first
          | (refine wpAny_bind ?_; refine wp_if_pos (by simp [hf]) ?_)
          | (refine wp_if_pos (by simp [hf]) ?_; refine wpAny_bind ?_)
        rw [hsl, ← hlen]
        refine relayN (s := { s with heap := h1 }) ho1 ⟨hex.1, hex.2.1, hex.2.2⟩ rfl hin T1 (by rw [hes, m1]; omega) nd1 key1 ld1 (by rw [hlen]; exact hfew) (by omega) ?_
        intro h2 L2 es2 ep2 t2 sb2 R2 pm2
        exact wpAny_pure (hQ true h2 L2 es2 ep2 t2 (sb.trans sb2) R2 (fun z => absurd z hm) fun _ => pm2.trans pm)
      · first
          | refine wp_if_neg (by simp [hf]) ?_
          | (refine wpAny_bind ?_; refine wp_if_neg (by simp [hf]) ?_; refine wpAny_pure ?_)
        refine wpAny_pure (hQ true h1 L1 es1 (ep + 1) t1 sb ⟨⟨_, ho1, ⟨hex.1, hex.2.1, hex.2.2⟩, rfl⟩, hin, T1, nd1, key1, ld1, ?_, by rw [hlen]; exact hfew⟩ (fun z => absurd z hm) fun _ => pm)
        have z := hf
        unfold SetTable.tooFull at z
        rw [decide_eq_true_eq, f1] at z
        rw [hlen]
        omega
    have off : TabG { t0 with plain := false } (L1.map fun p => p.2.hash w) := ⟨q2.up, q2.no, q2.ln, q2.pw, q2.le, q2.met⟩
    by_cases hpl : t0.plain = true
    · first
        | (refine wpAny_bind ?_; refine wp_if_pos hpl ?_; refine key_hashBy 8 hx.1 fun b => ?_)
        | refine wp_if_pos hpl (wpAny_bind (key_hashBy 8 hx.1 fun b => ?_))
      cases b with
      | true => exact fin t0 q2 q3 q5 q6
      | false => exact fin { t0 with plain := false } off q3 q5 q6
    · first
        | (refine wpAny_bind ?_; refine wp_if_neg hpl ?_; refine wpAny_pure ?_)
        | refine wp_if_neg hpl (wpAny_bind (wpAny_pure ?_))
      exact fin t0 q2 q3 q5 q6
/-- set(l), l a list of keys -/
theorem call_setN {l : Addr} {items : Array Value} {its : List (Addr × NestedKey)} {Q : Value → Shared → Prop} (hh : A.handled = none) (hu : A.units + 40 < cLine) (hl : s.heap.IsList l items) (hi : items.toList = its.map fun p => Value.ref p.1) (hk : ∀ p ∈ its, KeyAt s.heap p.2 p.1) (hb : its.length ≤ 9900)
    (h : ∀ (h' : Heap) (tk : Nat) (L : List (Addr × NestedKey)) es ep t, SetN P w h' s.heap.objs.size L es ep t → (∀ x, x ∈ L.map (·.2) ↔ x ∈ its.map (·.2)) → (∀ p ∈ L, p ∈ its) → (∀ b o, b < s.heap.objs.size → s.heap.get? b = some o → h'.get? b = some o) → Q (.ref s.heap.objs.size) { s with heap := h', toks := tk }) :
    wpAny (model P w) A (call (.type "set") [.ref l]) Q E s := by
  have hlen : items.size = its.length := by
    rw [← Array.length_toList, hi, List.length_map]
  have lift : ∀ {h' : Heap} {p : Addr × NestedKey}, (∀ b o, s.heap.get? b = some o → h'.get? b = some o) → p ∈ its → KeyAt h' p.2 p.1 := fun {h' p} hx hp => ⟨NestedIs.at (fun c u vs n hc _ => hx c u hc) p.2 _ (hk p hp).1, (hk p hp).2⟩
  refine call_fill (Iv := fun i h' => (∀ b o, s.heap.get? b = some o → h'.get? b = some o) ∧ ∃ L es ep t, SetN P w h' s.heap.objs.size L es ep t ∧ (∀ x, x ∈ L.map (·.2) ↔ x ∈ (its.take i).map (·.2)) ∧ (∀ p ∈ L, p ∈ its) ∧ L.length ≤ i) hh hl ⟨?_, ?_⟩ ?_ ?_
  · rintro i h1 h2 ⟨x1, L, es, ep, t, R, m1, m2, m3⟩ kp
    have x2 : ∀ b o, s.heap.get? b = some o → h2.get? b = some o := fun b o e => kp b o (Nat.le_of_lt (Heap.lt_size e)) (x1 b o e)
    obtain ⟨o, ho, hex, hd⟩ := R.ob
    exact ⟨x2, L, es, ep, t, ⟨⟨o, kp _ o (Nat.le_refl _) ho, hex, hd⟩, R.rows, R.tab, R.nd, fun p hp => lift x2 (m2 p hp), R.led, R.room, R.few⟩, m1, m2, m3⟩
  · rintro i v hv A' E' s1 Q' hA ⟨x1, L, es, ep, t, R, m1, m2, m3⟩ hq
    have hil : i < its.length := by
      rw [← hlen]
      exact (Array.getElem?_eq_some_iff.mp hv).1
    obtain ⟨p, hp⟩ : ∃ p, its[i]? = some p := ⟨its[i], List.getElem?_eq_getElem hil⟩
    have ev : v = .ref p.1 := by
      have z : items.toList[i]? = some v := by rw [Array.getElem?_toList]; exact hv
      rw [hi, List.getElem?_map, hp] at z
      exact (Option.some.inj z).symm
    subst ev
    have hpm := List.mem_of_getElem? hp
    have kx := lift x1 hpm
    have htk : (its.take (i + 1)).map (·.2) = (its.take i).map (·.2) ++ [p.2] := by
      rw [List.take_add_one, hp, List.map_append]
      rfl
    unfold setAdd
    refine wpAny_holding (wpAny_bind ((nestedKind P w).pyHash (by show A'.units + 8 < cLine; omega) kx ?_))
    refine addN (s := { s1 with toks := s1.toks + p.2.draws }) R kx (by omega) (by omega) fun b h' L' es' ep' t' sb R' old new => hq b h' _ sb ⟨fun b2 o2 e2 => ?_, L', es', ep', t', R', fun x => ?_, fun y hy => ?_, ?_⟩ (Nat.le_add_right _ _)
    · have hne : b2 ≠ s.heap.objs.size := Nat.ne_of_lt (Heap.lt_size e2)
      exact (sb.2 b2 hne).trans (x1 b2 o2 e2)
    · rw [htk, List.mem_append, List.mem_singleton, ← m1]
      rcases Classical.em (p.2 ∈ L.map (·.2)) with z | z
      · rw [old z]
        exact ⟨.inl, fun q => q.elim (fun y => y) fun y => by rw [y]; exact z⟩
      · rw [((new z).map (·.2)).mem_iff, List.map_cons, List.mem_cons]
        exact or_comm
    · rcases Classical.em (p.2 ∈ L.map (·.2)) with z | z
      · rw [old z] at hy
        exact m2 y hy
      · rcases List.mem_cons.mp ((new z).mem_iff.mp hy) with e | e
        · rw [e]
          exact hpm
        · exact m2 y e
    · rcases Classical.em (p.2 ∈ L.map (·.2)) with z | z
      · rw [old z]
        omega
      · rw [(new z).length_eq, List.length_cons]
        omega
  · refine ⟨fun b o e => Heap.get?_push_of_some _ e, [], #[], 0, _, ⟨⟨_, Heap.get?_push_size _ rfl, ⟨rfl, rfl, rfl⟩, rfl⟩, rfl, ⟨List.Pairwise.nil, rfl, rfl, ⟨3, rfl, Nat.le_refl _⟩, fun x hx => (by cases hx), fun i h j e => (by cases e)⟩, List.nodup_nil, fun p hp => (by cases hp), ?_, (by show 0 < 7 * 3; decide), by simp⟩, fun x => by simp, fun p hp => (by cases hp), Nat.le_refl _⟩
    show _ ∨ (!w.params.followText "set-order") = true
    cases w.params.followText "set-order" with
    | true => exact .inl rfl
    | false => exact .inr rfl
  · rintro h' tk ⟨x1, L, es, ep, t, R, m1, m2, m3⟩ kp
    refine h h' tk L es ep t R (fun x => ?_) m2 kp
    rw [m1, hlen, List.take_length]
end
end Tr

set_option Elab.async false
set_option linter.all false
set_option maxRecDepth 100000
/-! Lay40: a large set is walked. -/
namespace Tr
open PySem PySem.Spec PyProof.Rows L2 TL
section
variable {P : Program} {w : World} {A : Around} {E : Value → Shared → Prop} {s : Shared} {a : Addr} {es : Array (Int × Value)} {ep : Nat} {t : SetTable}
/-- iter(a set), however large -/
theorem iterBig {Q : Value → Shared → Prop} (hS : SetAt s.heap a es ep t) (fit : t.fits es.size = true) (few : es.size ≤ sizeLine) (rs : Ris t.place.toList)
    (ld : w.params.followText "set-order" = true ∨ t.led = true) (k : ∀ z I, SetIt P w s a es z I → Q (.ref I) z) : wpAny (model P w) A (pyIter (.ref a)) Q E s := by
  have ⟨ob, h1, h2, h3⟩ := hS
  have ty : s.TypeIs (.ref a) "set" := ⟨ob, h1, h2⟩
  have old : a < s.heap.objs.size := Heap.lt_size h1
  refine wpAny_pyIter_slot ty F.slot_set_iter (wpAny_call_entry F.slot_set_iter ty entry_s_iter ?_ (F.args_set_iter_1 _))
  unfold Builtin.«frozenset.__iter__»
  refine wpAny_bind (m := Builtin.Frozenset.slot0 "__iter__" _) (wpAny_of_eq (a := a) (by rfl) (wpAny_bind (m := Builtin.Frozenset.sizeOf a) ?_))
  unfold Builtin.Frozenset.sizeOf
  refine wpAny_bind (wpAny_setEntries_of h1 h3 fit (wpAny_pure ?_))
  first | refine wpAny_bind (setDrawn_at hS fit ?_) | refine wpAny_bind (wpAny_bind (setDrawn_at hS fit ?_))
  have two : ∀ {I b : Addr}, s.heap.objs.size ≤ I → b ∈ [I, a] → b = a ∨ s.heap.objs.size ≤ b := fun {I b} hI hb => by
    rcases List.mem_cons.mp hb with z | z
    · exact .inr (z ▸ hI)
    · exact .inl (List.mem_singleton.mp z)
  cases ft : w.params.followText "set-order" with
  | true =>
    refine wp_if_neg (by simp) ?_
    first | refine wpAny_bind (wpAny_pure ?_) | refine wpAny_pure ?_
    refine wpAny_bind (wpAny_setEpoch_of h1 h3 fit (wpAny_bind (wpAny_newObj_type (wpAny_pure ⟨_, rfl, "set_iterator", _, ⟨_, Heap.get?_push_size _ rfl, rfl⟩, slot_si_next.lookup, ?_⟩))))
    have pp := pick_perm (w.params.setOrder a ep) es
    refine k _ _ (SetIt.of (out := (pickOrder (w.params.setOrder a ep) es).toList.map (·.2)) (fun A' hA => walks_text (P := P) (ep := ep) hA (Nat.ne_of_lt old) fit ft) (by rw [List.length_map, Array.length_toList]) (fun b u e => Heap.get?_push_of_some _ e) rfl rfl rfl (Nat.le_refl _) (fun b hb => two (Nat.le_refl _) hb) (pp.map _) (fun j v q => ?_) ⟨⟨_, Heap.get?_push_size _ rfl, rfl, rfl⟩, hS.at fun u e => Heap.get?_push_of_some _ e⟩)
    rw [List.getElem?_map, Array.getElem?_toList]
    exact q
  | false =>
    have led : t.led = true := ld.resolve_left (by rw [ft]; simp)
    cases dr : (!t.plain && decide (es.size > 1)) with
    | false =>
      refine wp_if_neg (by simp) ?_
      first | refine wpAny_bind (wpAny_pure ?_) | refine wpAny_pure ?_
      refine wpAny_bind (wpAny_setEpoch_of h1 h3 fit (wpAny_bind (wpAny_newObj_type (wpAny_pure ⟨_, rfl, "set_iterator", _, ⟨_, Heap.get?_push_size _ rfl, rfl⟩, slot_si_next.lookup, ?_⟩))))
      refine k _ _ (SetIt.of (out := es.toList.map (·.2)) (fun A' hA => walks_led (P := P) (ep := ep) hA (Nat.ne_of_lt old) fit rs ft dr led) (by rw [List.length_map, Array.length_toList]) (fun b u e => Heap.get?_push_of_some _ e) rfl rfl rfl (Nat.le_refl _) (fun b hb => two (Nat.le_refl _) hb) (List.Perm.refl _) (fun j v q => ?_) ⟨⟨_, Heap.get?_push_size _ rfl, rfl, rfl⟩, hS.at fun u e => Heap.get?_push_of_some _ e⟩)
      rw [List.getElem?_map, Array.getElem?_toList]
      exact q
    | true =>
      refine wp_if_pos rfl (wpAny_bind (drawOrder_at _ _ _ _ (Nat.le_of_eq List.length_range) fun ord d pr => ?_))
      have ol : ord.length = es.size := by rw [pr.length_eq, List.length_range]
      have fl : (ord.map fun (n : Nat) => rawInt (n : Int)).length ≤ sizeLine := by rw [List.length_map, ol]; exact few
      first | refine wpAny_bind (wpAny_newTuple ?_ fl) | refine wpAny_newTuple ?_ fl
      obtain ⟨hp, hpe⟩ : ∃ x, x = s.heap.push { cls := .type "tuple", data := .seq (ord.map fun (n : Nat) => rawInt (n : Int)).toArray } := ⟨_, rfl⟩
      rw [← hpe]
      have hat : hp.get? s.heap.objs.size = some { cls := .type "tuple", data := .seq (ord.map fun (n : Nat) => rawInt (n : Int)).toArray } := by rw [hpe]; exact Heap.get?_push_size _ rfl
      have hsz : hp.objs.size = s.heap.objs.size + 1 := by rw [hpe]; exact size_push' _ _
      have up : ∀ b u, s.heap.get? b = some u → hp.get? b = some u := fun b u e => by rw [hpe]; exact Heap.get?_push_of_some _ e
      clear hpe
      refine wpAny_bind (wpAny_setEpoch_of (up a ob h1) h3 fit (wpAny_bind (wpAny_newObj_type (wpAny_pure ⟨_, rfl, "set_iterator", _, ⟨_, Heap.get?_push_size _ rfl, rfl⟩, slot_si_next.lookup, ?_⟩))))
      have ins : ∀ n ∈ ord, n < es.size := fun n hn => List.mem_range.mp (pr.mem_iff.mp hn)
      refine k _ _ (SetIt.of (out := ord.map fun q => ((es[q]?).map (·.2)).getD Value.none) (fun A' hA => walks_drawn (P := P) (w := w) (ep := ep) (t := t) hA (by rw [hsz]; exact Nat.ne_of_lt (Nat.lt_succ_of_lt old)) (by rw [hsz]; exact Nat.ne_of_lt (Nat.lt_succ_self _)) fit ins) (List.length_map _) (fun b u e => Heap.get?_push_of_some _ (up b u e)) rfl rfl rfl (by rw [hsz]; omega) (fun b hb => ?_) (by rw [← range_map es]; exact pr.map _) (fun j v q => ?_) ⟨⟨_, Heap.get?_push_size _ rfl, rfl, rfl⟩, hS.at fun u e => Heap.get?_push_of_some _ (up a u e), Heap.get?_push_of_some _ hat⟩)
      · have hb : b = hp.objs.size ∨ b = a ∨ b = s.heap.objs.size := by simpa using hb
        rcases hb with z | z | z
        · exact .inr (by rw [z, hsz]; omega)
        · exact .inl z
        · exact .inr (Nat.le_of_eq z.symm)
      · rw [List.getElem?_map]
        cases hy : ord[j]? with
        | none => rw [hy] at q; cases q
        | some n =>
          rw [hy] at q
          have q : (es[n]?).map (·.2) = some v := q
          show some (((es[n]?).map (·.2)).getD Value.none) = some v
          rw [q]
          rfl
/-- the members of a large set, gathered -/
theorem collectBig {Q : List Value → Shared → Prop} (calm : A.handled = none) (hS : SetAt s.heap a es ep t) (fit : t.fits es.size = true) (few : es.size ≤ sizeLine) (rs : Ris t.place.toList) (ld : w.params.followText "set-order" = true ∨ t.led = true)
    (k : ∀ z out, (∀ b o, s.heap.get? b = some o → z.heap.get? b = some o) → s.heap.objs.size ≤ z.heap.objs.size → z.gens = s.gens → z.os = s.os → out.Perm (es.toList.map (·.2)) → Q out z) : wpAny (model P w) A (collect (.ref a)) Q E s := by
  have ⟨ob, h1, h2, h3⟩ := hS
  have old : a < s.heap.objs.size := Heap.lt_size h1
  unfold collect
  refine wpAny_bind (wpAny_runValue (codeAny_builtin F.entry_proto_collect ?_))
  (rw [Around.under_plainId F.plain_proto_collect _]; show wpAny _ A.in1 (newList [] >>= fun l => again (.builtin "list.__iadd__" ⟨[l, .ref a], []⟩)) _ _ s)
  refine wpAny_bind (wpAny_newObj_type (wpAny_pure ⟨plainId_quiet F.plain_list_iadd _, codeAny_builtin F.entry_list_iadd ?_⟩))
  rw [Around.under_plainId F.plain_list_iadd _]
  obtain ⟨hp, hpe⟩ : ∃ x, x = s.heap.push { cls := .type "list", data := .seq ([] : List Value).toArray } := ⟨_, rfl⟩
  rw [← hpe]
  have hat : hp.get? s.heap.objs.size = some { cls := .type "list", data := .seq ([] : List Value).toArray } := by rw [hpe]; exact Heap.get?_push_size _ rfl
  have hsz : hp.objs.size = s.heap.objs.size + 1 := by rw [hpe]; exact size_push' _ _
  have up : ∀ b u, s.heap.get? b = some u → hp.get? b = some u := fun b u e => by rw [hpe]; exact Heap.get?_push_of_some _ e
  clear hpe
  generalize hl : s.heap.objs.size = l at hat hsz ⊢
  have hla : l ≠ a := Nat.ne_of_gt (hl ▸ old)
  show wpAny _ A.in1 (Builtin.List.listExtendWith (.ref l) (.ref a) (.ref l)) _ _ _
  unfold Builtin.List.listExtendWith
  refine wpAny_bind (wpAny_typeOf (T := "set") ⟨ob, up a ob h1, h2⟩ ?_)
  simp only [show Builtin.List.listSameRef (.ref l) (.ref a) = false from by simp [Builtin.List.listSameRef, hla], show (Value.type "set" == Value.type "list") = false from by decide, show (Value.type "set" == Value.type "tuple") = false from by decide, Bool.or_false, Bool.false_eq_true, if_false]
  refine wpAny_bind (iterBig (s := { s with heap := hp }) (hS.at fun u e => up a u e) fit few rs ld fun z I it => ?_)
  obtain ⟨fp, St, out, Pv, k2, g2, o2, t2, hI, hfp, pr, hW, hPv, hst⟩ := it
  have k2 : ∀ b o, hp.get? b = some o → z.heap.get? b = some o := k2
  have hI : hp.objs.size ≤ I := hI
  have lnf : l ∉ fp := fun hm => by
    rcases hfp _ hm with y | y
    · exact hla y
    · have y : hp.objs.size ≤ l := y
      omega
  have ty2 : z.TypeIs (.ref a) "set" := ⟨ob, k2 a ob (up a ob h1), h2⟩
  refine wpAny_bind (wpAny_holding ?_)
  unfold Builtin.List.listLengthHint
  refine wpAny_bind (wpAny_specialOf ty2 F.slot_set_len.lookup ?_)
  (generalize hid : ("set.__len__" : String) = id0; (fail_if_success (clear hid id0)); wp_delta; rw [show splitId id0 = some ("set", "__len__") from by subst hid; decide +kernel]; subst hid)
  refine wpAny_bind (wpAny_isInstance (b := true) ty2 sub_set_self ?_)
  show wpAny _ A.in1 (typeOf (.ref a) >>= _) _ _ _
  refine wpAny_bind (wpAny_typeOf ty2 (wpAny_pure ?_))
  show wpAny _ A.in1 (rule "list.extend.makes-room" >>= fun _ => Builtin.List.listTouch (.ref l) >>= fun _ => again (.builtin "list.extend.loop" ⟨[.ref l, .ref I, .ref l], []⟩)) _ _ _
  refine wpAny_bind (wpAny_rule (wpAny_bind ?_))
  have l2 := k2 _ _ hat
  show wpAny _ A.in1 (updateSeq l (·.push .none) >>= fun _ => updateSeq l (·.pop)) _ _ _
  have l3 := Heap.get?_update_self (Obj.mapSeq (·.push Value.none)) l2 rfl
  refine wpAny_bind (wpAny_updateSeq l2 rfl (wpAny_updateSeq l3 rfl ?_))
  have l4 := Heap.get?_update_self (Obj.mapSeq (·.pop)) l3 rfl
  have oth : ∀ b u, b ≠ l → z.heap.get? b = some u → ((z.heap.update l (Obj.mapSeq (·.push Value.none))).update l (Obj.mapSeq (·.pop))).get? b = some u :=
    fun b u hb e => (Heap.get?_update_other _ _ (Ne.symm hb)).trans ((Heap.get?_update_other _ _ (Ne.symm hb)).trans e)
  have hn : out.length ≤ sizeLine := by
    rw [pr.length_eq, List.length_map, Array.length_toList]
    exact few
  have W := hW A.in1 calm
  refine wpAny_pure ⟨plainId_quiet F.plain_extend_loop _, codeAny_extend_loopS W.toS hn _ lnf _ out.length 0 _ _ _ rfl (Nat.zero_le _) (W.frame 0 _ _ hst fun b hb u e => oth b u (fun y => lnf (y ▸ hb)) e) l4 (ItemsOf.nil Pv) fun z' acc c hm hz' hacc => ?_⟩
  show wpAny _ A (load l >>= _) _ _ z'
  refine wpAny_bind (wpAny_load hz' (wpAny_pure ?_))
  show Q acc.toList z'
  rw [items_out hacc hPv]
  refine k z' out (fun b u e => ?_) (by rw [hl]; exact Nat.le_of_lt (Heap.lt_size hz')) (Eq.trans hm.gens g2) (Eq.trans hm.os o2) pr
  have hbl : b < l := by rw [← hl]; exact Heap.lt_size e
  refine hm.heap b u (fun y => ?_) (oth b u (Nat.ne_of_lt hbl) (k2 b u (up b u e)))
  have y : b = l ∨ b = I := by simpa using y
  rcases y with y | y
  · exact absurd (y ▸ hbl) (Nat.lt_irrefl _)
  · have hIl : l + 1 ≤ I := hsz ▸ hI
    exact absurd (y ▸ hbl) (Nat.not_lt_of_le (Nat.le_of_succ_le hIl))
end
end Tr

set_option Elab.async false
set_option linter.all false
set_option maxRecDepth 100000
/-! Lay41: set, sorted(set), len(set) of lists of nested tuples, over data. -/
namespace Tr
open PySem PySem.Spec PyProof.Rows L2 TL
/-- the set at a holds the keys L; of the keys' own tuples nothing is said -/
structure SetM (P : Program) (w : World) (h : Heap) (a : Addr) (L : List (Addr × NestedKey)) : Prop where
  ex : ∃ o es ep t, h.get? a = some o ∧ o.ExactSet ∧ o.data = .set es ep t ∧ es.toList = rowsN w L ∧ TabG t (L.map fun p => p.2.hash w) ∧ (w.params.followText "set-order" = true ∨ t.led = true) ∧ L.length * 5 < t.mask * 3
  nd : (L.map (·.2)).Nodup
  few : L.length ≤ 9900
theorem SetN.m {P : Program} {w : World} {h : Heap} {a : Addr} {L : List (Addr × NestedKey)} {es : Array (Int × Value)} {ep : Nat} {t : SetTable} (R : SetN P w h a L es ep t) : SetM P w h a L := by
  obtain ⟨o, h1, h2, h3⟩ := R.ob
  exact ⟨⟨o, es, ep, t, h1, h2, h3, R.rows, R.tab, R.led, R.room⟩, R.nd, R.few⟩
def setNO (P : Program) (w : World) (a : Addr) (L : List (Addr × NestedKey)) : HO := .ext fun h => SetM P w h a L
theorem setNO_ok {P : Program} {w : World} {H : Hp} {h : Heap} {a : Addr} {L : List (Addr × NestedKey)} (R : SetM P w h a L) : ObjOk P w H h a (setNO P w a L) := by
  have ⟨⟨o, _, _, _, ho, _⟩, _, _⟩ := R
  exact ⟨R, ⟨o, ho⟩, fun h1 h2 p k => by
    obtain ⟨⟨o, es, ep, t, z, zs⟩, z2, z3⟩ := p
    exact ⟨⟨o, es, ep, t, k o z, zs⟩, z2, z3⟩⟩
theorem perm_lift {α β : Type} {f : α → β} : ∀ {vs : List β} {L : List α}, vs.Perm (L.map f) → ∃ L' : List α, L'.Perm L ∧ vs = L'.map f
  | [], L, h => by
    have := h.symm.eq_nil
    rw [List.map_eq_nil_iff] at this
    exact ⟨[], by rw [this], rfl⟩
  | v :: vs, L, h => by
    obtain ⟨a, ha, rfl⟩ := List.mem_map.mp (h.mem_iff.mp List.mem_cons_self)
    obtain ⟨l1, l2, rfl⟩ := List.append_of_mem ha
    have pm : (l1 ++ a :: l2).Perm (a :: (l1 ++ l2)) := List.perm_middle
    have h2 : (f a :: vs).Perm (f a :: (l1 ++ l2).map f) := h.trans (pm.map f)
    obtain ⟨L', h3, rfl⟩ := perm_lift h2.cons_inv
    exact ⟨a :: L', (h3.cons a).trans pm.symm, rfl⟩
variable [PWc]
def prS (L : List (Addr × NestedKey)) : List (V × PyData) := L.map fun q => (V.ref q.1, nkD q.2)
section
variable {X : Cx}
def rSetK (K : PySem.W.Frag) (P : Program) (w : World) : List V → Hp → VK → Prop := fun xs H Q => ∃ (l : Addr) (its : List (Addr × NestedKey)), xs = [.ref l] ∧ SqL K H l (its.map fun p => V.ref p.1) ∧ (∀ p ∈ its, NkV H p.2 (.ref p.1) ∧ p.2.depth ≤ 8) ∧ its.length ≤ 9900 ∧
  ∀ p L, H p = none → (L.map (·.2)).Nodup → (∀ x, x ∈ L.map (·.2) ↔ x ∈ its.map (·.2)) → (∀ q ∈ L, q ∈ its) → Q (.ref p) (upd H p (setNO P w p L))
theorem vals_its : ∀ {its : List (Addr × NestedKey)} {us : List Value}, Vals (its.map fun p => V.ref p.1) us → us = its.map fun p => Value.ref p.1
  | [], _, .nil => rfl
  | p :: its, _, .cons h t => by
    cases h
    rw [vals_its t]
    rfl
theorem cr_setN {k : Nat} (hr : Room k X.A) (hc : X.calm = true) : CallR X (.type "set") (rSetK X.K X.prog X.w) := by
  intro pins s σ H xs us Q I r h
  obtain ⟨l, its, rfl, hq, hk, hb, q⟩ := h
  obtain ⟨u, rfl, rx⟩ := vals1 r
  cases rx
  obtain ⟨vs, rv, pl, hz⟩ := I.list hq
  have hun := hr.un
  refine call_setN (its := its) (I.ok.hd hc) (by omega) pl.isList (by simpa using vals_its rv) (fun p hp => ⟨NkV.is I (hk p hp).1 rfl, (hk p hp).2⟩) hb fun h' tk L es ep t R m1 m2 kp => ?_
  exact ⟨.ref _, _, I.laid (t' := tk) (fun b o e => kp b o (Heap.lt_size e) e) (Nat.le_refl _) (setNO_ok R.m), rfl, q _ L (I.hok.fresh (Nat.le_refl _)) R.nd m1 m2⟩
def rLenSetN (P : Program) (w : World) : List V → Hp → VK → Prop := fun xs H Q => ∃ a L, xs = [.ref a] ∧ H a = some (setNO P w a L) ∧ Q (.int (L.length : Nat)) H
theorem cr_lenSetN : CallR X (.builtin "len") (rLenSetN X.prog X.w) := by
  intro pins s σ H xs us Q I r h
  obtain ⟨a, L, rfl, ha, q⟩ := h
  obtain ⟨⟨o, es, ep, t, ho, hex, hd, hrw, T, hl, hroom⟩, nd, few⟩ : SetM X.prog X.w s.heap a L := (I.hok a _ ha).1
  obtain ⟨u, rfl, rx⟩ := vals1 r
  cases rx
  have hlen := rowsN_len hrw
  exact call_len_set ho hex hd (tab_fits T (by rw [List.length_map, hlen]) (by omega)) (by omega) ⟨.int (L.length : Nat), H, I.tok _, ⟨s.toks + 1, by rw [hlen]⟩, q⟩
def rSortSetN (P : Program) (w : World) : List V → Hp → VK → Prop := fun xs H Q => ∃ a L, xs = [.ref a] ∧ H a = some (setNO P w a L) ∧ (∀ q ∈ L, NkV H q.2 (.ref q.1)) ∧
  (∀ L' : List (Addr × NestedKey), L'.Perm L → PySem.W.AllAlike ((prS L').map Prod.snd) ∧ PySem.W.Sortable ((prS L').map Prod.snd) ∧ ∀ b ∈ prS L', b.2.depth ≤ 60) ∧
  ∀ p (L' : List (Addr × NestedKey)), L'.Perm L → H p = none → Q (.ref p) (upd H p (.lst (((prS L').mergeSort leD).map Prod.fst)))
theorem dpS {K : PySem.W.Frag} {H : Hp} : ∀ {L : List (Addr × NestedKey)}, (∀ q ∈ L, NkV H q.2 (.ref q.1)) → DpAll K H ((prS L).map Prod.fst) ((prS L).map Prod.snd)
  | [], _ => .nil
  | p :: L, h => .cons (NkV.dp (h p (by simp))) (dpS fun q hq => h q (List.mem_cons_of_mem _ hq))
theorem valsS : ∀ L : List (Addr × NestedKey), Vals ((prS L).map Prod.fst) (L.map fun p => Value.ref p.1)
  | [] => .nil
  | p :: L => .cons rfl (valsS L)
theorem cr_sortSetN {k : Nat} (hr : Room k X.A) (hc : X.calm = true) : CallR X (.builtin "sorted") (rSortSetN X.prog X.w) := by
  intro pins s σ H xs us Q I r h
  obtain ⟨a, L, rfl, ha, hk, hso, q⟩ := h
  obtain ⟨u, rfl, rx⟩ := vals1 r
  cases rx
  obtain ⟨⟨o, es, ep, t, ho, hex, hd, hrw, T, hl, hroom⟩, nd, few⟩ : SetM X.prog X.w s.heap a L := (I.hok a _ ha).1
  have hun := hr.un
  have hel := rowsN_len hrw
  refine Calls.call_function_entry kind_sorted plain_sorted entry_sorted (args_sorted1 _) (by
    (unfold Builtin.«sorted»; refine wpAny_bind (m := checkCount "sorted" 1 1 _) (wpAny_pure ?_))
    refine wpAny_bind (collectBig (A := X.A.in1) (I.ok.hd hc) ⟨o, ho, hex.1, hd⟩ (tab_fits T (by rw [List.length_map, hel]) (by omega)) (by rw [hel]; exact Nat.le_trans few (by decide)) T.up hl fun s1 vs k1 hz1 g1 o1 pm => ?_)
    have pm2 : vs.Perm (L.map fun p => Value.ref p.1) := by
      rw [hrw] at pm
      unfold rowsN at pm
      rw [List.map_map] at pm
      exact pm
    obtain ⟨L', hp', rfl⟩ := perm_lift pm2
    obtain ⟨hal, hsb, hdep⟩ := hso L' hp'
    have hva := valsS L'
    have hdp : DpAll X.K H ((prS L').map Prod.fst) ((prS L').map Prod.snd) := dpS fun q hq => hk q (hp'.mem_iff.mp hq)
    have es1 : s1 = { s with heap := s1.heap, gens := s1.gens, drawn := s1.drawn, toks := s1.toks } := by
      (cases s1; cases s; cases o1; rfl)
    have I1 : Inv X pins σ H { s with heap := s1.heap, gens := s1.gens, drawn := s1.drawn, toks := s1.toks } := I.call (ch := []) (Un.kept k1) (I.hok.kept k1) (by rw [g1]; exact I.bare) (fun _ z => nomatch z)
    rw [es1]
    have er := each_reads I1 hva hdp
    have hln : (L'.map fun p => Value.ref p.1).length ≤ sizeLine := by
      rw [List.length_map, hp'.length_eq]
      exact Nat.le_trans few (by decide)
    refine wpAny_bind (wpAny_newList ?_ hln)
    generalize hvs : (L'.map fun p => Value.ref p.1) = vs at hva er hln ⊢
    have hoL : (s1.heap.push (seqObj "list" vs.toArray 0)).get? s1.heap.objs.size = some (seqObj "list" vs.toArray 0) := Heap.get?_push_size _ rfl
    have er' : PySem.W.EachIs (fun v (b : V × PyData) => ∃ as, Reads (PySem.W.sortingHeap (s1.heap.push (seqObj "list" vs.toArray 0)) s1.heap.objs.size vs) v b.2 as) vs (prS L') := er.mono fun v b ⟨as, r⟩ => ⟨as, PyProof.Rows.Reads.keeps (fun c ob e => PySem.W.sortingHeap_old (Nat.ne_of_lt (Heap.lt_size e)) (Heap.get?_push_of_some _ e)) r⟩
    refine wpAny_bind (wpAny_holding (wpAny_call_entry slot_list_sort ⟨_, hoL, rfl⟩ entry_list_sort (PySem.W.list_sort_vals (s := { s with heap := s1.heap.push (seqObj "list" vs.toArray 0), gens := s1.gens, drawn := s1.drawn, toks := s1.toks }) (κ := PySem.W.dataKind (PySem.W.sortingHeap (s1.heap.push (seqObj "list" vs.toArray 0)) s1.heap.objs.size vs) ((prS L').map Prod.snd)) hoL (PySem.W.SortsAt.data (s := { s with heap := PySem.W.sortingHeap (s1.heap.push (seqObj "list" vs.toArray 0)) s1.heap.objs.size vs, gens := s1.gens, drawn := s1.drawn, toks := s1.toks }) (PySem.W.each_map (R := fun v d => ∃ as, Reads (PySem.W.sortingHeap (s1.heap.push (seqObj "list" vs.toArray 0)) s1.heap.objs.size vs) v d as) Prod.snd er') hal hsb (PySem.W.bound_map fun b hb => by
      have := hdep b hb
      show X.A.units + 1 + 1 + b.2.depth < cLine
      omega)) hln ⟨.none, rfl, ?_⟩) (args_list_sort _)))
    have eo := PySem.W.sortVals_data false (each_of_vals hva) er' hal
    obtain ⟨c, hcc⟩ := sortedHeap_at (vs := vs) (out := (PySem.W.sortVals (PySem.W.dataKind (PySem.W.sortingHeap (s1.heap.push (seqObj "list" vs.toArray 0)) s1.heap.objs.size vs) ((prS L').map Prod.snd)) false vs vs).toArray) hoL
    have hl2 : (((prS L').mergeSort leD).map Prod.fst).length ≤ sizeLine := by
      rw [List.length_map, List.length_mergeSort]
      unfold prS
      rw [List.length_map, hp'.length_eq]
      exact Nat.le_trans few (by decide)
    refine wpAny_pure ⟨_, rfl, .ref s1.heap.objs.size, upd H s1.heap.objs.size (.lst (((prS L').mergeSort leD).map Prod.fst)), I1.laid (t' := s1.toks) (fun b ob e => ?_) (Nat.le_refl _) ⟨hl2, _, c, vals_of_each eo, hcc⟩, rfl, q _ L' hp' (I1.hok.fresh (Nat.le_refl _))⟩
    have hb : b < s1.heap.objs.size := Heap.lt_size e
    rw [sortedHeap_old (Nat.ne_of_lt hb) (by rw [size_push']; exact Nat.lt_succ_of_lt hb)]
    exact Heap.get?_push_of_some _ e)
variable {k : Nat} {e : Expr} {t : TA} {p pos : Pos}
theorem k_setN (K : PySem.W.Frag) (hr : Room k X.A) (hc : X.calm = true) (hg : Gl X "set") (hm : X.mg "set" = none) (ha : PA X [e] t) (he : starEach [e] X.env = (false, eval e X.env) :: starEach [] X.env := by rfl) (hK : X.K = K := by rfl) (hP : X.prog = P := by rfl) (hw : X.w = w := by rfl) : PE X (.Call (.Name "set" p) [e] [] pos) (tCB (rSetK K P w) t) := by
  subst hK
  rw [← hP, ← hw]
  exact pe_callTy (cr_setN hr hc) hg hm (by decide +kernel) ha (he := he)
theorem k_sortSetN (hr : Room k X.A) (hc : X.calm = true) (hg : Gl X "sorted") (hm : X.mg "sorted" = none) (ha : PA X [e] t) (he : starEach [e] X.env = (false, eval e X.env) :: starEach [] X.env := by rfl) (hP : X.prog = P := by rfl) (hw : X.w = w := by rfl) : PE X (.Call (.Name "sorted" p) [e] [] pos) (tCB (rSortSetN P w) t) := by
  rw [← hP, ← hw]
  exact pe_callB (cr_sortSetN hr hc) hg hm (by decide +kernel) ha (he := he)
theorem k_lenSetN (hg : Gl X "len") (hm : X.mg "len" = none) (ha : PA X [e] t) (he : starEach [e] X.env = (false, eval e X.env) :: starEach [] X.env := by rfl) (hP : X.prog = P := by rfl) (hw : X.w = w := by rfl) : PE X (.Call (.Name "len" p) [e] [] pos) (tCB (rLenSetN P w) t) := by
  rw [← hP, ← hw]
  exact pe_callB cr_lenSetN hg hm (by decide +kernel) ha (he := he)
end
section
variable {T : Tn} {K : PySem.W.Frag} {ρ : List Sl} {ta : TE}
/-- a list of keys as the heap has it -/
theorem its_of {F : Hp} : ∀ {vs : List V} {ks : List NestedKey}, (∀ k ∈ ks, ∃ l, k = .tup l) → RpAll F vs (ks.map nkD) → ∃ its : List (Addr × NestedKey), vs = (its.map fun p => V.ref p.1) ∧ its.map (·.2) = ks ∧ ∀ p ∈ its, Rp F (.ref p.1) (nkD p.2)
  | [], [], _, .nil => ⟨[], rfl, rfl, fun p hp => (by cases hp)⟩
  | v :: vs, k :: ks, ht, .cons h t => by
    obtain ⟨its, e1, e2, e3⟩ := its_of (fun k hk => ht k (List.mem_cons_of_mem _ hk)) t
    obtain ⟨l, rfl⟩ := ht k (by simp)
    obtain ⟨a, o, xs, rfl, h1, h2, h3⟩ := (show Rp F v (.tuple (nkDs l)) by rw [nkD] at h; exact h).tup_eq
    refine ⟨(a, .tup l) :: its, by rw [e1]; rfl, by rw [← e2]; rfl, fun p hp => ?_⟩
    rcases List.mem_cons.mp hp with rfl | hp
    · exact h
    · exact e3 p hp
theorem eo_setN {ks : List NestedKey} {R : TE → Prop} (ha : Ev T ta ρ (.list (ks.map nkD))) (ht : ∀ k ∈ ks, ∃ l, k = .tup l) (hd : ∀ k ∈ ks, k.depth ≤ 8) (hl : ks.length ≤ 9900) : ∀ F0 H0 σ F H, Env T F0 H0 F H σ ρ → ∀ Q : VK, (∀ a L F' H', Ext T F H F' H' → H' a = some (setNO P w a L) → (L.map (·.2)).Nodup → (∀ x, x ∈ L.map (·.2) ↔ x ∈ ks) → (∀ q ∈ L, Rp F' (.ref q.1) (nkD q.2)) → Q (.ref a) H') → tCB (rSetK K P w) (tCons ta tNil) σ H Q := fun F0 H0 σ F H e Q q =>
  ha F0 H0 σ F H e _ fun v F1 H1 e1 r1 => by
    obtain ⟨a, vs, rfl, hk, r⟩ := r1.lst_eq
    obtain ⟨its, z1, z2, z3⟩ := its_of ht r
    have e2 := e.ext e1
    refine ⟨a, its, rfl, ?_, fun p hp => ⟨(z3 p hp).nk e1.fh, hd _ (by rw [← z2]; exact List.mem_map.mpr ⟨p, hp, rfl⟩)⟩, ?_, fun p L hp nd hx hq => ?_⟩
    · rw [← z1]
      exact SqL.of (e1.fh _ _ hk)
    · have := congrArg List.length z2
      rw [List.length_map] at this
      omega
    · refine q p L F1 _ (e1.trans (Ext.new1 e2.le hp)) upd_same nd (fun x => by rw [hx, z2]) fun y hy => z3 y (hq y hy)
theorem nk_sub {α : Type} : ∀ (l ks : List α), l.Nodup → (∀ x ∈ l, x ∈ ks) → l.length ≤ ks.length
  | [], ks, _, _ => Nat.zero_le _
  | x :: l, ks, h1, h2 => by
    obtain ⟨h3, h4⟩ := List.nodup_cons.mp h1
    obtain ⟨a, b, rfl⟩ := List.append_of_mem (h2 x (by simp))
    have := nk_sub l (a ++ b) h4 fun y hy => by
      have hne : y ≠ x := fun z => h3 (z ▸ hy)
      have := h2 y (List.mem_cons_of_mem _ hy)
      simp only [List.mem_append, List.mem_cons] at this ⊢
      rcases this with z | z | z
      · exact .inl z
      · exact absurd z hne
      · exact .inr z
    simp only [List.length_append, List.length_cons] at this ⊢
    omega
/-- sorted(set(a list of nested tuples)) -/
theorem eo_sortSetN {ks : List NestedKey} (ha : Ev T ta ρ (.list (ks.map nkD))) (ht : ∀ k ∈ ks, ∃ l, k = .tup l) (hd : ∀ k ∈ ks, k.depth ≤ 8) (hl : ks.length ≤ 9900) (hal : PySem.W.AllAlike (ks.map nkD)) (hso : ∀ zs : List NestedKey, (∀ z ∈ zs, z ∈ ks) → PySem.W.Sortable (zs.map nkD)) (hdp : ∀ k ∈ ks, (nkD k).depth ≤ 60) :
    EvO T (tCB (rSortSetN P w) (tCons (tCB (rSetK K P w) (tCons ta tNil)) tNil)) ρ fun ys => ∃ zs : List NestedKey, zs.Nodup ∧ (∀ x, x ∈ zs ↔ x ∈ ks) ∧ ys = srtD (zs.map nkD) := fun F0 H0 σ F H e Q q => by
  refine eo_setN (R := fun _ => True) ha ht hd hl F0 H0 σ F H e _ fun a L F1 H1 e1 hs nd hx hq => ?_
  have sub : ∀ {L' : List (Addr × NestedKey)}, L'.Perm L → ∀ p ∈ L', p.2 ∈ ks := fun {L'} hp p h => (hx p.2).mp (List.mem_map.mpr ⟨p, hp.mem_iff.mp h, rfl⟩)
  have es : ∀ L' : List (Addr × NestedKey), (prS L').map Prod.snd = (L'.map (·.2)).map nkD := fun L' => by
    unfold prS
    rw [List.map_map, List.map_map]
    rfl
  refine ⟨a, L, rfl, hs, fun p hp => (hq p hp).nk e1.fh, fun L' hp => ⟨?_, ?_, fun b hb => ?_⟩, fun p L' hp hn => ?_⟩
  · rw [es]
    intro x hx2 y hy2
    obtain ⟨kx, h1, rfl⟩ := List.mem_map.mp hx2
    obtain ⟨ky, h2, rfl⟩ := List.mem_map.mp hy2
    obtain ⟨p1, g1, rfl⟩ := List.mem_map.mp h1
    obtain ⟨p2, g2, rfl⟩ := List.mem_map.mp h2
    exact hal _ (List.mem_map.mpr ⟨_, sub hp p1 g1, rfl⟩) _ (List.mem_map.mpr ⟨_, sub hp p2 g2, rfl⟩)
  · rw [es]
    exact hso _ fun z hz => by
      obtain ⟨p1, g1, rfl⟩ := List.mem_map.mp hz
      exact sub hp p1 g1
  · obtain ⟨p1, g1, rfl⟩ := List.mem_map.mp hb
    exact hdp _ (sub hp p1 g1)
  · have em : ((prS L').mergeSort leD).map Prod.snd = srtD ((L'.map (·.2)).map nkD) := by
      rw [List.map_mergeSort (s := PySem.W.dataLe false id), es]
      · rfl
      · intro a _ b _
        rfl
    refine q p _ (srtD ((L'.map (·.2)).map nkD)) F1 _ (e1.trans (Ext.new1 (e.ext e1).le hn)) (freshH e e1 hn) ((e.ext e1).le.free hn) upd_same ⟨L'.map (·.2), (hp.map _).nodup_iff.mpr nd, fun x => by rw [(hp.map (·.2)).mem_iff, hx], rfl⟩ ?_
    rw [← em]
    exact rp_pairs fun b hb => by
      obtain ⟨p1, g1, rfl⟩ := List.mem_map.mp (List.mem_mergeSort.mp hb)
      exact hq p1 (hp.mem_iff.mp g1)
/-- len(set(a list of nested tuples)) -/
theorem evp_lenSetN {ks : List NestedKey} (ha : Ev T ta ρ (.list (ks.map nkD))) (ht : ∀ k ∈ ks, ∃ l, k = .tup l) (hd : ∀ k ∈ ks, k.depth ≤ 8) (hl : ks.length ≤ 9900) :
    EvP T (tCB (rLenSetN P w) (tCons (tCB (rSetK K P w) (tCons ta tNil)) tNil)) ρ fun y => ∃ zs : List NestedKey, zs.Nodup ∧ (∀ x, x ∈ zs ↔ x ∈ ks) ∧ y = .int (zs.length : Nat) := fun F0 H0 σ F H e Q q => by
  refine eo_setN (R := fun _ => True) ha ht hd hl F0 H0 σ F H e _ fun a L F1 H1 e1 hs nd hx hq => ?_
  exact ⟨a, L, rfl, hs, q _ F1 H1 _ e1 ⟨L.map (·.2), nd, hx, by rw [List.length_map]⟩ (.int _)⟩
end
end Tr

set_option Elab.async false
set_option linter.all false
set_option maxRecDepth 100000
namespace Tr
open PySem PySem.Spec PyProof.Rows L2 TL
def top (i : Nat) : Stmt := PySem.Challenge.pw_translit_k03_whole_words_for.main.body.getD i (.Pass ⟨0, 0, 0, 0⟩)
abbrev s_is_string : Stmt := top 10
abbrev s_is_entry : Stmt := top 11
abbrev s_is_scheme : Stmt := top 12
abbrev s_need_scheme : Stmt := top 13
abbrev s_blocked_after : Stmt := top 14
abbrev s_is_allowed : Stmt := top 15
abbrev s_in_order : Stmt := top 16
abbrev s_words_from : Stmt := top 17
abbrev s_words_for : Stmt := top 18
abbrev s_law_draw : Stmt := top 20
abbrev s_law_pick : Stmt := top 21
abbrev s_law_string : Stmt := top 22
abbrev s_law_scheme : Stmt := top 23
abbrev s_law_triple : Stmt := top 24
abbrev s_law_any : Stmt := top 25
abbrev s_law_words : Stmt := top 26
abbrev s_law_letters : Stmt := top 27
abbrev s_law_segments : Stmt := top 28
abbrev s_law_write : Stmt := top 29
abbrev s_law_read : Stmt := top 30
abbrev s_law_all : Stmt := top 31
abbrev s_law : Stmt := top 32
/-- an own class of errors, as the top has left it -/
structure ExF (K : PySem.W.Frag) (mg : Str → Option Value) (n : Str) : Prop where
  x : PySem.W.excIn K (He.ga K n) He.veBase "ValueError.__new__" = true
  g : mg n = some (.ref (He.ga K n))
  k : PySem.W.keepIn K (.ref (He.ga K n)) = true
  b : PySem.W.subIn K (.ref (He.ga K n)) (.type "BaseException") = some true
  t : PySem.W.typeIn K (.ref (He.ga K n)) = some (.type "type")
/-- what the top has left: built-in names are free, constants, classes -/
def clsN : Nat → Str
  | 0 => "InvalidScheme"
  | 1 => "InvalidWord"
  | 2 => "InvalidText"
  | 3 => "Unreadable"
  | 4 => "NoMarking"
  | 5 => "InvalidChain"
  | _ => "InvalidFormat"
structure Bt (K : PySem.W.Frag) (mg : Str → Option Value) : Prop where
  ValueError : mg "ValueError" = none
  all : mg "all" = none
  any : mg "any" = none
  dict : mg "dict" = none
  isinstance : mg "isinstance" = none
  len : mg "len" = none
  max : mg "max" = none
  min : mg "min" = none
  range : mg "range" = none
  set : mg "set" = none
  sorted : mg "sorted" = none
  str : mg "str" = none
  tuple : mg "tuple" = none
  zip : mg "zip" = none
  k_LETTERS : ∃ u, mg "LETTERS" = some u ∧ RelV (.str (S [97, 98, 99, 100, 101, 102, 103, 104, 105, 106, 107, 108, 109, 110, 111, 112, 113, 114, 115, 116, 117, 118, 119, 120, 121, 122])) u
  k_PART : ∃ u, mg "PART" = some u ∧ RelV (.int 3) u
  k_ENTRIES : ∃ u, mg "ENTRIES" = some u ∧ RelV (.int 10) u
  k_LENGTH : ∃ u, mg "LENGTH" = some u ∧ RelV (.int 40) u
  k_MANY : ∃ u, mg "MANY" = some u ∧ RelV (.int 50) u
  TranslitError : ExF K mg "TranslitError"
  InvalidScheme : ExF K mg "InvalidScheme"
  InvalidText : ExF K mg "InvalidText"
end Tr

set_option Elab.async false
set_option linter.all false
set_option maxRecDepth 100000
namespace Tr
open PySem PySem.Spec PyProof.Rows L2 TL
variable [PWc] {K : PySem.W.Frag} {mg : Str → Option Value} {base : Heap}
def lenOk : PyData → Prop
  | .str x => x.length ≤ 100000
  | _ => True
def isStr (lo hi : Int) (al : List Nat) : PyData → Bool
  | .str x => decide (lo ≤ ((tl x).length : Int)) && decide (((tl x).length : Int) ≤ hi) && (tl x).all fun c => decide (c ∈ al)
  | _ => false
/-- the signs that are allowed: a text, or a list of texts of one sign -/
inductive Al (al : List Nat) : PyData → Prop
  | s : Al al (sD al)
  | l : Al al (.list (al.map fun c => sD [c]))
structure IsS where
  d : PyData
  lo : Int
  hi : Int
  al : List Nat
  a : PyData
def spIsString : Sp := Fsp (fun i : IsS => [i.d, .int i.lo, .int i.hi, i.a]) (fun i => Al i.al i.a ∧ i.d.plain = true ∧ lenOk i.d) (fun i y => y = .bool (isStr i.lo i.hi i.al i.d)) noX
theorem isStr_s (lo hi : Int) (al l : List Nat) : isStr lo hi al (sD l) = (decide (lo ≤ (l.length : Int)) && decide ((l.length : Int) ≤ hi) && l.all fun c => decide (c ∈ al)) := rfl
theorem notStr {d : PyData} (h : ∀ l, d ≠ sD l) : isTy "str" d = false ∧ ∀ lo hi al, isStr lo hi al d = false := by
  cases d with
  | str x => exact absurd rfl (h (tl x))
  | _ => exact ⟨rfl, fun _ _ _ => rfl⟩
abbrev N_is_string : List Str := ["value", "least", "most", "allowed", "char"]
theorem sc_is_string : FnScope N_is_string ["value", "least", "most", "allowed"] (defScope s_is_string) := ⟨rfl, rfl, rfl, by decide +kernel, rfl, by decide +kernel, by decide +kernel⟩
theorem size_ok {n : Nat} (h : n ≤ 100000) : n ≤ sizeLine := Nat.le_trans h (by decide)
theorem size_okB {n : Nat} (h : n ≤ 10000000) : n ≤ sizeLine := Nat.le_trans h (by decide)
theorem size_ltB {n : Nat} (h : n ≤ 10000000) : n < sizeLine := Nat.lt_of_le_of_lt h (by decide)
theorem size_lt {n : Nat} (h : n ≤ 100000) : n < sizeLine := Nat.lt_of_le_of_lt h (by decide)
theorem any_one (c : Nat) (al : List Nat) : ((al.map fun c => sD [c]).any fun z => PyData.eqv z (sD [c])) = decide (c ∈ al) := by
  induction al with
  | nil => rfl
  | cons a r ih =>
    rw [List.map_cons, List.any_cons, ih, eqv_str]
    by_cases h : a = c
    · subst h
      simp
    · have h2 : ¬ c = a := fun e => h e.symm
      simp [h, h2]
theorem plain_ones (al : List Nat) : PyData.plainAll (al.map fun c => sD [c]) = true := by
  induction al with
  | nil => rfl
  | cons a r ih =>
    rw [List.map_cons]
    simp only [PyData.plainAll, ih]
    rfl
theorem ev_al {T : Tn} {K : PySem.W.Frag} {ρ : List Sl} {ta tb : TE} {c : Nat} {al : List Nat} {a : PyData} (h1 : Ev T ta ρ (sD [c])) (h2 : Ev T tb ρ a) (h : Al al a) : Ev T (tOp (rInU K fun b => b) ta tb) ρ (.bool (decide (c ∈ al))) := by
  cases h with
  | s => exact ev_inS h1 h2
  | l =>
    have := ev_inL (K := K) (f := fun b => b) h1 h2 rfl (plain_ones al) (by simp [PyData.depth])
    rwa [any_one] at this
theorem cl_is_string {k : Nat} (d : Defn K mg "is_string" s_is_string ["value", "least", "most", "allowed"]) (B : Bt K mg) : Cl P w K mg base (k + 1) "is_string" spIsString := by
  refine cl_fn d sc_is_string (fun i => rfl) fun f cdv A outer s H E hr => ?_
  refine ⟨_, (PSs.nox (pss_one (ps_ret (pe_and (k_isi K (TS := "str") (by rfl) B.isinstance (by rfl) B.str (by decide +kernel) (pv 0)) (pe_and (pe_chain op_le op_le (pv 1) (k_len K (by rfl) B.len (pa_cons (pv 0) pa_nil)) (pv 2)) (pe_one (k_all K rfl (by rfl) B.all (pa_cons (pe_lc (own := [("char", 4)]) rfl sc_is_string.nd (k_i K (pv 0)) (blkOk_by (N := N_is_string) (sc := defScope s_is_string) (by decide +kernel)) (fun _ _ _ _ _ => (pg_name (i := 4) sc_is_string.nd rfl (Or.inl rfl))) (fun _ _ _ _ _ => pts_nil) (fun _ _ _ _ _ => (k_in K hr (pv 4) (pv 3)))) pa_nil)))))))), ?_⟩
  rintro ⟨d, lo, hi, al, a⟩ ⟨ha, hp, hl⟩
  dsimp only at ha hp hl ⊢
  by_cases hs : ∃ l, d = sD l
  · obtain ⟨l, rfl⟩ := hs
    have hl' : l.length ≤ 100000 := by simpa [lenOk, Str.length] using hl
    refine sm_ret (ev_and (ev_isStr (ev_var rfl) hp) fun _ => ev_and (ev_chain (ev_var rfl) (ev_lenS (ev_var rfl) (size_ok hl')) (ev_var rfl)) fun _ => ev_all (bs := l.map fun c => decide (c ∈ al)) ?_) ?_
    · refine EvO.d ((eo_lc1 (h := fun c => sD [c]) (as := l) (r := fun c => _) (f := fun c => .bool (decide (c ∈ al))) (wk_S (ev_var rfl)) (size_lt hl') (fun c _ => tw_name (by simp)) fun c _ => ev_al (ev_var rfl) (ev_var rfl) ha).mono fun ys e => by rw [e, List.map_map]; rfl)
    · show PyData.bool _ = PyData.bool _
      rw [isStr_s, List.all_map]
      rfl
  · have hn := notStr fun l e => hs ⟨l, e⟩
    refine sm_ret (ev_and (c := false) (ev_isStr (ev_var rfl) hp) fun e => ?_) ?_
    · rw [hn.1] at e
      cases e
    · show PyData.bool _ = PyData.bool _
      rw [hn.1, hn.2]
      rfl
end Tr

set_option Elab.async false
set_option linter.all false
set_option maxRecDepth 100000
namespace Tr
open PySem PySem.Spec PyProof.Rows L2 TL
variable [PWc] {K : PySem.W.Frag} {mg : Str → Option Value} {base : Heap}
/-- values of the size that the laws hold -/
inductive OkD : PyData → Prop
  | non : OkD .none
  | bl (b : Bool) : OkD (.bool b)
  | int (i : Int) : OkD (.int i)
  | str (x : Str) (h : x.length ≤ 100000) : OkD (.str x)
  | tup (xs : List PyData) (h : xs.length ≤ 100000) (r : ∀ x ∈ xs, OkD x) : OkD (.tuple xs)
  | lst (xs : List PyData) (h : xs.length ≤ 100000) (r : ∀ x ∈ xs, OkD x) : OkD (.list xs)
theorem plainAll_of {xs : List PyData} (h : ∀ x ∈ xs, x.plain = true) : PyData.plainAll xs = true := by
  induction xs with
  | nil => rfl
  | cons a r ih =>
    simp only [PyData.plainAll, h a (List.mem_cons_self ..), ih fun x hx => h x (List.mem_cons_of_mem _ hx)]
    rfl
theorem OkD.plain {d : PyData} (h : OkD d) : d.plain = true := by
  induction h with
  | tup xs h r ih =>
    simp only [PyData.plain]
    exact plainAll_of ih
  | lst xs h r ih =>
    simp only [PyData.plain]
    exact plainAll_of ih
  | _ => rfl
theorem OkD.len {d : PyData} (h : OkD d) : lenOk d := by
  cases h with
  | str x h => exact h
  | _ => trivial
abbrev LET : List Nat := [97, 98, 99, 100, 101, 102, 103, 104, 105, 106, 107, 108, 109, 110, 111, 112, 113, 114, 115, 116, 117, 118, 119, 120, 121, 122]
def isEntry : PyData → Bool
  | .tuple xs => decide (xs.length = 2) && xs.all (isStr 1 3 LET)
  | _ => false
theorem notTup {d : PyData} (h : ∀ l, d ≠ .tuple l) : isTy "tuple" d = false ∧ isEntry d = false := by
  cases d with
  | tuple x => exact absurd rfl (h x)
  | _ => exact ⟨rfl, rfl⟩
def spIsEntry : Sp := Fsp (fun d : PyData => [d]) OkD (fun d y => y = .bool (isEntry d)) noX
abbrev N_is_entry : List Str := ["value", "part"]
theorem sc_is_entry : FnScope N_is_entry ["value"] (defScope s_is_entry) := ⟨rfl, rfl, rfl, by decide +kernel, rfl, by decide +kernel, by decide +kernel⟩
theorem decB (b : Bool) : (decide (b = true)) = b := by cases b <;> rfl
theorem cl_is_entry (d : Defn K mg "is_entry" s_is_entry ["value"]) (B : Bt K mg) (c_is_string : Cl P w K mg base 1 "is_string" spIsString) : Cl P w K mg base 2 "is_entry" spIsEntry := by
  refine cl_fn d sc_is_entry (fun i => rfl) fun f cdv A outer s H E hr => ?_
  refine ⟨_, (PSs.nox (pss_cons (ps_if (PW.pt (pw_or (pt_not (pt_val (k_isi K (TS := "tuple") (by rfl) B.isinstance (by rfl) B.tuple (by decide +kernel) (pv 0)))) (pw_or1 (kt_ne K hr (k_len K (by rfl) B.len (pa_cons (pv 0) pa_nil)) pe_int)))) (pss_one (ps_ret pe_bl)) pss_nil) (pss_one (ps_ret (k_all K rfl (by rfl) B.all (pa_cons (pe_lc (own := [("part", 1)]) rfl sc_is_entry.nd (k_i K (pv 0)) (blkOk_by (N := N_is_entry) (sc := defScope s_is_entry) (by decide +kernel)) (fun _ _ _ _ _ => (pg_name (i := 1) sc_is_entry.nd rfl (Or.inl rfl))) (fun _ _ _ _ _ => pts_nil) (fun _ _ _ _ _ => (pe_f c_is_string hr (by decide) (by rfl) (pa_cons (pv 1) (pa_cons pe_int (pa_cons (C8.pe_gc (by rfl) B.k_PART) (pa_cons (C8.pe_gc (by rfl) B.k_LETTERS) pa_nil))))))) pa_nil)))))), ?_⟩
  intro d hd
  by_cases hs : ∃ l, d = .tuple l
  · obtain ⟨l, rfl⟩ := hs
    cases hd with
    | tup _ hl hx =>
      refine sm_seq (sm_ifb (et_or (et_not (et_b (ev_isTuple (ev_var rfl) (OkD.tup _ hl hx).plain))) fun h => et_t (ev_neI (ev_lenT (ev_var rfl)) ev_int)) (fun h => sm_ret ev_bl ?_) fun h => sm_next (sm_go ?_))
      · have : ¬ l.length = 2 := by
          intro e
          rw [e] at h
          exact absurd (show (false || !decide ((2 : Int) = 2)) = true from h) (by decide)
        show PyData.bool _ = PyData.bool _
        simp [isEntry, this]
      · have h2 : l.length = 2 := by
          have h' : (!decide ((l.length : Int) = 2)) = false := h
          have h'' : (l.length : Int) = 2 := by simpa using h'
          omega
        refine sm_ret (ev_all (bs := l.map (isStr 1 3 LET)) ?_) ?_
        · refine EvO.d ((eo_lc1 (h := id) (as := l) (r := fun c => _) (f := fun c => .bool (isStr 1 3 LET c)) (by rw [List.map_id]; exact wk_T (ev_var rfl)) (size_lt hl) (fun c _ => tw_name (by simp)) fun c hc => ?_).mono fun ys e => by rw [e, List.map_map]; rfl)
          refine ev_call (⟨c, 1, 3, LET, sD LET⟩ : IsS) (ea_c (ev_var rfl) (ea_c ev_int (ea_c ev_int (ea_c ev_str ea_nil)))) ⟨.s, (hx c hc).plain, (hx c hc).len⟩ fun y e => e
        · show PyData.bool _ = PyData.bool _
          rw [List.all_map]
          simp only [isEntry, h2]
          rfl
  · have hn := notTup fun l e => hs ⟨l, e⟩
    refine sm_seq (sm_ifb (et_or (c := true) (et_not (et_b (ev_isTuple (ev_var rfl) hd.plain))) fun h => ?_) (fun h => sm_ret ev_bl ?_) fun h => ?_)
    · rw [hn.1] at h
      cases h
    · show PyData.bool _ = PyData.bool _
      rw [hn.2]
    · rw [hn.1] at h
      cases h
end Tr

set_option Elab.async false
set_option linter.all false
set_option maxRecDepth 100000
namespace Tr
open PySem PySem.Spec PyProof.Rows L2 TL
variable [PWc] {K : PySem.W.Frag} {mg : Str → Option Value} {base : Heap}
abbrev Sch := List (List Nat × List Nat)
def entD (p : List Nat × List Nat) : PyData := .tuple [sD p.1, sD p.2]
abbrev schD (sch : Sch) : PyData := .tuple (sch.map entD)
def Part (l : List Nat) : Prop := 1 ≤ l.length ∧ l.length ≤ 3 ∧ ∀ c ∈ l, c ∈ LET
theorem part_of {d : PyData} (h : isStr 1 3 LET d = true) : ∃ l, d = sD l ∧ Part l := by
  cases d with
  | str x =>
    refine ⟨tl x, rfl, ?_⟩
    have h' : (decide ((1 : Int) ≤ ((tl x).length : Int)) && decide (((tl x).length : Int) ≤ 3) && (tl x).all fun c => decide (c ∈ LET)) = true := h
    simp only [Bool.and_eq_true, decide_eq_true_eq, List.all_eq_true] at h'
    exact ⟨by omega, by omega, h'.2⟩
  | _ => cases h
theorem of_part {l : List Nat} (h : Part l) : isStr 1 3 LET (sD l) = true := by
  rw [isStr_s]
  simp only [Bool.and_eq_true, decide_eq_true_eq, List.all_eq_true]
  obtain ⟨h1, h2, h3⟩ := h
  exact ⟨⟨by omega, by omega⟩, h3⟩
theorem entry_of {d : PyData} (h : isEntry d = true) : ∃ p, d = entD p ∧ Part p.1 ∧ Part p.2 := by
  cases d with
  | tuple xs =>
    simp only [isEntry, Bool.and_eq_true, decide_eq_true_eq, List.all_eq_true] at h
    obtain ⟨hl, ha⟩ := h
    match xs, hl, ha with
    | [a, b], _, ha =>
      obtain ⟨l, rfl, hp⟩ := part_of (ha a (by simp))
      obtain ⟨m, rfl, hq⟩ := part_of (ha b (by simp))
      exact ⟨(l, m), rfl, hp, hq⟩
  | _ => cases h
theorem of_entry {p : List Nat × List Nat} (h1 : Part p.1) (h2 : Part p.2) : isEntry (entD p) = true := by
  simp only [entD, isEntry, Bool.and_eq_true, decide_eq_true_eq, List.all_eq_true]
  refine ⟨rfl, fun x hx => ?_⟩
  simp only [List.mem_cons, List.not_mem_nil, or_false] at hx
  rcases hx with rfl | rfl
  · exact of_part h1
  · exact of_part h2
theorem entries_of {xs : List PyData} (h : xs.all isEntry = true) : ∃ sch : Sch, xs = sch.map entD ∧ ∀ p ∈ sch, Part p.1 ∧ Part p.2 := by
  induction xs with
  | nil => exact ⟨[], rfl, fun p hp => (nomatch hp)⟩
  | cons a r ih =>
    simp only [List.all_cons, Bool.and_eq_true] at h
    obtain ⟨p, rfl, hp⟩ := entry_of h.1
    obtain ⟨sch, rfl, hs⟩ := ih h.2
    refine ⟨p :: sch, rfl, fun q hq => ?_⟩
    rcases List.mem_cons.mp hq with rfl | hq
    · exact hp
    · exact hs q hq
def srcOf : PyData → List Nat
  | .tuple (.str x :: _) => tl x
  | _ => []
theorem srcOf_ent (p : List Nat × List Nat) : srcOf (entD p) = p.1 := rfl
def srt (ss : List (List Nat)) : Bool := (ss.zip (ss.drop 1)).all fun p => decide (p.1 < p.2)
def clo (ss : List (List Nat)) : Bool := (ss.flatMap fun s => s.map fun c => decide ([c] ∈ ss)).all id
def isSch : PyData → Bool
  | .tuple xs => (decide (1 ≤ xs.length) && decide (xs.length ≤ 10)) && xs.all isEntry && (srt (xs.map srcOf) && clo (xs.map srcOf))
  | _ => false
/-- a scheme that passes -/
structure Valid (sch : Sch) : Prop where
  lo : 1 ≤ sch.length
  hi : sch.length ≤ 10
  pt : ∀ p ∈ sch, Part p.1 ∧ Part p.2
  st : srt (sch.map (·.1)) = true
  cl : clo (sch.map (·.1)) = true
theorem map_src (sch : Sch) : (sch.map entD).map srcOf = sch.map (·.1) := by
  rw [List.map_map]
  exact List.map_congr_left fun p _ => rfl
theorem isSch_ok {sch : Sch} (h : Valid sch) : isSch (schD sch) = true := by
  have h1 : (sch.map entD).all isEntry = true := by
    rw [List.all_map, List.all_eq_true]
    exact fun p hp => of_entry (h.pt p hp).1 (h.pt p hp).2
  simp only [isSch, h1, map_src, h.st, h.cl, List.length_map, decide_eq_true h.lo, decide_eq_true h.hi]
  rfl
theorem of_isSch {d : PyData} (h : isSch d = true) : ∃ sch, d = schD sch ∧ Valid sch := by
  cases d with
  | tuple xs =>
    simp only [isSch, Bool.and_eq_true, decide_eq_true_eq] at h
    obtain ⟨⟨⟨h1, h2⟩, h3⟩, h4, h5⟩ := h
    obtain ⟨sch, rfl, hs⟩ := entries_of h3
    rw [map_src] at h4 h5
    rw [List.length_map] at h1 h2
    exact ⟨sch, rfl, h1, h2, hs, h4, h5⟩
  | _ => cases h
theorem notTup2 {d : PyData} (h : ∀ l, d ≠ .tuple l) : isSch d = false := by
  cases d with
  | tuple x => exact absurd rfl (h x)
  | _ => rfl
def spIsScheme : Sp := Fsp (fun d : PyData => [d]) OkD (fun d y => y = .bool (isSch d)) noX
abbrev N_is_scheme : List Str := ["value", "one", "sources", "other", "source", "char"]
theorem sc_is_scheme : FnScope N_is_scheme ["value"] (defScope s_is_scheme) := ⟨rfl, rfl, rfl, by decide +kernel, rfl, by decide +kernel, by decide +kernel⟩
theorem any_mem (c : Nat) (ss : List (List Nat)) : ((ss.map sD).any fun z => PyData.eqv z (sD [c])) = decide ([c] ∈ ss) := by
  induction ss with
  | nil => rfl
  | cons a r ih =>
    rw [List.map_cons, List.any_cons, ih, eqv_str]
    by_cases h : a = [c]
    · subst h
      simp
    · have h2 : ¬ [c] = a := fun e => h e.symm
      simp [h, h2]
theorem plain_strs (ss : List (List Nat)) : PyData.plainAll (ss.map sD) = true := plainAll_of fun x hx => by
  obtain ⟨l, _, rfl⟩ := List.mem_map.mp hx
  rfl
theorem flat_len {n : Nat} {ss : List (List Nat)} (h : ∀ s ∈ ss, s.length ≤ n) : (ss.flatMap fun s => s).length ≤ ss.length * n := by
  induction ss with
  | nil => simp
  | cons a r ih =>
    rw [List.flatMap_cons, List.length_append, List.length_cons, Nat.succ_mul]
    have := h a (by simp)
    have := ih fun s hs => h s (by simp [hs])
    omega
theorem cl_is_scheme (d : Defn K mg "is_scheme" s_is_scheme ["value"]) (B : Bt K mg) (c_is_entry : Cl P w K mg base 2 "is_entry" spIsEntry) : Cl P w K mg base 3 "is_scheme" spIsScheme := by
  refine cl_fn d sc_is_scheme (fun i => rfl) fun f cdv A outer s H E hr => ?_
  refine ⟨_, (PSs.nox (pss_cons (ps_if (PW.pt (pw_or (pt_not (pt_val (k_isi K (TS := "tuple") (by rfl) B.isinstance (by rfl) B.tuple (by decide +kernel) (pv 0)))) (pw_or (pt_not (pt_chain op_le op_le pe_int (k_len K (by rfl) B.len (pa_cons (pv 0) pa_nil)) (C8.pe_gc (by rfl) B.k_ENTRIES))) (pw_or1 (pt_not (pt_val (k_all K rfl (by rfl) B.all (pa_cons (pe_lc (own := [("one", 1)]) rfl sc_is_scheme.nd (k_i K (pv 0)) (blkOk_by (N := N_is_scheme) (sc := defScope s_is_scheme) (by decide +kernel)) (fun _ _ _ _ _ => (pg_name (i := 1) sc_is_scheme.nd rfl (Or.inl rfl))) (fun _ _ _ _ _ => pts_nil) (fun _ _ _ _ _ => (pe_f c_is_entry hr (by decide) (by rfl) (pa_cons (pv 1) pa_nil)))) pa_nil)))))))) (pss_one (ps_ret pe_bl)) pss_nil) (pss_cons (ps_set (i := 2) sc_is_scheme.nd rfl (Or.inr rfl) (pe_lc (own := [("one", 1)]) rfl sc_is_scheme.nd (k_i K (pv 0)) (blkOk_by (N := N_is_scheme) (sc := defScope s_is_scheme) (by decide +kernel)) (fun _ _ _ _ _ => (pg_name (i := 1) sc_is_scheme.nd rfl (Or.inl rfl))) (fun _ _ _ _ _ => pts_nil) (fun _ _ _ _ _ => (k_ix K hr (pv 1) pe_int (fun _ _ => rfl))))) (pss_cons (ps_if (pt_not (pt_val (k_all K rfl (by rfl) B.all (pa_cons (pe_lc (own := [("one", 1), ("other", 3)]) rfl sc_is_scheme.nd (k_iz K (by rfl) B.zip (pa_cons (pv 2) (pa_cons (k_sl K (pv 2) (po_some pe_int) po_none) pa_nil))) (blkOk_by (N := N_is_scheme) (sc := defScope s_is_scheme) (by decide +kernel)) (fun _ _ _ _ _ => (k_gt K (n := 2) rfl (pgs_cons (pg_name (i := 1) sc_is_scheme.nd rfl (Or.inl rfl)) (pgs_cons (pg_name (i := 3) sc_is_scheme.nd rfl (Or.inl rfl)) pgs_nil)))) (fun _ _ _ _ _ => pts_nil) (fun _ _ _ _ _ => (pe_cmpR op_lt_str (pv 1) (pv 3) (nomark _)))) pa_nil)))) (pss_one (ps_ret pe_bl)) pss_nil) (pss_one (ps_ret (k_all K rfl (by rfl) B.all (pa_cons (pe_lc2 (own := [("source", 4), ("char", 5)]) rfl sc_is_scheme.nd (k_i K (pv 2)) (blkOk_by (N := N_is_scheme) (sc := defScope s_is_scheme) (by decide +kernel)) (vs1 := [5]) (by decide) (fun _ _ _ _ _ => (pg_name (i := 4) sc_is_scheme.nd rfl (Or.inl rfl))) (fun _ _ _ _ _ => pts_nil) (fun _ _ _ _ _ => (k_i K (pv 4))) (fun _ _ _ _ _ => (pg_name (i := 5) sc_is_scheme.nd rfl (Or.inl rfl))) (fun _ _ _ _ _ => pts_nil) (fun _ _ _ _ _ => (k_in K hr (pv 5) (pv 2)))) pa_nil)))))))), ?_⟩
  intro d hd
  by_cases hs : ∃ l, d = .tuple l
  · obtain ⟨l, rfl⟩ := hs
    cases hd with
    | tup _ hl hx =>
      refine sm_seq (sm_ifb (b := !((decide (1 ≤ l.length) && decide (l.length ≤ 10)) && l.all isEntry)) ((et_or (et_not (et_b (ev_isTuple (ev_var rfl) (OkD.tup _ hl hx).plain))) fun h => et_or (et_not (et_b (ev_chain ev_int (ev_lenT (ev_var rfl)) ev_int))) fun h => et_not (et_b (ev_all (bs := l.map isEntry) ?_))).mono fun b e => ?_) (fun h => sm_ret ev_bl ?_) fun h => sm_next (sm_go ?_))
      · refine EvO.d ((eo_lc1 (h := id) (as := l) (r := fun c => _) (f := fun c => .bool (isEntry c)) (by rw [List.map_id]; exact wk_T (ev_var rfl)) (size_lt hl) (fun c _ => tw_name (by simp)) fun c hc => ?_).mono fun ys e => by rw [e, List.map_map]; rfl)
        exact ev_call c (ea_c (ev_var rfl) ea_nil) (hx c hc) fun y e => e
      · rw [e, List.all_map]
        have e1 : decide ((1 : Int) ≤ (l.length : Int)) = decide (1 ≤ l.length) := decide_eq_decide.mpr (by omega)
        have e2 : decide ((l.length : Int) ≤ 10) = decide (l.length ≤ 10) := decide_eq_decide.mpr (by omega)
        show (!true || (!(decide ((1 : Int) ≤ (l.length : Int)) && decide ((l.length : Int) ≤ 10)) || !(l.all isEntry))) = _
        rw [e1, e2]
        cases (decide (1 ≤ l.length) && decide (l.length ≤ 10)) <;> cases l.all isEntry <;> rfl
      · show PyData.bool _ = PyData.bool _
        have := nb_t h
        simp only [isSch, this]
        rfl
      · have hb : ((decide (1 ≤ l.length) && decide (l.length ≤ 10)) && l.all isEntry) = true := nb_f h
        have hb' := hb
        simp only [Bool.and_eq_true, decide_eq_true_eq] at hb
        obtain ⟨⟨h1, h2⟩, h3⟩ := hb
        obtain ⟨sch, rfl, hp⟩ := entries_of h3
        rw [List.length_map] at h1 h2
        have lsm : sch.length < sizeLine := size_lt (by omega)
        refine sm_seq (sm_asg (x := .list ((sch.map (·.1)).map sD)) (EvO.d ((eo_lc1 (h := entD) (as := sch) (r := fun c => _) (f := fun c => sD c.1) (wk_T (ev_var rfl)) lsm (fun c _ => tw_name (by simp)) fun c hc => ev_ixT (ev_var rfl) ev_int rfl).mono fun ys e => by rw [e, List.map_map]; rfl)) (sm_go ?_))
        refine sm_seq (sm_ifb (b := !srt (sch.map (·.1))) (et_not (et_b ?_)) (fun h => sm_ret ev_bl ?_) fun h => sm_next (sm_go ?_))
        · refine (ev_all (bs := ((sch.map (·.1)).zip ((sch.map (·.1)).drop 1)).map fun p => decide (p.1 < p.2)) ?_).cast ?_
          · refine EvO.d ((eo_lc1 (h := fun p => loD [sD p.1, sD p.2]) (as := (sch.map (·.1)).zip ((sch.map (·.1)).drop 1)) (r := fun c => _) (f := fun p => .bool (decide (p.1 < p.2))) ?_ ?_ (fun c _ => tw_lo (tws_cons (tw_name (by simp)) (tws_cons (tw_name (by simp)) tws_nil)) rfl) fun c hc => ev_ltS (ev_var rfl) (ev_var rfl)).mono fun ys e => by rw [e, List.map_map]; rfl)
            · refine Wk.mono (wk_zip (ea_c (ev_var rfl) (ea_c (ev_slL (ev_var rfl) (eb_some ev_int) eb_none) ea_nil))) fun zs e => ?_
              rw [e, show (1 : Int) = ((1 : Nat) : Int) from rfl, cut_drop, ← List.map_drop, List.zip_map, List.map_map]
              rfl
            · refine size_lt (Nat.le_trans (by rw [List.length_zip]; exact Nat.min_le_left _ _) ?_)
              rw [List.length_map]
              omega
          · rw [List.all_map]
            rfl
        · show PyData.bool _ = PyData.bool _
          have h' : srt (sch.map (·.1)) = false := nb_t h
          simp only [isSch, map_src, h']
          simp
        · have h' : srt (sch.map (·.1)) = true := nb_f h
          refine sm_ret (ev_all (bs := (sch.map (·.1)).flatMap fun s => s.map fun c => decide ([c] ∈ sch.map (·.1))) ?_) ?_
          · refine EvO.d ((eo_lc2 (h := sD) (h1 := fun _ c => sD [c]) (bs := fun s => s) (as := sch.map (·.1)) (r := fun c => _) (r1 := fun _ c => _) (f := fun _ c => .bool (decide ([c] ∈ sch.map (·.1)))) (wk_L (ev_var rfl)) ?_ (fun c _ => tw_name (by simp)) (fun c hc => wk_S (ev_var rfl)) (fun a ha c _ => tw_name (by simp)) ?_ ?_).mono fun ys e => by rw [e, List.map_flatMap]; congr 1; funext a; rw [List.map_map]; rfl)
            · refine size_lt (Nat.le_trans (flat_len (n := 3) fun s hs => ?_) ?_)
              · obtain ⟨p, h1, rfl⟩ := List.mem_map.mp hs
                exact (hp p h1).1.2.1
              · rw [List.length_map]
                omega
            · exact fun a _ => noOwn_of rfl
            · intro a ha c hc
              exact (ev_inL (ev_var rfl) (ev_var rfl) rfl (plain_strs _) (by simp [PyData.depth])).cast (by rw [any_mem])
          · show PyData.bool _ = PyData.bool _
            have hb2 : (((decide (1 ≤ (sch.map entD).length) && decide ((sch.map entD).length ≤ 10)) && (sch.map entD).all isEntry) && (srt ((sch.map entD).map srcOf) && clo ((sch.map entD).map srcOf))) = clo (sch.map (·.1)) := by
              rw [hb', map_src, h']
              rfl
            exact congrArg PyData.bool hb2.symm
  · have hn := (notTup fun l e => hs ⟨l, e⟩).1
    have hn2 := notTup2 fun l e => hs ⟨l, e⟩
    refine sm_seq (sm_ifb (et_or (c := true) (et_not (et_b (ev_isTuple (ev_var rfl) hd.plain))) fun h => ?_) (fun h => sm_ret ev_bl ?_) fun h => ?_)
    · rw [hn] at h
      cases h
    · show PyData.bool _ = PyData.bool _
      rw [hn2]
    · rw [hn] at h
      cases h
end Tr

set_option Elab.async false
set_option linter.all false
set_option maxRecDepth 100000
namespace Tr
open PySem PySem.Spec PyProof.Rows L2 TL
variable [PWc] {K : PySem.W.Frag} {mg : Str → Option Value} {base : Heap}
def strOf : PyData → List Nat
  | .str x => tl x
  | _ => []
def entOf : PyData → List Nat × List Nat
  | .tuple [.str a, .str b] => (tl a, tl b)
  | _ => ([], [])
def schOf : PyData → Sch
  | .tuple xs => xs.map entOf
  | _ => []
theorem schOf_D (sch : Sch) : schOf (schD sch) = sch := by
  show (sch.map entD).map entOf = sch
  rw [List.map_map]
  have : entOf ∘ entD = id := by funext p; rfl
  rw [this, List.map_id]
theorem sch_ok {d : PyData} (h : isSch d = true) : d = schD (schOf d) ∧ Valid (schOf d) := by
  obtain ⟨sch, rfl, hv⟩ := of_isSch h
  rw [schOf_D]
  exact ⟨rfl, hv⟩
abbrev xS (K : PySem.W.Frag) : Addr := He.ga K "InvalidScheme"
def spNeedScheme (K : PySem.W.Frag) : Sp := Fsp (fun d : PyData => [d]) OkD (fun d y => isSch d = true ∧ y = .none) (fun d c => isSch d = false ∧ c = xS K)
abbrev N_need_scheme : List Str := ["value"]
theorem sc_need_scheme : FnScope N_need_scheme ["value"] (defScope s_need_scheme) := ⟨rfl, rfl, rfl, by decide +kernel, rfl, by decide +kernel, by decide +kernel⟩
theorem cl_need_scheme (d : Defn K mg "need_scheme" s_need_scheme ["value"]) (B : Bt K mg) (c_is_scheme : Cl P w K mg base 3 "is_scheme" spIsScheme) : Cl P w K mg base 4 "need_scheme" (spNeedScheme K) := by
  refine cl_fn d sc_need_scheme (fun i => rfl) fun f cdv A outer s H E hr => ?_
  refine ⟨_, (pss_one (ps_if (pt_not (pt_val (pe_f c_is_scheme hr (by decide) (by rfl) (pa_cons (pv 0) pa_nil)))) (pss_one (L2N.ps_raise rfl (L2N.takes_of rfl rfl rfl rfl) (pmk_own0 PySem.F.excBase_ValueError B.InvalidScheme.x B.InvalidScheme.g B.InvalidScheme.k (raises_own B.InvalidScheme.b B.InvalidScheme.t) (by rfl)))) pss_nil)), ?_⟩
  intro d hd
  refine sm_ifb (et_not (et_b (ev_call d (ea_c (ev_var rfl) ea_nil) hd fun y e => e))) (fun h => sm_raise ⟨nb_t h, rfl⟩) fun h => sm_next ⟨nb_f h, rfl⟩
/-- the letters of a scheme -/
def lets (sch : Sch) : List Nat := (sch.filter fun p => decide (p.1.length = 1)).map fun p => p.1.headD 0
abbrev letsD (sch : Sch) : PyData := .list ((lets sch).map fun c => sD [c])
theorem lets_D (sch : Sch) : (sch.filter fun p => decide (p.1.length = 1)).map (fun p => sD p.1) = (lets sch).map fun c => sD [c] := by
  unfold lets
  rw [List.map_map]
  refine List.map_congr_left fun p hp => ?_
  have h := of_decide_eq_true (List.mem_filter.mp hp).2
  match p, h with
  | ([c], _), _ => rfl
theorem mem_lets {sch : Sch} {c : Nat} : c ∈ lets sch ↔ [c] ∈ sch.map (·.1) := by
  unfold lets
  constructor
  · intro h
    obtain ⟨p, hp, rfl⟩ := List.mem_map.mp h
    have h2 := of_decide_eq_true (List.mem_filter.mp hp).2
    have h1 := (List.mem_filter.mp hp).1
    match p, h1, h2 with
    | ([c], t), h1, _ => exact List.mem_map.mpr ⟨([c], t), h1, rfl⟩
  · intro h
    obtain ⟨p, hp, e⟩ := List.mem_map.mp h
    refine List.mem_map.mpr ⟨p, List.mem_filter.mpr ⟨hp, ?_⟩, ?_⟩
    · rw [show p.1 = [c] from e]
      rfl
    · rw [show p.1 = [c] from e]
      rfl
theorem Valid.sl {sch : Sch} (h : Valid sch) : sch.length < sizeLine := size_lt (by have := h.hi; omega)
theorem Valid.s1 {sch : Sch} (h : Valid sch) {p : List Nat × List Nat} (hp : p ∈ sch) : p.1.length ≤ sizeLine := size_ok (by have := (h.pt p hp).1.2.1; omega)
def spLettersOf : Sp := Fsp (fun sch : Sch => [schD sch]) Valid (fun sch y => y = letsD sch) noX
theorem dec1 (n : Nat) : decide ((n : Int) = 1) = decide (n = 1) := decide_eq_decide.mpr (by omega)
def spAlphabet (K : PySem.W.Frag) : Sp := Fsp (fun d : PyData => [d]) OkD (fun d y => isSch d = true ∧ y = letsD (schOf d)) (fun d c => isSch d = false ∧ c = xS K)
abbrev xW (K : PySem.W.Frag) : Addr := He.ga K "InvalidWord"
structure IxW where
  sch : Sch
  wd : PyData
def spNeedWord (K : PySem.W.Frag) : Sp := Fsp (fun i : IxW => [schD i.sch, i.wd]) (fun i => Valid i.sch ∧ OkD i.wd) (fun i y => isStr 0 40 (lets i.sch) i.wd = true ∧ y = .none) (fun i c => isStr 0 40 (lets i.sch) i.wd = false ∧ c = xW K)
end Tr

set_option Elab.async false
set_option linter.all false
set_option maxRecDepth 100000
namespace Tr
open PySem PySem.Spec PyProof.Rows L2 TL
variable [PWc] {K : PySem.W.Frag} {mg : Str → Option Value} {base : Heap}
/-- a table: its keys and what they map to, in order -/
def tk (p : List Nat × List Nat) : Key × PyData := (Sum.inr (S p.1), sD p.2)
abbrev tabD (tb : Sch) : PyData := dictD (tb.map tk)
def look (tb : Sch) (k : List Nat) : Option (List Nat) := (tb.find? fun p => decide (p.1 = k)).map (·.2)
theorem atK_tab (tb : Sch) (k : List Nat) : atK (tb.map tk) (Sum.inr (S k)) = (look tb k).map sD := by
  unfold atK look
  rw [List.find?_map]
  have : ((fun p : Key × PyData => decide (p.1 = Sum.inr (S k))) ∘ tk) = fun p : List Nat × List Nat => decide (p.1 = k) := by
    funext p
    refine decide_eq_decide.mpr ⟨fun h => S_inj (Sum.inr.inj h), fun h => ?_⟩
    show (Sum.inr (S p.1) : Key) = _
    rw [h]
  rw [this]
  cases tb.find? fun p => decide (p.1 = k) <;> rfl
theorem look_some {tb : Sch} {k v : List Nat} (h : look tb k = some v) : (k, v) ∈ tb := by
  unfold look at h
  cases e : tb.find? fun p => decide (p.1 = k) with
  | none =>
    rw [e] at h
    cases h
  | some p =>
    rw [e] at h
    have h1 := List.mem_of_find?_eq_some e
    have h2 := of_decide_eq_true (List.find?_some (p := fun p : List Nat × List Nat => decide (p.1 = k)) e)
    cases h
    rw [← h2]
    exact h1
theorem look_isSome {tb : Sch} {k : List Nat} : (look tb k).isSome = decide (k ∈ tb.map (·.1)) := by
  unfold look
  cases e : tb.find? fun p => decide (p.1 = k) with
  | none =>
    have h := List.find?_eq_none.mp e
    refine (decide_eq_false fun hm => ?_).symm
    obtain ⟨p, hp, rfl⟩ := List.mem_map.mp hm
    exact h p hp (decide_eq_true rfl)
  | some p =>
    have h1 := List.mem_of_find?_eq_some e
    have h2 := of_decide_eq_true (List.find?_some (p := fun p : List Nat × List Nat => decide (p.1 = k)) e)
    exact (decide_eq_true (List.mem_map.mpr ⟨p, h1, h2⟩)).symm
/-- how many signs the longest key at the front has -/
def longN (tb : Sch) (l : List Nat) : Nat → Option Nat
  | 0 => none
  | n + 1 => if (look tb (l.take (n + 1))).isSome = true then some (n + 1) else longN tb l n
def longL (tb : Sch) (l : List Nat) : Option (List Nat) := (longN tb l (min 3 l.length)).map l.take
def optS : Option (List Nat) → PyData
  | none => .none
  | some l => sD l
theorem longN_le (tb : Sch) (l : List Nat) : ∀ {m n : Nat}, longN tb l m = some n → 1 ≤ n ∧ n ≤ m ∧ (look tb (l.take n)).isSome = true
  | 0, _, h => by cases h
  | m + 1, n, h => by
    unfold longN at h
    split at h
    · rename_i hk
      cases h
      exact ⟨by omega, Nat.le_refl _, hk⟩
    · obtain ⟨h1, h2, h3⟩ := longN_le tb l h
      exact ⟨h1, by omega, h3⟩
theorem longL_some {tb : Sch} {l k : List Nat} (h : longL tb l = some k) : 1 ≤ k.length ∧ k.length ≤ l.length ∧ k.length ≤ 3 ∧ (look tb k).isSome = true ∧ k = l.take k.length := by
  unfold longL at h
  cases e : longN tb l (min 3 l.length) with
  | none =>
    rw [e] at h
    cases h
  | some n =>
    rw [e] at h
    cases h
    obtain ⟨h1, h2, h3⟩ := longN_le tb l e
    have : (l.take n).length = n := by rw [List.length_take]; omega
    rw [this]
    exact ⟨h1, by omega, by omega, h3, rfl⟩
structure IxT where
  tb : Sch
  l : List Nat
def spLongest : Sp := Fsp (fun i : IxT => [tabD i.tb, sD i.l]) (fun i => i.l.length ≤ 5000000) (fun i y => y = optS (longL i.tb i.l)) noX
theorem min3 (n : Nat) : (if (n : Int) < 3 then (n : Int) else 3) = ((min 3 n : Nat) : Int) := by
  split <;> omega
end Tr

set_option Elab.async false
set_option linter.all false
set_option maxRecDepth 100000
namespace Tr
open PySem PySem.Spec PyProof.Rows L2 TL
variable [PWc] {K : PySem.W.Frag} {mg : Str → Option Value} {base : Heap}
/-! ### the tables -/
theorem lt_of_srt : ∀ {ss : List (List Nat)}, srt ss = true → ss.Pairwise (· < ·)
  | [], _ => .nil
  | [a], _ => by simp
  | a :: b :: r, h => by
    have h' : (decide (a < b) && srt (b :: r)) = true := h
    rw [Bool.and_eq_true, decide_eq_true_eq] at h'
    have ih := lt_of_srt h'.2
    refine List.pairwise_cons.mpr ⟨fun c hc => ?_, ih⟩
    rcases List.mem_cons.mp hc with rfl | hc
    · exact h'.1
    · exact List.lt_trans h'.1 ((List.pairwise_cons.mp ih).1 c hc)
theorem srt_of_lt : ∀ {ss : List (List Nat)}, ss.Pairwise (· < ·) → srt ss = true
  | [], _ => rfl
  | [a], _ => rfl
  | a :: b :: r, h => by
    obtain ⟨h1, h2⟩ := List.pairwise_cons.mp h
    show (decide (a < b) && srt (b :: r)) = true
    rw [Bool.and_eq_true, decide_eq_true_eq]
    exact ⟨h1 b (by simp), srt_of_lt h2⟩
theorem nodup_of_lt {ss : List (List Nat)} (h : ss.Pairwise (· < ·)) : ss.Nodup := h.imp fun {a b} hab e => by
  subst e
  exact absurd hab (List.lt_irrefl a)
theorem Valid.nd {sch : Sch} (h : Valid sch) : (sch.map (·.1)).Nodup := nodup_of_lt (lt_of_srt h.st)
theorem putD_new {ds : List (Key × PyData)} {k : Key} {d : PyData} (h : k ∉ ds.map (·.1)) : putD ds k d = ds ++ [(k, d)] := by
  unfold putD
  rw [if_neg]
  intro e
  obtain ⟨p, hp, hk⟩ := List.any_eq_true.mp e
  exact h (List.mem_map.mpr ⟨p, hp, of_decide_eq_true hk⟩)
theorem merge_nd : ∀ {es ds : List (Key × PyData)}, (ds.map (·.1) ++ es.map (·.1)).Nodup → es.foldl (fun acc p => putD acc p.1 p.2) ds = ds ++ es
  | [], ds, _ => by simp
  | p :: es, ds, h => by
    rw [List.foldl_cons, putD_new, merge_nd]
    · simp
    · rw [List.map_append, List.append_assoc]
      exact h
    · intro hm
      have := (List.nodup_append.mp h).2.2 p.1 hm p.1 (by simp)
      exact this rfl
theorem tk_nd {tb : Sch} (h : (tb.map (·.1)).Nodup) : ((tb.map tk).map (·.1)).Nodup := by
  rw [List.map_map]
  have : ((fun p : Key × PyData => p.1) ∘ tk) = (fun l : List Nat => (Sum.inr (S l) : Key)) ∘ fun p : List Nat × List Nat => p.1 := rfl
  rw [this, ← List.map_map]
  exact List.Pairwise.map _ (fun a b hne e => hne (S_inj (Sum.inr.inj e))) h
theorem mergeD_nd {tb : Sch} (h : (tb.map (·.1)).Nodup) : mergeD (tb.map tk) = tb.map tk := by
  unfold mergeD
  rw [merge_nd]
  · rfl
  · exact tk_nd h
theorem sch_pairs (sch : Sch) : sch.map entD = (sch.map tk).map pairD := by
  rw [List.map_map]
  rfl
def spWriteTable : Sp := Fsp (fun sch : Sch => [schD sch]) Valid (fun sch y => y = tabD sch) noX
def rput (acc : Sch) (p : List Nat × List Nat) : Sch := if (look acc p.2).isSome = true then acc else acc ++ [(p.2, p.1)]
def revT (sch : Sch) : Sch := sch.foldl rput []
def spReadTable : Sp := Fsp (fun sch : Sch => [schD sch]) Valid (fun sch y => y = tabD (revT sch)) noX
theorem rput_len (acc : Sch) (p : List Nat × List Nat) : (rput acc p).length ≤ acc.length + 1 := by
  unfold rput
  split
  · omega
  · simp
end Tr

set_option Elab.async false
set_option linter.all false
set_option maxRecDepth 100000
namespace Tr
open PySem PySem.Spec PyProof.Rows L2 TL
variable [PWc] {K : PySem.W.Frag} {mg : Str → Option Value} {base : Heap}
/-! ### cutting a text by a table -/
def splitF (tb : Sch) : Nat → List Nat → Option (List (List Nat))
  | _, [] => some []
  | 0, _ :: _ => none
  | n + 1, c :: r => match longL tb (c :: r) with
    | none => none
    | some k => (splitF tb n ((c :: r).drop k.length)).map (k :: ·)
def splitL (tb : Sch) (l : List Nat) : Option (List (List Nat)) := splitF tb l.length l
theorem splitF_fuel (tb : Sch) : ∀ {n m : Nat} {l : List Nat}, l.length ≤ n → l.length ≤ m → splitF tb n l = splitF tb m l
  | 0, 0, _, _, _ => rfl
  | _, _, [], _, _ => by simp [splitF]
  | 0, m + 1, c :: r, h, _ => by simp at h
  | n + 1, 0, c :: r, _, h => by simp at h
  | n + 1, m + 1, c :: r, h1, h2 => by
    unfold splitF
    cases e : longL tb (c :: r) with
    | none => rfl
    | some k =>
      obtain ⟨hk, _⟩ := longL_some e
      have hd : ((c :: r).drop k.length).length ≤ r.length := by
        rw [List.length_drop, List.length_cons]
        omega
      simp only [List.length_cons] at h1 h2
      show Option.map _ _ = Option.map _ _
      rw [splitF_fuel tb (n := n) (m := m) (by omega) (by omega)]
theorem splitL_nil (tb : Sch) : splitL tb [] = some [] := rfl
theorem splitL_none {tb : Sch} {l : List Nat} (h : l ≠ []) (e : longL tb l = none) : splitL tb l = none := by
  cases l with
  | nil => exact absurd rfl h
  | cons c r =>
    unfold splitL
    rw [List.length_cons]
    unfold splitF
    rw [e]
theorem splitL_some {tb : Sch} {l k : List Nat} (h : l ≠ []) (e : longL tb l = some k) : splitL tb l = (splitL tb (l.drop k.length)).map (k :: ·) := by
  cases l with
  | nil => exact absurd rfl h
  | cons c r =>
    obtain ⟨hk, _⟩ := longL_some e
    unfold splitL
    rw [List.length_cons]
    conv => lhs; unfold splitF
    rw [e]
    show Option.map _ _ = Option.map _ _
    rw [splitF_fuel tb (n := r.length) (m := ((c :: r).drop k.length).length)]
    · rw [List.length_drop, List.length_cons]
      omega
    · exact Nat.le_refl _
theorem splitF_ok {tb : Sch} : ∀ {n : Nat} {l : List Nat} {ps : List (List Nat)}, splitF tb n l = some ps → (∀ k ∈ ps, (look tb k).isSome = true ∧ 1 ≤ k.length ∧ k.length ≤ 3) ∧ ps.length ≤ l.length ∧ ps.flatten = l
  | _, [], ps, h => by
    rw [splitF] at h
    cases h
    exact ⟨fun k hk => (nomatch hk), Nat.le_refl _, rfl⟩
  | 0, c :: r, ps, h => by cases h
  | n + 1, c :: r, ps, h => by
    unfold splitF at h
    cases e : longL tb (c :: r) with
    | none =>
      rw [e] at h
      cases h
    | some k =>
      rw [e] at h
      dsimp only at h
      obtain ⟨h1, h2, h3, h4, h5⟩ := longL_some e
      cases e2 : splitF tb n ((c :: r).drop k.length) with
      | none =>
        rw [e2] at h
        cases h
      | some qs =>
        rw [e2] at h
        cases h
        obtain ⟨i1, i2, i3⟩ := splitF_ok e2
        refine ⟨fun j hj => ?_, ?_, ?_⟩
        · rcases List.mem_cons.mp hj with rfl | hj
          · exact ⟨h4, h1, h3⟩
          · exact i1 j hj
        · rw [List.length_drop] at i2
          rw [List.length_cons] at *
          simp only [List.length_cons] at i2 h2 ⊢
          omega
        · rw [List.flatten_cons, i3]
          conv => lhs; arg 1; rw [h5]
          exact List.take_append_drop _ _
def optP : Option (List (List Nat)) → PyData
  | none => .none
  | some ps => .list (ps.map sD)
def spSplit : Sp := Fsp (fun i : IxT => [tabD i.tb, sD i.l]) (fun i => i.l.length ≤ 5000000) (fun i y => y = optP (splitL i.tb i.l)) noX
/-! ### mapped -/
def mapL (tb : Sch) (l : List Nat) : Option (List Nat) := (splitL tb l).map fun ps => ps.flatMap fun k => (look tb k).getD []
theorem sum_le {n : Nat} : ∀ {ws : List (List Nat)}, (∀ x ∈ ws, x.length ≤ n) → (ws.map (·.length)).sum ≤ ws.length * n
  | [], _ => by simp
  | a :: r, h => by
    have h1 := h a (by simp)
    have h2 := sum_le fun x hx => h x (List.mem_cons_of_mem _ hx)
    rw [List.map_cons, List.sum_cons, List.length_cons, Nat.succ_mul]
    omega
def spMapped : Sp := Fsp (fun i : IxT => [tabD i.tb, sD i.l]) (fun i => i.l.length ≤ 1000000 ∧ ∀ p ∈ i.tb, p.2.length ≤ 5) (fun i y => y = optS (mapL i.tb i.l)) noX
end Tr

set_option Elab.async false
set_option linter.all false
set_option maxRecDepth 100000
namespace Tr
open PySem PySem.Spec PyProof.Rows L2 TL
variable [PWc] {K : PySem.W.Frag} {mg : Str → Option Value} {base : Heap}
theorem longN_some {tb : Sch} {l : List Nat} {n : Nat} (hn : 1 ≤ n) (hk : (look tb (l.take n)).isSome = true) : ∀ {m : Nat}, n ≤ m → ∃ j, longN tb l m = some j
  | 0, h => by omega
  | m + 1, h => by
    unfold longN
    split
    · exact ⟨_, rfl⟩
    · rename_i hx
      have : n ≤ m := by
        rcases Nat.lt_or_ge m n with h' | h'
        · have e : n = m + 1 := by omega
          rw [e] at hk
          exact absurd hk hx
        · exact h'
      exact longN_some hn hk this
theorem longL_tot {tb : Sch} {c : Nat} {r : List Nat} (h : [c] ∈ tb.map (·.1)) : ∃ k, longL tb (c :: r) = some k := by
  have hk : (look tb ((c :: r).take 1)).isSome = true := by
    rw [look_isSome]
    exact decide_eq_true h
  obtain ⟨j, hj⟩ := longN_some (m := min 3 (c :: r).length) (Nat.le_refl 1) hk (by rw [List.length_cons]; omega)
  exact ⟨_, by unfold longL; rw [hj]; rfl⟩
theorem splitF_tot {tb : Sch} : ∀ {n : Nat} {l : List Nat}, l.length ≤ n → (∀ c ∈ l, [c] ∈ tb.map (·.1)) → ∃ ps, splitF tb n l = some ps
  | n, [], _, _ => ⟨[], by rw [splitF]⟩
  | 0, c :: r, h, _ => by simp at h
  | n + 1, c :: r, h, hm => by
    obtain ⟨k, hk⟩ := longL_tot (r := r) (hm c (by simp))
    obtain ⟨h1, _⟩ := longL_some hk
    rw [List.length_cons] at h
    obtain ⟨ps, hp⟩ := splitF_tot (n := n) (l := (c :: r).drop k.length) (by rw [List.length_drop, List.length_cons]; omega) fun x hx => hm x (List.mem_of_mem_drop hx)
    refine ⟨k :: ps, ?_⟩
    unfold splitF
    rw [hk]
    dsimp only
    rw [hp]
    rfl
theorem splitL_tot {tb : Sch} {l : List Nat} (h : ∀ c ∈ l, [c] ∈ tb.map (·.1)) : ∃ ps, splitL tb l = some ps := splitF_tot (Nat.le_refl _) h
/-- a word's text -/
def wr (sch : Sch) (l : List Nat) : List Nat := (mapL sch l).getD []
/-- a text's word, if any -/
def rd (sch : Sch) (l : List Nat) : Option (List Nat) := mapL (revT sch) l
theorem mapL_tot {tb : Sch} {l : List Nat} (h : ∀ c ∈ l, [c] ∈ tb.map (·.1)) : mapL tb l = some (wr tb l) := by
  obtain ⟨ps, e⟩ := splitL_tot h
  unfold wr mapL
  rw [e]
  rfl
theorem flatMap_len {n : Nat} {f : List Nat → List Nat} : ∀ {ps : List (List Nat)}, (∀ k ∈ ps, (f k).length ≤ n) → (ps.flatMap f).length ≤ ps.length * n
  | [], _ => by simp
  | a :: r, h => by
    rw [List.flatMap_cons, List.length_append, List.length_cons, Nat.succ_mul]
    have := h a (by simp)
    have := flatMap_len (ps := r) fun s hs => h s (by simp [hs])
    omega
theorem mapL_len {n : Nat} {tb : Sch} {l m : List Nat} (hb : ∀ p ∈ tb, p.2.length ≤ n) (h : mapL tb l = some m) : m.length ≤ l.length * n := by
  unfold mapL at h
  cases e : splitL tb l with
  | none =>
    rw [e] at h
    cases h
  | some ps =>
    rw [e] at h
    cases h
    obtain ⟨h1, h2, _⟩ := splitF_ok e
    refine Nat.le_trans (flatMap_len (n := n) fun k hk => ?_) (Nat.mul_le_mul_right n h2)
    have := (h1 k hk).1
    cases e2 : look tb k with
    | none =>
      rw [e2] at this
      cases this
    | some v => exact hb _ (look_some e2)
theorem wr_len {n : Nat} {tb : Sch} {l : List Nat} (hb : ∀ p ∈ tb, p.2.length ≤ n) : (wr tb l).length ≤ l.length * n := by
  unfold wr
  cases e : mapL tb l with
  | none => exact Nat.zero_le _
  | some m => exact mapL_len hb e
theorem mem_rput {acc : Sch} {p q : List Nat × List Nat} (h : q ∈ rput acc p) : q ∈ acc ∨ q = (p.2, p.1) := by
  unfold rput at h
  split at h
  · exact .inl h
  · rcases List.mem_append.mp h with h | h
    · exact .inl h
    · exact .inr (List.mem_singleton.mp h)
theorem mem_foldr {sch : Sch} : ∀ {acc : Sch} {q : List Nat × List Nat}, q ∈ sch.foldl rput acc → q ∈ acc ∨ (q.2, q.1) ∈ sch := by
  induction sch with
  | nil => exact fun h => .inl h
  | cons p r ih =>
    intro acc q h
    rcases ih h with h | h
    · rcases mem_rput h with h | h
      · exact .inl h
      · rw [h]
        exact .inr (by simp)
    · exact .inr (List.mem_cons_of_mem _ h)
theorem mem_revT {sch : Sch} {q : List Nat × List Nat} (h : q ∈ revT sch) : (q.2, q.1) ∈ sch := (mem_foldr h).resolve_left (by simp)
theorem Valid.t3 {sch : Sch} (h : Valid sch) : ∀ p ∈ sch, p.2.length ≤ 3 := fun p hp => (h.pt p hp).2.2.1
theorem Valid.r3 {sch : Sch} (h : Valid sch) : ∀ p ∈ revT sch, p.2.length ≤ 3 := fun p hp => (h.pt _ (mem_revT hp)).1.2.1
theorem isStr_ok {lo hi : Int} {al : List Nat} {d : PyData} (h : isStr lo hi al d = true) : d = sD (strOf d) ∧ ((strOf d).length : Int) ≤ hi ∧ lo ≤ ((strOf d).length : Int) ∧ ∀ c ∈ strOf d, c ∈ al := by
  cases d with
  | str x =>
    have h' : (decide (lo ≤ ((tl x).length : Int)) && decide (((tl x).length : Int) ≤ hi) && (tl x).all fun c => decide (c ∈ al)) = true := h
    simp only [Bool.and_eq_true, decide_eq_true_eq, List.all_eq_true] at h'
    exact ⟨rfl, h'.1.2, h'.1.1, h'.2⟩
  | _ => cases h
structure IxA where
  d : PyData
  wd : PyData
def wOk (i : IxA) : Bool := isStr 0 40 (lets (schOf i.d)) i.wd
abbrev preA (i : IxA) : Prop := OkD i.d ∧ OkD i.wd
def xxA (K : PySem.W.Frag) (i : IxA) (c : Addr) : Prop := (isSch i.d = false ∧ c = xS K) ∨ (isSch i.d = true ∧ wOk i = false ∧ c = xW K)
def spSegments (K : PySem.W.Frag) : Sp := Fsp (fun i : IxA => [i.d, i.wd]) preA (fun i y => isSch i.d = true ∧ wOk i = true ∧ y = optP (splitL (schOf i.d) (strOf i.wd))) (xxA K)
def spTransliterate (K : PySem.W.Frag) : Sp := Fsp (fun i : IxA => [i.d, i.wd]) preA (fun i y => isSch i.d = true ∧ wOk i = true ∧ y = sD (wr (schOf i.d) (strOf i.wd))) (xxA K)
abbrev xT (K : PySem.W.Frag) : Addr := He.ga K "InvalidText"
abbrev xU (K : PySem.W.Frag) : Addr := He.ga K "Unreadable"
def spReadBack (K : PySem.W.Frag) : Sp := Fsp (fun i : IxA => [i.d, i.wd]) preA (fun i y => isSch i.d = true ∧ isStr 0 40 LET i.wd = true ∧ ∃ m, rd (schOf i.d) (strOf i.wd) = some m ∧ y = sD m)
  (fun i c => (isSch i.d = false ∧ c = xS K) ∨ (isSch i.d = true ∧ isStr 0 40 LET i.wd = false ∧ c = xT K) ∨ (isSch i.d = true ∧ isStr 0 40 LET i.wd = true ∧ rd (schOf i.d) (strOf i.wd) = none ∧ c = xU K))
structure IxL where
  sch : Sch
  l : List Nat
theorem eqv_optS (o : Option (List Nat)) (l : List Nat) : PyData.eqv (optS o) (sD l) = decide (o = some l) := by
  cases o with
  | none => rfl
  | some m =>
    show PyData.eqv (sD m) (sD l) = _
    rw [eqv_str]
    exact decide_eq_decide.mpr ⟨fun h => by rw [h], fun h => Option.some.inj h⟩
theorem optS_plain (o : Option (List Nat)) : (optS o).plain = true := by cases o <;> rfl
def spReturns : Sp := Fsp (fun i : IxL => [schD i.sch, sD i.l]) (fun i => Valid i.sch ∧ i.l.length ≤ 100000 ∧ ∀ c ∈ i.l, c ∈ lets i.sch) (fun i y => y = .bool (decide (rd i.sch (wr i.sch i.l) = some i.l))) noX
def spSurvives (K : PySem.W.Frag) : Sp := Fsp (fun i : IxA => [i.d, i.wd]) preA (fun i y => isSch i.d = true ∧ wOk i = true ∧ y = .bool (decide (rd (schOf i.d) (wr (schOf i.d) (strOf i.wd)) = some (strOf i.wd)))) (xxA K)
end Tr

set_option Elab.async false
set_option linter.all false
set_option maxRecDepth 100000
namespace Tr
open PySem PySem.Spec PyProof.Rows L2 TL
variable [PWc] {K : PySem.W.Frag} {mg : Str → Option Value} {base : Heap}
theorem atI_nat {α : Type} {xs : List α} {k : Int} {n : α} (h0 : 0 ≤ k) (h : xs[k.toNat]? = some n) : atI xs k = some n := by
  have hl := (List.getElem?_eq_some_iff.mp h).1
  unfold atI
  have e : ixN xs.length k = some k.toNat := by
    unfold ixN
    rw [if_pos h0, if_pos (by omega)]
  rw [e]
  exact h
def spDraw (K : PySem.W.Frag) : Sp := Tsp K (fun m : Int => [.int m]) (fun m => 0 < m ∧ m < 1000000) (fun m y => ∃ r, (0 ≤ r ∧ r < m) ∧ y = .int r)
abbrev N_law_draw : List Str := ["script", "town", "many", "one", "at", "mixed"]
theorem sc_law_draw : FnScope N_law_draw ["script", "town", "many"] (defScope s_law_draw) := ⟨rfl, rfl, rfl, by decide +kernel, rfl, by decide +kernel, by decide +kernel⟩
theorem cl_draw {k : Nat} (d : Defn K mg "_law_draw" s_law_draw ["script", "town", "many"]) (B : Bt K mg) : Cl P w K mg base (k + 1) "_law_draw" (spDraw K) := by
  refine cl_tn d sc_law_draw (fun i => rfl) fun f cdv A outer s H E hr => ?_
  refine ⟨_, (PSs.nox (pss_cons (ps_if (pt_cmpR op_gt (k_ix K hr (pv 1) pe_int (fun _ _ => rfl)) pe_int (nomark _)) (pss_cons (ps_set (i := 3) sc_law_draw.nd rfl (Or.inl rfl) (pe_op op_mod (k_ix K hr (pv 1) pe_int (fun _ _ => rfl)) (pv 2))) (pss_cons (ps_asg (pe_op op_fdiv (k_ix K hr (pv 1) pe_int (fun _ _ => rfl)) (pv 2)) (pg_sub (pv 1) pe_int set_list)) (pss_one (ps_ret (pv 3))))) pss_nil) (pss_cons (ps_set (i := 4) sc_law_draw.nd rfl (Or.inl rfl) (k_ix K hr (pv 1) pe_int (fun _ _ => rfl))) (pss_cons (ps_augS (pv 1) pe_int get_list pe_int ip_addU set_list) (pss_cons (ps_if (kt_eq K hr (pv 0) (pe_lst pa_nil)) (pss_one (ps_ret (pe_op op_mod (pv 4) (pv 2)))) pss_nil) (pss_cons (ps_if (PW.pt (pw_and (pt_cmpR op_lt (pv 4) (k_len K (by rfl) B.len (pa_cons (pv 0) pa_nil)) (nomark _)) (pw_and1 (pt_cmpR op_ge (k_ix K hr (pv 0) (pv 4) (fun _ _ => rfl)) (pe_op op_pow pe_int pe_int) (nomark _))))) (pss_cons (ps_asg (pe_op op_mod (pe_op op_fdiv (k_ix K hr (pv 0) (pv 4) (fun _ _ => rfl)) (pv 2)) (pe_op op_mulW (pe_op op_pow pe_int pe_int) (pe_op op_pow pe_int pe_int))) (pg_sub (pv 1) pe_int set_list)) (pss_one (ps_ret (pe_op op_mod (k_ix K hr (pv 0) (pv 4) (fun _ _ => rfl)) (pv 2))))) pss_nil) (pss_cons (ps_set (i := 5) sc_law_draw.nd rfl (Or.inl rfl) (pe_op op_mod (k_add K (k_add K (pe_op op_mul (k_ix K hr (pv 0) (pe_op op_mod (pv 4) (k_len K (by rfl) B.len (pa_cons (pv 0) pa_nil))) (fun _ _ => rfl)) pe_int) (pe_op op_mul pe_int (pv 4))) pe_int) pe_int)) (pss_one (ps_ret (pe_op op_mod (pe_op op_mod (pe_op op_mod (pe_op op_pow (pv 5) pe_int) pe_int) pe_int) (pv 2))))))))))), ?_⟩
  rintro m T ns ⟨hm, hm2⟩
  have cd : ∀ n : Int, CDiv n m := fun n => ⟨hm, by omega⟩
  have md : ∀ n : Int, 0 ≤ n % m ∧ n % m < m := fun n => ⟨Int.emod_nonneg _ (by omega), Int.emod_lt_of_pos _ hm⟩
  refine sm_seq (sm_if (B := fun _ => True) (eti_cmp (A := fun _ => True) (B := fun _ => True) (evi_town1 rfl) (evi_int trivial) fun _ _ _ _ => trivial) (fun _ => ?_) fun _ => sm_next (sm_go ?_))
  · refine sm_seq (sm_asgP (R := fun d => ∃ r, (0 ≤ r ∧ r < m) ∧ d = .int r) (evi_rI (B := fun j => j = m) (evi_town1 rfl) (evi_var rfl rfl) fun i j _ e => by subst e; exact ⟨hm, md i⟩) fun x hx => sm_go ?_)
    obtain ⟨r, hr, rfl⟩ := hx
    exact sm_seq (sm_town1 (A := fun _ => True) rfl (evi_rI (B := fun j => j = m) (evi_town1 rfl) (evi_var rfl rfl) fun i j _ e => by subst e; exact ⟨cd i, trivial⟩) (sm_go (sm_ret (ev_var rfl) ⟨r, hr, rfl⟩)))
  · refine sm_seq (sm_asgP (evi_town0 rfl) fun x hx => sm_go ?_)
    obtain ⟨a, ha, rfl⟩ := hx
    refine sm_seq (sm_town0 rfl (sm_go ?_))
    refine sm_seq (sm_ifb (et_scrNil rfl) (fun h => sm_ret (ev_I (ev_var rfl) (ev_var rfl) hm) ⟨_, md a, rfl⟩) fun h => sm_next (sm_go ?_))
    have hne : 0 < ns.length := by
      cases ns with
      | nil => exact absurd h (by decide)
      | cons _ _ => simp
    have hpw : CPow 10 18 := ⟨by decide, by decide, by decide⟩
    have hmw : CMulW ((10 : Int) ^ (60 : Int).toNat) ((10 : Int) ^ (60 : Int).toNat) := by
      unfold CMulW
      decide +kernel
    have hpw2 : CPow 10 60 := ⟨by decide, by decide, by decide⟩
    have lt1 : ∀ {k : Int}, 0 ≤ k → k < ns.length → ∃ n, atI ns k = some n := fun {k} h0 h1 => ⟨ns[k.toNat]'(by omega), atI_nat h0 (List.getElem?_eq_getElem _)⟩
    have hn : a < (ns.length : Int) → atI ns a = some (ns.getD a.toNat 0) := fun hlt => atI_nat ha (by rw [List.getD_eq_getElem?_getD, List.getElem?_eq_getElem (by omega)]; rfl)
    refine sm_seq (sm_ifb (et_and (et_t (ev_cmpI (ev_var rfl) (ev_scrLen rfl))) fun hb => et_t (ev_cmpI (ev_scrIx rfl (ev_var rfl) (hn (of_decide_eq_true hb))) (ev_I ev_int ev_int hpw))) (fun hb => ?_) fun _ => sm_next (sm_go ?_))
    · have hn' := hn (of_decide_eq_true (Bool.and_eq_true _ _ ▸ hb).1)
      exact sm_seq (sm_town1 (A := fun _ => True) rfl (evi_d (ev_I (ev_I (ev_scrIx rfl (ev_var rfl) hn') (ev_var rfl) (cd _)) (ev_I (ev_I ev_int ev_int hpw2) (ev_I ev_int ev_int hpw2) hmw) (by decide +kernel)) trivial) (sm_go (sm_ret (ev_I (ev_scrIx rfl (ev_var rfl) hn') (ev_var rfl) hm) ⟨_, md _, rfl⟩)))
    · have ht : 0 ≤ a % (ns.length : Int) ∧ a % (ns.length : Int) < ns.length := ⟨Int.emod_nonneg _ (by omega), Int.emod_lt_of_pos _ (by omega)⟩
      obtain ⟨n, hn2⟩ := lt1 ht.1 ht.2
      have cm : ∀ n : Int, CMul n 1103515245 := fun n => .inr ⟨by decide, by decide⟩
      have cm2 : ∀ n : Int, CMul 7919 n := fun n => .inl ⟨by decide, by decide⟩
      refine sm_seq (sm_asg (ev_I (ev_addI (ev_addI (ev_I (ev_scrIx rfl (ev_I (ev_var rfl) (ev_scrLen rfl) (show (0 : Int) < (ns.length : Nat) by omega)) hn2) ev_int (cm n)) (ev_I ev_int (ev_var rfl) (cm2 a))) ev_int) ev_int (by decide)) (sm_go ?_))
      have hx : ∀ z : Int, CPow (z % 2147483647) 5 := fun z => ⟨by decide, by decide, by
        have h1 := Int.emod_nonneg z (b := 2147483647) (by decide)
        have h2 := Int.emod_lt_of_pos z (b := 2147483647) (by decide)
        omega⟩
      exact sm_ret (ev_I (ev_I (ev_I (ev_I (ev_var rfl) ev_int (hx _)) ev_int (by decide)) ev_int (by decide)) (ev_var rfl) hm) ⟨_, md _, rfl⟩
end Tr

set_option Elab.async false
set_option linter.all false
set_option maxRecDepth 100000
namespace Tr
open PySem PySem.Spec PyProof.Rows L2 TL
variable [PWc] {K : PySem.W.Frag} {mg : Str → Option Value} {base : Heap}
def spPick (K : PySem.W.Frag) : Sp := Tsp K (fun a : PyData => [a]) (fun a => SeqD a ∧ 0 < (elemsOf a).length ∧ (elemsOf a).length < 1000000) (fun a y => y ∈ elemsOf a)
abbrev N_law_pick : List Str := ["script", "town", "some"]
theorem sc_law_pick : FnScope N_law_pick ["script", "town", "some"] (defScope s_law_pick) := ⟨rfl, rfl, rfl, by decide +kernel, rfl, by decide +kernel, by decide +kernel⟩
theorem cl_pick (d : Defn K mg "_law_pick" s_law_pick ["script", "town", "some"]) (B : Bt K mg) (c_law_draw : Cl P w K mg base 1 "_law_draw" (spDraw K)) : Cl P w K mg base 2 "_law_pick" (spPick K) := by
  refine cl_tn d sc_law_pick (fun i => rfl) fun f cdv A outer s H E hr => ?_
  refine ⟨_, (PSs.nox (pss_one (ps_ret (k_ix K hr (pv 2) (pe_f c_law_draw hr (by decide) (by rfl) (pa_cons (pv 0) (pa_cons (pv 1) (pa_cons (k_len K (by rfl) B.len (pa_cons (pv 2) pa_nil)) pa_nil)))) (fun _ _ => rfl))))), ?_⟩
  rintro a T ns ⟨hq, h0, hl⟩
  refine sm_retP (evp_op (P := fun x => x = a) ((ev_var rfl).p rfl) (evp_callT1 (R := fun d => ∃ n, (0 ≤ n ∧ n < ((elemsOf a).length : Int)) ∧ d = .int n) (((elemsOf a).length : Nat) : Int) rfl rfl (ea_c (ev_lenA hq (ev_var rfl)) ea_nil) ⟨by omega, by omega⟩ fun y h => h) fun x y ex ⟨n, hn, ey⟩ => by
    subst ex ey
    exact rvp_ix hq hn.1 hn.2) fun x hx => hx
structure IxS where
  al : List Nat
  lo : Nat
  hi : Nat
/-- a word over al, lo to hi long -/
def Wd (al : List Nat) (lo hi : Nat) (l : List Nat) : Prop := lo ≤ l.length ∧ l.length ≤ hi ∧ ∀ c ∈ l, c ∈ al
def spString (K : PySem.W.Frag) : Sp := Tsp K (fun i : IxS => [sD i.al, .int (i.lo : Nat), .int (i.hi : Nat)]) (fun i => 0 < i.al.length ∧ i.al.length ≤ 1000 ∧ i.lo ≤ i.hi ∧ i.hi ≤ 1000) (fun i y => ∃ l, y = sD l ∧ Wd i.al i.lo i.hi l)
abbrev N_law_string : List Str := ["script", "town", "letters", "least", "most", "k"]
theorem sc_law_string : FnScope N_law_string ["script", "town", "letters", "least", "most"] (defScope s_law_string) := ⟨rfl, rfl, rfl, by decide +kernel, rfl, by decide +kernel, by decide +kernel⟩
theorem ones_of {al : List Nat} : ∀ {ys : List PyData}, (∀ y ∈ ys, y ∈ al.map fun c => sD [c]) → ∃ l : List Nat, ys = (l.map fun c => [c]).map sD ∧ l.length = ys.length ∧ ∀ c ∈ l, c ∈ al
  | [], _ => ⟨[], rfl, rfl, fun c h => (nomatch h)⟩
  | y :: ys, h => by
    obtain ⟨l, h1, h2, h3⟩ := ones_of (ys := ys) fun z hz => h z (List.mem_cons_of_mem _ hz)
    obtain ⟨c, hc, rfl⟩ := List.mem_map.mp (h y (by simp))
    refine ⟨c :: l, by rw [h1]; rfl, by rw [List.length_cons, List.length_cons, h2], fun e he => ?_⟩
    rcases List.mem_cons.mp he with rfl | he
    · exact hc
    · exact h3 e he
theorem flat_ones (l : List Nat) : (l.map fun c => [c]).flatten = l := by
  induction l with
  | nil => rfl
  | cons a r ih => rw [List.map_cons, List.flatten_cons, ih]; rfl
theorem cl_string (d : Defn K mg "_law_string" s_law_string ["script", "town", "letters", "least", "most"]) (B : Bt K mg) (c_law_draw : Cl P w K mg base 1 "_law_draw" (spDraw K)) (c_law_pick : Cl P w K mg base 2 "_law_pick" (spPick K)) : Cl P w K mg base 3 "_law_string" (spString K) := by
  refine cl_tn d sc_law_string (fun i => rfl) fun f cdv A outer s H E hr => ?_
  refine ⟨_, (PSs.nox (pss_one (ps_ret (k_join K pe_str (pe_lc (own := [("k", 5)]) rfl sc_law_string.nd (pi_range1 (by rfl) B.range (pa_cons (k_add K (pv 3) (pe_f c_law_draw hr (by decide) (by rfl) (pa_cons (pv 0) (pa_cons (pv 1) (pa_cons (k_add K (pe_op op_sub (pv 4) (pv 3)) pe_int) pa_nil))))) pa_nil)) (blkOk_by (N := N_law_string) (sc := defScope s_law_string) (by decide +kernel)) (fun _ _ _ _ _ => (pg_name (i := 5) sc_law_string.nd rfl (Or.inl rfl))) (fun _ _ _ _ _ => pts_nil) (fun _ _ _ _ _ => (pe_f c_law_pick hr (by decide) (by rfl) (pa_cons (pv 0) (pa_cons (pv 1) (pa_cons (pv 2) pa_nil)))))))))), ?_⟩
  rintro ⟨al, lo, hi⟩ T ns ⟨h1, h2, h3, h4⟩
  dsimp only at h1 h2 h3 h4
  have he : elemsOf (sD al) = al.map fun c => sD [c] := rfl
  refine sm_retP (evp_join (sep := []) (A := fun ws => ∃ l, ws = l.map (fun c => [c]) ∧ Wd al lo hi l) (ev_s rfl) ((EvO.p (eo_lcP (P := fun y => y ∈ al.map fun c => sD [c]) (S := fun xs => ∃ j : Int, ((lo : Int) ≤ j ∧ j ≤ hi) ∧ xs = (List.range j.toNat).map fun (i : Nat) => PyData.int ((0 : Int) + (i : Int))) (r := fun a => _) (wk_range1 ?_ fun j hj => by omega) ?_ (fun xs _ a _ => tw_name (by simp)) fun xs _ a _ => ?_)).mono ?_) ?_) ?_
  · refine (ea_cons (evi_add (A := fun i => i = (lo : Int)) (B := fun j => 0 ≤ j ∧ j < (hi : Int) - lo + 1) (R := fun j => (lo : Int) ≤ j ∧ j ≤ hi) (evi_var rfl rfl) (evp_callT1 ((hi : Int) - lo + 1) rfl rfl (ea_c (ev_addI (ev_subI (ev_var rfl) (ev_var rfl)) ev_int) ea_nil) ⟨by omega, by omega⟩ fun y h => h) fun i j e hj => by omega) ea_nil).mono ?_
    rintro zs ⟨x, xs, rfl, ⟨j, hj, rfl⟩, rfl⟩
    exact ⟨j, rfl, hj⟩
  · rintro xs ⟨j, hj, rfl⟩
    rw [List.length_map, List.length_range]
    exact size_lt (by omega)
  · exact evp_callT1 (sD al) rfl rfl (ea_c (ev_var rfl) ea_nil) ⟨.inl ⟨al, rfl, by omega⟩, by rw [he, List.length_map]; omega, by rw [he, List.length_map]; omega⟩ fun y h => h
  · rintro d ⟨ys, rfl, hy, xs, ⟨j, hj, rfl⟩, hl⟩
    obtain ⟨l, e1, e2, e3⟩ := ones_of hy
    rw [List.length_map, List.length_range] at hl
    exact ⟨l.map fun c => [c], by rw [e1], l, rfl, by omega, by omega, e3⟩
  · rintro ws ⟨l, rfl, hl⟩
    have hs : ((l.map fun c => [c]).map (·.length)).sum ≤ (l.map fun c => [c]).length * 1 := sum_le fun x hx => by
      obtain ⟨c, _, rfl⟩ := List.mem_map.mp hx
      exact Nat.le_refl _
    have := hl.2.1
    rw [List.length_map] at hs ⊢
    simp only [List.length_nil, Nat.mul_zero, Nat.add_zero]
    omega
  · rintro x ⟨ws, rfl, l, rfl, hl⟩
    exact ⟨l, by rw [joinL_nil, flat_ones], hl⟩
end Tr

set_option Elab.async false
set_option linter.all false
set_option maxRecDepth 100000
namespace Tr
open PySem PySem.Spec PyProof.Rows L2 TL
variable [PWc] {K : PySem.W.Frag} {mg : Str → Option Value} {base : Heap}
/-! ### a scheme by chance -/
structure IxC where
  al : List Nat
  tg : List Nat
  more : Nat
/-- a table in the making: what _law_scheme holds after n more -/
structure Mk (al tg : List Nat) (n : Nat) (tb : Sch) : Prop where
  nd : (tb.map (·.1)).Nodup
  len : tb.length ≤ n
  src : ∀ p ∈ tb, Wd al 1 3 p.1
  tgt : ∀ p ∈ tb, Wd tg 1 3 p.2
  all : ∀ c ∈ al, [c] ∈ tb.map (·.1)
/-- a scheme that the laws draw -/
structure Drawn (al tg : List Nat) (n : Nat) (sch : Sch) : Prop where
  tb : Mk al tg n sch
  st : srt (sch.map (·.1)) = true
theorem wd_part {al l : List Nat} (h : Wd al 1 3 l) (hs : ∀ c ∈ al, c ∈ LET) : Part l := ⟨h.1, h.2.1, fun c hc => hs c (h.2.2 c hc)⟩
theorem Drawn.valid {al tg : List Nat} {n : Nat} {sch : Sch} (h : Drawn al tg n sch) (h1 : ∀ c ∈ al, c ∈ LET) (h2 : ∀ c ∈ tg, c ∈ LET) (h0 : 0 < al.length) (hn : n ≤ 10) : Valid sch := by
  refine ⟨?_, Nat.le_trans h.tb.len hn, fun p hp => ⟨wd_part (h.tb.src p hp) h1, wd_part (h.tb.tgt p hp) h2⟩, h.st, ?_⟩
  · cases al with
    | nil => simp at h0
    | cons c r =>
      obtain ⟨p, hp, _⟩ := List.mem_map.mp (h.tb.all c (by simp))
      exact List.length_pos_of_mem hp
  · unfold clo
    rw [List.all_eq_true]
    intro b hb
    obtain ⟨s, hs, hb⟩ := List.mem_flatMap.mp hb
    obtain ⟨c, hc, rfl⟩ := List.mem_map.mp hb
    obtain ⟨p, hp, rfl⟩ := List.mem_map.mp hs
    exact decide_eq_true (h.tb.all c ((h.tb.src p hp).2.2 c hc))
def tput (tb : Sch) (k v : List Nat) : Sch := if k ∈ tb.map (·.1) then tb.map (fun p => if p.1 = k then (p.1, v) else p) else tb ++ [(k, v)]
theorem any_keys (tb : Sch) (k : List Nat) : ((tb.map tk).any fun p => decide (p.1 = Sum.inr (S k))) = decide (k ∈ tb.map (·.1)) := by
  rw [atK_any, atK_tab, Option.isSome_map, look_isSome]
theorem putD_tab (tb : Sch) (k v : List Nat) : putD (tb.map tk) (Sum.inr (S k)) (sD v) = (tput tb k v).map tk := by
  unfold putD tput
  rw [any_keys]
  by_cases h : k ∈ tb.map (·.1)
  · rw [if_pos (decide_eq_true h), if_pos h, List.map_map, List.map_map]
    refine List.map_congr_left fun p _ => ?_
    show (if (tk p).1 = Sum.inr (S k) then ((tk p).1, sD v) else tk p) = tk (if p.1 = k then (p.1, v) else p)
    by_cases hp : p.1 = k
    · rw [if_pos hp, if_pos (by rw [← hp]; rfl)]
      rfl
    · have hx : ¬ (tk p).1 = Sum.inr (S k) := fun e => hp (S_inj (Sum.inr.inj e))
      rw [if_neg hp, if_neg hx]
  · rw [if_neg (by rw [decide_eq_false h]; simp), if_neg h, List.map_append]
    rfl
theorem tput_keys {tb : Sch} {k v : List Nat} (h : k ∈ tb.map (·.1)) : (tput tb k v).map (·.1) = tb.map (·.1) := by
  unfold tput
  rw [if_pos h, List.map_map]
  refine List.map_congr_left fun p _ => ?_
  show (if p.1 = k then (p.1, v) else p).1 = p.1
  split <;> rfl
theorem mem_tput {tb : Sch} {k v : List Nat} {q : List Nat × List Nat} (h : q ∈ tput tb k v) : q ∈ tb ∨ q = (k, v) := by
  unfold tput at h
  split at h
  · obtain ⟨p, hp, e⟩ := List.mem_map.mp h
    by_cases hk : p.1 = k
    · rw [if_pos hk] at e
      exact .inr (by rw [← e, hk])
    · rw [if_neg hk] at e
      exact .inl (e ▸ hp)
  · rcases List.mem_append.mp h with h | h
    · exact .inl h
    · exact .inr (List.mem_singleton.mp h)
theorem Mk.put {al tg : List Nat} {n : Nat} {tb : Sch} {k v : List Nat} (h : Mk al tg n tb) (hk : Wd al 1 3 k) (hv : Wd tg 1 3 v) : Mk al tg (n + 1) (tput tb k v) := by
  have hs : ∀ p ∈ tput tb k v, Wd al 1 3 p.1 := fun p hp => by
    rcases mem_tput hp with hp | hp
    · exact h.src p hp
    · rw [hp]
      exact hk
  have ht : ∀ p ∈ tput tb k v, Wd tg 1 3 p.2 := fun p hp => by
    rcases mem_tput hp with hp | hp
    · exact h.tgt p hp
    · rw [hp]
      exact hv
  by_cases hm : k ∈ tb.map (·.1)
  · refine ⟨?_, ?_, hs, ht, ?_⟩
    · rw [tput_keys hm]
      exact h.nd
    · have : (tput tb k v).length = tb.length := by
        have := congrArg List.length (tput_keys (v := v) hm)
        rwa [List.length_map, List.length_map] at this
      rw [this]
      have := h.len
      omega
    · rw [tput_keys hm]
      exact h.all
  · have e : tput tb k v = tb ++ [(k, v)] := by
      unfold tput
      rw [if_neg hm]
    rw [e] at hs ht ⊢
    refine ⟨?_, ?_, hs, ht, fun c hc => ?_⟩
    · rw [List.map_append, List.nodup_append]
      refine ⟨h.nd, by simp, fun a ha b hb => ?_⟩
      rw [List.map_singleton, List.mem_singleton] at hb
      intro e2
      apply hm
      rw [← show b = k from hb, ← e2]
      exact ha
    · rw [List.length_append, List.length_singleton]
      have := h.len
      omega
    · rw [List.map_append]
      exact List.mem_append_left _ (h.all c hc)
theorem rising_lt : ∀ {zs : List (List Nat)} {a : List Nat}, risingS (S a) (zs.map S) = true → (a :: zs).Nodup → srt (a :: zs) = true
  | [], _, _, _ => rfl
  | b :: r, a, h, hn => by
    have h' : (!ltCps b a && risingS (S b) (r.map S)) = true := h
    rw [Bool.and_eq_true] at h'
    have hlt : ¬ b < a := by
      have := h'.1
      rw [ltCps_eq] at this
      simpa using this
    have hne : a ≠ b := by
      intro e
      subst e
      simp at hn
    have hab : a < b := by
      have hle : a ≤ b := List.not_lt.mp hlt
      rcases List.le_iff_lt_or_eq.mp hle with h | h
      · exact h
      · exact absurd h hne
    show (decide (a < b) && srt (b :: r)) = true
    rw [decide_eq_true hab, rising_lt h'.2 (List.nodup_cons.mp hn).2]
    rfl
theorem sorted_lt : ∀ {zs : List (List Nat)}, sortedS (zs.map S) = true → zs.Nodup → srt zs = true
  | [], _, _ => rfl
  | a :: r, h, hn => rising_lt h hn
/-- the table in the order of its keys -/
theorem look_mem {tb : Sch} (hn : (tb.map (·.1)).Nodup) {p : List Nat × List Nat} (hp : p ∈ tb) : look tb p.1 = some p.2 := by
  unfold look
  induction tb with
  | nil => cases hp
  | cons q r ih =>
    rw [List.map_cons, List.nodup_cons] at hn
    rw [List.find?_cons]
    rcases List.mem_cons.mp hp with rfl | hp
    · rw [decide_eq_true rfl]
      rfl
    · have : ¬ q.1 = p.1 := fun e => hn.1 (by rw [e]; exact List.mem_map.mpr ⟨p, hp, rfl⟩)
      rw [decide_eq_false this]
      exact ih hn.2 hp
def ordT (tb : Sch) (zs : List (List Nat)) : Sch := zs.map fun k => (k, (look tb k).getD [])
theorem Mk.ord {al tg : List Nat} {n : Nat} {tb : Sch} {zs : List (List Nat)} (h : Mk al tg n tb) (hp : zs.Perm (tb.map (·.1))) (hs : sortedS (zs.map S) = true) : Drawn al tg n (ordT tb zs) := by
  have hk : (ordT tb zs).map (·.1) = zs := by
    unfold ordT
    rw [List.map_map]
    exact List.map_id _
  have hm : ∀ q ∈ ordT tb zs, q ∈ tb := fun q hq => by
    obtain ⟨k, hk, rfl⟩ := List.mem_map.mp hq
    obtain ⟨p, hp2, rfl⟩ := List.mem_map.mp (hp.mem_iff.mp hk)
    rw [look_mem h.nd hp2]
    exact hp2
  have hnd : zs.Nodup := hp.nodup_iff.mpr h.nd
  refine ⟨⟨by rw [hk]; exact hnd, ?_, fun q hq => h.src q (hm q hq), fun q hq => h.tgt q (hm q hq), fun c hc => ?_⟩, by rw [hk]; exact sorted_lt hs hnd⟩
  · unfold ordT
    rw [List.length_map, hp.length_eq, List.length_map]
    exact h.len
  · rw [hk]
    exact hp.mem_iff.mpr (h.all c hc)
def spLScheme (K : PySem.W.Frag) : Sp := Tsp K (fun i : IxC => [sD i.al, sD i.tg, .int (i.more : Nat)]) (fun i => i.al.Nodup ∧ 0 < i.al.length ∧ i.al.length ≤ 30 ∧ 0 < i.tg.length ∧ i.tg.length ≤ 1000 ∧ i.more ≤ 30) (fun i y => ∃ sch, y = schD sch ∧ Drawn i.al i.tg (i.al.length + i.more) sch)
abbrev N_law_scheme : List Str := ["script", "town", "letters", "targets", "more", "pairs", "one", "k"]
theorem sc_law_scheme : FnScope N_law_scheme ["script", "town", "letters", "targets", "more"] (defScope s_law_scheme) := ⟨rfl, rfl, rfl, by decide +kernel, rfl, by decide +kernel, by decide +kernel⟩
theorem pairs_of {tg : List Nat} : ∀ {al : List Nat} {ys : List PyData}, Paired (fun c y => ∃ t, y = PyData.tuple [sD [c], sD t] ∧ Wd tg 1 3 t) al ys → ∃ tb : Sch, ys = (tb.map tk).map pairD ∧ tb.map (·.1) = al.map (fun c => [c]) ∧ ∀ p ∈ tb, Wd tg 1 3 p.2
  | _, _, .nil => ⟨[], rfl, rfl, fun p h => (nomatch h)⟩
  | _, _, .cons h t => by
    obtain ⟨tb, h1, h2, h3⟩ := pairs_of t
    obtain ⟨v, rfl, hv⟩ := h
    refine ⟨(_, v) :: tb, by rw [h1]; rfl, by rw [List.map_cons, List.map_cons, h2], fun p hp => ?_⟩
    rcases List.mem_cons.mp hp with rfl | hp
    · exact hv
    · exact h3 p hp
theorem ones_nd {al : List Nat} (h : al.Nodup) : (al.map fun c => [c]).Nodup := List.Pairwise.map _ (fun a b hne e => hne (List.cons.inj e).1) h
theorem first_mk {al tg : List Nat} {tb : Sch} (h : al.Nodup) (h1 : tb.map (·.1) = al.map fun c => [c]) (h2 : ∀ p ∈ tb, Wd tg 1 3 p.2) : Mk al tg al.length tb := by
  refine ⟨by rw [h1]; exact ones_nd h, ?_, fun p hp => ?_, h2, fun c hc => ?_⟩
  · have := congrArg List.length h1
    rw [List.length_map, List.length_map] at this
    rw [this]
    exact Nat.le_refl _
  · have : p.1 ∈ al.map fun c => [c] := by
      rw [← h1]
      exact List.mem_map.mpr ⟨p, hp, rfl⟩
    obtain ⟨c, hc, e⟩ := List.mem_map.mp this
    rw [← e]
    exact ⟨Nat.le_refl _, by simp, fun x hx => by rw [List.mem_singleton.mp hx]; exact hc⟩
  · rw [h1]
    exact List.mem_map.mpr ⟨c, hc, rfl⟩
theorem cl_lscheme (d : Defn K mg "_law_scheme" s_law_scheme ["script", "town", "letters", "targets", "more"]) (B : Bt K mg) (c_law_draw : Cl P w K mg base 1 "_law_draw" (spDraw K)) (c_law_string : Cl P w K mg base 3 "_law_string" (spString K)) : Cl P w K mg base 4 "_law_scheme" (spLScheme K) := by
  refine cl_tn d sc_law_scheme (fun i => rfl) fun f cdv A outer s H E hr => ?_
  refine ⟨_, (PSs.nox (pss_cons (ps_set (i := 5) sc_law_scheme.nd rfl (Or.inr rfl) (k_dict K rfl (by rfl) B.dict (pa_cons (pe_lc (own := [("one", 6)]) rfl sc_law_scheme.nd (k_i K (pv 2)) (blkOk_by (N := N_law_scheme) (sc := defScope s_law_scheme) (by decide +kernel)) (fun _ _ _ _ _ => (pg_name (i := 6) sc_law_scheme.nd rfl (Or.inl rfl))) (fun _ _ _ _ _ => pts_nil) (fun _ _ _ _ _ => (pe_tupF (pa_cons (pv 6) (pa_cons (pe_f c_law_string hr (by decide) (by rfl) (pa_cons (pv 0) (pa_cons (pv 1) (pa_cons (pv 3) (pa_cons pe_int (pa_cons pe_int pa_nil)))))) pa_nil))))) pa_nil))) (pss_cons (ps_for PassesOwn.never rfl (pi_range1 (by rfl) B.range (pa_cons (pe_f c_law_draw hr (by decide) (by rfl) (pa_cons (pv 0) (pa_cons (pv 1) (pa_cons (k_add K (pv 4) pe_int) pa_nil)))) pa_nil)) (pg_name (i := 7) sc_law_scheme.nd rfl (Or.inl rfl)) (pss_one (ps_dput (hu_of hr) (pv 5) (pe_f c_law_string hr (by decide) (by rfl) (pa_cons (pv 0) (pa_cons (pv 1) (pa_cons (pv 2) (pa_cons pe_int (pa_cons pe_int pa_nil)))))) (pe_f c_law_string hr (by decide) (by rfl) (pa_cons (pv 0) (pa_cons (pv 1) (pa_cons (pv 3) (pa_cons pe_int (pa_cons pe_int pa_nil)))))) rfl))) (pss_one (ps_ret (k_tupOf K (by rfl) B.tuple (pa_cons (pe_lc (own := [("one", 6)]) rfl sc_law_scheme.nd (k_i K (k_sortD rfl (by rfl) B.sorted (pa_cons (pv 5) pa_nil))) (blkOk_by (N := N_law_scheme) (sc := defScope s_law_scheme) (by decide +kernel)) (fun _ _ _ _ _ => (pg_name (i := 6) sc_law_scheme.nd rfl (Or.inl rfl))) (fun _ _ _ _ _ => pts_nil) (fun _ _ _ _ _ => (pe_tupF (pa_cons (pv 6) (pa_cons (k_ix K hr (pv 5) (pv 6) (fun _ _ => rfl)) pa_nil))))) pa_nil))))))), ?_⟩
  rintro ⟨al, tg, more⟩ T ns ⟨hnd, h1, h2, h3, h4, h5⟩
  dsimp only at hnd h1 h2 h3 h4 h5
  refine sm_seq (sm_asgN (en_dictL (P := fun ds => ∃ tb, ds = tb.map tk ∧ Mk al tg al.length tb) ((EvO.p (eo_lcR (h := fun c => sD [c]) (as := al) (r := fun a => _) (R := fun c y => ∃ t, y = PyData.tuple [sD [c], sD t] ∧ Wd tg 1 3 t) (wk_S (ev_var rfl)) (size_lt (by omega)) (fun c _ => tw_name (by simp)) fun c hc => ?_)).mono ?_)) fun xs hx => sm_go ?_)
  · refine (evp_tup (ea_cons ((ev_var rfl).p (P := fun d => d = sD [c]) rfl) (ea_cons (evp_callT1 (R := fun y => ∃ l, y = sD l ∧ Wd tg 1 3 l) (⟨tg, 1, 3⟩ : IxS) rfl rfl (ea_c (ev_var rfl) (ea_c ev_int (ea_c ev_int ea_nil))) ⟨h3, h4, by dsimp only; omega, by dsimp only; omega⟩ fun y h => h) ea_nil)) ?_).mono ?_
    · rintro xs ⟨x, ys, rfl, _, y, zs, rfl, _, rfl⟩
      exact size_ok (by simp)
    · rintro d ⟨xs, rfl, x, ys, rfl, rfl, y, zs, rfl, ⟨l, rfl, hl⟩, rfl⟩
      exact ⟨l, rfl, hl⟩
  · rintro d ⟨ys, rfl, hy⟩
    obtain ⟨tb, e1, e2, e3⟩ := pairs_of hy
    exact ⟨tb.map tk, by rw [e1], tb, rfl, first_mk hnd e2 e3⟩
  · obtain ⟨ds, rfl, tb, rfl, hm⟩ := hx
    rw [mergeD_nd hm.nd]
    refine sm_seq (sm_for (R := fun ys => ∃ j : Int, (0 ≤ j ∧ j ≤ more) ∧ ys = (List.range j.toNat).map fun (i : Nat) => PyData.int ((0 : Int) + (i : Int))) (wk_range1 ?_ fun j hj => by omega) ?_)
    · refine (ea_cons (evp_callT1 (R := fun d => ∃ j : Int, (0 ≤ j ∧ j < (more : Int) + 1) ∧ d = .int j) ((more : Int) + 1) rfl rfl (ea_c (ev_addI (ev_var rfl) ev_int) ea_nil) ⟨by omega, by omega⟩ fun y h => h) ea_nil).mono ?_
      rintro zs ⟨x, xs, rfl, ⟨j, hj, rfl⟩, rfl⟩
      exact ⟨j, rfl, by omega⟩
    · rintro xs ⟨j, hj, rfl⟩
      refine ⟨fun i r => i ≤ j.toNat ∧ ∃ tb s7, Mk al tg (al.length + i) tb ∧ s7.own = false ∧ r = [.pr (scrP K ns), .tw, .d (sD al), .d (sD tg), .d (.int (more : Nat)), .od (tb.map tk), .un, s7], ⟨Nat.zero_le _, tb, .un, hm, rfl, rfl⟩, ?_, ?_⟩
      · rintro i x r hx ⟨hi, tb, s7, hm, o7, rfl⟩
        have hi2 : i < j.toNat := by
          have := (List.getElem?_eq_some_iff.mp hx).1
          rwa [List.length_map, List.length_range] at this
        refine ⟨_, tg_name, ?_⟩
        refine sm_dputP (A := fun y => ∃ l, y = sD l ∧ Wd tg 1 3 l) (B := fun k => ∃ l, k = Sum.inr (S l) ∧ Wd al 2 3 l) (i := 5) rfl (evp_callT1 (⟨tg, 1, 3⟩ : IxS) rfl rfl (ea_c (ev_var rfl) (ea_c ev_int (ea_c ev_int ea_nil))) ⟨h3, h4, by dsimp only; omega, by dsimp only; omega⟩ fun y h => h) (evp_callT1 (⟨al, 2, 3⟩ : IxS) rfl rfl (ea_c (ev_var rfl) (ea_c ev_int (ea_c ev_int ea_nil))) ⟨h1, by show al.length ≤ 1000; omega, by dsimp only; omega, by dsimp only; omega⟩ fun y h => ?_) ?_ ?_
        · obtain ⟨l, rfl, hl⟩ := h
          exact ⟨Sum.inr (S l), ⟨l, rfl, hl⟩, rfl⟩
        · rw [List.length_map]
          exact size_lt (Nat.le_trans hm.len (by omega))
        · rintro _ _ ⟨v, rfl, hv⟩ ⟨k, rfl, hk⟩
          refine ⟨by omega, tput tb k v, .d x, hm.put ⟨by have := hk.1; omega, hk.2⟩ hv, rfl, ?_⟩
          rw [putD_tab]
          rfl
      · rintro r ⟨hi, tb, s7, hm, o7, rfl⟩
        rw [List.length_map, List.length_range] at hm
        have hjm : al.length + j.toNat ≤ al.length + more := by omega
        refine sm_go (sm_freezeD (i := 5) rfl (sm_retP (evp_tupOf (P := fun ys => ∃ zs : List (List Nat), (zs.Perm (tb.map (·.1)) ∧ sortedS (zs.map S) = true) ∧ ys = zs.map fun k => entD (k, (look tb k).getD [])) (EvO.p (eo_lcS (h := sD) (A := fun zs => zs.Perm (tb.map (·.1)) ∧ sortedS (zs.map S) = true) (f := fun _ k => entD (k, (look tb k).getD [])) (r := fun a => _) (wk_any ((EvO.p (eo_sortD (ds := tb.map tk) (ks := tb.map (·.1)) (ev_var rfl) ?_ ?_)).mono ?_)) ?_ (fun a => tw_name (by simp)) ?_))) ?_))
        · rw [List.map_map, List.map_map]
          rfl
        · rw [List.length_map]
          have := hm.len
          omega
        · rintro d ⟨ys, rfl, zs, rfl, hp, hs⟩
          exact .inl ⟨_, rfl, zs, ⟨hp, hs⟩, rfl⟩
        · rintro zs ⟨hp, _⟩
          refine size_lt ?_
          rw [hp.length_eq, List.length_map]
          have := hm.len
          omega
        · rintro zs ⟨hp, _⟩ k hk
          obtain ⟨p, hp2, rfl⟩ := List.mem_map.mp (hp.mem_iff.mp hk)
          refine ev_tup (xs := [sD p.1, sD ((look tb p.1).getD [])]) (ea_c (ev_var rfl) (ea_c (ev_ixD (k := Sum.inr (S p.1)) (ev_var rfl) (ev_var rfl) ?_) ea_nil)) (size_ok (by simp))
          rw [atK_tab, look_mem hm.nd hp2]
          rfl
        · rintro x ⟨ys, rfl, zs, ⟨hp, hs⟩, rfl⟩
          refine ⟨ordT tb zs, ?_, ?_⟩
          · show PyData.tuple _ = PyData.tuple _
            unfold ordT
            rw [List.map_map]
            rfl
          · have hd := hm.ord hp hs
            exact ⟨⟨hd.tb.nd, Nat.le_trans hd.tb.len hjm, hd.tb.src, hd.tb.tgt, hd.tb.all⟩, hd.st⟩
end Tr

set_option Elab.async false
set_option linter.all false
set_option maxRecDepth 100000
namespace Tr
open PySem PySem.Spec PyProof.Rows L2 TL
variable [PWc] {K : PySem.W.Frag} {mg : Str → Option Value} {base : Heap}
/-! ### a scheme of one of the kinds -/
def alKinds : List (List Nat) := [[97], [97, 98], [97, 98], [97, 98, 99], [97, 98, 99]]
def tgKinds : List (List Nat) := [[112], [112, 113], [112, 113], [112, 113, 114], [97, 98, 99]]
structure AnyS (al tg : List Nat) (sch : Sch) : Prop where
  ha : al ∈ alKinds
  ht : tg ∈ tgKinds
  dr : Drawn al tg (al.length + 3) sch
theorem kinds_al : ∀ al ∈ alKinds, al.Nodup ∧ 0 < al.length ∧ al.length ≤ 3 ∧ ∀ c ∈ al, c ∈ LET := by decide
theorem kinds_tg : ∀ al ∈ tgKinds, 0 < al.length ∧ al.length ≤ 3 ∧ ∀ c ∈ al, c ∈ LET := by decide
theorem AnyS.valid {al tg : List Nat} {sch : Sch} (h : AnyS al tg sch) : Valid sch := by
  obtain ⟨h1, h2, h3, h4⟩ := kinds_al al h.ha
  exact h.dr.valid h4 (kinds_tg tg h.ht).2.2 h2 (by omega)
def spAny (K : PySem.W.Frag) : Sp := Tsp K (fun _ : Unit => []) (fun _ => True) (fun _ y => ∃ sch al tg, y = schD sch ∧ AnyS al tg sch)
abbrev N_law_any : List Str := ["script", "town", "letters"]
theorem sc_law_any : FnScope N_law_any ["script", "town"] (defScope s_law_any) := ⟨rfl, rfl, rfl, by decide +kernel, rfl, by decide +kernel, by decide +kernel⟩
theorem pick_strs {T : Tn} {ρ : List Sl} {i0 i1 : Nat} {ns : List Int} {ta : TE} (ks : List (List Nat)) (hk : 0 < ks.length) (hk2 : ks.length ≤ 100) (h0 : ρ[i0]? = some (.pr (scrP K ns))) (h1 : ρ[i1]? = some .tw) (ha : Ev T ta ρ (.list (ks.map sD))) : EvP T (tCall (spPick K) [] E0 (tCons (tVar i0) (tCons (tVar i1) (tCons ta tNil)))) ρ fun y => ∃ l ∈ ks, y = sD l :=
  evp_callT1 (PyData.list (ks.map sD)) h0 h1 (ea_c ha ea_nil) ⟨.inr (.inl ⟨_, rfl⟩), by show 0 < (ks.map sD).length; rw [List.length_map]; exact hk, by show (ks.map sD).length < _; rw [List.length_map]; omega⟩ fun y hy => by
    obtain ⟨l, hl, rfl⟩ := List.mem_map.mp (show y ∈ ks.map sD from hy)
    exact ⟨l, hl, rfl⟩
theorem cl_any (d : Defn K mg "_law_any" s_law_any ["script", "town"]) (B : Bt K mg) (c_law_pick : Cl P w K mg base 2 "_law_pick" (spPick K)) (c_law_scheme : Cl P w K mg base 4 "_law_scheme" (spLScheme K)) : Cl P w K mg base 5 "_law_any" (spAny K) := by
  refine cl_tn d sc_law_any (fun i => rfl) fun f cdv A outer s H E hr => ?_
  refine ⟨_, (PSs.nox (pss_cons (ps_set (i := 2) sc_law_any.nd rfl (Or.inl rfl) (pe_f c_law_pick hr (by decide) (by rfl) (pa_cons (pv 0) (pa_cons (pv 1) (pa_cons (pe_lst (pa_cons pe_str (pa_cons pe_str (pa_cons pe_str (pa_cons pe_str (pa_cons pe_str pa_nil)))))) pa_nil))))) (pss_one (ps_ret (pe_f c_law_scheme hr (by decide) (by rfl) (pa_cons (pv 0) (pa_cons (pv 1) (pa_cons (pv 2) (pa_cons (pe_f c_law_pick hr (by decide) (by rfl) (pa_cons (pv 0) (pa_cons (pv 1) (pa_cons (pe_lst (pa_cons pe_str (pa_cons pe_str (pa_cons pe_str (pa_cons pe_str (pa_cons pe_str pa_nil)))))) pa_nil)))) (pa_cons pe_int pa_nil)))))))))), ?_⟩
  rintro ⟨⟩ T ns _
  refine sm_seq (sm_asgP (pick_strs alKinds (by decide) (by decide) rfl rfl (EvO.d (eo_lst (ea_c (ev_s rfl) (ea_c (ev_s rfl) (ea_c (ev_s rfl) (ea_c (ev_s rfl) (ea_c (ev_s rfl) ea_nil))))) fun xs e => by rw [e]; exact size_ok (by decide)))) fun x hx => sm_go ?_)
  obtain ⟨al, hal, rfl⟩ := hx
  obtain ⟨h1, h2, h3, h4⟩ := kinds_al al hal
  refine sm_retP (evp_callT (A := fun i : IxC => i.al = al ∧ i.tg ∈ tgKinds ∧ i.more = 3) (R := fun y => ∃ sch al tg, y = schD sch ∧ AnyS al tg sch) rfl rfl ((ea_cons ((ev_var rfl).p (P := fun d => d = sD al) rfl) (ea_cons (pick_strs tgKinds (by decide) (by decide) rfl rfl (EvO.d (eo_lst (ea_c (ev_s rfl) (ea_c (ev_s rfl) (ea_c (ev_s rfl) (ea_c (ev_s rfl) (ea_c (ev_s rfl) ea_nil))))) fun xs e => by rw [e]; exact size_ok (by decide)))) (ea_cons (ev_int.p (P := fun d => d = .int 3) rfl) ea_nil))).mono ?_) ?_ ?_) fun x hx => hx
  · rintro zs ⟨x, xs, rfl, rfl, y, ys, rfl, ⟨tg, ht, rfl⟩, z, ws, rfl, rfl, rfl⟩
    exact ⟨⟨al, tg, 3⟩, rfl, rfl, ht, rfl⟩
  · rintro ⟨al', tg, more⟩ ⟨e1, ht, e2⟩
    dsimp only at e1 ht e2
    subst e1 e2
    obtain ⟨t1, t2, _⟩ := kinds_tg tg ht
    exact ⟨h1, h2, by dsimp only; omega, t1, by dsimp only; omega, by dsimp only; omega⟩
  · rintro ⟨al', tg, more⟩ y ⟨e1, ht, e2⟩ ⟨sch, rfl, hd⟩
    dsimp only at e1 ht e2 hd
    subst e1 e2
    exact ⟨sch, al', tg, rfl, hal, ht, hd⟩
/-! ### the law's own words -/
def spLLetters : Sp := Fsp (fun sch : Sch => [schD sch]) Valid (fun sch y => y = sD (lets sch)) noX
abbrev N_law_letters : List Str := ["scheme", "source", "target"]
theorem sc_law_letters : FnScope N_law_letters ["scheme"] (defScope s_law_letters) := ⟨rfl, rfl, rfl, by decide +kernel, rfl, by decide +kernel, by decide +kernel⟩
theorem lets_ones (sch : Sch) : (sch.filter fun p => decide (p.1.length = 1)).map (·.1) = (lets sch).map fun c => [c] := by
  unfold lets
  rw [List.map_map]
  refine List.map_congr_left fun p hp => ?_
  have h := of_decide_eq_true (List.mem_filter.mp hp).2
  match p, h with
  | ([c], _), _ => rfl
theorem lets_len (sch : Sch) : (lets sch).length ≤ sch.length := by
  unfold lets
  rw [List.length_map]
  exact List.length_filter_le _ _
theorem cl_lletters {k : Nat} (d : Defn K mg "_law_letters" s_law_letters ["scheme"]) (B : Bt K mg) : Cl P w K mg base (k + 1) "_law_letters" spLLetters := by
  refine cl_fn d sc_law_letters (fun i => rfl) fun f cdv A outer s H E hr => ?_
  refine ⟨_, (PSs.nox (pss_one (ps_ret (k_join K pe_str (pe_lc (own := [("source", 1), ("target", 2)]) rfl sc_law_letters.nd (k_i K (pv 0)) (blkOk_by (N := N_law_letters) (sc := defScope s_law_letters) (by decide +kernel)) (fun _ _ _ _ _ => (k_gt K (n := 2) rfl (pgs_cons (pg_name (i := 1) sc_law_letters.nd rfl (Or.inl rfl)) (pgs_cons (pg_name (i := 2) sc_law_letters.nd rfl (Or.inl rfl)) pgs_nil)))) (fun _ _ _ _ _ => (pts_one (kt_eq K hr (k_len K (by rfl) B.len (pa_cons (pv 1) pa_nil)) pe_int))) (fun _ _ _ _ _ => (pv 1))))))), ?_⟩
  intro sch hv
  refine sm_ret ((ev_joinK (sep := []) (ws := (lets sch).map fun c => [c]) (ev_s rfl) (EvO.d ((eo_lc (h := entD) (as := sch) (p := fun p => decide (p.1.length = 1)) (r := fun c => _) (f := fun p => sD p.1) (wk_T (ev_var rfl)) hv.sl (fun c _ => tw_tup (tws_cons (tw_name (by simp)) (tws_cons (tw_name (by simp)) tws_nil)) rfl) (fun c hc => ?_) fun c hc _ => ev_var rfl).mono fun ys e => by rw [e, ← lets_ones, List.map_map]; rfl)) ?_).cast ?_) rfl
  · exact (et_t (ev_eqI (ev_lenS (ev_var rfl) (hv.s1 hc)) ev_int)).mono fun b e => by rw [e]; exact dec1 _
  · have hs : (((lets sch).map fun c => [c]).map (·.length)).sum ≤ ((lets sch).map fun c => [c]).length * 1 := sum_le fun x hx => by
      obtain ⟨c, _, rfl⟩ := List.mem_map.mp hx
      exact Nat.le_refl _
    have h1 := lets_len sch
    have h2 := hv.hi
    rw [List.length_map] at hs ⊢
    simp only [List.length_nil, Nat.mul_zero, Nat.add_zero]
    omega
  · rw [joinL_nil, flat_ones]
/-! ### segments, again -/
def cuts (ss : List (List Nat)) (l : List Nat) : List (List Nat) := ([3, 2, 1].filter fun n => decide (l.take n ∈ ss)).map l.take
theorem cuts_long {tb : Sch} {l k : List Nat} (h : longL tb l = some k) : ∃ r, cuts (tb.map (·.1)) l = k :: r := by
  unfold longL at h
  unfold cuts
  have d : ∀ n, decide (l.take n ∈ tb.map (·.1)) = (look tb (l.take n)).isSome := fun n => look_isSome.symm
  simp only [List.filter_cons, List.filter_nil, d]
  match l, h with
  | [], h => simp [longN] at h
  | [a], h =>
    simp only [List.length_cons, List.length_nil, longN] at h
    have t : ([a] : List Nat).take 3 = [a] := rfl
    have t2 : ([a] : List Nat).take 2 = [a] := rfl
    have t1 : ([a] : List Nat).take 1 = [a] := rfl
    cases e1 : (look tb [a]).isSome <;> simp_all [longN]
  | [a, b], h =>
    have h' : Option.map (fun n => ([a, b] : List Nat).take n) (if (look tb [a, b]).isSome = true then some 2 else if (look tb [a]).isSome = true then some 1 else none) = some k := h
    show ∃ r, (if (look tb [a, b]).isSome = true then 3 :: (if (look tb [a, b]).isSome = true then 2 :: (if (look tb [a]).isSome = true then [1] else []) else (if (look tb [a]).isSome = true then [1] else [])) else (if (look tb [a, b]).isSome = true then 2 :: (if (look tb [a]).isSome = true then [1] else []) else (if (look tb [a]).isSome = true then [1] else []))).map (fun n => ([a, b] : List Nat).take n) = k :: r
    by_cases e2 : (look tb [a, b]).isSome = true
    · rw [if_pos e2] at h'
      cases h'
      rw [if_pos e2]
      exact ⟨_, rfl⟩
    · rw [if_neg e2] at h' ⊢
      rw [if_neg e2]
      by_cases e1 : (look tb [a]).isSome = true
      · rw [if_pos e1] at h' ⊢
        cases h'
        exact ⟨_, rfl⟩
      · rw [if_neg e1] at h'
        cases h'
  | a :: b :: c :: r, h =>
    have hm : min 3 (a :: b :: c :: r).length = 3 := by simp only [List.length_cons]; omega
    rw [hm] at h
    cases e1 : (look tb [a]).isSome <;> cases e2 : (look tb [a, b]).isSome <;> cases e3 : (look tb [a, b, c]).isSome <;> simp_all [longN]
def spLSegments : Sp := Fsp (fun i : IxL => [schD i.sch, sD i.l]) (fun i => Valid i.sch ∧ i.l.length ≤ 3000000 ∧ ∀ c ∈ i.l, c ∈ lets i.sch) (fun i y => ∃ ps, splitL i.sch i.l = some ps ∧ y = .list (ps.map sD)) noX
abbrev N_law_segments : List Str := ["scheme", "word", "sources", "parts", "source", "target", "part", "size"]
theorem sc_law_segments : FnScope N_law_segments ["scheme", "word"] (defScope s_law_segments) := ⟨rfl, rfl, rfl, by decide +kernel, rfl, by decide +kernel, by decide +kernel⟩
theorem any_memL (k : List Nat) (ss : List (List Nat)) : ((ss.map sD).any fun z => PyData.eqv z (sD k)) = decide (k ∈ ss) := by
  induction ss with
  | nil => rfl
  | cons a r ih =>
    rw [List.map_cons, List.any_cons, ih, eqv_str]
    by_cases h : a = k
    · subst h
      simp
    · have h2 : ¬ k = a := fun e => h e.symm
      simp [h, h2]
theorem cl_lsegments {k : Nat} (d : Defn K mg "_law_segments" s_law_segments ["scheme", "word"]) (B : Bt K mg) : Cl P w K mg base (k + 1) "_law_segments" spLSegments := by
  refine cl_fn d sc_law_segments (fun i => rfl) fun f cdv A outer s H E hr => ?_
  refine ⟨_, (PSs.nox (pss_cons (ps_asg (pe_tupF (pa_cons (pe_lc (own := [("source", 4), ("target", 5)]) rfl sc_law_segments.nd (k_i K (pv 0)) (blkOk_by (N := N_law_segments) (sc := defScope s_law_segments) (by decide +kernel)) (fun _ _ _ _ _ => (k_gt K (n := 2) rfl (pgs_cons (pg_name (i := 4) sc_law_segments.nd rfl (Or.inl rfl)) (pgs_cons (pg_name (i := 5) sc_law_segments.nd rfl (Or.inl rfl)) pgs_nil)))) (fun _ _ _ _ _ => pts_nil) (fun _ _ _ _ _ => (pv 4))) (pa_cons (pe_lst pa_nil) pa_nil))) (k_gt K (n := 2) rfl (pgs_cons (pg_name (i := 2) sc_law_segments.nd rfl (Or.inr rfl)) (pgs_cons (pg_name (i := 3) sc_law_segments.nd rfl (Or.inl rfl)) pgs_nil)))) (pss_cons (ps_while PassesOwn.never (kt_ne K hr (pv 1) pe_str) (pss_cons (ps_set (i := 6) sc_law_segments.nd rfl (Or.inl rfl) (k_ix K hr (pe_lc (own := [("size", 7)]) rfl sc_law_segments.nd (k_i K (pe_tupF (pa_cons pe_int (pa_cons pe_int (pa_cons pe_int pa_nil))))) (blkOk_by (N := N_law_segments) (sc := defScope s_law_segments) (by decide +kernel)) (fun _ _ _ _ _ => (pg_name (i := 7) sc_law_segments.nd rfl (Or.inl rfl))) (fun _ _ _ _ _ => (pts_one (kt_in K hr (k_sl K (pv 1) po_none (po_some (pv 7))) (pv 2)))) (fun _ _ _ _ _ => (k_sl K (pv 1) po_none (po_some (pv 7))))) pe_int (fun _ _ => rfl))) (pss_cons (ps_expr (pe_bm PySem.F.plainAttrs_list PySem.F.slot_list_append PySem.F.type_list_append mt_append (pv 3) (pa_cons (pv 6) pa_nil))) (pss_one (ps_set (i := 1) sc_law_segments.nd rfl (Or.inr rfl) (k_sl K (pv 1) (po_some (k_len K (by rfl) B.len (pa_cons (pv 6) pa_nil))) po_none)))))) (pss_one (ps_ret (pv 3)))))), ?_⟩
  rintro ⟨sch, l⟩ ⟨hv, hl, hm⟩
  dsimp only at hv hl hm
  refine sm_seq (sm_tupDO (x := .list ((sch.map (·.1)).map sD)) (R := fun ys => ys = []) (EvO.d ((eo_lc1 (h := entD) (as := sch) (r := fun c => _) (f := fun p => sD p.1) (wk_T (ev_var rfl)) hv.sl (fun c _ => tw_tup (tws_cons (tw_name (by simp)) (tws_cons (tw_name (by simp)) tws_nil)) rfl) fun c hc => ev_var rfl).mono fun ys e => by rw [e, List.map_map]; rfl)) (eo_lst ea_nil fun xs e => by rw [e]; exact size_ok (Nat.zero_le _)) fun ys e => sm_go ?_)
  subst e
  refine sm_seq (sm_while (fun m r => ∃ t ps s6 s7, r = [.d (schD sch), .d (sD t), .d (.list ((sch.map (·.1)).map sD)), .ol (ps.map sD), .un, .un, s6, s7] ∧ m = t.length ∧ splitL sch l = (splitL sch t).map (ps ++ ·) ∧ ps.length + t.length ≤ l.length ∧ s6.own = false ∧ s7.own = false ∧ ∀ c ∈ t, c ∈ lets sch) (m0 := l.length) ⟨l, [], .un, .un, rfl, rfl, by cases splitL sch l <;> rfl, by simp, rfl, rfl, hm⟩ ?_)
  rintro m r ⟨t, ps, s6, s7, rfl, rfl, hsp, hle, o6, o7, hmt⟩
  refine ⟨_, et_t (ev_neS (ev_var rfl) (ev_s (l := []) rfl)), fun h => ?_, fun h => ?_⟩
  · have hne : t ≠ [] := fun e => by
      rw [e] at h
      exact absurd h (by simp)
    have htl : t.length ≤ 3000000 := by omega
    obtain ⟨k, e⟩ : ∃ k, longL sch t = some k := by
      cases t with
      | nil => exact absurd rfl hne
      | cons c r => exact longL_tot (mem_lets.mp (hmt c (by simp)))
    obtain ⟨h1, h2, h3, h4, h5⟩ := longL_some e
    obtain ⟨rs, hc⟩ := cuts_long e
    refine sm_seq (sm_asg (x := sD k) (ev_ixL (ds := (cuts (sch.map (·.1)) t).map sD) (EvO.d ((eo_lc (h := fun n : Nat => .int n) (as := [3, 2, 1]) (p := fun n => decide (t.take n ∈ sch.map (·.1))) (r := fun c => _) (f := fun n => sD (t.take n)) (wk_T (ev_tup (ea_c ev_int (ea_c ev_int (ea_c ev_int ea_nil))) (size_ok (by decide)))) (size_lt (by decide)) (fun c _ => tw_name (by simp)) (fun n hn => ?_) fun n hn _ => ?_).mono fun ys e => by rw [e, cuts, List.map_map]; rfl)) ev_int (by rw [hc]; exact atI_nat (Int.le_refl 0) rfl)) (sm_go ?_))
    · exact (et_t (ev_inL ((ev_slS (ev_var rfl) eb_none (eb_some (ev_var rfl)) (size_okB (by omega))).cast (by rw [cut_take])) (ev_var rfl) rfl (plain_strs _) (by simp [PyData.depth]))).mono fun b e => by rw [e, any_memL]
    · exact (ev_slS (ev_var rfl) eb_none (eb_some (ev_var rfl)) (size_okB (by omega))).cast (by rw [cut_take])
    · refine sm_seq (sm_append (i := 3) rfl (ev_var rfl) (by rw [List.length_map]; exact size_ltB (by omega)) (sm_go ?_))
      refine sm_asg ((ev_slS (ev_var rfl) (eb_some (ev_lenS (a := k) (ev_var rfl) (size_okB (by omega)))) eb_none (size_okB (by omega))).cast (by rw [cut_drop])) ?_
      refine ⟨t.length - k.length, by omega, t.drop k.length, ps ++ [k], .d (sD k), s7, ?_, ?_, ?_, ?_, rfl, o7, fun c hc => hmt c (List.mem_of_mem_drop hc)⟩
      · rw [List.map_append]
        rfl
      · rw [List.length_drop]
      · rw [hsp, splitL_some hne e]
        cases splitL sch (t.drop k.length) with
        | none => rfl
        | some qs =>
          show some (ps ++ k :: qs) = some (ps ++ [k] ++ qs)
          rw [List.append_assoc]
          rfl
      · rw [List.length_append, List.length_drop, List.length_singleton]
        omega
  · have he : t = [] := by simpa using h
    subst he
    refine sm_go (sm_freeze (i := 3) rfl (sm_ret (ev_var rfl) ⟨ps, ?_, rfl⟩))
    show splitL sch l = some ps
    rw [hsp, splitL_nil]
    simp
def spLWrite : Sp := Fsp (fun i : IxL => [schD i.sch, sD i.l]) (fun i => Valid i.sch ∧ i.l.length ≤ 3000000 ∧ ∀ c ∈ i.l, c ∈ lets i.sch) (fun i y => y = sD (wr i.sch i.l)) noX
abbrev N_law_write : List Str := ["scheme", "word", "table", "part"]
theorem sc_law_write : FnScope N_law_write ["scheme", "word"] (defScope s_law_write) := ⟨rfl, rfl, rfl, by decide +kernel, rfl, by decide +kernel, by decide +kernel⟩
theorem cl_lwrite (d : Defn K mg "_law_write" s_law_write ["scheme", "word"]) (B : Bt K mg) (c_law_segments : Cl P w K mg base 1 "_law_segments" spLSegments) : Cl P w K mg base 2 "_law_write" spLWrite := by
  refine cl_fn d sc_law_write (fun i => rfl) fun f cdv A outer s H E hr => ?_
  refine ⟨_, (PSs.nox (pss_cons (ps_set (i := 2) sc_law_write.nd rfl (Or.inr rfl) (k_dict K rfl (by rfl) B.dict (pa_cons (pv 0) pa_nil))) (pss_one (ps_ret (k_join K pe_str (pe_lc (own := [("part", 3)]) rfl sc_law_write.nd (k_i K (pe_f c_law_segments hr (by decide) (by rfl) (pa_cons (pv 0) (pa_cons (pv 1) pa_nil)))) (blkOk_by (N := N_law_write) (sc := defScope s_law_write) (by decide +kernel)) (fun _ _ _ _ _ => (pg_name (i := 3) sc_law_write.nd rfl (Or.inl rfl))) (fun _ _ _ _ _ => pts_nil) (fun _ _ _ _ _ => (k_ix K hr (pv 2) (pv 3) (fun _ _ => rfl))))))))), ?_⟩
  rintro ⟨sch, l⟩ ⟨hv, hl, hm⟩
  dsimp only at hv hl hm
  obtain ⟨ps, hps⟩ := splitL_tot (tb := sch) (l := l) fun c hc => mem_lets.mp (hm c hc)
  obtain ⟨h1, h2, _⟩ := splitF_ok hps
  have hwr : wr sch l = ps.flatMap fun k => (look sch k).getD [] := by
    unfold wr mapL
    rw [hps]
    rfl
  have hlk : ∀ k ∈ ps, ∃ v, look sch k = some v ∧ v.length ≤ 3 := fun k hk => by
    have := (h1 k hk).1
    cases e2 : look sch k with
    | none =>
      rw [e2] at this
      cases this
    | some v => exact ⟨v, rfl, hv.t3 _ (look_some e2)⟩
  refine sm_seq (sm_asg (EvN.d ((en_dictT (ev_var (show _ = some (Sl.d (.tuple ((sch.map tk).map pairD))) by rw [← sch_pairs]; rfl))).mono fun es e => by rw [e, mergeD_nd hv.nd])) (sm_go ?_))
  refine sm_ret ((ev_joinK (sep := []) (ws := ps.map fun k => (look sch k).getD []) (ev_s rfl) (EvO.d ((eo_lc1 (h := sD) (as := ps) (r := fun c => _) (f := fun k => sD ((look sch k).getD [])) (wk_L (ev_call (⟨sch, l⟩ : IxL) (ea_c (ev_var rfl) (ea_c (ev_var rfl) ea_nil)) ⟨hv, hl, hm⟩ fun y hy => ?_)) (size_ltB (by omega)) (fun c _ => tw_name (by simp)) fun k hk => ?_).mono fun ys e => by rw [e, List.map_map]; rfl)) ?_).cast (by rw [joinL_nil]; exact congrArg sD hwr.symm)) rfl
  · obtain ⟨ps', e1, e2⟩ := hy
    rw [hps] at e1
    cases e1
    exact e2
  · obtain ⟨v, e2, _⟩ := hlk k hk
    rw [e2]
    exact ev_ixD (k := Sum.inr (S k)) (ev_var rfl) (ev_var rfl) (by rw [atK_tab, e2]; rfl)
  · have hb : ∀ x ∈ ps.map fun k => (look sch k).getD [], x.length ≤ 3 := fun x hx => by
      obtain ⟨k, hk, rfl⟩ := List.mem_map.mp hx
      obtain ⟨v, e2, h⟩ := hlk k hk
      rw [e2]
      exact h
    refine Nat.le_trans (Nat.add_le_add (sum_le hb) (Nat.le_refl _)) ?_
    rw [List.length_map]
    simp only [List.length_nil, Nat.mul_zero, Nat.add_zero]
    omega
end Tr

set_option Elab.async false
set_option linter.all false
set_option maxRecDepth 100000
namespace Tr
open PySem PySem.Spec PyProof.Rows L2 TL
variable [PWc] {K : PySem.W.Frag} {mg : Str → Option Value} {base : Heap}
/-! ### reading back, plainly -/
theorem look_app (acc : Sch) (x y k : List Nat) : look (acc ++ [(x, y)]) k = if (look acc k).isSome = true then look acc k else if x = k then some y else none := by
  unfold look
  rw [List.find?_append]
  cases e : acc.find? fun p => decide (p.1 = k) with
  | some q => rfl
  | none =>
    show Option.map _ ([(x, y)].find? fun p => decide (p.1 = k)) = if x = k then some y else none
    rw [List.find?_cons]
    by_cases h : x = k
    · rw [decide_eq_true h, if_pos h]
      rfl
    · rw [decide_eq_false h, if_neg h]
      rfl
theorem look_rput (acc : Sch) (p : List Nat × List Nat) (k : List Nat) : look (rput acc p) k = if (look acc k).isSome = true then look acc k else if p.2 = k then some p.1 else none := by
  unfold rput
  by_cases h : (look acc p.2).isSome = true
  · rw [if_pos h]
    by_cases h2 : (look acc k).isSome = true
    · rw [if_pos h2]
    · have h3 : ¬ p.2 = k := fun e => h2 (by rw [← e]; exact h)
      rw [if_neg h2, if_neg h3]
      cases e : look acc k with
      | none => rfl
      | some v => rw [e] at h2; simp at h2
  · rw [if_neg h, look_app]
theorem look_fold : ∀ (sch acc : Sch) (k : List Nat), look (sch.foldl rput acc) k = if (look acc k).isSome = true then look acc k else (sch.find? fun p => decide (p.2 = k)).map (·.1)
  | [], acc, k => by
    show look acc k = _
    by_cases h : (look acc k).isSome = true
    · rw [if_pos h]
    · rw [if_neg h]
      cases e : look acc k with
      | none => rfl
      | some v => rw [e] at h; simp at h
  | p :: r, acc, k => by
    rw [List.foldl_cons, look_fold r (rput acc p) k, look_rput, List.find?_cons]
    by_cases h : (look acc k).isSome = true
    · rw [if_pos h, if_pos h, if_pos h]
    · rw [if_neg h, if_neg h]
      by_cases h2 : p.2 = k
      · rw [if_pos h2, decide_eq_true h2]
        rfl
      · rw [if_neg h2, decide_eq_false h2]
        rfl
theorem look_revT (sch : Sch) (k : List Nat) : look (revT sch) k = (sch.find? fun p => decide (p.2 = k)).map (·.1) := look_fold sch [] k
theorem revT_some {sch : Sch} {p : List Nat × List Nat} (h : p ∈ sch) : (look (revT sch) p.2).isSome = true := by
  rw [look_revT, Option.isSome_map, List.find?_isSome]
  exact ⟨p, h, decide_eq_true rfl⟩
theorem longN_max (tb : Sch) (l : List Nat) : ∀ {m n : Nat}, longN tb l m = some n → ∀ j, n < j → j ≤ m → (look tb (l.take j)).isSome = false
  | 0, _, h => by cases h
  | m + 1, n, h => by
    intro j h1 h2
    unfold longN at h
    split at h
    · cases h
      omega
    · rename_i hk
      by_cases e : j = m + 1
      · rw [e]
        simpa using hk
      · exact longN_max tb l h j h1 (by omega)
theorem longN_none (tb : Sch) (l : List Nat) : ∀ {m : Nat}, longN tb l m = none → ∀ j, 1 ≤ j → j ≤ m → (look tb (l.take j)).isSome = false
  | 0, _ => fun j h1 h2 => by omega
  | m + 1, h => by
    intro j h1 h2
    unfold longN at h
    split at h
    · cases h
    · rename_i hk
      by_cases e : j = m + 1
      · rw [e]
        simpa using hk
      · exact longN_none tb l h j h1 (by omega)
def fits (sch : Sch) (t : List Nat) : Sch := sch.filter fun p => decide (t.take p.2.length = p.2)
theorem fits_len {sch : Sch} {t : List Nat} {p : List Nat × List Nat} (hv : Valid sch) (h : p ∈ fits sch t) : p ∈ sch ∧ t.take p.2.length = p.2 ∧ 1 ≤ p.2.length ∧ p.2.length ≤ min 3 t.length := by
  obtain ⟨h1, h2⟩ := List.mem_filter.mp h
  have h2 := of_decide_eq_true h2
  have h3 := hv.pt p h1
  have h4 := congrArg List.length h2
  rw [List.length_take] at h4
  have := h3.2.2.1
  have := h3.2.1
  exact ⟨h1, h2, this, by omega⟩
theorem fits_none {sch : Sch} {t : List Nat} (hv : Valid sch) (h : longL (revT sch) t = none) : fits sch t = [] := by
  have h' : longN (revT sch) t (min 3 t.length) = none := by
    unfold longL at h
    cases e : longN (revT sch) t (min 3 t.length) with
    | none => rfl
    | some n => rw [e] at h; cases h
  refine List.eq_nil_iff_forall_not_mem.mpr fun p hp => ?_
  obtain ⟨h1, h2, h3, h4⟩ := fits_len hv hp
  have := longN_none _ _ h' _ h3 h4
  rw [h2, revT_some h1] at this
  cases this
theorem fits_some {sch : Sch} {t k : List Nat} (hv : Valid sch) (h : longL (revT sch) t = some k) : (∀ p ∈ fits sch t, p.2.length ≤ k.length) ∧ ((fits sch t).filter fun p => decide (p.2.length = k.length)) = sch.filter fun p => decide (p.2 = k) := by
  obtain ⟨a1, a2, a3, a4, a5⟩ := longL_some h
  constructor
  · intro p hp
    obtain ⟨h1, h2, h3, h4⟩ := fits_len hv hp
    rcases Nat.lt_or_ge k.length p.2.length with hlt | hge
    · exfalso
      unfold longL at h
      cases e : longN (revT sch) t (min 3 t.length) with
      | none => rw [e] at h; cases h
      | some n =>
        rw [e] at h
        have hk : t.take n = k := Option.some.inj h
        have hn := (longN_le _ _ e)
        have hl : k.length = n := by
          rw [← hk, List.length_take]
          omega
        have := longN_max _ _ e p.2.length (by omega) h4
        rw [h2, revT_some h1] at this
        cases this
    · exact hge
  · unfold fits
    rw [List.filter_filter]
    refine List.filter_congr fun p hp => ?_
    by_cases e : p.2 = k
    · have : t.take p.2.length = p.2 := by rw [e]; exact a5.symm
      rw [decide_eq_true e, decide_eq_true this, decide_eq_true (by rw [e])]
      rfl
    · rw [decide_eq_false e]
      by_cases e2 : t.take p.2.length = p.2
      · have : ¬ p.2.length = k.length := fun z => e (by rw [← e2, z]; exact a5.symm)
        rw [decide_eq_false this]
        rfl
      · rw [decide_eq_false e2]
        simp
theorem mapL_nil (tb : Sch) : mapL tb [] = some [] := rfl
theorem mapL_none {tb : Sch} {l : List Nat} (h : l ≠ []) (e : longL tb l = none) : mapL tb l = none := by
  unfold mapL
  rw [splitL_none h e]
  rfl
theorem mapL_some {tb : Sch} {l k : List Nat} (h : l ≠ []) (e : longL tb l = some k) : mapL tb l = (mapL tb (l.drop k.length)).map fun m => (look tb k).getD [] ++ m := by
  unfold mapL
  rw [splitL_some h e]
  cases splitL tb (l.drop k.length) with
  | none => rfl
  | some ps => rfl
/-! ### max, min of what fits -/
def enc (p : List Nat × List Nat) : PyData := .tuple [.int (p.2.length : Nat), sD p.1]
theorem enc_lt (p q : List Nat × List Nat) : (PySem.W.dataLt (enc p) (enc q) = true → p.2.length ≤ q.2.length) ∧ (PySem.W.dataLt (enc p) (enc q) = false → q.2.length ≤ p.2.length) := by
  unfold enc
  rw [PySem.W.dataLt_tuple]
  by_cases h : (p.2.length : Int) = q.2.length
  · constructor <;> intro _ <;> omega
  · have e : PyData.eqv (.int (p.2.length : Nat)) (.int (q.2.length : Nat)) = false := by
      rw [eqv_int]
      exact decide_eq_false h
    rw [PySem.W.dataLt_all_no (by simp [PySem.W.alike]) e, PySem.W.dataLt_int]
    constructor
    · intro h2
      have := of_decide_eq_true h2
      omega
    · intro h2
      have := of_decide_eq_false h2
      omega
theorem max_enc : ∀ (xs : Sch) (x : List Nat × List Nat), ∃ y ∈ x :: xs, PySem.W.maxD (enc x) (xs.map enc) = enc y ∧ ∀ z ∈ x :: xs, z.2.length ≤ y.2.length
  | [], x => ⟨x, by simp, rfl, fun z hz => by rw [List.mem_singleton.mp hz]; exact Nat.le_refl _⟩
  | a :: r, x => by
    have hstep : PySem.W.maxD (enc x) ((a :: r).map enc) = PySem.W.maxD (if PySem.W.dataLt (enc x) (enc a) = true then enc a else enc x) (r.map enc) := rfl
    rw [hstep]
    by_cases h : PySem.W.dataLt (enc x) (enc a) = true
    · rw [if_pos h]
      obtain ⟨y, hy, e, hz⟩ := max_enc r a
      have h1 := (enc_lt x a).1 h
      refine ⟨y, List.mem_cons_of_mem _ hy, e, fun z hz' => ?_⟩
      rcases List.mem_cons.mp hz' with rfl | hz'
      · exact Nat.le_trans h1 (hz a (by simp))
      · exact hz z hz'
    · rw [if_neg h]
      obtain ⟨y, hy, e, hz⟩ := max_enc r x
      have h1 := (enc_lt x a).2 (by simpa using h)
      refine ⟨y, ?_, e, fun z hz' => ?_⟩
      · rcases List.mem_cons.mp hy with rfl | hy
        · simp
        · simp [hy]
      · rcases List.mem_cons.mp hz' with rfl | hz'
        · exact hz z (by simp)
        · rcases List.mem_cons.mp hz' with rfl | hz'
          · exact Nat.le_trans h1 (hz x (by simp))
          · exact hz z (by simp [hz'])
theorem min_first {s : List Nat} : ∀ {r : List (List Nat)}, (∀ y ∈ r, s < y) → PySem.W.minD (sD s) (r.map sD) = sD s
  | [], _ => rfl
  | a :: r, h => by
    have hstep : PySem.W.minD (sD s) ((a :: r).map sD) = PySem.W.minD (if PySem.W.dataLt (sD a) (sD s) = true then sD a else sD s) (r.map sD) := rfl
    have hn : ¬ PySem.W.dataLt (sD a) (sD s) = true := by
      rw [PySem.W.dataLt_str]
      intro e
      exact absurd (of_decide_eq_true e) (List.lt_asymm (h a (by simp)))
    rw [hstep, if_neg hn]
    exact min_first fun y hy => h y (by simp [hy])
theorem alike_enc (xs : Sch) : PySem.W.AlikeAll (xs.map enc) := by
  constructor
  · intro x hx y hy
    obtain ⟨p, _, rfl⟩ := List.mem_map.mp hx
    obtain ⟨q, _, rfl⟩ := List.mem_map.mp hy
    simp [enc, PySem.W.alike, PySem.W.alikeAll]
  · intro x hx e
    obtain ⟨p, _, rfl⟩ := List.mem_map.mp hx
    cases e
theorem alike_strs (xs : List (List Nat)) : PySem.W.AlikeAll (xs.map sD) := by
  constructor
  · intro x hx y hy
    obtain ⟨p, _, rfl⟩ := List.mem_map.mp hx
    obtain ⟨q, _, rfl⟩ := List.mem_map.mp hy
    simp [PySem.W.alike]
  · intro x hx e
    obtain ⟨p, _, rfl⟩ := List.mem_map.mp hx
    cases e
theorem depthAll_le {n : Nat} : ∀ {xs : List PyData}, (∀ x ∈ xs, x.depth ≤ n) → PyData.depthAll xs ≤ n
  | [], _ => by simp [PyData.depthAll]
  | a :: r, h => by
    have h1 := h a (by simp)
    have h2 := depthAll_le fun x hx => h x (List.mem_cons_of_mem a hx)
    simp only [PyData.depthAll]
    exact Nat.max_le.mpr ⟨h1, h2⟩
theorem plain_enc (xs : Sch) : PyData.plainAll (xs.map enc) = true := plainAll_of fun x hx => by
  obtain ⟨p, _, rfl⟩ := List.mem_map.mp hx
  rfl
def spLRead : Sp := Fsp (fun i : IxL => [schD i.sch, sD i.l]) (fun i => Valid i.sch ∧ i.l.length ≤ 30000) (fun i y => y = optS (rd i.sch i.l)) noX
abbrev N_law_read : List Str := ["scheme", "text", "word", "fitting", "source", "target", "size", "length"]
theorem sc_law_read : FnScope N_law_read ["scheme", "text"] (defScope s_law_read) := ⟨rfl, rfl, rfl, by decide +kernel, rfl, by decide +kernel, by decide +kernel⟩
theorem cl_lread {k : Nat} (d : Defn K mg "_law_read" s_law_read ["scheme", "text"]) (B : Bt K mg) : Cl P w K mg base (k + 1) "_law_read" spLRead := by
  refine cl_fn d sc_law_read (fun i => rfl) fun f cdv A outer s H E hr => ?_
  refine ⟨_, (PSs.nox (pss_cons (ps_set (i := 2) sc_law_read.nd rfl (Or.inl rfl) pe_str) (pss_cons (ps_while PassesOwn.never (kt_ne K hr (pv 1) pe_str) (pss_cons (ps_setLc (i := 3) (own := [("source", 4), ("target", 5)]) rfl sc_law_read.nd rfl rfl (sw_true rfl rfl rfl (by decide +kernel)) (k_i K (pv 0)) (blkOk_by (N := N_law_read) (sc := defScope s_law_read) (by decide +kernel)) (fun _ _ _ _ _ => (k_gt K (n := 2) rfl (pgs_cons (pg_name (i := 4) sc_law_read.nd rfl (Or.inl rfl)) (pgs_cons (pg_name (i := 5) sc_law_read.nd rfl (Or.inl rfl)) pgs_nil)))) (fun _ _ _ _ _ => (pts_one (pt_val (k_starts (pv 1) (pv 5))))) (fun _ _ _ _ _ => (pe_tupF (pa_cons (k_len K (by rfl) B.len (pa_cons (pv 5) pa_nil)) (pa_cons (pv 4) pa_nil))))) (pss_cons (ps_if (kt_eq K hr (pv 3) (pe_lst pa_nil)) (pss_one (ps_ret pe_non)) pss_nil) (pss_cons (ps_set (i := 6) sc_law_read.nd rfl (Or.inr rfl) (k_ix K hr (k_max K hr (by rfl) B.max (pa_cons (pv 3) pa_nil)) pe_int (fun _ _ => rfl))) (pss_cons (ps_set (i := 2) sc_law_read.nd rfl (Or.inl rfl) (k_add K (pv 2) (k_min K hr rfl (by rfl) B.min (pa_cons (pe_lc (own := [("length", 7), ("source", 4)]) rfl sc_law_read.nd (k_i K (pv 3)) (blkOk_by (N := N_law_read) (sc := defScope s_law_read) (by decide +kernel)) (fun _ _ _ _ _ => (k_gt K (n := 2) rfl (pgs_cons (pg_name (i := 7) sc_law_read.nd rfl (Or.inl rfl)) (pgs_cons (pg_name (i := 4) sc_law_read.nd rfl (Or.inl rfl)) pgs_nil)))) (fun _ _ _ _ _ => (pts_one (kt_eq K hr (pv 7) (pv 6)))) (fun _ _ _ _ _ => (pv 4))) pa_nil)))) (pss_one (ps_set (i := 1) sc_law_read.nd rfl (Or.inr rfl) (k_sl K (pv 1) (po_some (pv 6)) po_none)))))))) (pss_one (ps_ret (pv 2)))))), ?_⟩
  rintro ⟨sch, l⟩ ⟨hv, hl⟩
  dsimp only at hv hl ⊢
  refine sm_seq (sm_asg (ev_s (l := []) rfl) (sm_go ?_))
  refine sm_seq (sm_while (fun m r => ∃ t wd s3 s6, r = [.d (schD sch), .d (sD t), .d (sD wd), s3, .un, .un, s6, .un] ∧ m = t.length ∧ rd sch l = (rd sch t).map (wd ++ ·) ∧ wd.length + 3 * t.length ≤ 3 * l.length ∧ s3.own = false ∧ s6.own = false) (m0 := l.length) ⟨l, [], .un, .un, rfl, rfl, by cases rd sch l <;> rfl, by simp, rfl, rfl⟩ ?_)
  rintro m r ⟨t, wd, s3, s6, rfl, rfl, hsp, hle, o3, o6⟩
  refine ⟨_, et_t (ev_neS (ev_var rfl) (ev_s (l := []) rfl)), fun h => ?_, fun h => ?_⟩
  · have hne : t ≠ [] := fun e => by
      rw [e] at h
      exact absurd h (by simp)
    have htl : t.length ≤ 30000 := by omega
    have tl0 : t.length ≤ sizeLine := size_ok (by omega)
    refine sm_seq (sm_asg (x := .list ((fits sch t).map enc)) (EvO.d ((eo_lc (h := entD) (as := sch) (p := fun p => decide (t.take p.2.length = p.2)) (r := fun c => _) (f := enc) (wk_T (ev_var rfl)) hv.sl (fun c _ => tw_tup (tws_cons (tw_name (by simp)) (tws_cons (tw_name (by simp)) tws_nil)) rfl) (fun p hp => et_b (ev_starts (ev_var rfl) (ev_var rfl))) fun p hp _ => ev_tup (ea_c (ev_lenS (ev_var rfl) (size_ok (by have := (hv.pt p hp).2.2.1; omega))) (ea_c (ev_var rfl) ea_nil)) (size_ok (by simp))).mono fun ys e => e)) (sm_go ?_))
    have eqnil : ∀ xs : Sch, PyData.eqv (.list (xs.map enc)) (.list []) = decide (xs = []) := fun xs => by
      cases xs with
      | nil => rfl
      | cons p r => rfl
    have etest : ∀ {xs : Sch} {ρ : List Sl}, ρ[3]? = some (.d (.list (xs.map enc))) → EvT T0 (tTest (tOp (rEqP K) (tVar 3) (tLst tNil))) ρ fun b => b = decide (xs = []) := fun {xs ρ} hx => (et_t (ev_eq (ev_var hx) (EvO.d (eo_lst ea_nil fun xs e => by rw [e]; exact size_ok (Nat.zero_le _))) (by simp only [PyData.plain]; exact plain_enc xs) rfl (Nat.le_trans (Nat.min_le_right _ _) (by decide)))).mono fun b e => by rw [e, eqnil]
    cases e : longL (revT sch) t with
    | none =>
      rw [fits_none hv e]
      refine sm_seq (sm_ifb (etest rfl) (fun _ => sm_ret ev_non ?_) fun h => absurd h (by simp))
      show PyData.none = _
      unfold rd at hsp
      rw [show rd sch l = mapL (revT sch) l from rfl, hsp, mapL_none hne e]
      rfl
    | some k =>
      obtain ⟨h1, h2, h3, h4, h5⟩ := longL_some e
      obtain ⟨f1, f2⟩ := fits_some hv e
      have h4' := h4
      rw [look_revT, Option.isSome_map] at h4'
      obtain ⟨q, hq⟩ := Option.isSome_iff_exists.mp h4'
      have hlk : look (revT sch) k = some q.1 := by rw [look_revT, hq]; rfl
      have hqm : q ∈ sch := List.mem_of_find?_eq_some hq
      have hqk : q.2 = k := of_decide_eq_true (List.find?_some (p := fun p : List Nat × List Nat => decide (p.2 = k)) hq)
      obtain ⟨rs, hrs⟩ : ∃ rs, sch.filter (fun p => decide (p.2 = k)) = q :: rs := by
        have := List.head?_filter (p := fun p : List Nat × List Nat => decide (p.2 = k)) (l := sch)
        rw [hq] at this
        cases hf : sch.filter (fun p => decide (p.2 = k)) with
        | nil => rw [hf] at this; cases this
        | cons a r =>
          rw [hf] at this
          cases this
          exact ⟨r, rfl⟩
      have hmin : ∀ y ∈ rs.map Prod.fst, q.1 < y := by
        have hp : ((sch.filter (fun p => decide (p.2 = k))).map (·.1)).Pairwise (· < ·) := by
          rw [List.pairwise_map]
          exact List.Pairwise.filter _ (List.pairwise_map.mp (lt_of_srt hv.st))
        rw [hrs, List.map_cons, List.pairwise_cons] at hp
        exact hp.1
      have hqf : q ∈ fits sch t := List.mem_filter.mpr ⟨hqm, decide_eq_true (by rw [hqk]; exact h5.symm)⟩
      obtain ⟨x, xs, hxs⟩ : ∃ x xs, fits sch t = x :: xs := by
        cases hf : fits sch t with
        | nil => rw [hf] at hqf; cases hqf
        | cons a r => exact ⟨a, r, rfl⟩
      obtain ⟨y, hy, hmax, hall⟩ := max_enc xs x
      have hyl : y.2.length = k.length := by
        have a1 := f1 y (by rw [hxs]; exact hy)
        have a2 := hall q (by rw [← hxs]; exact hqf)
        rw [hqk] at a2
        omega
      rw [hxs]
      refine sm_seq (sm_ifb (etest rfl) (fun h => absurd h (by simp)) fun _ => sm_next (sm_go ?_))
      refine sm_seq (sm_asg (x := .int (k.length : Nat)) ((ev_ixT (ds := [.int (y.2.length : Nat), sD y.1]) ((ev_max (d := enc x) (ds := xs.map enc) (ev_var rfl) (plain_enc (x :: xs)) (alike_enc (x :: xs)) (depthAll_le fun z hz => ?_)).cast (by rw [hmax]; rfl)) ev_int rfl).cast (by rw [hyl])) (sm_go ?_))
      · obtain ⟨p, _, rfl⟩ := List.mem_map.mp (show z ∈ (x :: xs).map enc from hz)
        simp [enc, PyData.depth, PyData.depthAll]
      have hq1 : q.1.length ≤ 3 := (hv.pt q hqm).1.2.1
      refine sm_seq (sm_asg (x := sD (wd ++ q.1)) (ev_addS (ev_var rfl) ((ev_min (d := sD q.1) (ds := (rs.map Prod.fst).map sD) (EvO.d ((eo_lc (h := enc) (as := x :: xs) (p := fun p => decide (p.2.length = k.length)) (r := fun c => _) (f := fun p => sD p.1) (wk_L (ev_var rfl)) ?_ (fun c _ => tw_tup (tws_cons (tw_name (by simp)) (tws_cons (tw_name (by simp)) tws_nil)) rfl) (fun p hp => ?_) fun p hp _ => ev_var rfl).mono fun ys e => ?_)) (plain_strs (q.1 :: rs.map Prod.fst)) (alike_strs (q.1 :: rs.map Prod.fst)) (depthAll_le fun z hz => ?_)).cast (min_first hmin)) (size_ok ?_)) (sm_go ?_))
      · rw [← hxs]
        exact Nat.lt_of_le_of_lt (List.length_filter_le _ _) hv.sl
      · exact (et_t (ev_eqI (ev_var rfl) (ev_var rfl))).mono fun b e => by rw [e]; exact decide_eq_decide.mpr (by omega)
      · rw [e, ← hxs, f2, hrs, List.map_cons, List.map_map]
        rfl
      · obtain ⟨p, _, rfl⟩ := List.mem_map.mp (show z ∈ (q.1 :: rs.map Prod.fst).map sD from hz)
        simp [PyData.depth]
      · omega
      · refine sm_asg ((ev_slS (ev_var rfl) (eb_some (ev_var rfl)) eb_none tl0).cast (by rw [cut_drop])) ?_
        refine ⟨t.length - k.length, by omega, t.drop k.length, wd ++ q.1, _, _, rfl, ?_, ?_, ?_, rfl, rfl⟩
        · rw [List.length_drop]
        · rw [hsp]
          show Option.map _ (mapL (revT sch) t) = Option.map _ (mapL (revT sch) (t.drop k.length))
          rw [mapL_some hne e, hlk]
          cases mapL (revT sch) (t.drop k.length) with
          | none => rfl
          | some m =>
            show some (wd ++ (q.1 ++ m)) = some (wd ++ q.1 ++ m)
            rw [List.append_assoc]
        · rw [List.length_append, List.length_drop]
          omega
  · have he : t = [] := by simpa using h
    subst he
    refine sm_go (sm_ret (ev_var rfl) ?_)
    show sD _ = _
    rw [hsp]
    show sD _ = optS (Option.map _ (mapL (revT sch) []))
    rw [mapL_nil]
    simp [optS]
end Tr

set_option Elab.async false
set_option linter.all false
set_option maxRecDepth 100000
namespace Tr
open PySem PySem.Spec PyProof.Rows L2 TL
variable [PWc] {K : PySem.W.Frag} {mg : Str → Option Value} {base : Heap}
theorem okS {l : List Nat} (h : l.length ≤ 100000) : OkD (sD l) := .str _ (by rw [S_len]; exact h)
theorem Valid.ok {sch : Sch} (hv : Valid sch) : OkD (schD sch) := by
  refine .tup _ (by rw [List.length_map]; have := hv.hi; omega) fun x hx => ?_
  obtain ⟨p, hp, rfl⟩ := List.mem_map.mp hx
  have := hv.pt p hp
  refine .tup _ (by simp) fun y hy => ?_
  simp only [List.mem_cons, List.not_mem_nil, or_false] at hy
  rcases hy with rfl | rfl
  · exact okS (by have := this.1.2.1; omega)
  · exact okS (by have := this.2.2.1; omega)
theorem isStr_yes {lo hi : Nat} {al l : List Nat} (h : Wd al lo hi l) : isStr lo hi al (sD l) = true := by
  rw [isStr_s]
  obtain ⟨h1, h2, h3⟩ := h
  simp only [Bool.and_eq_true, decide_eq_true_eq, List.all_eq_true]
  exact ⟨⟨by omega, by omega⟩, h3⟩
theorem Valid.lets_pos {sch : Sch} (hv : Valid sch) : 0 < (lets sch).length := by
  cases sch with
  | nil => exact absurd hv.lo (by simp)
  | cons p r =>
    have hp := (hv.pt p (by simp)).1
    obtain ⟨c, hc⟩ := List.exists_mem_of_length_pos hp.1
    have := hv.cl
    unfold clo at this
    rw [List.all_eq_true] at this
    have h2 := this (decide ([c] ∈ (p :: r).map (·.1))) (List.mem_flatMap.mpr ⟨p.1, by simp, List.mem_map.mpr ⟨c, hc, rfl⟩⟩)
    exact List.length_pos_of_mem (mem_lets.mpr (of_decide_eq_true h2))
theorem wr_mem {sch : Sch} {l : List Nat} {c : Nat} (h : c ∈ wr sch l) : ∃ p ∈ sch, c ∈ p.2 := by
  unfold wr mapL at h
  cases e : splitL sch l with
  | none => rw [e] at h; cases h
  | some ps =>
    rw [e] at h
    obtain ⟨k, hk, hc⟩ := List.mem_flatMap.mp h
    cases e2 : look sch k with
    | none => rw [e2] at hc; cases hc
    | some v => rw [e2] at hc; exact ⟨_, look_some e2, hc⟩
/-! ### the law's frame -/
def spLaw (K : PySem.W.Frag) : Sp := fun vs H Q _ => ∃ (a : Addr) (ns : List Int), vs = [.ref a] ∧ SqL K H a (ns.map V.int) ∧ ∀ H', Q (.bl true) H'
theorem law_body {N : List Str} {W : WX} {a : Addr} {ns : List Int} {H : Hp} {D : Ends} {u : TS} (hs : SqL K H a (ns.map V.int)) (hN : 2 ≤ N.length) (hq : ∀ H', D.rt (.bl true) H') (hb : ∀ T, Sm T W u (slotsT K ns N []) { rt := fun y _ => y = .bool true }) : tSeq (tAsg (tLst (tCons (tC (.int 0)) (tCons (tC (.int 0)) tNil))) (gName 1)) u D (L2.start N [.ref a]) H := by
  refine ⟨by show 2 ≤ sizeLine; exact size_ok (by decide), fun p hp => ?_⟩
  show u D ((L2.start N [.ref a]).set 1 (some (.ref p))) (upd H p (.lst [.int 0, .int 0]))
  have e0 : (L2.start N [V.ref a]).set 1 (some (.ref p)) = L2.start N [.ref a, .ref p] := by
    unfold L2.start
    obtain ⟨n, hn⟩ : ∃ n, N.length = n + 2 := ⟨N.length - 2, by omega⟩
    rw [hn]
    show ([some (V.ref a)] ++ List.replicate (n + 1) none).set 1 (some (.ref p)) = [some (V.ref a), some (V.ref p)] ++ List.replicate n none
    rw [List.replicate_succ]
    rfl
  rw [e0]
  have env := env_startT (K := K) (F := H) (H := upd H p (.lst [.int 0, .int 0])) (N := N) (vs := []) (ds := []) (sa := a) (tw := p) (ns := ns) (same_new hp) hp ⟨_, upd_same, fun _ _ => ⟨0, 0, Int.le_refl _, rfl⟩⟩ hs .nil
  exact hb _ H _ _ H _ D env (fun _ _ _ _ _ _ z => z.elim) (fun v σ' F' H' ρ' x _ r e => by cases (show x = .bool true from e); rw [r.bl_eq]; exact hq H') (fun _ _ _ _ _ _ z => z.elim) (fun _ _ _ _ _ _ z => z.elim) fun _ _ _ _ _ _ _ z => z.elim
theorem law_fn {x : Str} {st : Stmt} {N : List Str} {k : Nat} {f : Addr} {fd : FuncData} (F : FunD K x x (defArgs st) (defBody st) (defScope st) [] [] f fd) (sc : FnScope N ["script"] (defScope st)) (hN : 2 ≤ N.length)
    (hb : ∀ (cdv : Value) (A : Around) (outer : List PySem.Env) (s : Shared) (H : Hp) (E : XK), Room k (A.deeper (envOfC x (defScope st) s.heap.objs.size f cdv)) →
      ∃ u, PSs (cxOf L2.CX0 P w K mg base N x (defScope st) f cdv A outer s H E) (defBody st) (tSeq (tAsg (tLst (tCons (tC (.int 0)) (tCons (tC (.int 0)) tNil))) (gName 1)) u) ∧ ∀ T ns, Sm T (fun c d _ H' => E c d H') u (slotsT K ns N []) { rt := fun y _ => y = .bool true }) : FnOk P w K mg base L2.CX0 (k + 1) f fd ["script"] (spLaw K) := by
  refine F.ok sc (fun vs H Q E h => ?_) fun cdv A outer s H vs Q E hr h => ?_
  · obtain ⟨a, ns, rfl, _⟩ := h
    rfl
  · obtain ⟨a, ns, rfl, hs, q⟩ := h
    obtain ⟨u, hu, hsm⟩ := hb cdv A outer s H E hr
    exact ⟨_, hu, law_body (K := K) hs hN q fun T => hsm T ns⟩
/-! ### law -/
theorem ev_notBl {T : Tn} {ρ : List Sl} {ta tb : TE} {b c : Bool} (ha : Ev T ta ρ (.bool b)) (hb : Ev T tb ρ (.bool c)) : Ev T (tOp rNotB ta tb) ρ (.bool (!decide (b = c))) := ev_op ha hb (rv_bl fun F H v u s rx ry Q q => ⟨b, c, rx.bl_eq, ry.bl_eq, q⟩)
theorem ev_isBl {T : Tn} {ρ : List Sl} {ta tb : TE} {b c : Bool} (ha : Ev T ta ρ (.bool b)) (hb : Ev T tb ρ (.bool c)) : Ev T (tOp rIsB ta tb) ρ (.bool (decide (b = c))) := ev_op ha hb (rv_bl fun F H v u s rx ry Q q => ⟨b, c, rx.bl_eq, ry.bl_eq, q⟩)
/-- x != x is false -/
theorem ev_neX {T : Tn} {ρ : List Sl} {ta tb : TE} {x : PyData} (ha : Ev T ta ρ x) (hb : Ev T tb ρ x) (hx : x.plain = true) (hd : x.depth ≤ 60) : Ev T (tOp (rNeP K) ta tb) ρ (.bool false) := (ev_ne ha hb hx hx (by rw [Nat.min_self]; exact hd)).cast (by rw [PySem.SeqAt.eqv_refl_plain x hx]; rfl)
theorem depth_strs (ss : List (List Nat)) : (PyData.list (ss.map sD)).depth ≤ 60 := by
  simp only [PyData.depth]
  have : PyData.depthAll (ss.map sD) ≤ 1 := depthAll_le fun x hx => by
    obtain ⟨l, _, rfl⟩ := List.mem_map.mp hx
    simp [PyData.depth]
  omega
theorem plain_list {xs : List PyData} (h : PyData.plainAll xs = true) : (PyData.list xs).plain = true := by
  simp only [PyData.plain]
  exact h
end Tr

set_option Elab.async false
set_option linter.all false
set_option maxRecDepth 100000
/-! E1: statements and tests over data by chance. -/
namespace Tr
open PySem PySem.Spec PyProof.Rows L2 TL
variable [PWc] {K : PySem.W.Frag}
section
variable {T : Tn} {W : WX} {ρ : List Sl} {Po' : Po} {ta tb te : TE} {i j : Nat}
theorem sm_parP2 {A B : PyData → Prop} (h1 : EvP T ta ρ A) (h2 : EvP T tb ρ B) (k : ∀ x y, A x → B y → Po'.nx ((ρ.set i (.d x)).set j (.d y))) : Sm T W (tPar i j (tCons ta (tCons tb tNil))) ρ Po' := fun F0 H0 σ F H D e k1 _ _ _ _ =>
  h1 F0 H0 σ F H e _ fun v F1 H1 x e1 px r1 => h2 F0 H0 σ F1 H1 (e.ext e1) _ fun u F2 H2 y e2 py r2 =>
    ⟨_, _, rfl, k1 _ F2 H2 _ (e1.ff.trans e2.ff) (((e.ext (e1.trans e2)).setD (r1.mono e2.ff)).setD r2) (k x y px py)⟩
theorem ety_and {t u : TT} {B1 B2 B : Bool → Prop} (h1 : EvT T t ρ B1) (h2 : B1 true → EvT T u ρ B2) (k0 : B1 false → B false) (k1 : ∀ b, B1 true → B2 b → B b) : EvT T (tAnd t u) ρ B := fun F0 H0 σ F H e Q q => h1 F0 H0 σ F H e _ fun v F1 H1 e1 p => by
  cases v with
  | true => exact iteT (h2 p F0 H0 σ F1 H1 (e.ext e1) _ fun w F2 H2 e2 pw => q w F2 H2 (e1.trans e2) (k1 w p pw))
  | false => exact iteF (q false F1 H1 e1 (k0 p))
theorem ety_or {t u : TT} {B1 B2 B : Bool → Prop} (h1 : EvT T t ρ B1) (h2 : B1 false → EvT T u ρ B2) (k0 : B1 true → B true) (k1 : ∀ b, B1 false → B2 b → B b) : EvT T (tOr t u) ρ B := fun F0 H0 σ F H e Q q => h1 F0 H0 σ F H e _ fun v F1 H1 e1 p => by
  cases v with
  | false => exact iteF (h2 p F0 H0 σ F1 H1 (e.ext e1) _ fun w F2 H2 e2 pw => q w F2 H2 (e1.trans e2) (k1 w p pw))
  | true => exact iteT (q true F1 H1 e1 (k0 p))
theorem ety_not {t : TT} {B1 B : Bool → Prop} (h1 : EvT T t ρ B1) (k : ∀ b, B1 b → B (!b)) : EvT T (tNot t) ρ B := fun F0 H0 σ F H e Q q => h1 F0 H0 σ F H e _ fun v F1 H1 e1 p => q _ F1 H1 e1 (k v p)
theorem evp_nn {R : PyData → Prop} (ha : EvP T ta ρ R) : EvP T (tOp (fun x y H Q => y = .non ∧ Q (.bl (!decide (x = .non))) H) ta (tC .non)) ρ fun d => ∃ x, R x ∧ d = .bool (!isNone x) := fun F0 H0 σ F H e Q q =>
  ha F0 H0 σ F H e _ fun v F1 H1 x e1 px r1 => ⟨rfl, by
    rw [rp_non r1]
    exact q _ F1 H1 _ e1 ⟨x, px, rfl⟩ (.bl _)⟩
theorem evp_in {R : PyData → Prop} (ha : EvP T ta ρ R) : EvP T (tOp (fun x y H Q => y = .non ∧ Q (.bl (decide (x = .non))) H) ta (tC .non)) ρ fun d => ∃ x, R x ∧ d = .bool (isNone x) := fun F0 H0 σ F H e Q q =>
  ha F0 H0 σ F H e _ fun v F1 H1 x e1 px r1 => ⟨rfl, by
    rw [rp_non r1]
    exact q _ F1 H1 _ e1 ⟨x, px, rfl⟩ (.bl _)⟩
/-- != over data by chance -/
theorem evp_ne {A B : PyData → Prop} (ha : EvP T ta ρ A) (hb : EvP T tb ρ B) (hx : ∀ x, A x → x.plain = true ∧ x.depth ≤ 60) (hy : ∀ y, B y → y.plain = true) : EvP T (tOp (rNeP K) ta tb) ρ fun d => ∃ x y, A x ∧ B y ∧ d = .bool (!PyData.eqv x y) :=
  evp_op ha hb fun x y px py => (rv_ne (hx x px).1 (hy y py) (Nat.le_trans (Nat.min_le_left _ _) (hx x px).2)).p ⟨x, y, px, py, rfl⟩
theorem evp_eq {A B : PyData → Prop} (ha : EvP T ta ρ A) (hb : EvP T tb ρ B) (hx : ∀ x, A x → x.plain = true ∧ x.depth ≤ 60) (hy : ∀ y, B y → y.plain = true) : EvP T (tOp (rEqP K) ta tb) ρ fun d => ∃ x y, A x ∧ B y ∧ d = .bool (PyData.eqv x y) :=
  evp_op ha hb fun x y px py => (rv_eq (hx x px).1 (hy y py) (Nat.le_trans (Nat.min_le_left _ _) (hx x px).2)).p ⟨x, y, px, py, rfl⟩
/-- x != y, both by chance and always the same -/
theorem et_neP {A B : PyData → Prop} (ha : EvP T ta ρ A) (hb : EvP T tb ρ B) (hx : ∀ x, A x → x.plain = true ∧ x.depth ≤ 60) (h : ∀ x y, A x → B y → x = y) : EvT T (tTest (tOp (rNeP K) ta tb)) ρ fun b => b = false := by
  have aux : ∀ F0 H0 σ F H, Env T F0 H0 F H σ ρ → ∀ Q : Bool → Hp → Prop, (∀ b F' H', Ext T F H F' H' → b = false → Q b H') → tTest (tOp (rNeP K) ta tb) σ H Q := fun F0 H0 σ F H e Q q => by
    refine ha F0 H0 σ F H e _ fun v F1 H1 x e1 px r1 => hb F0 H0 σ F1 H1 (e.ext e1) _ fun u F2 H2 y e2 py r2 => ?_
    have hxy := h x y px py
    subst hxy
    have hp := hx x px
    refine rv_ne (T := T) hp.1 hp.1 (by rw [Nat.min_self]; exact hp.2) F2 H2 v u e2.fh (fun b hb => ((e.ext (e1.trans e2)).tn b hb)) (r1.mono e2.ff) r2 _ fun w F3 H3 e3 r3 => ?_
    rw [PySem.SeqAt.eqv_refl_plain x hp.1] at r3
    have := r3.bl_eq
    subst this
    exact ⟨_, rfl, q _ F3 H3 (e1.trans (e2.trans e3)) rfl⟩
  exact aux
/-- dict(zip(a text, one of some texts)) -/
theorem en_zipP {a : List Nat} {ks : List (List Nat)} {R : List (Key × PyData) → Prop} (ha : Ev T ta ρ (sD a)) (hb : EvP T tb ρ fun y => ∃ v ∈ ks, y = sD v) (hl : a.length ≤ sizeLine) (h : ∀ v ∈ ks, R (mergeD (zipL a v))) : EvN T (tDictZ (tCons ta (tCons tb tNil))) ρ R := fun F0 H0 σ F H e Q q =>
  ha F0 H0 σ F H e _ fun v F1 H1 e1 r1 => hb F0 H0 σ F1 H1 (e.ext e1) _ fun u F2 H2 x e2 px r2 => by
    obtain ⟨b, hb, rfl⟩ := px
    have e12 := e1.trans e2
    have e3 := e.ext e12
    refine ⟨S a, S b, by rw [r1.str_eq, r2.str_eq], Nat.le_trans (Nat.min_le_left ..) (by simpa using hl), fun p hp => ?_⟩
    exact q p _ _ _ _ (e12.trans (Ext.new1 e3.le hp)) (freshH e e12 hp) (e3.le.free hp) upd_same (h b hb) ((zipL_rp a b).merge .nil)
end
end Tr

set_option Elab.async false
set_option linter.all false
set_option maxRecDepth 100000
/-! E2: pairs of texts in order; more statements. -/
namespace Tr
open PySem PySem.Spec PyProof.Rows L2 TL
variable [PWc] {K : PySem.W.Frag}
abbrev Ent2 := List Nat × List Nat
def ltE (a b : Ent2) : Prop := a.1 < b.1 ∨ (a.1 = b.1 ∧ a.2 < b.2)
theorem ltE_iff (a b : Ent2) : PySem.W.dataLt (entD a) (entD b) = true ↔ ltE a b := by
  unfold entD ltE
  rw [PySem.W.dataLt_pair (by simp [PySem.W.alike]) (by simp [PySem.W.alike]), eqv_str, eqv_str, PySem.W.dataLt_str, PySem.W.dataLt_str]
  by_cases h1 : a.1 = b.1
  · rw [if_pos (decide_eq_true h1)]
    by_cases h2 : a.2 = b.2
    · rw [if_pos (decide_eq_true h2)]
      constructor
      · intro h
        cases h
      · rintro (h | ⟨_, h⟩)
        · rw [h1] at h
          exact absurd h (List.lt_irrefl _)
        · rw [h2] at h
          exact absurd h (List.lt_irrefl _)
    · rw [if_neg (by rw [decide_eq_false h2]; simp)]
      constructor
      · exact fun h => .inr ⟨h1, of_decide_eq_true h⟩
      · rintro (h | ⟨_, h⟩)
        · rw [h1] at h
          exact absurd h (List.lt_irrefl _)
        · exact decide_eq_true h
  · rw [if_neg (by rw [decide_eq_false h1]; simp)]
    constructor
    · exact fun h => .inl (of_decide_eq_true h)
    · rintro (h | ⟨h, _⟩)
      · exact decide_eq_true h
      · exact absurd h h1
theorem ltE_trans {a b c : Ent2} (h1 : ltE a b) (h2 : ltE b c) : ltE a c := by
  rcases h1 with h1 | ⟨e1, h1⟩
  · rcases h2 with h2 | ⟨e2, h2⟩
    · exact .inl (List.lt_trans h1 h2)
    · exact .inl (e2 ▸ h1)
  · rcases h2 with h2 | ⟨e2, h2⟩
    · exact .inl (by rw [e1]; exact h2)
    · exact .inr ⟨e1.trans e2, List.lt_trans h1 h2⟩
theorem ltE_tri (a b : Ent2) : ltE a b ∨ a = b ∨ ltE b a := by
  rcases lt_tri a.1 b.1 with h | h | h
  · exact .inl (.inl h)
  · rcases lt_tri a.2 b.2 with h2 | h2 | h2
    · exact .inl (.inr ⟨h, h2⟩)
    · exact .inr (.inl (Prod.ext h h2))
    · exact .inr (.inr (.inr ⟨h.symm, h2⟩))
  · exact .inr (.inr (.inl h))
theorem ltE_irrefl (a : Ent2) : ¬ ltE a a := by
  rintro (h | ⟨_, h⟩)
  · exact absurd h (List.lt_irrefl _)
  · exact absurd h (List.lt_irrefl _)
def leE (a b : Ent2) : Bool := PySem.W.dataLe false id (entD a) (entD b)
theorem leE_iff (a b : Ent2) : leE a b = true ↔ ¬ ltE b a := by
  unfold leE
  rw [PySem.W.dataLe_eq]
  show (!PySem.W.dataLt (entD b) (entD a)) = true ↔ _
  rw [← ltE_iff]
  simp
theorem srt_ents {es : Sch} (nd : (es.map (·.1)).Nodup) : ∃ sc : Sch, srtD (es.map entD) = sc.map entD ∧ sc.Perm es ∧ srt (sc.map (·.1)) = true := by
  refine ⟨es.mergeSort leE, ?_, List.mergeSort_perm _ _, ?_⟩
  · unfold srtD
    rw [List.map_mergeSort (s := PySem.W.dataLe false id)]
    intro a _ b _
    rfl
  · have h1 : (es.mergeSort leE).Pairwise fun a b => leE a b = true := List.pairwise_mergeSort (fun a b c h1 h2 => by
        rw [leE_iff] at h1 h2 ⊢
        intro h3
        rcases ltE_tri a b with h | h | h
        · exact h2 (ltE_trans h3 h)
        · subst h
          exact h2 h3
        · exact h1 h) (fun a b => by
        rcases ltE_tri a b with h | h | h
        · rw [(leE_iff a b).mpr fun z => ltE_irrefl _ (ltE_trans h z)]
          rfl
        · subst h
          rw [(leE_iff a a).mpr (ltE_irrefl a)]
          rfl
        · rw [(leE_iff b a).mpr fun z => ltE_irrefl _ (ltE_trans h z)]
          simp) es
    have h2 : ((es.mergeSort leE).map (·.1)).Nodup := ((List.mergeSort_perm es leE).map _).nodup_iff.mpr nd
    refine srt_of_lt (List.pairwise_map.mpr ((h1.and (List.pairwise_map.mp h2)).imp fun {a b} ⟨h, hne⟩ => ?_))
    rw [leE_iff] at h
    rcases lt_tri a.1 b.1 with h3 | h3 | h3
    · exact h3
    · exact absurd h3 hne
    · exact absurd (.inl h3) h
section
variable {T : Tn} {W : WX} {ρ : List Sl} {Po' : Po} {ta tb te : TE} {i j : Nat}
/-- sorted(a list of pairs of texts) -/
theorem eo_sortE {es : Sch} (ha : Ev T ta ρ (.list (es.map entD))) (nd : (es.map (·.1)).Nodup) (hl : es.length ≤ 100000) : EvO T (tCB (rSortDt K) (tCons ta tNil)) ρ fun ys => ∃ sc : Sch, ys = sc.map entD ∧ sc.Perm es ∧ srt (sc.map (·.1)) = true := by
  refine (eo_sortDt ha (plainAll_of fun x hx => ?_) (fun x hx y hy => ?_) (.inl fun x hx => ?_) (fun x hx => ?_) (by rw [List.length_map]; exact hl)).mono fun ys e => ?_
  · obtain ⟨p, _, rfl⟩ := List.mem_map.mp hx
    rfl
  · obtain ⟨p, _, rfl⟩ := List.mem_map.mp hx
    obtain ⟨q, _, rfl⟩ := List.mem_map.mp hy
    simp [entD, PySem.W.alike, PySem.W.alikeAll]
  · obtain ⟨p, _, rfl⟩ := List.mem_map.mp hx
    exact ⟨_, _, rfl⟩
  · obtain ⟨p, _, rfl⟩ := List.mem_map.mp hx
    simp [entD, PyData.depth, PyData.depthAll]
  · obtain ⟨sc, h1, h2, h3⟩ := srt_ents nd
    exact ⟨sc, e.trans h1, h2, h3⟩
theorem sm_parPO {x : PyData → Prop} {R : List PyData → Prop} (h1 : EvP T ta ρ x) (h2 : EvO T tb ρ R) (k : ∀ y ys, x y → R ys → Po'.nx ((ρ.set i (.d y)).set j (.ol ys))) : Sm T W (tPar i j (tCons ta (tCons tb tNil))) ρ Po' := fun F0 H0 σ F H D e k1 _ _ _ _ =>
  h1 F0 H0 σ F H e _ fun v F1 H1 y e1 py r1 => h2 F0 H0 σ F1 H1 (e.ext e1) _ fun a vs ys F2 H2 e2 hn hf hv p r2 =>
    ⟨_, _, rfl, k1 _ F2 H2 _ (e1.ff.trans e2.ff) (((e.ext e1).setD r1).newL e2 hn hf hv r2) (k y ys py p)⟩
/-- a text cut at a length by chance -/
theorem evp_takeS {a : List Nat} {A : Int → Prop} (ha : Ev T ta ρ (sD a)) (hb : EvI T te ρ A) (hl : a.length ≤ sizeLine) : EvP T (tSl (rSlU K) ta tNoPart (tPart te)) ρ fun d => ∃ n, A n ∧ d = sD (cutL a none (some n)) := fun F0 H0 σ F H e Q q =>
  ha F0 H0 σ F H e _ fun v F1 H1 e1 r1 => hb F0 H0 σ F1 H1 (e.ext e1) _ fun u F2 H2 x e2 px r2 => by
    obtain ⟨n, hn, rfl⟩ := px
    refine ⟨n, r2.int_eq, .inl ⟨S a, r1.str_eq, by rw [S_len]; exact hl, ?_⟩⟩
    rw [cutS_S]
    exact q _ F2 H2 _ (e1.trans e2) ⟨n, hn, rfl⟩ (.str _)
end
end Tr

set_option Elab.async false
set_option linter.all false
set_option maxRecDepth 100000
namespace Tr
open PySem PySem.Spec PyProof.Rows L2 TL
variable [PWc] {K : PySem.W.Frag} {mg : Str → Option Value} {base : Heap}
/-! ### cutting at a sign -/
theorem spl_c {c x : Nat} {acc r : List Nat} : TL.spl [c] 0 acc (x :: r) = if x = c then acc :: TL.spl [c] 0 [] r else TL.spl [c] 0 (acc ++ [x]) r := by
  have hp : TL.pre [c] (x :: r) = decide (x = c) := by
    unfold TL.pre
    show ([x] == [c]) = _
    by_cases h : x = c
    · rw [decide_eq_true h, h]
      exact beq_self_eq_true _
    · rw [decide_eq_false h]
      exact beq_eq_false_iff_ne.mpr fun e => h (List.cons.inj e).1
  by_cases h : x = c
  · rw [if_pos h, TL.spl_hit (by rw [hp]; exact decide_eq_true h)]
    rfl
  · rw [if_neg h, TL.spl_miss (by rw [hp]; exact decide_eq_false h)]
theorem spl_len (c : Nat) : ∀ (l acc : List Nat), (TL.spl [c] 0 acc l).length ≤ l.length + 1 ∧ ∀ x ∈ TL.spl [c] 0 acc l, x.length ≤ acc.length + l.length
  | [], acc => by
    rw [TL.spl_nil]
    exact ⟨Nat.le_refl _, fun x hx => by rw [List.mem_singleton.mp hx]; simp⟩
  | x :: r, acc => by
    rw [spl_c]
    by_cases h : x = c
    · rw [if_pos h]
      obtain ⟨h1, h2⟩ := spl_len c r []
      refine ⟨by rw [List.length_cons, List.length_cons]; omega, fun y hy => ?_⟩
      rw [List.length_cons]
      rcases List.mem_cons.mp hy with rfl | hy
      · omega
      · have := h2 y hy
        rw [List.length_nil] at this
        omega
    · rw [if_neg h]
      obtain ⟨h1, h2⟩ := spl_len c r (acc ++ [x])
      refine ⟨by rw [List.length_cons]; omega, fun y hy => ?_⟩
      have := h2 y hy
      rw [List.length_append, List.length_singleton] at this
      rw [List.length_cons]
      omega
theorem spl_ne (c : Nat) : ∀ (l acc : List Nat), TL.spl [c] 0 acc l ≠ []
  | [], acc => by
    rw [TL.spl_nil]
    simp
  | x :: r, acc => by
    rw [spl_c]
    split
    · simp
    · exact spl_ne c r _
theorem spl_free2 (c : Nat) : ∀ (l acc : List Nat), c ∉ acc → ∀ x ∈ TL.spl [c] 0 acc l, c ∉ x
  | [], acc, h => by
    rw [TL.spl_nil]
    intro x hx
    rw [List.mem_singleton.mp hx]
    exact h
  | y :: r, acc, h => by
    rw [spl_c]
    split
    · intro x hx
      rcases List.mem_cons.mp hx with rfl | hx
      · exact h
      · exact spl_free2 c r [] (by simp) x hx
    · rename_i hy
      exact spl_free2 c r (acc ++ [y]) (by simp [h]; exact fun e => hy e.symm)
theorem spl_mem (c : Nat) : ∀ (l acc : List Nat), ∀ x ∈ TL.spl [c] 0 acc l, ∀ y ∈ x, y ∈ acc ∨ y ∈ l
  | [], acc => by
    rw [TL.spl_nil]
    intro x hx
    rw [List.mem_singleton.mp hx]
    exact fun y hy => .inl hy
  | z :: r, acc => by
    rw [spl_c]
    split
    · intro x hx y hy
      rcases List.mem_cons.mp hx with rfl | hx
      · exact .inl hy
      · rcases spl_mem c r [] x hx y hy with h | h
        · cases h
        · exact .inr (List.mem_cons_of_mem _ h)
    · intro x hx y hy
      rcases spl_mem c r (acc ++ [z]) x hx y hy with h | h
      · rcases List.mem_append.mp h with h | h
        · exact .inl h
        · rw [List.mem_singleton.mp h]
          exact .inr (by simp)
      · exact .inr (List.mem_cons_of_mem _ h)
theorem join_spl (c : Nat) : ∀ (l acc : List Nat), joinL [c] (TL.spl [c] 0 acc l) = acc ++ l
  | [], acc => by
    rw [TL.spl_nil]
    simp [joinL]
  | x :: r, acc => by
    rw [spl_c]
    split
    · rename_i h
      have ih := join_spl c r []
      cases e : TL.spl [c] 0 [] r with
      | nil => exact absurd e (spl_ne c r [])
      | cons a s =>
        rw [e] at ih
        show acc ++ ([c] ++ joinL [c] (a :: s)) = acc ++ x :: r
        rw [ih, h]
        rfl
    · rw [join_spl c r (acc ++ [x]), List.append_assoc]
      rfl
/-! ### pairs in order -/
def encP (q : Nat × List Nat) : PyData := .tuple [.int (q.1 : Nat), sD q.2]
def ltP (a b : Nat × List Nat) : Prop := a.1 < b.1 ∨ (a.1 = b.1 ∧ a.2 < b.2)
theorem encP_inj {a b : Nat × List Nat} (h : encP a = encP b) : a = b := by
  unfold encP at h
  injection h with h
  injection h with h1 h2
  injection h2 with h2 _
  injection h1 with h1
  injection h2 with h2
  obtain ⟨a1, a2⟩ := a
  obtain ⟨b1, b2⟩ := b
  have e1 : a1 = b1 := by
    have : (a1 : Int) = b1 := h1
    omega
  have e2 : a2 = b2 := S_inj h2
  rw [e1, e2]
theorem ltP_iff (a b : Nat × List Nat) : PySem.W.dataLt (encP a) (encP b) = true ↔ ltP a b := by
  unfold encP ltP
  rw [PySem.W.dataLt_pair (by simp [PySem.W.alike]) (by simp [PySem.W.alike]), eqv_int, eqv_str, PySem.W.dataLt_int, PySem.W.dataLt_str]
  by_cases h1 : a.1 = b.1
  · have h1' : decide ((a.1 : Int) = b.1) = true := decide_eq_true (by omega)
    rw [if_pos h1']
    by_cases h2 : a.2 = b.2
    · rw [if_pos (decide_eq_true h2)]
      constructor
      · intro h
        cases h
      · rintro (h | ⟨_, h⟩)
        · omega
        · rw [h2] at h
          exact absurd h (List.lt_irrefl _)
    · rw [if_neg (by rw [decide_eq_false h2]; simp)]
      constructor
      · intro h
        exact .inr ⟨h1, of_decide_eq_true h⟩
      · rintro (h | ⟨_, h⟩)
        · omega
        · exact decide_eq_true h
  · have h1' : ¬ decide ((a.1 : Int) = b.1) = true := by
      rw [decide_eq_true_eq]
      omega
    rw [if_neg h1']
    constructor
    · intro h
      have := of_decide_eq_true h
      exact .inl (by omega)
    · rintro (h | ⟨h, _⟩)
      · exact decide_eq_true (by omega)
      · exact absurd h h1
theorem ltP_irrefl (a : Nat × List Nat) : ¬ ltP a a := by
  rintro (h | ⟨_, h⟩)
  · omega
  · exact absurd h (List.lt_irrefl _)
theorem ltP_trans {a b c : Nat × List Nat} (h1 : ltP a b) (h2 : ltP b c) : ltP a c := by
  rcases h1 with h1 | ⟨e1, h1⟩
  · rcases h2 with h2 | ⟨e2, h2⟩
    · exact .inl (by omega)
    · exact .inl (by omega)
  · rcases h2 with h2 | ⟨e2, h2⟩
    · exact .inl (by omega)
    · exact .inr ⟨by omega, List.lt_trans h1 h2⟩
theorem ltP_tri (a b : Nat × List Nat) : ltP a b ∨ a = b ∨ ltP b a := by
  rcases Nat.lt_trichotomy a.1 b.1 with h | h | h
  · exact .inl (.inl h)
  · by_cases h2 : a.2 < b.2
    · exact .inl (.inr ⟨h, h2⟩)
    · rcases List.le_iff_lt_or_eq.mp (List.not_lt.mp h2) with h3 | h3
      · exact .inr (.inr (.inr ⟨h.symm, h3⟩))
      · exact .inr (.inl (Prod.ext h h3.symm))
  · exact .inr (.inr (.inl h))
theorem ltP_neg {a b c : Nat × List Nat} (h1 : ¬ ltP a b) (h2 : ¬ ltP b c) : ¬ ltP a c := by
  intro h
  rcases ltP_tri a b with h3 | h3 | h3
  · exact h1 h3
  · rw [h3] at h
    exact h2 h
  · rcases ltP_tri b c with h4 | h4 | h4
    · exact h2 h4
    · rw [h4] at h3
      exact absurd (ltP_trans h h3) (ltP_irrefl _)
    · exact absurd (ltP_trans h (ltP_trans h4 h3)) (ltP_irrefl _)
theorem min_encP : ∀ (xs : List (Nat × List Nat)) (x : Nat × List Nat), ∃ y ∈ x :: xs, PySem.W.minD (encP x) (xs.map encP) = encP y ∧ ∀ z ∈ x :: xs, ¬ ltP z y
  | [], x => ⟨x, by simp, rfl, fun z hz => by rw [List.mem_singleton.mp hz]; exact ltP_irrefl _⟩
  | a :: r, x => by
    have hstep : PySem.W.minD (encP x) ((a :: r).map encP) = PySem.W.minD (if PySem.W.dataLt (encP a) (encP x) = true then encP a else encP x) (r.map encP) := rfl
    rw [hstep]
    by_cases h : PySem.W.dataLt (encP a) (encP x) = true
    · rw [if_pos h]
      obtain ⟨y, hy, e, hz⟩ := min_encP r a
      have h1 := (ltP_iff a x).mp h
      refine ⟨y, List.mem_cons_of_mem _ hy, e, fun z hz' => ?_⟩
      rcases List.mem_cons.mp hz' with rfl | hz'
      · exact fun h2 => hz a (by simp) (ltP_trans h1 h2)
      · exact hz z hz'
    · rw [if_neg h]
      obtain ⟨y, hy, e, hz⟩ := min_encP r x
      have h1 : ¬ ltP a x := fun z => h ((ltP_iff a x).mpr z)
      refine ⟨y, ?_, e, fun z hz' => ?_⟩
      · rcases List.mem_cons.mp hy with rfl | hy
        · simp
        · simp [hy]
      · rcases List.mem_cons.mp hz' with rfl | hz'
        · exact hz z (by simp)
        · rcases List.mem_cons.mp hz' with rfl | hz'
          · exact ltP_neg h1 (hz x (by simp))
          · exact hz z (by simp [hz'])
theorem alike_encP (xs : List (Nat × List Nat)) : PySem.W.AlikeAll (xs.map encP) := by
  constructor
  · intro x hx y hy
    obtain ⟨p, _, rfl⟩ := List.mem_map.mp hx
    obtain ⟨q, _, rfl⟩ := List.mem_map.mp hy
    simp [encP, PySem.W.alike, PySem.W.alikeAll]
  · intro x hx e
    obtain ⟨p, _, rfl⟩ := List.mem_map.mp hx
    cases e
theorem plain_encP (xs : List (Nat × List Nat)) : PyData.plainAll (xs.map encP) = true := plainAll_of fun x hx => by
  obtain ⟨p, _, rfl⟩ := List.mem_map.mp hx
  rfl
theorem depth_encP (xs : List (Nat × List Nat)) : PyData.depthAll (xs.map encP) ≤ 60 := depthAll_le fun x hx => by
  obtain ⟨p, _, rfl⟩ := List.mem_map.mp hx
  simp [encP, PyData.depth, PyData.depthAll]
theorem eqnil_map {α : Type} (f : α → PyData) (xs : List α) : PyData.eqv (.list (xs.map f)) (.list []) = decide (xs = []) := by
  cases xs <;> rfl
/-- min of pairs -/
theorem ev_minP {T : Tn} {ρ : List Sl} {ta : TE} {xs : List (Nat × List Nat)} (ha : Ev T ta ρ (.list (xs.map encP))) (hx : xs ≠ []) : ∃ y ∈ xs, (∀ z ∈ xs, ¬ ltP z y) ∧ Ev T (tCB (rMinU K) (tCons ta tNil)) ρ (encP y) := by
  cases xs with
  | nil => exact absurd rfl hx
  | cons x r =>
    obtain ⟨y, hy, e, hz⟩ := min_encP r x
    refine ⟨y, hy, hz, ?_⟩
    rw [← e]
    exact ev_min (d := encP x) (ds := r.map encP) ha (plain_encP (x :: r)) (alike_encP (x :: r)) (depth_encP (x :: r))
/-- a list is empty, or not -/
theorem ev_neNil {α : Type} {T : Tn} {ρ : List Sl} {ta : TE} {f : α → PyData} {xs : List α} (ha : Ev T ta ρ (.list (xs.map f))) (hp : PyData.plainAll (xs.map f) = true) : Ev T (tOp (rNeP K) ta (tLst tNil)) ρ (.bool (!decide (xs = []))) :=
  (ev_ne ha (EvO.d (eo_lst ea_nil fun xs e => by rw [e]; exact size_ok (Nat.zero_le _))) (plain_list hp) rfl (Nat.le_trans (Nat.min_le_right _ _) (by decide))).cast (by rw [eqnil_map])
theorem ev_eqNil {α : Type} {T : Tn} {ρ : List Sl} {ta : TE} {f : α → PyData} {xs : List α} (ha : Ev T ta ρ (.list (xs.map f))) (hp : PyData.plainAll (xs.map f) = true) : Ev T (tOp (rEqP K) ta (tLst tNil)) ρ (.bool (decide (xs = []))) :=
  (ev_eq ha (EvO.d (eo_lst ea_nil fun xs e => by rw [e]; exact size_ok (Nat.zero_le _))) (plain_list hp) rfl (Nat.le_trans (Nat.min_le_right _ _) (by decide))).cast (by rw [eqnil_map])
end Tr

set_option Elab.async false
set_option linter.all false
set_option maxRecDepth 100000
namespace Tr
open PySem PySem.Spec PyProof.Rows L2 TL
variable [PWc] {K : PySem.W.Frag} {mg : Str → Option Value} {base : Heap}
/-! ### the pieces of a word -/
def segs (sch : Sch) (wd : List Nat) : List (List Nat) := (splitL sch wd).getD []
def txt (sch : Sch) (ps : List (List Nat)) : List Nat := ps.flatMap fun k => (look sch k).getD []
def gd (sch : Sch) (ps : List (List Nat)) : Bool := decide (rd sch (txt sch ps) = some ps.flatten)
def subP (ps : List (List Nat)) (s t : Nat) : List (List Nat) := (ps.drop s).take (t - s)
abbrev kk (s t : Nat) : NestedKey := .tup [.num (s : Int), .num (t : Int)]
theorem kk_inj {s t s' t' : Nat} (h : kk s t = kk s' t') : s = s' ∧ t = t' := by
  injection h with h
  injection h with h1 h2
  injection h2 with h2 _
  injection h1 with h1
  injection h2 with h2
  exact ⟨by omega, by omega⟩
theorem kk_dep (s t : Nat) : (kk s t).depth ≤ 8 := by simp [NestedKey.depth, NestedKey.depthAll]
def Cov (f : Nat → Nat → PyData) (L n m : Nat) (T : ND) : Prop := ∀ s t, s < t → t ≤ L → (s < n ∨ (s = n ∧ t ≤ m)) → atM T (kk s t) = some (f s t)
theorem Cov.start (f : Nat → Nat → PyData) (L : Nat) : Cov f L 0 0 [] := fun s t h1 h2 h3 => by omega
theorem Cov.put {f : Nat → Nat → PyData} {L n m : Nat} {T : ND} (h : Cov f L n m T) : Cov f L n (m + 1) (putM T (kk n (m + 1)) (f n (m + 1))) := fun s t h1 h2 h3 => by
  rw [atM_put]
  by_cases e : kk s t = kk n (m + 1)
  · obtain ⟨rfl, rfl⟩ := kk_inj e
    rw [if_pos rfl]
  · rw [if_neg e]
    refine h s t h1 h2 ?_
    rcases h3 with h3 | ⟨rfl, h3⟩
    · exact .inl h3
    · refine .inr ⟨rfl, ?_⟩
      rcases Nat.lt_or_ge m t with h4 | h4
      · exfalso
        have : t = m + 1 := by omega
        exact e (by rw [this])
      · exact h4
theorem Cov.next {f : Nat → Nat → PyData} {L n : Nat} {T : ND} (h : Cov f L n L T) : Cov f L (n + 1) (n + 1) T := fun s t h1 h2 h3 => by
  refine h s t h1 h2 ?_
  rcases h3 with h3 | ⟨rfl, h3⟩
  · rcases Nat.lt_or_ge s n with h4 | h4
    · exact .inl h4
    · exact .inr ⟨by omega, h2⟩
  · omega
theorem Cov.from {f : Nat → Nat → PyData} {L n : Nat} {T : ND} (h : Cov f L n n T) : ∀ s t, s < t → t ≤ L → s < n → atM T (kk s t) = some (f s t) := fun s t h1 h2 h3 => h s t h1 h2 (.inl h3)
theorem sIx_nat {L n : Nat} {d : Nat} (h : n ≤ L) : HT.sIx L d (some (n : Int)) = n := by
  unfold HT.sIx
  have : ¬ (n : Int) < 0 := by omega
  simp [this]
  omega
theorem cut_both {α : Type} (l : List α) {s t : Nat} (hs : s ≤ l.length) (ht : t ≤ l.length) : cutL l (some (s : Int)) (some (t : Int)) = (l.drop s).take (t - s) := by
  unfold cutL
  rw [sIx_nat hs, sIx_nat ht]
structure IxP where
  sch : Sch
  wd : List Nat
def preP (i : IxP) : Prop := Valid i.sch ∧ i.wd.length ≤ 40 ∧ ∀ c ∈ i.wd, c ∈ lets i.sch
def txtD (sch : Sch) (ps : List (List Nat)) (s t : Nat) : PyData := sD (txt sch (subP ps s t))
def gdD (sch : Sch) (ps : List (List Nat)) (s t : Nat) : PyData := .bool (gd sch (subP ps s t))
def spPieces : Sp := Fsp (fun i : IxP => [schD i.sch, sD i.wd]) preP (fun i y => ∃ A B : ND, y = .tuple [.list ((segs i.sch i.wd).map sD), ndD A, ndD B] ∧ Cov (txtD i.sch (segs i.sch i.wd)) (segs i.sch i.wd).length (segs i.sch i.wd).length (segs i.sch i.wd).length A ∧ Cov (gdD i.sch (segs i.sch i.wd)) (segs i.sch i.wd).length (segs i.sch i.wd).length (segs i.sch i.wd).length B) noX
theorem segs_ok {sch : Sch} {wd : List Nat} (h : ∀ c ∈ wd, c ∈ lets sch) : splitL sch wd = some (segs sch wd) ∧ (∀ k ∈ segs sch wd, (look sch k).isSome = true ∧ 1 ≤ k.length ∧ k.length ≤ 3) ∧ (segs sch wd).length ≤ wd.length ∧ (segs sch wd).flatten = wd := by
  obtain ⟨ps, e⟩ := splitL_tot (tb := sch) (l := wd) fun c hc => mem_lets.mp (h c hc)
  have e2 : segs sch wd = ps := by
    unfold segs
    rw [e]
    rfl
  rw [e2]
  exact ⟨e, splitF_ok e⟩
theorem txt_len {sch : Sch} (hv : Valid sch) (ps : List (List Nat)) : (txt sch ps).length ≤ ps.length * 3 := flatMap_len fun k hk => by
  cases e : look sch k with
  | none => exact Nat.zero_le _
  | some v => exact hv.t3 _ (look_some e)
theorem subP_len (ps : List (List Nat)) (s t : Nat) : (subP ps s t).length ≤ ps.length := by
  unfold subP
  rw [List.length_take, List.length_drop]
  omega
theorem subP_mem {ps : List (List Nat)} {s t : Nat} {k : List Nat} (h : k ∈ subP ps s t) : k ∈ ps := List.mem_of_mem_drop (List.mem_of_mem_take h)
theorem range_get {j : Int} {i : Nat} {x : PyData} {b : Int} (h : ((List.range j.toNat).map fun (i : Nat) => PyData.int (b + (i : Int)))[i]? = some x) : (i : Int) < j ∧ x = .int (b + i) := by
  rw [List.getElem?_map] at h
  cases hr : (List.range j.toNat)[i]? with
  | none =>
    rw [hr] at h
    cases h
  | some k =>
    rw [hr] at h
    obtain ⟨h1, h2⟩ := List.getElem?_eq_some_iff.mp hr
    rw [List.length_range] at h1
    rw [List.getElem_range] at h2
    subst h2
    cases h
    exact ⟨by omega, rfl⟩
end Tr

set_option Elab.async false
set_option linter.all false
set_option maxRecDepth 100000
namespace Tr
open PySem PySem.Spec PyProof.Rows L2 TL
variable [PWc] {K : PySem.W.Frag} {mg : Str → Option Value} {base : Heap}
/-! ### markings, plainly -/
def tailT (ps : List (List Nat)) (t : List Nat) : List Nat := if ps = [] then [] else 39 :: t
inductive Vm (sch : Sch) : List (List Nat) → Nat → List Nat → Prop
  | nil : Vm sch [] 0 []
  | cons {p ps : List (List Nat)} {n : Nat} {t : List Nat} : p ≠ [] → gd sch p = true → Vm sch ps n t → Vm sch (p ++ ps) (n + 1) (txt sch p ++ tailT ps t)
theorem Vm.inv {sch : Sch} {qs : List (List Nat)} {n : Nat} {t : List Nat} (h : Vm sch qs n t) (hq : qs ≠ []) : ∃ j n' t', 1 ≤ j ∧ j ≤ qs.length ∧ gd sch (qs.take j) = true ∧ Vm sch (qs.drop j) n' t' ∧ n = n' + 1 ∧ t = txt sch (qs.take j) ++ tailT (qs.drop j) t' := by
  cases h with
  | nil => exact absurd rfl hq
  | cons hp hg hv =>
    rename_i p ps n' t'
    refine ⟨p.length, n', t', List.length_pos_iff.mpr hp, by rw [List.length_append]; omega, ?_, ?_, rfl, ?_⟩
    · rw [List.take_left]
      exact hg
    · rw [List.drop_left]
      exact hv
    · rw [List.take_left, List.drop_left]
theorem Vm.of {sch : Sch} {qs : List (List Nat)} {j n : Nat} {t : List Nat} (h1 : 1 ≤ j) (h2 : j ≤ qs.length) (hg : gd sch (qs.take j) = true) (h : Vm sch (qs.drop j) n t) : Vm sch qs (n + 1) (txt sch (qs.take j) ++ tailT (qs.drop j) t) := by
  have := Vm.cons (p := qs.take j) (fun e => by
    have := congrArg List.length e
    rw [List.length_take, List.length_nil] at this
    omega) hg h
  rwa [List.take_append_drop] at this
theorem Vm.nil_inv {sch : Sch} {n : Nat} {t : List Nat} (h : Vm sch [] n t) : n = 0 ∧ t = [] := by
  generalize hq : ([] : List (List Nat)) = qs at h
  cases h with
  | nil => exact ⟨rfl, rfl⟩
  | cons hp hg hv => exact absurd (List.append_eq_nil_iff.mp hq.symm).1 hp
def IsB (sch : Sch) (ps : List (List Nat)) : Option (Nat × List Nat) → Prop
  | none => ∀ n t, ¬ Vm sch ps n t
  | some q => Vm sch ps q.1 q.2 ∧ ∀ n t, Vm sch ps n t → ¬ ltP (n, t) q
theorem isB_nil (sch : Sch) : IsB sch [] (some (0, [])) := ⟨.nil, fun n t h => by
  obtain ⟨rfl, rfl⟩ := h.nil_inv
  exact ltP_irrefl _⟩
theorem lt_app {a b : List Nat} : ∀ {x : List Nat}, x ++ a < x ++ b → a < b
  | [], h => h
  | c :: x, h => by
    rw [List.cons_append, List.cons_append, List.cons_lt_cons_iff] at h
    rcases h with h | ⟨_, h⟩
    · omega
    · exact lt_app h
theorem isB_mono {q q' : Nat × List Nat} {x : List Nat} {d : List (List Nat)} (h : ¬ ltP q q') : ¬ ltP (q.1 + 1, x ++ tailT d q.2) (q'.1 + 1, x ++ tailT d q'.2) := by
  rintro (h1 | ⟨h1, h2⟩)
  · dsimp only at h1
    exact h (.inl (by omega))
  · dsimp only at h1 h2
    have h3 := lt_app h2
    unfold tailT at h3
    by_cases hd : d = []
    · rw [if_pos hd, if_pos hd] at h3
      exact absurd h3 (List.lt_irrefl _)
    · rw [if_neg hd, if_neg hd, List.cons_lt_cons_iff] at h3
      rcases h3 with h3 | ⟨_, h3⟩
      · omega
      · exact h (.inr ⟨by omega, h3⟩)
theorem isB_step {sch : Sch} {qs : List (List Nat)} {O : List (Nat × List Nat)} (hq : qs ≠ []) (h : ∀ q, q ∈ O ↔ ∃ j q', 1 ≤ j ∧ j ≤ qs.length ∧ gd sch (qs.take j) = true ∧ IsB sch (qs.drop j) (some q') ∧ q = (q'.1 + 1, txt sch (qs.take j) ++ tailT (qs.drop j) q'.2))
    (hex : ∀ j, 1 ≤ j → j ≤ qs.length → ∃ o, IsB sch (qs.drop j) o) : (O = [] → IsB sch qs none) ∧ ∀ y ∈ O, (∀ z ∈ O, ¬ ltP z y) → IsB sch qs (some y) := by
  have key : ∀ n t, Vm sch qs n t → ∃ z ∈ O, ¬ ltP (n, t) z := fun n t hv => by
    obtain ⟨j, n', t', h1, h2, h3, h4, rfl, rfl⟩ := hv.inv hq
    obtain ⟨o, ho⟩ := hex j h1 h2
    cases o with
    | none => exact absurd h4 (ho n' t')
    | some q' => exact ⟨_, (h _).mpr ⟨j, q', h1, h2, h3, ho, rfl⟩, isB_mono (ho.2 n' t' h4)⟩
  constructor
  · rintro rfl n t hv
    obtain ⟨z, hz, _⟩ := key n t hv
    cases hz
  · intro y hy hmin
    obtain ⟨j, q', h1, h2, h3, h4, rfl⟩ := (h y).mp hy
    refine ⟨Vm.of h1 h2 h3 h4.1, fun n t hv => ?_⟩
    obtain ⟨z, hz, hn⟩ := key n t hv
    exact ltP_neg hn (hmin z hz)
theorem isB_some {sch : Sch} {ps : List (List Nat)} {a b : Nat × List Nat} (h1 : IsB sch ps (some a)) (h2 : IsB sch ps (some b)) : a = b := by
  rcases ltP_tri a b with h | h | h
  · exact absurd h (h2.2 _ _ h1.1)
  · exact h
  · exact absurd h (h1.2 _ _ h2.1)
/-! ### by pieces -/
def Pcs (sch : Sch) (ps : List (List Nat)) (Ps : List (List (List Nat))) : Prop := Ps.flatten = ps ∧ ∀ p ∈ Ps, p ≠ [] ∧ gd sch p = true
theorem vm_pcs {sch : Sch} {ps : List (List Nat)} {n : Nat} {t : List Nat} (h : Vm sch ps n t) : ∃ Ps, Pcs sch ps Ps ∧ n = Ps.length ∧ t = joinL [39] (Ps.map (txt sch)) := by
  induction h with
  | nil => exact ⟨[], ⟨rfl, fun p hp => (nomatch hp)⟩, rfl, rfl⟩
  | cons hp hg hv ih =>
    rename_i p ps n t
    obtain ⟨Ps, ⟨h1, h2⟩, h3, h4⟩ := ih
    refine ⟨p :: Ps, ⟨by rw [List.flatten_cons, h1], fun q hq => ?_⟩, by rw [h3]; rfl, ?_⟩
    · rcases List.mem_cons.mp hq with rfl | hq
      · exact ⟨hp, hg⟩
      · exact h2 q hq
    · cases Ps with
      | nil =>
        have : ps = [] := h1.symm
        rw [this]
        simp [tailT, joinL]
      | cons q r =>
        have : ps ≠ [] := fun e => by
          rw [e, List.flatten_cons] at h1
          exact (h2 q (by simp)).1 (List.append_eq_nil_iff.mp h1).1
        unfold tailT
        rw [if_neg this, h4]
        rfl
theorem pcs_vm {sch : Sch} : ∀ {Ps : List (List (List Nat))} {ps : List (List Nat)}, Pcs sch ps Ps → Vm sch ps Ps.length (joinL [39] (Ps.map (txt sch)))
  | [], ps, ⟨h1, _⟩ => by
    rw [← h1]
    exact .nil
  | p :: Ps, ps, ⟨h1, h2⟩ => by
    have ih := pcs_vm (sch := sch) (Ps := Ps) ⟨rfl, fun q hq => h2 q (List.mem_cons_of_mem _ hq)⟩
    have hc := Vm.cons (h2 p (by simp)).1 (h2 p (by simp)).2 ih
    rw [← h1, List.flatten_cons]
    have e : joinL [39] ((p :: Ps).map (txt sch)) = txt sch p ++ tailT Ps.flatten (joinL [39] (Ps.map (txt sch))) := by
      cases Ps with
      | nil => simp [tailT, joinL]
      | cons q r =>
        have : (q :: r).flatten ≠ [] := fun e => by
          rw [List.flatten_cons] at e
          exact (h2 q (by simp)).1 (List.append_eq_nil_iff.mp e).1
        unfold tailT
        rw [if_neg this]
        rfl
    rw [e]
    exact hc
def Mt (sch : Sch) (ps : List (List Nat)) (qs : List (List Nat)) : Prop := ∃ Ps, Pcs sch ps Ps ∧ Ps.map (txt sch) = qs
theorem mt_nil {sch : Sch} {ps : List (List Nat)} : Mt sch ps [] ↔ ps = [] := by
  constructor
  · rintro ⟨Ps, ⟨h1, _⟩, h⟩
    rw [List.map_eq_nil_iff.mp h] at h1
    exact h1.symm
  · rintro rfl
    exact ⟨[], ⟨rfl, fun p hp => (nomatch hp)⟩, rfl⟩
theorem mt_cons {sch : Sch} {ps : List (List Nat)} {q : List Nat} {qs : List (List Nat)} : Mt sch ps (q :: qs) ↔ ∃ j, 1 ≤ j ∧ j ≤ ps.length ∧ txt sch (ps.take j) = q ∧ gd sch (ps.take j) = true ∧ Mt sch (ps.drop j) qs := by
  constructor
  · rintro ⟨Ps, ⟨h1, h2⟩, h⟩
    cases Ps with
    | nil => cases h
    | cons p Ps =>
      rw [List.map_cons] at h
      injection h with h3 h4
      rw [List.flatten_cons] at h1
      have hp := h2 p (by simp)
      refine ⟨p.length, List.length_pos_iff.mpr hp.1, by rw [← h1, List.length_append]; omega, ?_, ?_, Ps, ⟨?_, fun x hx => h2 x (List.mem_cons_of_mem _ hx)⟩, h4⟩
      · rw [← h1, List.take_left]
        exact h3
      · rw [← h1, List.take_left]
        exact hp.2
      · rw [← h1, List.drop_left]
  · rintro ⟨j, h1, h2, h3, h4, Ps, ⟨h5, h6⟩, h7⟩
    refine ⟨ps.take j :: Ps, ⟨by rw [List.flatten_cons, h5, List.take_append_drop], fun p hp => ?_⟩, by rw [List.map_cons, h3, h7]⟩
    rcases List.mem_cons.mp hp with rfl | hp
    · refine ⟨fun e => ?_, h4⟩
      have := congrArg List.length e
      rw [List.length_take, List.length_nil] at this
      omega
    · exact h6 p hp
theorem txt_mem {sch : Sch} {ps : List (List Nat)} {c : Nat} (h : c ∈ txt sch ps) : ∃ p ∈ sch, c ∈ p.2 := by
  obtain ⟨k, hk, hc⟩ := List.mem_flatMap.mp h
  cases e : look sch k with
  | none =>
    rw [e] at hc
    cases hc
  | some v =>
    rw [e] at hc
    exact ⟨_, look_some e, hc⟩
theorem Valid.tlet {sch : Sch} (hv : Valid sch) : ∀ p ∈ sch, ∀ c ∈ p.2, c ∈ LET := fun p hp c hc => (hv.pt p hp).2.2.2 c hc
theorem Valid.slet {sch : Sch} (hv : Valid sch) : ∀ p ∈ sch, ∀ c ∈ p.1, c ∈ LET := fun p hp c hc => (hv.pt p hp).1.2.2 c hc
theorem txt_no {sch : Sch} (hv : Valid sch) (ps : List (List Nat)) : 39 ∉ txt sch ps := fun h => by
  obtain ⟨p, hp, hc⟩ := txt_mem h
  exact absurd (hv.tlet p hp 39 hc) (by decide)
theorem vm_mt {sch : Sch} (hv : Valid sch) {ps : List (List Nat)} (hp : ps ≠ []) (t : List Nat) : (∃ n, Vm sch ps n t) ↔ Mt sch ps (TL.spl [39] 0 [] t) := by
  constructor
  · rintro ⟨n, h⟩
    obtain ⟨Ps, h1, _, rfl⟩ := vm_pcs h
    refine ⟨Ps, h1, ?_⟩
    rw [TL.spl_join]
    · intro e
      rw [List.map_eq_nil_iff] at e
      rw [e] at h1
      exact hp h1.1.symm
    · intro q hq
      obtain ⟨p, _, rfl⟩ := List.mem_map.mp hq
      exact txt_no hv p
  · rintro ⟨Ps, h1, h2⟩
    refine ⟨Ps.length, ?_⟩
    have := pcs_vm h1
    rwa [h2, join_spl] at this
theorem txt_app (sch : Sch) (a b : List (List Nat)) : txt sch (a ++ b) = txt sch a ++ txt sch b := List.flatMap_append
theorem txt_pos {sch : Sch} (hv : Valid sch) {ps : List (List Nat)} (h : ∀ k ∈ ps, (look sch k).isSome = true) (hp : ps ≠ []) : 0 < (txt sch ps).length := by
  cases ps with
  | nil => exact absurd rfl hp
  | cons k r =>
    have hk := h k (by simp)
    cases e : look sch k with
    | none =>
      rw [e] at hk
      cases hk
    | some v =>
      have h1 : 0 < v.length := (hv.pt _ (look_some e)).2.1
      unfold txt
      rw [List.flatMap_cons, e, List.length_append]
      show 0 < v.length + _
      omega
/-- at most one stop fits -/
theorem txt_one {sch : Sch} (hv : Valid sch) {ps : List (List Nat)} (h : ∀ k ∈ ps, (look sch k).isSome = true) {i j : Nat} (hj : j ≤ ps.length) (hij : i < j) : txt sch (ps.take i) ≠ txt sch (ps.take j) := by
  intro e
  have e2 : ps.take j = ps.take i ++ (ps.drop i).take (j - i) := by
    have : j = i + (j - i) := by omega
    conv => lhs; rw [this, List.take_add]
  have hne : (ps.drop i).take (j - i) ≠ [] := fun z => by
    have := congrArg List.length z
    rw [List.length_take, List.length_drop, List.length_nil] at this
    omega
  have := txt_pos hv (ps := (ps.drop i).take (j - i)) (fun k hk => h k (List.mem_of_mem_drop (List.mem_of_mem_take hk))) hne
  have e3 := congrArg List.length e
  rw [e2, txt_app, List.length_append] at e3
  omega
def rdM (sch : Sch) : List (List Nat) → Option (List Nat)
  | [] => some []
  | q :: qs => match rd sch q, rdM sch qs with
    | some a, some b => some (a ++ b)
    | _, _ => none
theorem Vm.len {sch : Sch} (hv : Valid sch) {ps : List (List Nat)} {n : Nat} {t : List Nat} (h : Vm sch ps n t) : n ≤ ps.length ∧ t.length ≤ ps.length * 4 := by
  induction h with
  | nil => exact ⟨Nat.le_refl _, Nat.le_refl _⟩
  | cons hp hg hv' ih =>
    rename_i p ps n t
    have h1 := txt_len hv p
    have h2 := List.length_pos_iff.mpr hp
    rw [List.length_append, List.length_append]
    refine ⟨by omega, ?_⟩
    unfold tailT
    split
    · rw [List.length_nil]
      omega
    · rw [List.length_cons]
      omega
theorem Vm.mem {sch : Sch} (hv : Valid sch) {ps : List (List Nat)} {n : Nat} {t : List Nat} (h : Vm sch ps n t) : ∀ c ∈ t, c ∈ LET ++ [39] := by
  induction h with
  | nil => exact fun c hc => (nomatch hc)
  | cons hp hg hv' ih =>
    rename_i p ps n t
    intro c hc
    rcases List.mem_append.mp hc with hc | hc
    · obtain ⟨q, hq, hc⟩ := txt_mem hc
      exact List.mem_append_left _ (hv.tlet q hq c hc)
    · unfold tailT at hc
      split at hc
      · cases hc
      · rcases List.mem_cons.mp hc with rfl | hc
        · exact List.mem_append_right _ (by simp)
        · exact ih c hc
end Tr

set_option Elab.async false
set_option linter.all false
set_option maxRecDepth 100000
namespace Tr
open PySem PySem.Spec PyProof.Rows L2 TL
variable [PWc] {K : PySem.W.Frag} {mg : Str → Option Value} {base : Heap}
/-! ### the longest key, cutting by keys -/
theorem longL_iff {tb : Sch} {l k : List Nat} : longL tb l = some k ↔ k = l.take k.length ∧ 1 ≤ k.length ∧ k.length ≤ min 3 l.length ∧ (look tb k).isSome = true ∧ ∀ j, k.length < j → j ≤ min 3 l.length → (look tb (l.take j)).isSome = false := by
  constructor
  · intro h
    obtain ⟨h1, h2, h3, h4, h5⟩ := longL_some h
    refine ⟨h5, h1, by omega, h4, ?_⟩
    unfold longL at h
    cases e : longN tb l (min 3 l.length) with
    | none =>
      rw [e] at h
      cases h
    | some n =>
      rw [e] at h
      have hk : l.take n = k := Option.some.inj h
      have hn := longN_le _ _ e
      have hl : k.length = n := by
        rw [← hk, List.length_take]
        omega
      rw [hl]
      exact longN_max _ _ e
  · rintro ⟨h1, h2, h3, h4, h5⟩
    unfold longL
    cases e : longN tb l (min 3 l.length) with
    | none =>
      have := longN_none _ _ e k.length h2 h3
      rw [← h1, h4] at this
      cases this
    | some n =>
      have hn := longN_le _ _ e
      have hm := longN_max _ _ e
      rcases Nat.lt_trichotomy n k.length with h | h | h
      · have := hm k.length h h3
        rw [← h1, h4] at this
        cases this
      · show some (l.take n) = some k
        rw [h, ← h1]
      · have := h5 n h hn.2.1
        rw [hn.2.2] at this
        cases this
theorem longL_take {tb : Sch} {l k : List Nat} {m : Nat} (h : longL tb l = some k) (hm : k.length ≤ m) : longL tb (l.take m) = some k := by
  obtain ⟨h1, h2, h3, h4, h5⟩ := longL_iff.mp h
  refine longL_iff.mpr ⟨?_, h2, ?_, h4, fun j h6 h7 => ?_⟩
  · rw [List.take_take, Nat.min_eq_left hm]
    exact h1
  · rw [List.length_take]
    omega
  · rw [List.length_take] at h7
    rw [List.take_take, Nat.min_eq_left (by omega)]
    exact h5 j h6 (by omega)
theorem longL_pre {tb : Sch} {l k a b : List Nat} (h : longL tb l = some k) (hl : l = a ++ b) (ha : k.length ≤ a.length) : longL tb a = some k := by
  have := longL_take h ha
  rwa [hl, List.take_left] at this
theorem longL_app {tb : Sch} {l k : List Nat} (h : longL tb l = some k) : l = k ++ l.drop k.length := by
  obtain ⟨h1, _⟩ := longL_iff.mp h
  conv => lhs; rw [← List.take_append_drop k.length l, ← h1]
theorem splitL_inv {tb : Sch} {l k : List Nat} {ps : List (List Nat)} (h : splitL tb l = some (k :: ps)) : l ≠ [] ∧ longL tb l = some k ∧ splitL tb (l.drop k.length) = some ps := by
  have hl : l ≠ [] := fun e => by
    rw [e, splitL_nil] at h
    cases h
  cases e : longL tb l with
  | none =>
    rw [splitL_none hl e] at h
    cases h
  | some k' =>
    rw [splitL_some hl e] at h
    cases e2 : splitL tb (l.drop k'.length) with
    | none =>
      rw [e2] at h
      cases h
    | some qs =>
      rw [e2] at h
      cases h
      exact ⟨hl, rfl, e2⟩
theorem splitL_flat {tb : Sch} {l : List Nat} {ps : List (List Nat)} (h : splitL tb l = some ps) : ps.flatten = l := (splitF_ok h).2.2
theorem splitL_drop {tb : Sch} : ∀ {ps : List (List Nat)} {l : List Nat} (j : Nat), splitL tb l = some ps → splitL tb (ps.drop j).flatten = some (ps.drop j)
  | ps, l, 0, h => by
    rw [List.drop_zero, splitL_flat h]
    exact h
  | [], l, j + 1, h => by
    rw [List.drop_nil]
    rfl
  | k :: ps, l, j + 1, h => by
    rw [List.drop_succ_cons]
    exact splitL_drop j (splitL_inv h).2.2
theorem splitL_take {tb : Sch} : ∀ {ps : List (List Nat)} {l : List Nat} (j : Nat), splitL tb l = some ps → splitL tb (ps.take j).flatten = some (ps.take j)
  | ps, l, 0, h => by
    rw [List.take_zero]
    rfl
  | [], l, j + 1, h => by
    rw [List.take_nil]
    rfl
  | k :: ps, l, j + 1, h => by
    obtain ⟨h1, h2, h3⟩ := splitL_inv h
    have ih := splitL_take j h3
    rw [List.take_succ_cons, List.flatten_cons]
    have hk := (longL_some h2).1
    have hl : l = (k ++ (ps.take j).flatten) ++ (ps.drop j).flatten := by
      rw [List.append_assoc, ← List.flatten_append, List.take_append_drop, splitL_flat h3]
      exact longL_app h2
    have hlk := longL_pre h2 hl (by rw [List.length_append]; omega)
    have hne : k ++ (ps.take j).flatten ≠ [] := fun e => by
      rw [(List.append_eq_nil_iff.mp e).1] at hk
      simp at hk
    rw [splitL_some hne hlk, List.drop_left, ih]
    rfl
theorem segs_of {sch : Sch} {l : List Nat} {ps : List (List Nat)} (h : splitL sch l = some ps) : segs sch l = ps := by
  unfold segs
  rw [h]
  rfl
theorem wr_txt (sch : Sch) (l : List Nat) : wr sch l = txt sch (segs sch l) := by
  unfold wr mapL segs txt
  cases splitL sch l <;> rfl
/-- where a word may be cut -/
theorem segs_cut {sch : Sch} {u v : List Nat} (hu : ∀ c ∈ u, c ∈ lets sch) (hv : ∀ c ∈ v, c ∈ lets sch) : segs sch u ++ segs sch v = segs sch (u ++ v) ↔ ∃ j, j ≤ (segs sch (u ++ v)).length ∧ ((segs sch (u ++ v)).take j).flatten.length = u.length := by
  obtain ⟨u1, _, _, u4⟩ := segs_ok hu
  obtain ⟨v1, _, _, v4⟩ := segs_ok hv
  obtain ⟨w1, _, _, w4⟩ := segs_ok (sch := sch) (wd := u ++ v) fun c hc => (List.mem_append.mp hc).elim (hu c) (hv c)
  constructor
  · intro e
    refine ⟨(segs sch u).length, ?_, ?_⟩
    · rw [← e, List.length_append]
      omega
    · rw [← e, List.take_left, u4]
  · rintro ⟨j, h1, h2⟩
    have e1 : ((segs sch (u ++ v)).take j).flatten ++ ((segs sch (u ++ v)).drop j).flatten = u ++ v := by
      rw [← List.flatten_append, List.take_append_drop, w4]
    obtain ⟨e2, e3⟩ := List.append_inj e1 h2
    have t := splitL_take j w1
    have d := splitL_drop j w1
    rw [e2] at t
    rw [e3] at d
    rw [segs_of t, segs_of d, List.take_append_drop]
/-! ### lists as data -/
theorem eqv_strs : ∀ (a b : List (List Nat)), PyData.eqvAll (a.map sD) (b.map sD) = decide (a = b)
  | [], [] => rfl
  | [], _ :: _ => rfl
  | _ :: _, [] => rfl
  | x :: a, y :: b => by
    rw [List.map_cons, List.map_cons]
    simp only [PyData.eqvAll]
    rw [eqv_str, eqv_strs a b]
    by_cases h1 : x = y
    · by_cases h2 : a = b
      · simp [h1, h2]
      · simp [h1, h2]
    · simp [h1]
theorem eqv_strL (a b : List (List Nat)) : PyData.eqv (.list (a.map sD)) (.list (b.map sD)) = decide (a = b) := by
  rw [← eqv_strs a b]
  simp only [PyData.eqv]
theorem plain_strL (a : List (List Nat)) : (PyData.list (a.map sD)).plain = true := plain_list (plain_strs a)
theorem ev_eqL {T : Tn} {ρ : List Sl} {ta tb : TE} {a b : List (List Nat)} (ha : Ev T ta ρ (.list (a.map sD))) (hb : Ev T tb ρ (.list (b.map sD))) : Ev T (tOp (rEqP K) ta tb) ρ (.bool (decide (a = b))) := (ev_eq ha hb (plain_strL a) (plain_strL b) (Nat.le_trans (Nat.min_le_left _ _) (depth_strs a))).cast (by rw [eqv_strL])
theorem ev_addL {T : Tn} {ρ : List Sl} {ta tb : TE} {a b : List PyData} (ha : Ev T ta ρ (.list a)) (hb : Ev T tb ρ (.list b)) (h : a.length + b.length ≤ sizeLine) : Ev T (tOp (rAddU K) ta tb) ρ (.list (a ++ b)) := ev_op ha hb (rv_addL h)
theorem any_ints (l : List Nat) (n : Nat) : ((l.map fun k : Nat => PyData.int (k : Int)).any fun z => PyData.eqv z (.int (n : Int))) = decide (n ∈ l) := by
  induction l with
  | nil => rfl
  | cons a r ih =>
    rw [List.map_cons, List.any_cons, ih, eqv_int]
    by_cases h : a = n
    · simp [h]
    · have : ¬ ((a : Int) = (n : Int)) := by omega
      have h' : ¬ n = a := fun z => h z.symm
      simp [this, h']
theorem plain_natL (l : List Nat) : PyData.plainAll (l.map fun k : Nat => PyData.int (k : Int)) = true := plainAll_of fun x hx => by
  obtain ⟨p, _, rfl⟩ := List.mem_map.mp hx
  rfl
theorem ev_inI {T : Tn} {ρ : List Sl} {ta tb : TE} {f : Bool → Bool} {l : List Nat} {n : Nat} (ha : Ev T ta ρ (.int (n : Nat))) (hb : Ev T tb ρ (.list (l.map fun k : Nat => PyData.int (k : Int)))) : Ev T (tOp (rInU K f) ta tb) ρ (.bool (f (decide (n ∈ l)))) := (ev_inL ha hb rfl (plain_natL l) (by simp [PyData.depth])).cast (by rw [any_ints])
theorem max_ints : ∀ (xs : List Nat) (x : Nat), ∃ y ∈ x :: xs, PySem.W.maxD (.int (x : Nat)) (xs.map fun k : Nat => PyData.int (k : Int)) = .int (y : Nat) ∧ ∀ z ∈ x :: xs, z ≤ y
  | [], x => ⟨x, by simp, rfl, fun z hz => by rw [List.mem_singleton.mp hz]; exact Nat.le_refl _⟩
  | a :: r, x => by
    have hstep : PySem.W.maxD (.int (x : Nat)) ((a :: r).map fun k : Nat => PyData.int (k : Int)) = PySem.W.maxD (if PySem.W.dataLt (.int (x : Nat)) (.int (a : Nat)) = true then .int (a : Nat) else .int (x : Nat)) (r.map fun k : Nat => PyData.int (k : Int)) := rfl
    rw [hstep, PySem.W.dataLt_int]
    by_cases h : x < a
    · rw [if_pos (decide_eq_true (by omega))]
      obtain ⟨y, hy, e, hz⟩ := max_ints r a
      refine ⟨y, List.mem_cons_of_mem _ hy, e, fun z hz' => ?_⟩
      rcases List.mem_cons.mp hz' with rfl | hz'
      · have := hz a (by simp)
        omega
      · exact hz z hz'
    · rw [if_neg (by rw [decide_eq_true_eq]; omega)]
      obtain ⟨y, hy, e, hz⟩ := max_ints r x
      refine ⟨y, ?_, e, fun z hz' => ?_⟩
      · rcases List.mem_cons.mp hy with rfl | hy
        · simp
        · simp [hy]
      · rcases List.mem_cons.mp hz' with rfl | hz'
        · exact hz z (by simp)
        · rcases List.mem_cons.mp hz' with rfl | hz'
          · have := hz x (by simp)
            omega
          · exact hz z (by simp [hz'])
theorem alike_ints (xs : List Nat) : PySem.W.AlikeAll (xs.map fun k : Nat => PyData.int (k : Int)) := by
  constructor
  · intro x hx y hy
    obtain ⟨p, _, rfl⟩ := List.mem_map.mp hx
    obtain ⟨q, _, rfl⟩ := List.mem_map.mp hy
    simp [PySem.W.alike]
  · intro x hx e
    obtain ⟨p, _, rfl⟩ := List.mem_map.mp hx
    cases e
theorem ev_maxI {T : Tn} {ρ : List Sl} {ta : TE} {xs : List Nat} (ha : Ev T ta ρ (.list (xs.map fun k : Nat => PyData.int (k : Int)))) (hx : xs ≠ []) : ∃ y ∈ xs, (∀ z ∈ xs, z ≤ y) ∧ Ev T (tCB (rMaxP K PySem.W.maxD) (tCons ta tNil)) ρ (.int (y : Nat)) := by
  cases xs with
  | nil => exact absurd rfl hx
  | cons x r =>
    obtain ⟨y, hy, e, hz⟩ := max_ints r x
    refine ⟨y, hy, hz, ?_⟩
    rw [← e]
    exact ev_max (d := .int (x : Nat)) (ds := r.map fun k : Nat => PyData.int (k : Int)) ha (plain_natL (x :: r)) (alike_ints (x :: r)) (depthAll_le fun z hz => by
      obtain ⟨p, _, rfl⟩ := List.mem_map.mp (show z ∈ (x :: r).map fun k : Nat => PyData.int (k : Int) from hz)
      simp [PyData.depth])
/-- reading one target -/
theorem rd_step {sch : Sch} {t m : List Nat} (h : rd sch t = some m) (ht : t ≠ []) : ∃ k v m', longL (revT sch) t = some k ∧ look (revT sch) k = some v ∧ rd sch k = some v ∧ rd sch (t.drop k.length) = some m' ∧ m = v ++ m' := by
  unfold rd at h ⊢
  cases e : longL (revT sch) t with
  | none =>
    rw [mapL_none ht e] at h
    cases h
  | some k =>
    rw [mapL_some ht e] at h
    obtain ⟨k1, k2, k3, k4, k5⟩ := longL_iff.mp e
    obtain ⟨v, hv⟩ := Option.isSome_iff_exists.mp k4
    have hk : longL (revT sch) k = some k := longL_iff.mpr ⟨by rw [List.take_length], k2, by omega, k4, fun j h1 h2 => by omega⟩
    have hkn : k ≠ [] := fun z => by
      rw [z] at k2
      simp at k2
    cases e2 : mapL (revT sch) (t.drop k.length) with
    | none =>
      rw [e2] at h
      cases h
    | some m' =>
      rw [e2] at h
      refine ⟨k, v, m', rfl, hv, ?_, e2, ?_⟩
      · rw [mapL_some hkn hk, List.drop_length, mapL_nil, hv]
        simp
      · have : some ((look (revT sch) k).getD [] ++ m') = some m := h
        rw [hv] at this
        exact (Option.some.inj this).symm
end Tr

set_option Elab.async false
set_option linter.all false
set_option maxRecDepth 100000
namespace Tr
open PySem PySem.Spec PyProof.Rows L2 TL
variable [PWc] {K : PySem.W.Frag} {mg : Str → Option Value} {base : Heap}
/-! ### mapping with a buffer, plainly -/
def opn (tb : Sch) (b : List Nat) : Bool := decide (b = []) || tb.any fun p => decide (b.length < p.1.length) && decide (p.1.take b.length = b)
theorem opn_false {tb : Sch} {b : List Nat} (h : opn tb b = false) : b ≠ [] ∧ ∀ k, (look tb k).isSome = true → b.length < k.length → k.take b.length ≠ b := by
  unfold opn at h
  rw [Bool.or_eq_false_iff] at h
  refine ⟨of_decide_eq_false h.1, fun k hk hl he => ?_⟩
  rw [look_isSome] at hk
  obtain ⟨p, hp, rfl⟩ := List.mem_map.mp (of_decide_eq_true hk)
  have := List.any_eq_false.mp h.2 p hp
  simp [hl, he] at this
theorem longL_none_of {tb : Sch} {l : List Nat} {n : Nat} (hn : 1 ≤ n) (hl : n ≤ min 3 l.length) (hk : (look tb (l.take n)).isSome = true) : ∃ k, longL tb l = some k := by
  obtain ⟨j, hj⟩ := longN_some hn hk hl
  exact ⟨_, by unfold longL; rw [hj]; rfl⟩
theorem longL_opn {tb : Sch} {b : List Nat} (h : opn tb b = false) (x : List Nat) : longL tb (b ++ x) = longL tb b := by
  obtain ⟨hb, hno⟩ := opn_false h
  have long : ∀ j, b.length < j → j ≤ (b ++ x).length → (look tb ((b ++ x).take j)).isSome = false := fun j h1 h2 => by
    cases e : (look tb ((b ++ x).take j)).isSome with
    | false => rfl
    | true =>
      exfalso
      refine hno _ e ?_ ?_
      · rw [List.length_take]
        omega
      · rw [List.take_take, Nat.min_eq_left (by omega), List.take_left]
  cases e : longL tb b with
  | some k =>
    obtain ⟨h1, h2, h3, h4, h5⟩ := longL_iff.mp e
    have hle : k.length ≤ b.length := by omega
    refine longL_iff.mpr ⟨?_, h2, by rw [List.length_append]; omega, h4, fun j h6 h7 => ?_⟩
    · rw [List.take_append_of_le_length hle]
      exact h1
    · rcases Nat.lt_or_ge b.length j with h8 | h8
      · exact long j h8 (by omega)
      · rw [List.take_append_of_le_length h8]
        exact h5 j h6 (by omega)
  | none =>
    cases e2 : longL tb (b ++ x) with
    | none => rfl
    | some k =>
      exfalso
      obtain ⟨h1, h2, h3, h4, h5⟩ := longL_iff.mp e2
      rcases Nat.lt_or_ge b.length k.length with h8 | h8
      · have := long k.length h8 (by omega)
        rw [← h1, h4] at this
        cases this
      · have h1' : k = b.take k.length := by
          rw [List.take_append_of_le_length h8] at h1
          exact h1
        obtain ⟨k', hk'⟩ := longL_none_of (tb := tb) (l := b) h2 (by omega) (by rw [← h1']; exact h4)
        rw [e] at hk'
        cases hk'
theorem opn_app {tb : Sch} {b : List Nat} (h : opn tb b = false) (x : List Nat) : opn tb (b ++ x) = false := by
  obtain ⟨hb, hno⟩ := opn_false h
  unfold opn
  rw [Bool.or_eq_false_iff]
  refine ⟨decide_eq_false fun e => hb (List.append_eq_nil_iff.mp e).1, List.any_eq_false.mpr fun p hp z => ?_⟩
  simp only [Bool.and_eq_true, decide_eq_true_eq] at z
  obtain ⟨z1, z2⟩ := z
  rw [List.length_append] at z1
  refine hno p.1 ?_ (by omega) ?_
  · rw [look_isSome]
    exact decide_eq_true (List.mem_map.mpr ⟨p, hp, rfl⟩)
  · have := congrArg (List.take b.length) z2
    rw [List.take_take, List.length_append, Nat.min_eq_left (by omega), List.take_left] at this
    exact this
def feedF (tb : Sch) : Nat → List Nat → Option (List Nat × List Nat)
  | 0, b => if opn tb b = true then some (b, []) else none
  | n + 1, b => if opn tb b = true then some (b, []) else match longL tb b with
    | none => none
    | some k => (feedF tb n (b.drop k.length)).map fun r => (r.1, (look tb k).getD [] ++ r.2)
def feedL (tb : Sch) (b : List Nat) : Option (List Nat × List Nat) := feedF tb b.length b
theorem feedF_open {tb : Sch} {n : Nat} {b : List Nat} (h : opn tb b = true) : feedF tb n b = some (b, []) := by
  cases n <;> (unfold feedF; rw [if_pos h])
theorem feedF_fuel (tb : Sch) : ∀ {n m : Nat} {b : List Nat}, b.length ≤ n → b.length ≤ m → feedF tb n b = feedF tb m b
  | n, m, b, h1, h2 => by
    by_cases ho : opn tb b = true
    · rw [feedF_open ho, feedF_open ho]
    · have hb : b ≠ [] := (opn_false (by simpa using ho)).1
      have hp := List.length_pos_iff.mpr hb
      match n, m with
      | 0, _ => omega
      | n + 1, 0 => omega
      | n + 1, m + 1 =>
        unfold feedF
        rw [if_neg ho, if_neg ho]
        cases e : longL tb b with
        | none => rfl
        | some k =>
          have := (longL_some e).1
          show Option.map _ _ = Option.map _ _
          rw [feedF_fuel tb (n := n) (m := m) (by rw [List.length_drop]; omega) (by rw [List.length_drop]; omega)]
termination_by n => n
theorem feedL_open {tb : Sch} {b : List Nat} (h : opn tb b = true) : feedL tb b = some (b, []) := feedF_open h
theorem feedL_none {tb : Sch} {b : List Nat} (h : opn tb b = false) (e : longL tb b = none) : feedL tb b = none := by
  have hp := List.length_pos_iff.mpr (opn_false h).1
  unfold feedL
  obtain ⟨n, hn⟩ : ∃ n, b.length = n + 1 := ⟨b.length - 1, by omega⟩
  rw [hn]
  unfold feedF
  rw [if_neg (by rw [h]; simp), e]
theorem feedL_step {tb : Sch} {b k : List Nat} (h : opn tb b = false) (e : longL tb b = some k) : feedL tb b = (feedL tb (b.drop k.length)).map fun r => (r.1, (look tb k).getD [] ++ r.2) := by
  have hp := List.length_pos_iff.mpr (opn_false h).1
  have hk := (longL_some e).1
  unfold feedL
  obtain ⟨n, hn⟩ : ∃ n, b.length = n + 1 := ⟨b.length - 1, by omega⟩
  conv => lhs; rw [hn]; unfold feedF
  rw [if_neg (by rw [h]; simp), e]
  show Option.map _ _ = Option.map _ _
  rw [feedF_fuel tb (n := n) (m := (b.drop k.length).length) (by rw [List.length_drop]; omega) (Nat.le_refl _)]
/-- what a feed did: keys were taken, the rest is open -/
inductive Fed (tb : Sch) : List Nat → List Nat → List Nat → Prop
  | stop {b : List Nat} : opn tb b = true → Fed tb b b []
  | step {b k b' o : List Nat} : opn tb b = false → longL tb b = some k → Fed tb (b.drop k.length) b' o → Fed tb b b' ((look tb k).getD [] ++ o)
theorem fed_of {tb : Sch} : ∀ {n : Nat} {b : List Nat} {r : List Nat × List Nat}, b.length ≤ n → feedL tb b = some r → Fed tb b r.1 r.2
  | n, b, r, hn, h => by
    by_cases ho : opn tb b = true
    · rw [feedL_open ho] at h
      cases h
      exact .stop ho
    · have ho' : opn tb b = false := by simpa using ho
      cases e : longL tb b with
      | none =>
        rw [feedL_none ho' e] at h
        cases h
      | some k =>
        rw [feedL_step ho' e] at h
        obtain ⟨r', h1, h2⟩ := Option.map_eq_some_iff.mp h
        subst h2
        have hk := longL_some e
        have hb := List.length_pos_iff.mpr (opn_false ho').1
        match n with
        | 0 => omega
        | n + 1 => exact .step ho' e (fed_of (n := n) (by rw [List.length_drop]; omega) h1)
termination_by n => n
theorem feed_fed {tb : Sch} {b : List Nat} {r : List Nat × List Nat} (h : feedL tb b = some r) : Fed tb b r.1 r.2 := fed_of (Nat.le_refl _) h
theorem fed_feed {tb : Sch} {b b' o : List Nat} (h : Fed tb b b' o) : feedL tb b = some (b', o) := by
  induction h with
  | stop ho => exact feedL_open ho
  | step ho e _ ih =>
    rw [feedL_step ho e, ih]
    rfl
theorem Fed.open {tb : Sch} {b b' o : List Nat} (h : Fed tb b b' o) : opn tb b' = true := by
  induction h with
  | stop ho => exact ho
  | step _ _ _ ih => exact ih
theorem Fed.app {tb : Sch} {b b' o : List Nat} (h : Fed tb b b' o) (x : List Nat) : feedL tb (b ++ x) = (feedL tb (b' ++ x)).map fun r => (r.1, o ++ r.2) := by
  induction h with
  | stop ho =>
    rename_i b
    cases feedL tb (b ++ x) <;> rfl
  | step ho e _ ih =>
    rename_i b k b' o hf
    have hk := (longL_some e).2.1
    rw [feedL_step (opn_app ho x) (by rw [longL_opn ho]; exact e), List.drop_append_of_le_length hk, ih]
    cases feedL tb (b' ++ x) with
    | none => rfl
    | some r =>
      show some _ = some _
      dsimp only
      rw [List.append_assoc]
theorem Fed.map {tb : Sch} {b b' o : List Nat} (h : Fed tb b b' o) (x : List Nat) : mapL tb (b ++ x) = (mapL tb (b' ++ x)).map (o ++ ·) := by
  induction h with
  | stop ho =>
    rename_i b
    cases mapL tb (b ++ x) <;> rfl
  | step ho e _ ih =>
    rename_i b k b' o hf
    have hk := (longL_some e).2.1
    have hne : b ++ x ≠ [] := fun z => (opn_false ho).1 (List.append_eq_nil_iff.mp z).1
    rw [mapL_some hne (by rw [longL_opn ho]; exact e), List.drop_append_of_le_length hk, ih]
    cases mapL tb (b' ++ x) with
    | none => rfl
    | some r =>
      show some _ = some _
      dsimp only
      rw [List.append_assoc]
theorem Fed.map0 {tb : Sch} {b b' o : List Nat} (h : Fed tb b b' o) : mapL tb b = (mapL tb b').map (o ++ ·) := by
  have := h.map []
  rwa [List.append_nil, List.append_nil] at this
theorem Fed.len {tb : Sch} {n : Nat} {b b' o : List Nat} (h : Fed tb b b' o) (hb : ∀ p ∈ tb, p.2.length ≤ n) : b'.length ≤ b.length ∧ o.length ≤ (b.length - b'.length) * n := by
  induction h with
  | stop ho => exact ⟨Nat.le_refl _, by simp⟩
  | step ho e _ ih =>
    rename_i b k b' o hf
    obtain ⟨h1, h2, h3, h4, h5⟩ := longL_some e
    rw [List.length_drop] at ih
    obtain ⟨v, hv⟩ := Option.isSome_iff_exists.mp h4
    have hvl := hb _ (look_some hv)
    rw [hv, List.length_append]
    refine ⟨by omega, ?_⟩
    show v.length + o.length ≤ _
    have e2 : (b.length - b'.length) * n ≥ (b.length - k.length - b'.length) * n + n := by
      obtain ⟨d, hd⟩ : ∃ d, b.length - b'.length = (b.length - k.length - b'.length) + 1 + d := ⟨b.length - b'.length - (b.length - k.length - b'.length) - 1, by omega⟩
      rw [hd, Nat.add_mul, Nat.add_mul, Nat.one_mul]
      omega
    have hvl' : v.length ≤ n := hvl
    omega
theorem Fed.mem {tb : Sch} {b b' o : List Nat} (h : Fed tb b b' o) : (∀ c ∈ b', c ∈ b) ∧ ∀ c ∈ o, ∃ p ∈ tb, c ∈ p.2 := by
  induction h with
  | stop ho => exact ⟨fun c hc => hc, fun c hc => (nomatch hc)⟩
  | step ho e _ ih =>
    rename_i b k b' o hf
    refine ⟨fun c hc => List.mem_of_mem_drop (ih.1 c hc), fun c hc => ?_⟩
    rcases List.mem_append.mp hc with hc | hc
    · cases e2 : look tb k with
      | none =>
        rw [e2] at hc
        cases hc
      | some v =>
        rw [e2] at hc
        exact ⟨_, look_some e2, hc⟩
    · exact ih.2 c hc
/-- letters of a scheme are always taken -/
theorem opn_nil (tb : Sch) : opn tb [] = true := rfl
theorem feed_tot {tb : Sch} : ∀ {n : Nat} {b : List Nat}, b.length ≤ n → (∀ c ∈ b, [c] ∈ tb.map (·.1)) → ∃ r, feedL tb b = some r
  | 0, b, hn, h => by
    have hb : b = [] := List.length_eq_zero_iff.mp (by omega)
    rw [hb]
    exact ⟨_, feedL_open (opn_nil tb)⟩
  | n + 1, b, hn, h => by
    by_cases ho : opn tb b = true
    · exact ⟨_, feedL_open ho⟩
    · have ho' : opn tb b = false := by simpa using ho
      have hb := (opn_false ho').1
      have hk : ∃ k, longL tb b = some k := by
        cases b with
        | nil => exact absurd rfl hb
        | cons c l => exact longL_tot (h c (by simp))
      obtain ⟨k, e⟩ := hk
      have hk := longL_some e
      obtain ⟨r, hr⟩ := feed_tot (n := n) (b := b.drop k.length) (by rw [List.length_drop]; omega) fun x hx => h x (List.mem_of_mem_drop hx)
      exact ⟨_, by rw [feedL_step ho' e, hr]; rfl⟩
/-- a text that can be read on is always taken -/
theorem feed_tot2 {tb : Sch} : ∀ {n : Nat} {b x m : List Nat}, b.length ≤ n → mapL tb (b ++ x) = some m → ∃ r, feedL tb b = some r
  | n, b, x, m, hn, h => by
    by_cases ho : opn tb b = true
    · exact ⟨_, feedL_open ho⟩
    · have ho' : opn tb b = false := by simpa using ho
      have hb := (opn_false ho').1
      have hne : b ++ x ≠ [] := fun z => hb (List.append_eq_nil_iff.mp z).1
      cases e : longL tb b with
      | none =>
        rw [mapL_none hne (by rw [longL_opn ho']; exact e)] at h
        cases h
      | some k =>
        have hk := longL_some e
        rw [mapL_some hne (by rw [longL_opn ho']; exact e), List.drop_append_of_le_length hk.2.1] at h
        obtain ⟨m', h1, _⟩ := Option.map_eq_some_iff.mp h
        have hp := List.length_pos_iff.mpr hb
        match n with
        | 0 => omega
        | n + 1 =>
          obtain ⟨r, hr⟩ := feed_tot2 (n := n) (by rw [List.length_drop]; omega) h1
          exact ⟨_, by rw [feedL_step ho' e, hr]; rfl⟩
termination_by n => n
/-- the open buffers are few -/
def pres (tb : Sch) : List (List Nat) := [] :: tb.flatMap fun p => (List.range p.1.length).map p.1.take
theorem opn_pres {tb : Sch} {b : List Nat} (h : opn tb b = true) : b ∈ pres tb := by
  unfold opn at h
  rw [Bool.or_eq_true] at h
  rcases h with h | h
  · rw [of_decide_eq_true h]
    exact List.mem_cons_self
  · obtain ⟨p, hp, hq⟩ := List.any_eq_true.mp h
    simp only [Bool.and_eq_true, decide_eq_true_eq] at hq
    exact List.mem_cons_of_mem _ (List.mem_flatMap.mpr ⟨p, hp, List.mem_map.mpr ⟨b.length, List.mem_range.mpr hq.1, hq.2⟩⟩)
theorem pres_len {tb : Sch} (h : ∀ p ∈ tb, p.1.length ≤ 3) : (pres tb).length ≤ 1 + tb.length * 3 := by
  unfold pres
  rw [List.length_cons]
  have : ∀ {tb : Sch}, (∀ p ∈ tb, p.1.length ≤ 3) → (tb.flatMap fun p => (List.range p.1.length).map p.1.take).length ≤ tb.length * 3 := by
    intro tb
    induction tb with
    | nil => exact fun _ => by simp
    | cons p r ih =>
      intro h
      have h1 := h p (by simp)
      have h2 := ih fun q hq => h q (List.mem_cons_of_mem _ hq)
      rw [List.flatMap_cons, List.length_append, List.length_map, List.length_range, List.length_cons]
      omega
  have := this h
  omega
theorem nodup_sub {α : Type} [DecidableEq α] : ∀ {xs ys : List α}, xs.Nodup → (∀ x ∈ xs, x ∈ ys) → xs.length ≤ ys.length
  | [], ys, _, _ => Nat.zero_le _
  | x :: xs, ys, hn, hs => by
    obtain ⟨h1, h2⟩ := List.nodup_cons.mp hn
    have hx := hs x (by simp)
    have := nodup_sub (xs := xs) (ys := ys.erase x) h2 fun y hy => by
      have hne : y ≠ x := fun e => h1 (e ▸ hy)
      exact (List.mem_erase_of_ne hne).mpr (hs y (List.mem_cons_of_mem _ hy))
    rw [List.length_erase_of_mem hx] at this
    have hp := List.length_pos_of_mem hx
    rw [List.length_cons]
    omega
end Tr

set_option Elab.async false
set_option linter.all false
set_option maxRecDepth 100000
namespace Tr
open PySem PySem.Spec PyProof.Rows L2 TL
variable [PWc] {K : PySem.W.Frag} {mg : Str → Option Value} {base : Heap}
abbrev ftD (tb : Sch) : PyData := fdD (tb.map tk)
/-! ### tables that stand still -/
def spWriteTableF : Sp := Fsp (fun sch : Sch => [schD sch]) Valid (fun sch y => y = ftD sch) noX
def spReadTableF : Sp := Fsp (fun sch : Sch => [schD sch]) Valid (fun sch y => y = ftD (revT sch)) noX
/-! ### is_open, feed -/
def spIsOpen : Sp := Fsp (fun i : IxT => [ftD i.tb, sD i.l]) (fun i => i.l.length ≤ 5000000 ∧ i.tb.length ≤ 100 ∧ ∀ p ∈ i.tb, p.1.length ≤ 5) (fun i y => y = .bool (opn i.tb i.l)) noX
structure IxF where
  tb : Sch
  b : List Nat
  t : List Nat
def TbOk (tb : Sch) : Prop := tb.length ≤ 100 ∧ ∀ p ∈ tb, p.1.length ≤ 3 ∧ p.2.length ≤ 3
def spFeed : Sp := Fsp (fun i : IxF => [ftD i.tb, sD i.b, sD i.t]) (fun i => i.b.length + i.t.length ≤ 1000000 ∧ TbOk i.tb ∧ ∃ r, feedL i.tb (i.b ++ i.t) = some r) (fun i y => ∃ r, feedL i.tb (i.b ++ i.t) = some r ∧ y = .tuple [sD r.1, sD r.2]) noX
end Tr

set_option Elab.async false
set_option linter.all false
set_option maxRecDepth 100000
namespace Tr
open PySem PySem.Spec PyProof.Rows L2 TL
variable [PWc] {K : PySem.W.Frag} {mg : Str → Option Value} {base : Heap}
/-! ### words in order -/
def wlt (u v : List Nat) : Prop := u.length < v.length ∨ (u.length = v.length ∧ u < v)
def wle (u v : List Nat) : Prop := wlt u v ∨ u = v
theorem wle_refl (u : List Nat) : wle u u := .inr rfl
theorem wlt_trans {a b c : List Nat} (h1 : wlt a b) (h2 : wlt b c) : wlt a c := by
  rcases h1 with h1 | ⟨e1, h1⟩
  · rcases h2 with h2 | ⟨e2, h2⟩
    · exact .inl (by omega)
    · exact .inl (by omega)
  · rcases h2 with h2 | ⟨e2, h2⟩
    · exact .inl (by omega)
    · exact .inr ⟨by omega, List.lt_trans h1 h2⟩
theorem wle_trans {a b c : List Nat} (h1 : wle a b) (h2 : wle b c) : wle a c := by
  rcases h1 with h1 | rfl
  · rcases h2 with h2 | rfl
    · exact .inl (wlt_trans h1 h2)
    · exact .inl h1
  · exact h2
theorem wlt_of_le {a b c : List Nat} (h1 : wle a b) (h2 : wlt b c) : wlt a c := by
  rcases h1 with h1 | rfl
  · exact wlt_trans h1 h2
  · exact h2
theorem wlt_irrefl (a : List Nat) : ¬ wlt a a := by
  rintro (h | ⟨_, h⟩)
  · omega
  · exact absurd h (List.lt_irrefl _)
theorem lt_snoc {u v : List Nat} {c d : Nat} (hl : u.length = v.length) : u ++ [c] < v ++ [d] ↔ u < v ∨ (u = v ∧ c < d) := by
  induction u generalizing v with
  | nil =>
    cases v with
    | nil => simp [List.cons_lt_cons_iff]
    | cons y v => simp at hl
  | cons x u ih =>
    cases v with
    | nil => simp at hl
    | cons y v =>
      have hl' : u.length = v.length := by simpa using hl
      rw [List.cons_append, List.cons_append, List.cons_lt_cons_iff, List.cons_lt_cons_iff, ih hl']
      constructor
      · rintro (h | ⟨rfl, h | ⟨rfl, h⟩⟩)
        · exact .inl (.inl h)
        · exact .inl (.inr ⟨rfl, h⟩)
        · exact .inr ⟨rfl, h⟩
      · rintro ((h | ⟨rfl, h⟩) | ⟨h, h2⟩)
        · exact .inl h
        · exact .inr ⟨rfl, .inl h⟩
        · obtain ⟨rfl, rfl⟩ := List.cons.inj h
          exact .inr ⟨rfl, .inr ⟨rfl, h2⟩⟩
theorem wle_snoc {u v : List Nat} {c : Nat} (h : wle u v) : wle (u ++ [c]) (v ++ [c]) := by
  rcases h with (h | ⟨e, h⟩) | rfl
  · exact .inl (.inl (by rw [List.length_append, List.length_append]; simpa using h))
  · exact .inl (.inr ⟨by rw [List.length_append, List.length_append, e], (lt_snoc e).mpr (.inl h)⟩)
  · exact wle_refl _
/-! ### the search, plainly -/
abbrev Over (al w : List Nat) : Prop := ∀ c ∈ w, c ∈ al
structure Sim {κ : Type} (al : List Nat) (fd : List Nat → Bool) (st : List Nat → κ) : Prop where
  step : ∀ u v c, Over al u → Over al v → c ∈ al → fd u = false → fd v = false → st u = st v → fd (u ++ [c]) = fd (v ++ [c]) ∧ (fd (u ++ [c]) = false → st (u ++ [c]) = st (v ++ [c]))
def Dn {κ : Type} (fd : List Nat → Bool) (st : List Nat → κ) (S : List (List Nat)) (r : List Nat) : Prop := fd r = false ∧ ∃ s ∈ S, st s = st r ∧ wle s r
theorem Dn.mono {κ : Type} {fd : List Nat → Bool} {st : List Nat → κ} {S S' : List (List Nat)} {r : List Nat} (h : Dn fd st S r) (hs : ∀ s ∈ S, s ∈ S') : Dn fd st S' r := by
  obtain ⟨h1, s, h2, h3, h4⟩ := h
  exact ⟨h1, s, hs s h2, h3, h4⟩
/-- words that no one has found are told by one that was seen -/
theorem search_all {κ : Type} {al : List Nat} {fd : List Nat → Bool} {st : List Nat → κ} (sim : Sim al fd st) {S : List (List Nat)} {B : List Nat → Prop} (h0 : [] ∈ S) (f0 : fd [] = false) (hS : ∀ s ∈ S, Over al s ∧ fd s = false) (hB : ∀ p c, B (p ++ [c]) → B p)
    (hD : ∀ s p c, s ∈ S → c ∈ al → wle s p → B (p ++ [c]) → Dn fd st S (s ++ [c])) : ∀ v, Over al v → B v → Dn fd st S v := by
  intro v
  induction hn : v.length generalizing v with
  | zero =>
    intro _ _
    have : v = [] := List.length_eq_zero_iff.mp hn
    rw [this]
    exact ⟨f0, [], h0, rfl, wle_refl _⟩
  | succ n ih =>
    intro ho hb
    obtain ⟨p, c, rfl⟩ : ∃ p c, v = p ++ [c] := ⟨v.dropLast, v.getLast (fun e => by rw [e] at hn; simp at hn), (List.dropLast_concat_getLast _).symm⟩
    rw [List.length_append, List.length_singleton] at hn
    have hop : Over al p := fun x hx => ho x (List.mem_append_left _ hx)
    have hc : c ∈ al := ho c (by simp)
    obtain ⟨fp, s, hs, hst, hle⟩ := ih p (by omega) hop (hB p c hb)
    obtain ⟨f1, s', hs', hst', hle'⟩ := hD s p c hs hc hle hb
    obtain ⟨os, fs⟩ := hS s hs
    obtain ⟨q1, q2⟩ := sim.step s p c os hop hc fs fp hst
    exact ⟨by rw [← q1]; exact f1, s', hs', hst'.trans (q2 f1), wle_trans hle' (wle_snoc hle)⟩
/-- the state of the search: level n, the queue Q, L the next one so far, i words of Q done, j letters of the next one -/
structure Bfs {κ : Type} (al : List Nat) (fd : List Nat → Bool) (st : List Nat → κ) (n : Nat) (Q S L : List (List Nat)) (i j : Nat) : Prop where
  s0 : [] ∈ S
  f0 : fd [] = false
  ok : ∀ s ∈ S, Over al s ∧ fd s = false ∧ s.length ≤ n + 1
  lev : ∀ s ∈ S, s.length = n → s ∈ Q
  levL : ∀ s ∈ S, s.length = n + 1 → s ∈ L
  qs : ∀ q ∈ Q, q ∈ S ∧ q.length = n
  ls : ∀ l ∈ L, l ∈ S ∧ ∃ i' j' q c, Q[i']? = some q ∧ al[j']? = some c ∧ l = q ++ [c] ∧ (i' < i ∨ (i' = i ∧ j' < j))
  srt : Q.Pairwise (· < ·)
  srtL : L.Pairwise (· < ·)
  old : ∀ s ∈ S, s.length < n → ∀ c ∈ al, Dn fd st S (s ++ [c])
  done : ∀ i' j' q c, Q[i']? = some q → al[j']? = some c → (i' < i ∨ (i' = i ∧ j' < j)) → Dn fd st S (q ++ [c])
  nd : (S.map st).Nodup
  big : Q ≠ [] → n + 1 + L.length ≤ S.length
theorem pair_lt {xs : List (List Nat)} (h : xs.Pairwise (· < ·)) {i j : Nat} {a b : List Nat} (hi : xs[i]? = some a) (hj : xs[j]? = some b) (hij : i < j) : a < b := by
  obtain ⟨h1, e1⟩ := List.getElem?_eq_some_iff.mp hi
  obtain ⟨h2, e2⟩ := List.getElem?_eq_some_iff.mp hj
  rw [← e1, ← e2]
  exact List.pairwise_iff_getElem.mp h i j h1 h2 hij
theorem nat_pair_lt {xs : List Nat} (h : xs.Pairwise (· < ·)) {i j : Nat} {a b : Nat} (hi : xs[i]? = some a) (hj : xs[j]? = some b) (hij : i < j) : a < b := by
  obtain ⟨h1, e1⟩ := List.getElem?_eq_some_iff.mp hi
  obtain ⟨h2, e2⟩ := List.getElem?_eq_some_iff.mp hj
  rw [← e1, ← e2]
  exact List.pairwise_iff_getElem.mp h i j h1 h2 hij
section
variable {κ : Type} {al : List Nat} {fd : List Nat → Bool} {st : List Nat → κ} {n : Nat} {Q S L : List (List Nat)} {i j : Nat}
/-- a word is found -/
theorem Bfs.found (b : Bfs al fd st n Q S L i j) (sim : Sim al fd st) (ha : al.Pairwise (· < ·)) {q : List Nat} {c : Nat} (hq : Q[i]? = some q) (hc : al[j]? = some c) : ∀ v, Over al v → wlt v (q ++ [c]) → fd v = false := by
  have hqm := b.qs q (List.mem_of_getElem? hq)
  intro v ho hv
  refine (search_all sim (B := fun v => wlt v (q ++ [c])) b.s0 b.f0 (fun s hs => ⟨(b.ok s hs).1, (b.ok s hs).2.1⟩) (fun p x hp => ?_) (fun s p x hs hx hle hp => ?_) v ho hv).1
  · have hpl : (p ++ [x]).length ≤ (q ++ [c]).length := by
      rcases hp with h | ⟨h, _⟩ <;> omega
    rw [List.length_append, List.length_singleton] at hpl
    exact .inl (by omega)
  · have hlt : wlt (s ++ [x]) (q ++ [c]) := wlt_of_le (wle_snoc hle) hp
    have hsl : s.length ≤ n := by
      rcases hlt with h | ⟨h, _⟩
      · rw [List.length_append, List.length_append, List.length_singleton, List.length_singleton, hqm.2] at h
        omega
      · rw [List.length_append, List.length_append, List.length_singleton, List.length_singleton, hqm.2] at h
        omega
    rcases Nat.lt_or_ge s.length n with h | h
    · exact b.old s hs h x hx
    · have hsn : s.length = n := by omega
      obtain ⟨i', hi'⟩ := List.mem_iff_getElem?.mp (b.lev s hs hsn)
      obtain ⟨j', hj'⟩ := List.mem_iff_getElem?.mp hx
      refine b.done i' j' s x hi' hj' ?_
      have hlex : s ++ [x] < q ++ [c] := by
        rcases hlt with h | ⟨_, h⟩
        · rw [List.length_append, List.length_append, List.length_singleton, List.length_singleton, hqm.2] at h
          omega
        · exact h
      rcases (lt_snoc (by rw [hsn, hqm.2])).mp hlex with h | ⟨h, h2⟩
      · left
        rcases Nat.lt_trichotomy i' i with h3 | h3 | h3
        · exact h3
        · rw [h3, hq] at hi'
          cases hi'
          exact absurd h (List.lt_irrefl _)
        · exact absurd (List.lt_trans h (pair_lt b.srt hq hi' h3)) (List.lt_irrefl _)
      · subst h
        right
        have hii : i' = i := by
          rcases Nat.lt_trichotomy i' i with h3 | h3 | h3
          · exact absurd (pair_lt b.srt hi' hq h3) (List.lt_irrefl _)
          · exact h3
          · exact absurd (pair_lt b.srt hq hi' h3) (List.lt_irrefl _)
        refine ⟨hii, ?_⟩
        rcases Nat.lt_trichotomy j' j with h3 | h3 | h3
        · exact h3
        · rw [h3, hc] at hj'
          cases hj'
          omega
        · have := nat_pair_lt ha hc hj' h3
          omega
/-- one more word is looked at, its state was seen -/
theorem Bfs.seen (b : Bfs al fd st n Q S L i j) (sim : Sim al fd st) {q : List Nat} {c : Nat} (hq : Q[i]? = some q) (hc : al[j]? = some c) (ha : al.Pairwise (· < ·)) (hf : fd (q ++ [c]) = false) (hs : st (q ++ [c]) ∈ S.map st) : Bfs al fd st n Q S L i (j + 1) := by
  refine { b with ls := fun l hl => ?_, done := fun i' j' q' c' h1 h2 h3 => ?_ }
  · obtain ⟨h1, i', j', q', c', e1, e2, e3, e4⟩ := b.ls l hl
    exact ⟨h1, i', j', q', c', e1, e2, e3, by omega⟩
  · by_cases hh : i' = i ∧ j' = j
    · obtain ⟨rfl, rfl⟩ := hh
      rw [hq] at h1
      rw [hc] at h2
      cases h1
      cases h2
      obtain ⟨s, hs1, hs2⟩ := List.mem_map.mp hs
      have hqm := b.qs q (List.mem_of_getElem? hq)
      refine ⟨hf, s, hs1, hs2, ?_⟩
      have hsl := (b.ok s hs1).2.2
      rcases Nat.lt_or_ge s.length (n + 1) with h | h
      · exact .inl (.inl (by rw [List.length_append, List.length_singleton, hqm.2]; omega))
      · obtain ⟨_, i1, j1, q1, c1, e1, e2, e3, e4⟩ := b.ls s (b.levL s hs1 (by omega))
        have hq1 := b.qs q1 (List.mem_of_getElem? e1)
        refine .inl (.inr ⟨by rw [e3, List.length_append, List.length_append, hq1.2, hqm.2]; rfl, ?_⟩)
        rw [e3]
        refine (lt_snoc (by rw [hq1.2, hqm.2])).mpr ?_
        rcases e4 with e4 | ⟨rfl, e4⟩
        · exact .inl (pair_lt b.srt e1 hq e4)
        · rw [hq] at e1
          cases e1
          exact .inr ⟨rfl, nat_pair_lt ha e2 hc e4⟩
    · exact b.done i' j' q' c' h1 h2 (by omega)
/-- .. its state is new -/
theorem Bfs.new (b : Bfs al fd st n Q S L i j) {q : List Nat} {c : Nat} (hq : Q[i]? = some q) (hc : al[j]? = some c) (ha : al.Pairwise (· < ·)) (hf : fd (q ++ [c]) = false) (hs : st (q ++ [c]) ∉ S.map st) : Bfs al fd st n Q (S ++ [q ++ [c]]) (L ++ [q ++ [c]]) i (j + 1) := by
  have hqm := b.qs q (List.mem_of_getElem? hq)
  have hql : (q ++ [c]).length = n + 1 := by rw [List.length_append, hqm.2]; rfl
  have sub : ∀ s ∈ S, s ∈ S ++ [q ++ [c]] := fun s hs => List.mem_append_left _ hs
  refine ⟨sub _ b.s0, b.f0, fun s hs => ?_, fun s hs hl => ?_, fun s hs hl => ?_, fun q' hq' => ⟨sub _ (b.qs q' hq').1, (b.qs q' hq').2⟩, fun l hl => ?_, b.srt, ?_, fun s hs hl x hx => ?_, fun i' j' q' c' h1 h2 h3 => ?_, ?_, fun h => ?_⟩
  · rcases List.mem_append.mp hs with hs | hs
    · exact b.ok s hs
    · rw [List.mem_singleton.mp hs]
      refine ⟨fun x hx => ?_, hf, by omega⟩
      rcases List.mem_append.mp hx with hx | hx
      · exact (b.ok q hqm.1).1 x hx
      · rw [List.mem_singleton.mp hx]
        exact List.mem_of_getElem? hc
  · rcases List.mem_append.mp hs with hs | hs
    · exact b.lev s hs hl
    · rw [List.mem_singleton.mp hs] at hl
      omega
  · rcases List.mem_append.mp hs with hs | hs
    · exact List.mem_append_left _ (b.levL s hs hl)
    · exact List.mem_append_right _ hs
  · rcases List.mem_append.mp hl with hl | hl
    · obtain ⟨h1, i', j', q', c', e1, e2, e3, e4⟩ := b.ls l hl
      exact ⟨sub _ h1, i', j', q', c', e1, e2, e3, by omega⟩
    · exact ⟨List.mem_append_right _ hl, i, j, q, c, hq, hc, List.mem_singleton.mp hl, by omega⟩
  · rw [List.pairwise_append]
    refine ⟨b.srtL, by simp, fun x hx y hy => ?_⟩
    rw [List.mem_singleton.mp hy]
    obtain ⟨_, i1, j1, q1, c1, e1, e2, e3, e4⟩ := b.ls x hx
    have hq1 := b.qs q1 (List.mem_of_getElem? e1)
    rw [e3]
    refine (lt_snoc (by rw [hq1.2, hqm.2])).mpr ?_
    rcases e4 with e4 | ⟨rfl, e4⟩
    · exact .inl (pair_lt b.srt e1 hq e4)
    · rw [hq] at e1
      cases e1
      exact .inr ⟨rfl, nat_pair_lt ha e2 hc e4⟩
  · rcases List.mem_append.mp hs with hs | hs
    · exact (b.old s hs hl x hx).mono sub
    · rw [List.mem_singleton.mp hs] at hl
      omega
  · by_cases hh : i' = i ∧ j' = j
    · obtain ⟨rfl, rfl⟩ := hh
      rw [hq] at h1
      rw [hc] at h2
      cases h1
      cases h2
      exact ⟨hf, q ++ [c], by simp, rfl, wle_refl _⟩
    · exact (b.done i' j' q' c' h1 h2 (by omega)).mono sub
  · rw [List.map_append, List.nodup_append]
    refine ⟨b.nd, by simp, fun x hx y hy e => ?_⟩
    rw [List.map_singleton, List.mem_singleton] at hy
    exact hs (by rw [← hy, ← e]; exact hx)
  · rw [List.length_append, List.length_append, List.length_singleton]
    have := b.big h
    omega
/-- all letters of a word are done -/
theorem Bfs.next (b : Bfs al fd st n Q S L i al.length) : Bfs al fd st n Q S L (i + 1) 0 := by
  refine { b with ls := fun l hl => ?_, done := fun i' j' q' c' h1 h2 h3 => ?_ }
  · obtain ⟨h1, i', j', q', c', e1, e2, e3, e4⟩ := b.ls l hl
    exact ⟨h1, i', j', q', c', e1, e2, e3, by omega⟩
  · have := (List.getElem?_eq_some_iff.mp h2).1
    exact b.done i' j' q' c' h1 h2 (by omega)
/-- a level is done -/
theorem Bfs.level (b : Bfs al fd st n Q S L Q.length 0) : Bfs al fd st (n + 1) L S [] 0 0 := by
  refine ⟨b.s0, b.f0, fun s hs => ⟨(b.ok s hs).1, (b.ok s hs).2.1, by have := (b.ok s hs).2.2; omega⟩, fun s hs hl => b.levL s hs hl, fun s hs hl => by have := (b.ok s hs).2.2; omega, fun q hq => ?_, fun l hl => (nomatch hl), b.srtL, .nil, fun s hs hl c hc => ?_, fun i' j' q' c' h1 h2 h3 => by omega, b.nd, fun h => ?_⟩
  · obtain ⟨h1, i', j', q', c', e1, e2, e3, e4⟩ := b.ls q hq
    exact ⟨h1, by rw [e3, List.length_append, (b.qs q' (List.mem_of_getElem? e1)).2]; rfl⟩
  · rcases Nat.lt_or_ge s.length n with h | h
    · exact b.old s hs h c hc
    · obtain ⟨i', hi'⟩ := List.mem_iff_getElem?.mp (b.lev s hs (by omega))
      obtain ⟨j', hj'⟩ := List.mem_iff_getElem?.mp hc
      exact b.done i' j' s c hi' hj' (.inl (List.getElem?_eq_some_iff.mp hi').1)
  · obtain ⟨l, hl⟩ := List.exists_mem_of_ne_nil _ h
    obtain ⟨h1, i', j', q', c', e1, e2, e3, e4⟩ := b.ls l hl
    have hQ : Q ≠ [] := fun z => by rw [z] at e1; cases e1
    have hb := b.big hQ
    have := List.length_pos_of_mem hl
    rw [List.length_nil]
    omega
/-- nothing is left to look at -/
theorem Bfs.none (b : Bfs al fd st n [] S [] 0 0) (sim : Sim al fd st) : ∀ v, Over al v → fd v = false := by
  intro v ho
  refine (search_all sim (B := fun _ => True) b.s0 b.f0 (fun s hs => ⟨(b.ok s hs).1, (b.ok s hs).2.1⟩) (fun _ _ _ => trivial) (fun s p x hs hx _ _ => ?_) v ho trivial).1
  rcases Nat.lt_or_ge s.length n with h | h
  · exact b.old s hs h x hx
  · exfalso
    rcases Nat.lt_or_ge n s.length with h2 | h2
    · have := b.levL s hs (by have := (b.ok s hs).2.2; omega)
      cases this
    · have := b.lev s hs (by omega)
      cases this
theorem Bfs.start (f0 : fd [] = false) : Bfs al fd st 0 [[]] [[]] [] 0 0 := by
  refine ⟨by simp, f0, fun s hs => ?_, fun s hs _ => hs, fun s hs hl => ?_, fun q hq => ?_, fun l hl => (nomatch hl), by simp, .nil, fun s hs hl => by omega, fun i' j' q c h1 h2 h3 => by omega, by simp, fun _ => by simp⟩
  · rw [List.mem_singleton.mp hs]
    exact ⟨fun c hc => (nomatch hc), f0, Nat.zero_le _⟩
  · rw [List.mem_singleton.mp hs] at hl
    cases hl
  · rw [List.mem_singleton.mp hq]
    exact ⟨by simp, rfl⟩
end
end Tr

set_option Elab.async false
set_option linter.all false
set_option maxRecDepth 100000
namespace Tr
open PySem PySem.Spec PyProof.Rows L2 TL
variable [PWc] {K : PySem.W.Frag} {mg : Str → Option Value} {base : Heap}
/-- a, b = x, {} -/
theorem sm_parDN {T : Tn} {W : WX} {ρ : List Sl} {Po' : Po} {te : TE} {x : PyData} {i j : Nat} (h : Ev T te ρ x) (k : Po'.nx ((ρ.set i (.d x)).set j (.og (ndI P w anyA [])))) : Sm T W (tPar i j (tCons te (tCons (tDNewN P w) tNil))) ρ Po' := fun F0 H0 σ F H D e k1 _ _ _ _ =>
  h F0 H0 σ F H e _ fun v F1 H1 x1 r1 => fun q hq => by
    have e1 := (e.ext x1).setD (i := i) r1
    refine ⟨_, _, rfl, k1 _ F1 _ _ x1.ff (e1.putNew (s := .og (ndI P w anyA [])) (Ext.new1 e1.le hq) hq fun nt n0 => ⟨rfl, nt, e1.le.free hq, n0, _, upd_same, fun F' s' => ⟨trivial, [], rfl, .nil⟩⟩) k⟩
theorem atM_mem (ds : ND) (k : NestedKey) : (atM ds k).isSome = decide (k ∈ ds.map (·.1)) := by
  rw [← atM_any]
  induction ds with
  | nil => rfl
  | cons p r ih =>
    rw [List.any_cons, ih, List.map_cons]
    by_cases h : p.1 = k
    · simp [h]
    · have h' : ¬ k = p.1 := fun z => h z.symm
      simp [h, h']
theorem putM_new {ds : ND} {k : NestedKey} (d : PyData) (h : k ∉ ds.map (·.1)) : putM ds k d = ds ++ [(k, d)] := by
  unfold putM
  rw [if_neg]
  rw [atM_mem]
  simpa using h
def Sml (al : List Nat) (fd : List Nat → Bool) (M : Nat) (y : PyData) : Prop := (∃ v, y = sD v ∧ Over al v ∧ fd v = true ∧ v.length ≤ M ∧ ∀ u, Over al u → wlt u v → fd u = false) ∨ (y = .none ∧ ∀ u, Over al u → fd u = false)
abbrev chD (al : List Nat) : PyData := .list (al.map fun c => sD [c])
def spFnd (caps : List PyData) (al : List Nat) (fd : List Nat → Bool) (M : Nat) : List (Option V) → Sp := Csp caps (fun l : List Nat => [sD l]) (fun l => Over al l ∧ l.length ≤ M) (fun l y => y = .bool (fd l))
def spSta (caps : List PyData) (al : List Nat) (fd : List Nat → Bool) (st : List Nat → NestedKey) (M : Nat) : List (Option V) → Sp := Csp caps (fun l : List Nat => [sD l]) (fun l => Over al l ∧ l.length ≤ M ∧ fd l = false) (fun l y => y = nkD (st l))
end Tr

set_option Elab.async false
set_option linter.all false
set_option maxRecDepth 100000
/-! B1: blocked strings. -/
namespace Tr
open PySem PySem.Spec PyProof.Rows L2 TL
variable [PWc] {K : PySem.W.Frag} {mg : Str → Option Value} {base : Heap}
/-- a goes on behind s -/
def goesOn (s a : List Nat) : Bool := decide (s.length < a.length) && decide (a.take s.length = s)
/-- the blocked strings behind an entry with source s -/
def restB (sch : Sch) (bl : List (List Nat)) (s : List Nat) : List (List Nat) := (bl.filter (goesOn s)).map (·.drop s.length) ++ ((sch.filter fun p => goesOn s p.1).map fun p => p.1.drop s.length)
def aftB (sch : Sch) (bl : List (List Nat)) (s : List Nat) : List (List Nat) := srtU (restB sch bl s)
def alw (bl : List (List Nat)) (s : List Nat) : Bool := !(bl.any fun b => decide (s.take b.length = b))
abbrev bsD (bl : List (List Nat)) : PyData := .tuple (bl.map sD)
structure IxB where
  sch : Sch
  bl : List (List Nat)
  s : List Nat
def spBlocked : Sp := Fsp (fun i : IxB => [schD i.sch, bsD i.bl, sD i.s]) (fun i => Valid i.sch ∧ i.bl.length ≤ 1000 ∧ (∀ b ∈ i.bl, b.length ≤ 100) ∧ i.s.length ≤ 100) (fun i y => y = bsD (aftB i.sch i.bl i.s)) noX
abbrev N_blocked_after : List Str := ["scheme", "blocked", "source", "rests", "one", "other", "target"]
theorem sc_blocked_after : FnScope N_blocked_after ["scheme", "blocked", "source"] (defScope s_blocked_after) := ⟨rfl, rfl, rfl, by decide +kernel, rfl, by decide +kernel, by decide +kernel⟩
theorem cl_blocked_after {k : Nat} (d : Defn K mg "blocked_after" s_blocked_after ["scheme", "blocked", "source"]) (B : Bt K mg) : Cl P w K mg base (k + 1) "blocked_after" spBlocked := by
  refine cl_fn d sc_blocked_after (fun i => rfl) fun f cdv A outer s H E hr => ?_
  refine ⟨_, (PSs.nox (pss_cons (ps_setLc (i := 3) (own := [("one", 4)]) rfl sc_blocked_after.nd rfl rfl (sw_true rfl rfl rfl (by decide +kernel)) (k_i K (pv 1)) (blkOk_by (N := N_blocked_after) (sc := defScope s_blocked_after) (by decide +kernel)) (fun _ _ _ _ _ => (pg_name (i := 4) sc_blocked_after.nd rfl (Or.inl rfl))) (fun _ _ _ _ _ => (pts_one (PW.pt (pw_and (pt_cmpR op_gt (k_len K (by rfl) B.len (pa_cons (pv 4) pa_nil)) (k_len K (by rfl) B.len (pa_cons (pv 2) pa_nil)) (nomark _)) (pw_and1 (pt_val (k_starts (pv 4) (pv 2)))))))) (fun _ _ _ _ _ => (k_sl K (pv 4) (po_some (k_len K (by rfl) B.len (pa_cons (pv 2) pa_nil))) po_none))) (pss_cons (ps_for PassesOwn.never rfl (k_i K (pv 0)) (k_gt K (n := 2) rfl (pgs_cons (pg_name (i := 5) sc_blocked_after.nd rfl (Or.inl rfl)) (pgs_cons (pg_name (i := 6) sc_blocked_after.nd rfl (Or.inl rfl)) pgs_nil))) (pss_one (ps_if (PW.pt (pw_and (pt_cmpR op_gt (k_len K (by rfl) B.len (pa_cons (pv 5) pa_nil)) (k_len K (by rfl) B.len (pa_cons (pv 2) pa_nil)) (nomark _)) (pw_and1 (pt_val (k_starts (pv 5) (pv 2)))))) (pss_one (ps_expr (pe_bm PySem.F.plainAttrs_list PySem.F.slot_list_append PySem.F.type_list_append mt_append (pv 3) (pa_cons (k_sl K (pv 5) (po_some (k_len K (by rfl) B.len (pa_cons (pv 2) pa_nil))) po_none) pa_nil)))) pss_nil))) (pss_one (ps_ret (k_tupOf K (by rfl) B.tuple (pa_cons (k_sortSet hr rfl (by rfl) B.sorted (pa_cons (k_set K rfl (by rfl) B.set (pa_cons (pv 3) pa_nil)) pa_nil)) pa_nil))))))), ?_⟩
  rintro ⟨sch, bl, s⟩ ⟨hv, hbl, hb, hs⟩
  dsimp only at hv hbl hb hs
  have gt : ∀ {a : List Nat}, (decide (((a.length : Nat) : Int) > ((s.length : Nat) : Int)) && decide (a.take s.length = s)) = goesOn s a := fun {a} => by
    unfold goesOn
    congr 1
    exact decide_eq_decide.mpr (by omega)
  refine sm_seq (sm_asgO (eo_lc (h := sD) (as := bl) (r := fun a => _) (p := goesOn s) (f := fun a => sD (a.drop s.length)) (wk_T (ev_var rfl)) (size_lt (by omega)) (fun a _ => tw_name (by simp)) (fun a ha => ?_) fun a ha _ => ?_) fun xs e => sm_go ?_)
  · exact (et_and (et_t (ev_cmpI (ev_lenS (a := a) (ev_var rfl) (size_ok (by have := hb a ha; omega))) (ev_lenS (a := s) (ev_var rfl) (size_ok (by omega))))) fun _ => et_b (ev_starts (a := a) (b := s) (ev_var rfl) (ev_var rfl))).mono fun b e => by rw [e]; exact gt
  · exact (ev_slS (a := a) (ev_var rfl) (eb_some (ev_lenS (a := s) (ev_var rfl) (size_ok (by omega)))) eb_none (size_ok (by have := hb a ha; omega))).cast (by rw [cut_drop])
  subst e
  refine sm_seq (sm_for (wk_T (ev_var rfl)) ?_)
  rintro xs rfl
  refine ⟨fun i r => ∃ s5 s6, r = [.d (schD sch), .d (bsD bl), .d (sD s), .ol ((bl.filter (goesOn s)).map (fun a => sD (a.drop s.length)) ++ (((sch.take i).filter fun p => goesOn s p.1).map fun p => sD (p.1.drop s.length))), .un, s5, s6], ⟨_, _, by rw [List.take_zero]; simp; rfl⟩, ?_, ?_⟩
  · rintro i x r hx ⟨s5, s6, rfl⟩
    rw [List.getElem?_map] at hx
    obtain ⟨p, hp, rfl⟩ := Option.map_eq_some_iff.mp hx
    have hp3 : p.1.length ≤ 3 := (hv.pt p (List.mem_of_getElem? hp)).1.2.1
    have ht : sch.take (i + 1) = sch.take i ++ [p] := by
      rw [List.take_add_one, hp]
      rfl
    refine ⟨_, tg_tup (tgs_cons tg_name (tgs_cons tg_name tgs_nil)) rfl, ?_⟩
    refine sm_ifb (b := goesOn s p.1) ((et_and (et_t (ev_cmpI (ev_lenS (a := p.1) (ev_var rfl) (size_ok (by omega))) (ev_lenS (a := s) (ev_var rfl) (size_ok (by omega))))) fun _ => et_b (ev_starts (a := p.1) (b := s) (ev_var rfl) (ev_var rfl))).mono fun b e => by rw [e]; exact gt) (fun hg => ?_) fun hg => sm_next ⟨.d (sD p.1), .d (sD p.2), ?_⟩
    · refine sm_append (i := 3) rfl ((ev_slS (a := p.1) (ev_var rfl) (eb_some (ev_lenS (a := s) (ev_var rfl) (size_ok (by omega)))) eb_none (size_ok (by omega))).cast (by rw [cut_drop])) ?_ ⟨.d (sD p.1), .d (sD p.2), ?_⟩
      · have h1 := List.length_filter_le (goesOn s) bl
        have h2 := List.length_filter_le (fun p : List Nat × List Nat => goesOn s p.1) (sch.take i)
        have h3 : (sch.take i).length ≤ sch.length := by rw [List.length_take]; omega
        have h4 := hv.hi
        rw [List.length_append, List.length_map, List.length_map]
        exact size_lt (by omega)
      · rw [ht, List.filter_append, List.map_append, List.filter_cons, if_pos hg, ← List.append_assoc]
        rfl
    · rw [ht, List.filter_append, List.map_append, List.filter_cons, if_neg (by simp [hg])]
      simp
  · rintro r ⟨s5, s6, rfl⟩
    rw [List.length_map, List.take_length]
    refine sm_go (sm_freeze (i := 3) rfl (sm_ret (ev_tupOf (EvO.d (eo_sortSet (ws := restB sch bl s) ((ev_var rfl).cast ?_) ?_))) rfl))
    · unfold restB
      rw [List.map_append, List.map_map, List.map_map]
      rfl
    · have h1 := List.length_filter_le (goesOn s) bl
      have h2 := List.length_filter_le (fun p : List Nat × List Nat => goesOn s p.1) sch
      have h4 := hv.hi
      unfold restB
      rw [List.length_append, List.length_map, List.length_map]
      omega
structure IxAl where
  bl : List (List Nat)
  s : List Nat
def spAllowed : Sp := Fsp (fun i : IxAl => [bsD i.bl, sD i.s]) (fun i => i.bl.length ≤ 1000) (fun i y => y = .bool (alw i.bl i.s)) noX
abbrev N_is_allowed : List Str := ["blocked", "source", "one"]
theorem sc_is_allowed : FnScope N_is_allowed ["blocked", "source"] (defScope s_is_allowed) := ⟨rfl, rfl, rfl, by decide +kernel, rfl, by decide +kernel, by decide +kernel⟩
theorem cl_is_allowed {k : Nat} (d : Defn K mg "is_allowed" s_is_allowed ["blocked", "source"]) (B : Bt K mg) : Cl P w K mg base (k + 1) "is_allowed" spAllowed := by
  refine cl_fn d sc_is_allowed (fun i => rfl) fun f cdv A outer s H E hr => ?_
  refine ⟨_, (PSs.nox (pss_one (ps_ret (pe_not (k_any K rfl (by rfl) B.any (pa_cons (pe_lc (own := [("one", 2)]) rfl sc_is_allowed.nd (k_i K (pv 0)) (blkOk_by (N := N_is_allowed) (sc := defScope s_is_allowed) (by decide +kernel)) (fun _ _ _ _ _ => (pg_name (i := 2) sc_is_allowed.nd rfl (Or.inl rfl))) (fun _ _ _ _ _ => pts_nil) (fun _ _ _ _ _ => (k_starts (pv 1) (pv 2)))) pa_nil)))))), ?_⟩
  rintro ⟨bl, s⟩ hbl
  dsimp only at hbl
  refine sm_ret (ev_not ((ev_any (bs := bl.map fun b => decide (s.take b.length = b)) (EvO.d ((eo_lc1 (h := sD) (as := bl) (r := fun a => _) (f := fun b => .bool (decide (s.take b.length = b))) (wk_T (ev_var rfl)) (size_lt (by omega)) (fun a _ => tw_name (by simp)) fun b hb => ev_starts (ev_var rfl) (ev_var rfl)).mono fun ys e => by rw [e, List.map_map]; rfl))).cast rfl)) ?_
  show PyData.bool _ = PyData.bool _
  unfold alw
  rw [List.any_map]
  rfl
end Tr

set_option Elab.async false
set_option linter.all false
set_option maxRecDepth 100000
/-! B2: sequences in which every entry is allowed are the segmentations of words. -/
namespace Tr
open PySem PySem.Spec PyProof.Rows L2 TL
variable [PWc]
theorem pre_iff {x b : List Nat} : x.take b.length = b ↔ b <+: x := ⟨fun h => h ▸ List.take_prefix _ _, fun h => (List.prefix_iff_eq_take.mp h).symm⟩
theorem goesOn_iff {s a : List Nat} : goesOn s a = true ↔ ∃ r, r ≠ [] ∧ a = s ++ r := by
  unfold goesOn
  rw [Bool.and_eq_true, decide_eq_true_eq, decide_eq_true_eq, pre_iff]
  constructor
  · rintro ⟨h1, r, rfl⟩
    refine ⟨r, fun e => ?_, rfl⟩
    subst e
    simp at h1
  · rintro ⟨r, hr, rfl⟩
    refine ⟨?_, r, rfl⟩
    rw [List.length_append]
    have := List.length_pos_iff.mpr hr
    omega
/-- b is the start of s, or goes on behind it -/
theorem pre_app {b s f : List Nat} : b <+: s ++ f ↔ b <+: s ∨ ∃ r, r ≠ [] ∧ b = s ++ r ∧ r <+: f := by
  constructor
  · rintro ⟨r, hr⟩
    rcases List.append_eq_append_iff.mp hr with ⟨a, h1, h2⟩ | ⟨a, h1, h2⟩
    · exact .inl ⟨a, h1.symm⟩
    · by_cases ha : a = []
      · subst ha
        exact .inl ⟨[], by simpa using h1⟩
      · exact .inr ⟨a, ha, h1, r, h2.symm⟩
  · rintro (⟨r, rfl⟩ | ⟨r, _, rfl, q, rfl⟩)
    · exact ⟨r ++ f, by simp⟩
    · exact ⟨q, by simp⟩
/-- a word that is blocked -/
def Bld (bl : List (List Nat)) (x : List Nat) : Prop := ∃ b ∈ bl, b <+: x
theorem alw_iff {bl : List (List Nat)} {s : List Nat} : alw bl s = true ↔ ¬ Bld bl s := by
  unfold alw Bld
  rw [Bool.not_eq_true', List.any_eq_false]
  constructor
  · rintro h ⟨b, hb, hp⟩
    exact h b hb (decide_eq_true (pre_iff.mpr hp))
  · intro h b hb hp
    exact h ⟨b, hb, pre_iff.mp (of_decide_eq_true hp)⟩
theorem mem_aft {sch : Sch} {bl : List (List Nat)} {s r : List Nat} : r ∈ aftB sch bl s ↔ r ≠ [] ∧ (s ++ r ∈ bl ∨ s ++ r ∈ sch.map (·.1)) := by
  unfold aftB restB
  rw [srtU_mem, List.mem_append, List.mem_map, List.mem_map]
  constructor
  · rintro (⟨a, ha, rfl⟩ | ⟨p, hp, rfl⟩)
    · obtain ⟨h1, h2⟩ := List.mem_filter.mp ha
      obtain ⟨r, hr, rfl⟩ := goesOn_iff.mp h2
      rw [List.drop_left]
      exact ⟨hr, .inl h1⟩
    · obtain ⟨h1, h2⟩ := List.mem_filter.mp hp
      obtain ⟨r, hr, e⟩ := goesOn_iff.mp h2
      rw [e, List.drop_left]
      exact ⟨hr, .inr (e ▸ List.mem_map.mpr ⟨p, h1, rfl⟩)⟩
  · rintro ⟨hr, h | h⟩
    · exact .inl ⟨s ++ r, List.mem_filter.mpr ⟨h, goesOn_iff.mpr ⟨r, hr, rfl⟩⟩, by rw [List.drop_left]⟩
    · obtain ⟨p, hp, e⟩ := List.mem_map.mp h
      exact .inr ⟨p, List.mem_filter.mpr ⟨hp, goesOn_iff.mpr ⟨r, hr, e⟩⟩, by rw [show p.1 = s ++ r from e, List.drop_left]⟩
theorem bld_app {bl : List (List Nat)} {s f : List Nat} : Bld bl (s ++ f) ↔ Bld bl s ∨ ∃ r, r ≠ [] ∧ s ++ r ∈ bl ∧ r <+: f := by
  constructor
  · rintro ⟨b, hb, hp⟩
    rcases pre_app.mp hp with h | ⟨r, hr, rfl, h⟩
    · exact .inl ⟨b, hb, h⟩
    · exact .inr ⟨r, hr, hb, h⟩
  · rintro (⟨b, hb, hp⟩ | ⟨r, hr, hb, h⟩)
    · exact ⟨b, hb, pre_app.mpr (.inl hp)⟩
    · exact ⟨_, hb, pre_app.mpr (.inr ⟨r, hr, rfl, h⟩)⟩
theorem bld_aft {sch : Sch} {bl : List (List Nat)} {s f : List Nat} : Bld (aftB sch bl s) f ↔ (∃ r, r ≠ [] ∧ s ++ r ∈ bl ∧ r <+: f) ∨ ∃ r, r ≠ [] ∧ s ++ r ∈ sch.map (·.1) ∧ r <+: f := by
  constructor
  · rintro ⟨r, hr, hp⟩
    obtain ⟨h1, h2 | h2⟩ := mem_aft.mp hr
    · exact .inl ⟨r, h1, h2, hp⟩
    · exact .inr ⟨r, h1, h2, hp⟩
  · rintro (⟨r, h1, h2, hp⟩ | ⟨r, h1, h2, hp⟩)
    · exact ⟨r, mem_aft.mpr ⟨h1, .inl h2⟩, hp⟩
    · exact ⟨r, mem_aft.mpr ⟨h1, .inr h2⟩, hp⟩
/-- sources of one to three letters -/
def Src3 (sch : Sch) : Prop := ∀ p ∈ sch, 1 ≤ p.1.length ∧ p.1.length ≤ 3
theorem Valid.sr3 {sch : Sch} (h : Valid sch) : Src3 sch := fun p hp => ⟨(h.pt p hp).1.1, (h.pt p hp).1.2.1⟩
theorem long_iff {sch : Sch} (h3 : Src3 sch) {s f : List Nat} : longL sch (s ++ f) = some s ↔ s ∈ sch.map (·.1) ∧ ¬ ∃ r, r ≠ [] ∧ s ++ r ∈ sch.map (·.1) ∧ r <+: f := by
  have len3 : ∀ {t : List Nat}, t ∈ sch.map (·.1) → 1 ≤ t.length ∧ t.length ≤ 3 := fun {t} ht => by
    obtain ⟨p, hp, rfl⟩ := List.mem_map.mp ht
    exact h3 p hp
  rw [longL_iff]
  constructor
  · rintro ⟨h1, h2, h4, h5, h6⟩
    rw [look_isSome] at h5
    refine ⟨of_decide_eq_true h5, ?_⟩
    rintro ⟨r, hr, hm, q, rfl⟩
    have hl := len3 hm
    have hp := List.length_pos_iff.mpr hr
    rw [List.length_append] at hl
    have := h6 (s.length + r.length) (by omega) (by simp only [List.length_append]; omega)
    rw [look_isSome, ← List.append_assoc, ← List.length_append, List.take_left] at this
    exact absurd hm (of_decide_eq_false this)
  · rintro ⟨hm, hn⟩
    have hl := len3 hm
    refine ⟨by rw [List.take_left], hl.1, by rw [List.length_append]; omega, by rw [look_isSome]; exact decide_eq_true hm, fun j hj hj2 => ?_⟩
    rw [look_isSome]
    refine decide_eq_false fun hin => hn ⟨f.take (j - s.length), ?_, ?_, List.take_prefix _ _⟩
    · rw [List.length_append] at hj2
      intro e
      have h0 : (f.take (j - s.length)).length = min (j - s.length) f.length := List.length_take ..
      rw [e] at h0
      simp only [List.length_nil] at h0
      omega
    · rw [List.take_append, List.take_of_length_le (by omega)] at hin
      exact hin
/-- every entry is allowed -/
def Alo (sch : Sch) : List (List Nat) → List (List Nat) → Prop
  | _, [] => True
  | bl, s :: r => s ∈ sch.map (·.1) ∧ alw bl s = true ∧ Alo sch (aftB sch bl s) r
theorem alo_iff {sch : Sch} (h3 : Src3 sch) : ∀ {ps : List (List Nat)} {bl : List (List Nat)}, (∀ b ∈ bl, b ≠ []) → (Alo sch bl ps ↔ splitL sch ps.flatten = some ps ∧ ¬ Bld bl ps.flatten)
  | [], bl, hb => by
    constructor
    · intro _
      refine ⟨rfl, ?_⟩
      rintro ⟨b, hb1, hp⟩
      exact hb b hb1 (List.prefix_nil.mp hp)
    · exact fun _ => trivial
  | s :: r, bl, hb => by
    have ha : ∀ b ∈ aftB sch bl s, b ≠ [] := fun b h => (mem_aft.mp h).1
    show s ∈ sch.map (·.1) ∧ alw bl s = true ∧ Alo sch (aftB sch bl s) r ↔ _
    rw [alo_iff h3 ha, alw_iff, List.flatten_cons, bld_app, bld_aft]
    constructor
    · rintro ⟨h1, h2, h4, h5⟩
      have hlg : longL sch (s ++ r.flatten) = some s := (long_iff h3).mpr ⟨h1, fun z => h5 (.inr z)⟩
      have hne : s ++ r.flatten ≠ [] := fun e => by
        have := (longL_some hlg).1
        have e2 := congrArg List.length e
        rw [List.length_append] at e2
        simp at e2
        rw [e2.1] at this
        simp at this
      refine ⟨?_, fun z => z.elim h2 fun q => h5 (.inl q)⟩
      rw [splitL_some hne hlg, List.drop_left, h4]
      rfl
    · rintro ⟨h1, h2⟩
      have hne : s ++ r.flatten ≠ [] := fun e => by
        rw [e] at h1
        cases h1
      cases hlg : longL sch (s ++ r.flatten) with
      | none =>
        rw [splitL_none hne hlg] at h1
        cases h1
      | some k =>
        rw [splitL_some hne hlg] at h1
        obtain ⟨q, h4, h5⟩ := Option.map_eq_some_iff.mp h1
        injection h5 with h5 h6
        subst h5 h6
        rw [List.drop_left] at h4
        obtain ⟨m1, m2⟩ := (long_iff h3).mp hlg
        exact ⟨m1, fun z => h2 (.inl z), h4, fun z => z.elim (fun q => h2 (.inr q)) m2⟩
/-- the blocked strings behind a sequence -/
def bkS (sch : Sch) : List (List Nat) → List (List Nat) → List (List Nat)
  | bl, [] => bl
  | bl, s :: r => bkS sch (aftB sch bl s) r
theorem bkS_app (sch : Sch) : ∀ (ps qs bl : List (List Nat)), bkS sch bl (ps ++ qs) = bkS sch (bkS sch bl ps) qs
  | [], _, _ => rfl
  | s :: r, qs, bl => bkS_app sch r qs (aftB sch bl s)
theorem alo_app {sch : Sch} : ∀ {ps qs bl : List (List Nat)}, Alo sch bl (ps ++ qs) ↔ Alo sch bl ps ∧ Alo sch (bkS sch bl ps) qs
  | [], qs, bl => ⟨fun h => ⟨trivial, h⟩, fun h => h.2⟩
  | s :: r, qs, bl => by
    show _ ∧ _ ∧ Alo sch (aftB sch bl s) (r ++ qs) ↔ (_ ∧ _ ∧ Alo sch (aftB sch bl s) r) ∧ Alo sch (bkS sch (aftB sch bl s) r) qs
    rw [alo_app]
    exact ⟨fun ⟨a, b, c, d⟩ => ⟨⟨a, b, c⟩, d⟩, fun ⟨⟨a, b, c⟩, d⟩ => ⟨a, b, c, d⟩⟩
theorem alo_nil {sch : Sch} (h3 : Src3 sch) {ps : List (List Nat)} : Alo sch [] ps ↔ splitL sch ps.flatten = some ps := by
  rw [alo_iff h3 (by simp)]
  exact ⟨fun h => h.1, fun h => ⟨h, by rintro ⟨b, hb, _⟩; cases hb⟩⟩
/-- what was blocked before does not matter for a start -/
theorem alo_less {sch : Sch} (h3 : Src3 sch) {ps bl : List (List Nat)} (hb : ∀ b ∈ bl, b ≠ []) (h : Alo sch bl ps) : Alo sch [] ps := (alo_nil h3).mpr ((alo_iff h3 hb).mp h).1
theorem aft_ne {sch : Sch} {bl : List (List Nat)} {s b : List Nat} (h : b ∈ aftB sch bl s) : b ≠ [] := (mem_aft.mp h).1
theorem bkS_ne {sch : Sch} : ∀ {ps bl : List (List Nat)}, (∀ b ∈ bl, b ≠ []) → ∀ b ∈ bkS sch bl ps, b ≠ []
  | [], bl, h => h
  | s :: r, bl, h => bkS_ne (ps := r) fun b hb => aft_ne hb
/-- blocked strings have one or two letters -/
theorem aft_len {sch : Sch} (h3 : Src3 sch) {bl : List (List Nat)} {s b : List Nat} (hs : 1 ≤ s.length) (hb : ∀ b ∈ bl, b.length ≤ 2) (h : b ∈ aftB sch bl s) : 1 ≤ b.length ∧ b.length ≤ 2 := by
  obtain ⟨h1, h2⟩ := mem_aft.mp h
  have := List.length_pos_iff.mpr h1
  rcases h2 with h2 | h2
  · have := hb _ h2
    rw [List.length_append] at this
    omega
  · obtain ⟨p, hp, e⟩ := List.mem_map.mp h2
    have := (h3 p hp).2
    rw [show p.1 = s ++ b from e, List.length_append] at this
    omega
/-- only the last two entries matter -/
theorem aft_two {sch : Sch} {bl : List (List Nat)} {a s : List Nat} (ha : 1 ≤ a.length) (hs : 1 ≤ s.length) (hb : ∀ b ∈ bl, b.length ≤ 2) : aftB sch (aftB sch bl a) s = aftB sch (aftB sch [] a) s := by
  refine srt_ext (srtU_srt _) (srtU_srt _) fun x => ?_
  show x ∈ aftB sch (aftB sch bl a) s ↔ x ∈ aftB sch (aftB sch [] a) s
  rw [mem_aft (bl := aftB sch bl a), mem_aft (bl := aftB sch [] a)]
  refine and_congr_right fun hx => or_congr_left ?_
  rw [mem_aft (bl := bl), mem_aft (bl := [])]
  refine and_congr_right fun _ => ?_
  constructor
  · rintro (h | h)
    · exfalso
      have := hb _ h
      have := List.length_pos_iff.mpr hx
      simp only [List.length_append] at *
      omega
    · exact .inr h
  · rintro (h | h)
    · cases h
    · exact .inr h
/-- the blocked sets that come -/
def BS (sch : Sch) : List (List (List Nat)) := (sch.map fun p => aftB sch [] p.1) ++ sch.flatMap fun q => sch.map fun p => aftB sch (aftB sch [] q.1) p.1
theorem bs_first {sch : Sch} {s : List Nat} (h : s ∈ sch.map (·.1)) : aftB sch [] s ∈ BS sch := by
  obtain ⟨p, hp, rfl⟩ := List.mem_map.mp h
  exact List.mem_append_left _ (List.mem_map.mpr ⟨p, hp, rfl⟩)
theorem bs_len {sch : Sch} (h3 : Src3 sch) {bl : List (List Nat)} (h : bl ∈ BS sch) : ∀ b ∈ bl, 1 ≤ b.length ∧ b.length ≤ 2 := by
  rcases List.mem_append.mp h with h | h
  · obtain ⟨p, hp, rfl⟩ := List.mem_map.mp h
    exact fun b hb => aft_len h3 (h3 p hp).1 (by simp) hb
  · obtain ⟨q, hq, h⟩ := List.mem_flatMap.mp h
    obtain ⟨p, hp, rfl⟩ := List.mem_map.mp h
    exact fun b hb => aft_len h3 (h3 p hp).1 (fun c hc => (aft_len h3 (h3 q hq).1 (by simp) hc).2) hb
theorem bs_next {sch : Sch} (h3 : Src3 sch) {bl : List (List Nat)} {s : List Nat} (h : bl ∈ BS sch) (hs : s ∈ sch.map (·.1)) : aftB sch bl s ∈ BS sch := by
  obtain ⟨p, hp, rfl⟩ := List.mem_map.mp hs
  rcases List.mem_append.mp h with h | h
  · obtain ⟨q, hq, rfl⟩ := List.mem_map.mp h
    exact List.mem_append_right _ (List.mem_flatMap.mpr ⟨q, hq, List.mem_map.mpr ⟨p, hp, rfl⟩⟩)
  · obtain ⟨r, hr, h⟩ := List.mem_flatMap.mp h
    obtain ⟨q, hq, rfl⟩ := List.mem_map.mp h
    rw [aft_two (h3 q hq).1 (h3 p hp).1 fun b hb => (aft_len h3 (h3 r hr).1 (by simp) hb).2]
    exact List.mem_append_right _ (List.mem_flatMap.mpr ⟨q, hq, List.mem_map.mpr ⟨p, hp, rfl⟩⟩)
theorem aft_few {sch : Sch} {bl : List (List Nat)} {s : List Nat} {n : Nat} (h : bl.length ≤ n) : (aftB sch bl s).length ≤ n + sch.length := by
  have h1 : ∀ ws : List (List Nat), (srtU ws).length ≤ ws.length := fun ws => by
    induction ws with
    | nil => exact Nat.le_refl _
    | cons v r ih =>
      have : ∀ l : List (List Nat), (insU v l).length ≤ l.length + 1 := fun l => by
        induction l with
        | nil => exact Nat.le_refl _
        | cons u l ih2 =>
          unfold insU
          split
          · simp
          · split
            · simp
            · simp only [List.length_cons]
              omega
      have := this (srtU r)
      show (insU v (srtU r)).length ≤ _
      rw [List.length_cons]
      omega
  refine Nat.le_trans (h1 _) ?_
  unfold restB
  rw [List.length_append, List.length_map, List.length_map]
  have := List.length_filter_le (goesOn s) bl
  have := List.length_filter_le (fun p : List Nat × List Nat => goesOn s p.1) sch
  omega
theorem bs_few {sch : Sch} {bl : List (List Nat)} (h : bl ∈ BS sch) : bl.length ≤ 2 * sch.length := by
  rcases List.mem_append.mp h with h | h
  · obtain ⟨p, hp, rfl⟩ := List.mem_map.mp h
    have := aft_few (sch := sch) (s := p.1) (bl := []) (n := 0) (by simp)
    omega
  · obtain ⟨q, hq, h⟩ := List.mem_flatMap.mp h
    obtain ⟨p, hp, rfl⟩ := List.mem_map.mp h
    have h1 := aft_few (sch := sch) (s := q.1) (bl := []) (n := 0) (by simp)
    have := aft_few (sch := sch) (s := p.1) h1
    omega
theorem bs_many (sch : Sch) : (BS sch).length = sch.length + sch.length * sch.length := by
  have h : ∀ (l : Sch) (n : Nat), (l.map fun _ => n).sum = l.length * n := fun l n => by
    induction l with
    | nil => simp
    | cons p r ih => rw [List.map_cons, List.sum_cons, ih, List.length_cons, Nat.add_mul, Nat.one_mul, Nat.add_comm]
  unfold BS
  rw [List.length_append, List.length_map, List.length_flatMap]
  simp only [List.length_map]
  rw [h]
end Tr

set_option Elab.async false
set_option linter.all false
set_option maxRecDepth 100000
namespace Tr
open PySem PySem.Spec PyProof.Rows L2 TL
variable [PWc] {K : PySem.W.Frag} {mg : Str → Option Value} {base : Heap}
/-! ### words in order -/
def encW (l : List Nat) : PyData := .tuple [.int (l.length : Nat), sD l]
def leW (a b : List Nat) : Bool := PySem.W.dataLe false id (encW a) (encW b)
def ordW (ws : List (List Nat)) : List (List Nat) := ws.mergeSort leW
theorem srt_enc (ws : List (List Nat)) : srtD (ws.map encW) = (ordW ws).map encW := by
  unfold srtD ordW
  rw [List.map_mergeSort (s := PySem.W.dataLe false id)]
  intro a _ b _
  rfl
theorem alike_encW (ws : List (List Nat)) : PySem.W.AllAlike (ws.map encW) := by
  intro x hx y hy
  obtain ⟨p, _, rfl⟩ := List.mem_map.mp hx
  obtain ⟨q, _, rfl⟩ := List.mem_map.mp hy
  simp [encW, PySem.W.alike, PySem.W.alikeAll]
theorem plain_encW (ws : List (List Nat)) : PyData.plainAll (ws.map encW) = true := plainAll_of fun x hx => by
  obtain ⟨p, _, rfl⟩ := List.mem_map.mp hx
  rfl
structure IxO where
  ws : List (List Nat)
  tup : Bool
def spInOrder : Sp := Fsp (fun i : IxO => [if i.tup = true then .tuple (i.ws.map sD) else .list (i.ws.map sD)]) (fun i => i.ws.length ≤ 90000 ∧ ∀ x ∈ i.ws, x.length ≤ 1000000) (fun i y => y = .list ((ordW i.ws).map sD)) noX
abbrev N_in_order : List Str := ["words", "size", "word"]
theorem sc_in_order : FnScope N_in_order ["words"] (defScope s_in_order) := ⟨rfl, rfl, rfl, by decide +kernel, rfl, by decide +kernel, by decide +kernel⟩
theorem cl_in_order {k : Nat} (d : Defn K mg "in_order" s_in_order ["words"]) (B : Bt K mg) : Cl P w K mg base (k + 1) "in_order" spInOrder := by
  refine cl_fn d sc_in_order (fun i => rfl) fun f cdv A outer s H E hr => ?_
  refine ⟨_, (PSs.nox (pss_one (ps_ret (pe_lc (own := [("size", 1), ("word", 2)]) rfl sc_in_order.nd (k_i K (k_sortDt K hr (by rfl) B.sorted (pa_cons (pe_lc (own := [("word", 2)]) rfl sc_in_order.nd (k_i K (pv 0)) (blkOk_by (N := N_in_order) (sc := defScope s_in_order) (by decide +kernel)) (fun _ _ _ _ _ => (pg_name (i := 2) sc_in_order.nd rfl (Or.inl rfl))) (fun _ _ _ _ _ => pts_nil) (fun _ _ _ _ _ => (pe_tupF (pa_cons (k_len K (by rfl) B.len (pa_cons (pv 2) pa_nil)) (pa_cons (pv 2) pa_nil))))) pa_nil))) (blkOk_by (N := N_in_order) (sc := defScope s_in_order) (by decide +kernel)) (fun _ _ _ _ _ => (k_gt K (n := 2) rfl (pgs_cons (pg_name (i := 1) sc_in_order.nd rfl (Or.inl rfl)) (pgs_cons (pg_name (i := 2) sc_in_order.nd rfl (Or.inl rfl)) pgs_nil)))) (fun _ _ _ _ _ => pts_nil) (fun _ _ _ _ _ => (pv 2)))))), ?_⟩
  rintro ⟨ws, tup⟩ ⟨hl, hx⟩
  dsimp only at hl hx
  have hw : ∀ {ρ : List Sl}, ρ[0]? = some (.d (if tup = true then .tuple (ws.map sD) else .list (ws.map sD))) → Wk T0 (iAny K (tVar 0)) ρ fun xs => xs = ws.map sD := fun h => by
    cases tup with
    | true => exact wk_T (ev_var h)
    | false => exact wk_L (ev_var h)
  refine sm_ret (EvO.d ((eo_lc1 (h := encW) (as := ordW ws) (r := fun c => _) (f := sD) (wk_L ((EvO.d (eo_sortDt (xs := ws.map encW) (EvO.d ((eo_lc1 (h := sD) (as := ws) (r := fun c => _) (f := encW) (hw rfl) (size_lt (by omega)) (fun c _ => tw_name (by simp)) fun x hm => ev_tup (ea_c (ev_lenS (ev_var rfl) (size_okB (by have := hx x hm; omega))) (ea_c (ev_var rfl) ea_nil)) (size_ok (by simp))).mono fun ys e => e)) (plain_encW ws) (alike_encW ws) (.inl fun x hm => ?_) (fun x hm => ?_) (by rw [List.length_map]; omega))).cast (by rw [srt_enc]))) (size_lt ?_) (fun c _ => tw_tup (tws_cons (tw_name (by simp)) (tws_cons (tw_name (by simp)) tws_nil)) rfl) fun x hm => ev_var rfl).mono fun ys e => e)) rfl
  · obtain ⟨p, _, rfl⟩ := List.mem_map.mp hm
    exact ⟨_, _, rfl⟩
  · obtain ⟨p, _, rfl⟩ := List.mem_map.mp hm
    simp [encW, PyData.depth, PyData.depthAll]
  · unfold ordW
    rw [List.length_mergeSort]
    omega
end Tr

set_option Elab.async false
set_option linter.all false
set_option maxRecDepth 100000
/-! P1: the first words with a given transliteration, in plain terms. -/
namespace Tr
open PySem PySem.Spec PyProof.Rows L2 TL
variable [PWc]
/-- w has the transliteration t and may stand where bl is blocked -/
def OfS (sch : Sch) (bl : List (List Nat)) (t w : List Nat) : Prop := ∃ ps, Alo sch bl ps ∧ txt sch ps = t ∧ ps.flatten = w
/-- the first fifty of some words -/
structure Fst (A : List Nat → Prop) (L : List (List Nat)) : Prop where
  st : L.Pairwise wlt
  mem : ∀ w ∈ L, A w
  len : L.length ≤ 50
  all : ∀ w, A w → w ∈ L ∨ (L.length = 50 ∧ ∀ v ∈ L, wlt v w)
theorem leW_lt (a b : List Nat) : leW a b = true ↔ ¬ wlt b a := by
  unfold leW encW
  rw [PySem.W.dataLe_eq]
  show (!PySem.W.dataLt (encP (b.length, b)) (encP (a.length, a))) = true ↔ _
  rw [← show ltP (b.length, b) (a.length, a) ↔ wlt b a from Iff.rfl, ← ltP_iff]
  simp
theorem wlt_tri1 (u v : List Nat) : wlt u v ∨ u = v ∨ wlt v u := by
  rcases Nat.lt_trichotomy u.length v.length with h | h | h
  · exact .inl (.inl h)
  · rcases lt_tri u v with h2 | h2 | h2
    · exact .inl (.inr ⟨h, h2⟩)
    · exact .inr (.inl h2)
    · exact .inr (.inr (.inr ⟨h.symm, h2⟩))
  · exact .inr (.inr (.inl h))
theorem wlt_pre {s a b : List Nat} : wlt (s ++ a) (s ++ b) ↔ wlt a b := by
  have h : ∀ s : List Nat, s ++ a < s ++ b ↔ a < b := fun s => by
    induction s with
    | nil => exact Iff.rfl
    | cons c s ih =>
      rw [List.cons_append, List.cons_append, List.cons_lt_cons_iff, ih]
      constructor
      · rintro (h | ⟨_, h⟩)
        · exact absurd h (Nat.lt_irrefl _)
        · exact h
      · exact fun h => .inr ⟨rfl, h⟩
  unfold wlt
  rw [h, List.length_append, List.length_append]
  constructor
  · rintro (h | ⟨h, h2⟩)
    · exact .inl (by omega)
    · exact .inr ⟨by omega, h2⟩
  · rintro (h | ⟨h, h2⟩)
    · exact .inl (by omega)
    · exact .inr ⟨by omega, h2⟩
/-- in order, each once -/
theorem ordW_srt {ws : List (List Nat)} (nd : ws.Nodup) : (ordW ws).Pairwise wlt := by
  have h1 : (ordW ws).Pairwise fun a b => leW a b = true := List.pairwise_mergeSort (fun a b c h1 h2 => by
      rw [leW_lt] at h1 h2 ⊢
      intro h3
      rcases wlt_tri1 a b with h | h | h
      · exact h2 (wlt_trans h3 h)
      · subst h
        exact h2 h3
      · exact h1 h) (fun a b => by
      rcases wlt_tri1 a b with h | h | h
      · rw [(leW_lt a b).mpr fun z => wlt_irrefl _ (wlt_trans h z)]
        rfl
      · subst h
        rw [(leW_lt a a).mpr (wlt_irrefl a)]
        rfl
      · rw [(leW_lt b a).mpr fun z => wlt_irrefl _ (wlt_trans h z)]
        simp) ws
  have h2 : (ordW ws).Nodup := (List.mergeSort_perm ws leW).nodup_iff.mpr nd
  refine (h1.and h2).imp fun {a b} ⟨h, hne⟩ => ?_
  rw [leW_lt] at h
  rcases wlt_tri1 a b with h3 | h3 | h3
  · exact h3
  · exact absurd h3 hne
  · exact absurd h3 h
theorem ordW_mem {ws : List (List Nat)} {x : List Nat} : x ∈ ordW ws ↔ x ∈ ws := List.mem_mergeSort
theorem nd_sub {xs ys : List (List Nat)} (nd : xs.Nodup) (h : ∀ x ∈ xs, x ∈ ys) : xs.length ≤ ys.length := nodup_sub nd h
/-- fifty that come before w keep w out -/
theorem take_before {S X : List (List Nat)} {w : List Nat} (hs : S.Pairwise wlt) (nd : X.Nodup) (hx : ∀ x ∈ X, x ∈ S ∧ wlt x w) (hl : 50 ≤ X.length) : (S.take 50).length = 50 ∧ ∀ v ∈ S.take 50, wlt v w := by
  have hS : 50 ≤ S.length := Nat.le_trans hl (nd_sub nd fun x h => (hx x h).1)
  refine ⟨by rw [List.length_take]; omega, fun v hv => ?_⟩
  obtain ⟨i, hi⟩ := List.mem_iff_getElem?.mp hv
  have hi50 : i < 50 := by
    have := (List.getElem?_eq_some_iff.mp hi).1
    rw [List.length_take] at this
    omega
  rw [List.getElem?_take_of_lt hi50] at hi
  have hiS := (List.getElem?_eq_some_iff.mp hi).1
  have hd : S.drop i = v :: S.drop (i + 1) := by
    rw [List.drop_eq_getElem_cons hiS]
    congr 1
    exact (List.getElem?_eq_some_iff.mp hi).2
  rcases Classical.em (wlt v w) with h | h
  · exact h
  · exfalso
    have sub : ∀ x ∈ X, x ∈ S.take i := fun x h1 => by
      have h2 := (hx x h1).1
      rw [← List.take_append_drop i S] at h2
      rcases List.mem_append.mp h2 with h3 | h3
      · exact h3
      · exfalso
        rw [hd] at h3
        rcases List.mem_cons.mp h3 with rfl | h4
        · exact h (hx _ h1).2
        · have hp : (S.drop i).Pairwise wlt := hs.sublist (List.drop_sublist _ _)
          rw [hd] at hp
          exact h (wlt_trans ((List.pairwise_cons.mp hp).1 x h4) (hx x h1).2)
    have := nd_sub nd sub
    rw [List.length_take] at this
    omega
theorem Fst.uniq {A : List Nat → Prop} {L M : List (List Nat)} (h1 : Fst A L) (h2 : Fst A M) : L = M := by
  have nd : ∀ {L : List (List Nat)}, L.Pairwise wlt → L.Nodup := fun h => h.imp fun {a b} hab e => by
    subst e
    exact wlt_irrefl _ hab
  have sub : ∀ {L M : List (List Nat)}, Fst A L → Fst A M → ∀ x ∈ L, x ∈ M := fun {L M} h1 h2 x hx => by
    rcases h2.all x (h1.mem x hx) with h | ⟨hl, hb⟩
    · exact h
    · exfalso
      have all : ∀ y ∈ M, y ∈ L := fun y hy => by
        rcases h1.all y (h2.mem y hy) with h | ⟨_, h⟩
        · exact h
        · exact absurd (wlt_trans (h x hx) (hb y hy)) (wlt_irrefl _)
      have hx2 : x ∉ M := fun z => wlt_irrefl _ (hb x z)
      have := nd_sub (xs := x :: M) (ys := L) (List.nodup_cons.mpr ⟨hx2, nd h2.st⟩) fun y hy => by
        rcases List.mem_cons.mp hy with rfl | hy
        · exact hx
        · exact all y hy
      have h50 := h1.len
      rw [List.length_cons] at this
      omega
  have ext : ∀ {L M : List (List Nat)}, L.Pairwise wlt → M.Pairwise wlt → (∀ x, x ∈ L ↔ x ∈ M) → L = M := by
    intro L
    induction L with
    | nil =>
      intro M _ _ h
      cases M with
      | nil => rfl
      | cons y M => exact absurd ((h y).mpr (by simp)) (by simp)
    | cons x L ih =>
      intro M hL hM h
      cases M with
      | nil => exact absurd ((h x).mp (by simp)) (by simp)
      | cons y M =>
        obtain ⟨p1, p2⟩ := List.pairwise_cons.mp hL
        obtain ⟨q1, q2⟩ := List.pairwise_cons.mp hM
        have exy : x = y := by
          rcases List.mem_cons.mp ((h x).mp (by simp)) with e | e
          · exact e
          · rcases List.mem_cons.mp ((h y).mpr (by simp)) with e2 | e2
            · exact e2.symm
            · exact absurd (wlt_trans (p1 y e2) (q1 x e)) (wlt_irrefl _)
        subst exy
        rw [ih p2 q2 fun z => ?_]
        constructor
        · intro hz
          rcases List.mem_cons.mp ((h z).mp (List.mem_cons_of_mem _ hz)) with e | e
          · subst e
            exact absurd (p1 _ hz) (wlt_irrefl _)
          · exact e
        · intro hz
          rcases List.mem_cons.mp ((h z).mpr (List.mem_cons_of_mem _ hz)) with e | e
          · subst e
            exact absurd (q1 _ hz) (wlt_irrefl _)
          · exact e
  exact ext h1.st h2.st fun x => ⟨sub h1 h2 x, sub h2 h1 x⟩
theorem Fst.congr {A B : List Nat → Prop} {L : List (List Nat)} (h : Fst A L) (e : ∀ w, A w ↔ B w) : Fst B L := ⟨h.st, fun w hw => (e w).mp (h.mem w hw), h.len, fun w hw => h.all w ((e w).mpr hw)⟩
/-- a list of all of them: the first fifty -/
theorem fst_of {A : List Nat → Prop} {ws : List (List Nat)} (nd : ws.Nodup) (h : ∀ w, w ∈ ws ↔ A w) : Fst A ((ordW ws).take 50) := by
  have hs := ordW_srt nd
  refine ⟨hs.sublist (List.take_sublist _ _), fun w hw => (h w).mp (ordW_mem.mp (List.mem_of_mem_take hw)), by rw [List.length_take]; omega, fun w hw => ?_⟩
  have hm := ordW_mem.mpr ((h w).mpr hw)
  rw [← List.take_append_drop 50 (ordW ws)] at hm hs
  rcases List.mem_append.mp hm with h1 | h1
  · exact .inl h1
  · right
    refine ⟨?_, fun v hv => (List.pairwise_append.mp hs).2.2 v hv w h1⟩
    have : 0 < ((ordW ws).drop 50).length := List.length_pos_of_mem h1
    rw [List.length_drop] at this
    rw [List.length_take]
    omega
/-! ### words by their first entry -/
theorem look_p {sch : Sch} (hv : Valid sch) {p : List Nat × List Nat} (hp : p ∈ sch) : look sch p.1 = some p.2 := look_mem hv.nd hp
theorem ofS_nil {sch : Sch} (hv : Valid sch) {bl : List (List Nat)} {w : List Nat} : OfS sch bl [] w ↔ w = [] := by
  constructor
  · rintro ⟨ps, ha, ht, rfl⟩
    cases ps with
    | nil => rfl
    | cons s r =>
      exfalso
      obtain ⟨p, hp, e⟩ := List.mem_map.mp ha.1
      have e : p.1 = s := e
      have h1 : txt sch (s :: r) = (look sch s).getD [] ++ txt sch r := rfl
      rw [h1, ← e, look_p hv hp] at ht
      have := (hv.pt p hp).2.1
      have h2 := congrArg List.length ht
      rw [List.length_append] at h2
      simp at h2
      simp [h2.1] at this
  · rintro rfl
    exact ⟨[], trivial, rfl, rfl⟩
theorem ofS_cons {sch : Sch} (hv : Valid sch) {bl : List (List Nat)} {t w : List Nat} (ht : t ≠ []) : OfS sch bl t w ↔ ∃ p ∈ sch, t.take p.2.length = p.2 ∧ alw bl p.1 = true ∧ ∃ x, OfS sch (aftB sch bl p.1) (t.drop p.2.length) x ∧ w = p.1 ++ x := by
  constructor
  · rintro ⟨ps, ha, e, rfl⟩
    cases ps with
    | nil => exact absurd e.symm ht
    | cons s r =>
      obtain ⟨h1, h2, h3⟩ := ha
      obtain ⟨p, hp, ep⟩ := List.mem_map.mp h1
      have ep : p.1 = s := ep
      subst ep
      have h4 : txt sch (p.1 :: r) = (look sch p.1).getD [] ++ txt sch r := rfl
      rw [h4, look_p hv hp] at e
      have e : p.2 ++ txt sch r = t := e
      subst e
      exact ⟨p, hp, List.take_left, h2, r.flatten, ⟨r, h3, by rw [List.drop_left], rfl⟩, rfl⟩
  · rintro ⟨p, hp, h1, h2, x, ⟨r, h3, h4, rfl⟩, rfl⟩
    refine ⟨p.1 :: r, ⟨List.mem_map.mpr ⟨p, hp, rfl⟩, h2, h3⟩, ?_, rfl⟩
    show (look sch p.1).getD [] ++ txt sch r = t
    rw [look_p hv hp, h4]
    show p.2 ++ t.drop p.2.length = t
    conv => lhs; rw [← h1]
    rw [List.length_take]
    have : p.2.length ≤ t.length := by
      have := congrArg List.length h1
      rw [List.length_take] at this
      omega
    rw [Nat.min_eq_left this, List.take_append_drop]
/-- the first entry is told by the word -/
theorem ofS_first {sch : Sch} (hv : Valid sch) {bl : List (List Nat)} (hb : ∀ b ∈ bl, b ≠ []) {p q : List Nat × List Nat} (hp : p ∈ sch) (hq : q ∈ sch) {t t' x y : List Nat} (ap : alw bl p.1 = true) (aq : alw bl q.1 = true) (hx : OfS sch (aftB sch bl p.1) t x) (hy : OfS sch (aftB sch bl q.1) t' y) (e : p.1 ++ x = q.1 ++ y) : p.1 = q.1 := by
  obtain ⟨ps, h1, _, rfl⟩ := hx
  obtain ⟨qs, h2, _, rfl⟩ := hy
  have a1 : Alo sch bl (p.1 :: ps) := ⟨List.mem_map.mpr ⟨p, hp, rfl⟩, ap, h1⟩
  have a2 : Alo sch bl (q.1 :: qs) := ⟨List.mem_map.mpr ⟨q, hq, rfl⟩, aq, h2⟩
  have s1 := ((alo_iff hv.sr3 hb).mp a1).1
  have s2 := ((alo_iff hv.sr3 hb).mp a2).1
  rw [List.flatten_cons] at s1 s2
  rw [e] at s1
  rw [s1] at s2
  injection s2 with s2
  injection s2
theorem ofS_len {sch : Sch} (hv : Valid sch) : ∀ {ps bl : List (List Nat)}, Alo sch bl ps → ps.flatten.length ≤ 3 * (txt sch ps).length
  | [], _, _ => by simp
  | s :: r, bl, h => by
    obtain ⟨h1, h2, h3⟩ := h
    obtain ⟨p, hp, ep⟩ := List.mem_map.mp h1
    have ep : p.1 = s := ep
    subst ep
    have ih := ofS_len hv h3
    have h4 : txt sch (p.1 :: r) = (look sch p.1).getD [] ++ txt sch r := rfl
    rw [h4, look_p hv hp, List.flatten_cons, List.length_append, List.length_append]
    have := (hv.pt p hp).1.2.1
    have : 1 ≤ p.2.length := (hv.pt p hp).2.1
    show p.1.length + _ ≤ 3 * (p.2.length + _)
    omega
theorem OfS.few {sch : Sch} (hv : Valid sch) {bl : List (List Nat)} {t w : List Nat} (h : OfS sch bl t w) : w.length ≤ 3 * t.length := by
  obtain ⟨ps, h1, rfl, rfl⟩ := h
  exact ofS_len hv h1
/-- the entries that fit -/
def fitB (bl : List (List Nat)) (t : List Nat) (p : List Nat × List Nat) : Bool := decide (t.take p.2.length = p.2) && alw bl p.1
/-- the words that the entries so far give -/
def mrg (sch : Sch) (bl : List (List Nat)) (t : List Nat) (R : List Nat × List Nat → List (List Nat)) (l : Sch) : List (List Nat) := l.flatMap fun p => if fitB bl t p = true then (R p).map (p.1 ++ ·) else []
theorem fst_mrg {sch : Sch} (hv : Valid sch) {bl : List (List Nat)} (hb : ∀ b ∈ bl, b ≠ []) {t : List Nat} (ht : t ≠ []) {R : List Nat × List Nat → List (List Nat)} (hR : ∀ p ∈ sch, fitB bl t p = true → Fst (OfS sch (aftB sch bl p.1) (t.drop p.2.length)) (R p)) : Fst (OfS sch bl t) ((ordW (mrg sch bl t R sch)).take 50) := by
  have nd1 : ∀ {L : List (List Nat)}, L.Pairwise wlt → L.Nodup := fun h => h.imp fun {a b} hab e => by
    subst e
    exact wlt_irrefl _ hab
  have mem : ∀ {l : Sch} {w : List Nat}, w ∈ mrg sch bl t R l ↔ ∃ p ∈ l, fitB bl t p = true ∧ ∃ x ∈ R p, w = p.1 ++ x := fun {l w} => by
    unfold mrg
    rw [List.mem_flatMap]
    constructor
    · rintro ⟨p, hp, h⟩
      split at h
      · rename_i hf
        obtain ⟨x, hx, rfl⟩ := List.mem_map.mp h
        exact ⟨p, hp, hf, x, hx, rfl⟩
      · cases h
    · rintro ⟨p, hp, hf, x, hx, rfl⟩
      exact ⟨p, hp, by rw [if_pos hf]; exact List.mem_map.mpr ⟨x, hx, rfl⟩⟩
  have fit : ∀ {p}, fitB bl t p = true → t.take p.2.length = p.2 ∧ alw bl p.1 = true := fun {p} h => by
    unfold fitB at h
    rw [Bool.and_eq_true, decide_eq_true_eq] at h
    exact h
  have nd : ∀ l : Sch, (∀ p ∈ l, p ∈ sch) → (l.map (·.1)).Nodup → (mrg sch bl t R l).Nodup := fun l => by
    induction l with
    | nil => exact fun _ _ => List.nodup_nil
    | cons p l ih =>
      intro h1 h2
      rw [List.map_cons, List.nodup_cons] at h2
      have ihl := ih (fun q hq => h1 q (List.mem_cons_of_mem _ hq)) h2.2
      show ((if fitB bl t p = true then (R p).map (p.1 ++ ·) else []) ++ mrg sch bl t R l).Nodup
      split
      · rename_i hf
        have hp := h1 p (by simp)
        have fp := hR p hp hf
        rw [List.nodup_append]
        refine ⟨List.pairwise_map.mpr ((nd1 fp.st).imp fun {a b} hne e => hne (List.append_cancel_left e)), ihl, fun a ha b hb2 e => ?_⟩
        subst e
        obtain ⟨x, hx, rfl⟩ := List.mem_map.mp ha
        obtain ⟨q, hq, hfq, y, hy, e⟩ := mem.mp hb2
        have hqs := h1 q (List.mem_cons_of_mem _ hq)
        have := ofS_first hv hb hp hqs (fit hf).2 (fit hfq).2 (fp.mem x hx) ((hR q hqs hfq).mem y hy) e
        exact h2.1 (by rw [this]; exact List.mem_map.mpr ⟨q, hq, rfl⟩)
      · exact ihl
  have ndS := nd sch (fun p h => h) hv.nd
  have hs := ordW_srt ndS
  refine ⟨hs.sublist (List.take_sublist _ _), fun w hw => ?_, by rw [List.length_take]; omega, fun w hw => ?_⟩
  · obtain ⟨p, hp, hf, x, hx, rfl⟩ := mem.mp (ordW_mem.mp (List.mem_of_mem_take hw))
    exact (ofS_cons hv ht).mpr ⟨p, hp, (fit hf).1, (fit hf).2, x, (hR p hp hf).mem x hx, rfl⟩
  · obtain ⟨p, hp, h1, h2, x, hx, rfl⟩ := (ofS_cons hv ht).mp hw
    have hf : fitB bl t p = true := by
      unfold fitB
      rw [Bool.and_eq_true, decide_eq_true_eq]
      exact ⟨h1, h2⟩
    have fp := hR p hp hf
    rcases fp.all x hx with h | ⟨hl, hb2⟩
    · have hm : p.1 ++ x ∈ ordW (mrg sch bl t R sch) := ordW_mem.mpr (mem.mpr ⟨p, hp, hf, x, h, rfl⟩)
      rw [← List.take_append_drop 50 (ordW (mrg sch bl t R sch))] at hm hs
      rcases List.mem_append.mp hm with h1 | h1
      · exact .inl h1
      · right
        refine ⟨?_, fun v hv => (List.pairwise_append.mp hs).2.2 v hv _ h1⟩
        have : 0 < ((ordW (mrg sch bl t R sch)).drop 50).length := List.length_pos_of_mem h1
        rw [List.length_drop] at this
        rw [List.length_take]
        omega
    · right
      refine take_before hs (X := (R p).map (p.1 ++ ·)) (List.pairwise_map.mpr ((nd1 fp.st).imp fun {a b} hne e => hne (List.append_cancel_left e))) (fun y hy => ?_) (by rw [List.length_map]; omega)
      obtain ⟨z, hz, rfl⟩ := List.mem_map.mp hy
      exact ⟨ordW_mem.mpr (mem.mpr ⟨p, hp, hf, z, hz, rfl⟩), wlt_pre.mpr (hb2 z hz)⟩
theorem mrg_len {sch : Sch} {bl : List (List Nat)} {t : List Nat} {R : List Nat × List Nat → List (List Nat)} : ∀ {l : Sch}, (∀ p ∈ l, fitB bl t p = true → (R p).length ≤ 50) → (mrg sch bl t R l).length ≤ l.length * 50
  | [], _ => by simp [mrg]
  | p :: l, h => by
    have ih := mrg_len (sch := sch) (l := l) fun q hq => h q (List.mem_cons_of_mem _ hq)
    show ((if fitB bl t p = true then (R p).map (p.1 ++ ·) else []) ++ mrg sch bl t R l).length ≤ _
    rw [List.length_append, List.length_cons]
    split
    · rename_i hf
      have := h p (by simp) hf
      rw [List.length_map]
      omega
    · simp
      omega
/-- all words of a scheme with this transliteration -/
theorem ofS_word {sch : Sch} (hv : Valid sch) {t w : List Nat} : OfS sch [] t w ↔ Over (lets sch) w ∧ wr sch w = t := by
  constructor
  · rintro ⟨ps, ha, ht, rfl⟩
    have hs := (alo_nil hv.sr3).mp ha
    refine ⟨fun c hc => ?_, ?_⟩
    · obtain ⟨s, hs2, hcs⟩ := List.mem_flatten.mp hc
      have hm : s ∈ sch.map (·.1) := by
        have key : ∀ {ps bl : List (List Nat)}, Alo sch bl ps → ∀ s ∈ ps, s ∈ sch.map (·.1) := by
          intro ps
          induction ps with
          | nil => intro bl _ s h; cases h
          | cons a r ih =>
            rintro bl ⟨h1, _, h3⟩ s h
            rcases List.mem_cons.mp h with rfl | h
            · exact h1
            · exact ih h3 s h
        exact key ha s hs2
      have hcl := hv.cl
      unfold clo at hcl
      rw [List.all_eq_true] at hcl
      have := hcl _ (List.mem_flatMap.mpr ⟨s, hm, List.mem_map.mpr ⟨c, hcs, rfl⟩⟩)
      exact mem_lets.mpr (by simpa using this)
    · unfold wr mapL
      rw [hs]
      exact ht
  · rintro ⟨ho, rfl⟩
    obtain ⟨h1, _⟩ := segs_ok ho
    have hf : (segs sch w).flatten = w := splitL_flat h1
    exact ⟨segs sch w, (alo_nil hv.sr3).mpr (by rw [hf]; exact h1), (wr_txt sch w).symm, hf⟩
end Tr

set_option Elab.async false
set_option linter.all false
set_option maxRecDepth 100000
/-! P2: words_from, words_for. -/
namespace Tr
open PySem PySem.Spec PyProof.Rows L2 TL
variable [PWc] {K : PySem.W.Frag} {mg : Str → Option Value} {base : Heap}
def blT (bs : List (List Nat)) : NestedKey := .tup (bs.map fun b => .text (S b))
theorem blT_D (bs : List (List Nat)) : nkD (blT bs) = bsD bs := by
  unfold blT bsD
  rw [nkD]
  congr 1
  induction bs with
  | nil => rfl
  | cons b r ih =>
    rw [List.map_cons, List.map_cons, nkDs, ih]
    rfl
theorem blT_dep (bs : List (List Nat)) : (blT bs).depth ≤ 2 := by
  have : ∀ bs : List (List Nat), NestedKey.depthAll (bs.map fun b => NestedKey.text (S b)) ≤ 1 := fun bs => by
    induction bs with
    | nil => simp [NestedKey.depthAll]
    | cons b r ih =>
      rw [List.map_cons]
      simp only [NestedKey.depthAll, NestedKey.depth]
      omega
  unfold blT
  simp only [NestedKey.depth]
  have := this bs
  omega
def kWf (bl : List (List Nat)) (t : List Nat) : NestedKey := .tup [blT bl, .text (S t)]
theorem kWf_D (bl : List (List Nat)) (t : List Nat) : nkD (kWf bl t) = .tuple [bsD bl, sD t] := by
  unfold kWf
  rw [nkD, nkDs, nkDs, nkDs, blT_D]
  rfl
theorem kWf_dep (bl : List (List Nat)) (t : List Nat) : (kWf bl t).depth ≤ 8 := by
  have := blT_dep bl
  unfold kWf
  simp only [NestedKey.depth, NestedKey.depthAll]
  omega
theorem strs_inj {a b : List (List Nat)} (h : a.map sD = b.map sD) : a = b := (List.map_inj_right fun x y e => S_inj (PyData.str.inj e)).mp h
theorem kWf_inj {bl bl' : List (List Nat)} {t t' : List Nat} (h : kWf bl t = kWf bl' t') : bl = bl' ∧ t = t' := by
  have := congrArg nkD h
  rw [kWf_D, kWf_D] at this
  injection this with this
  injection this with h1 h2
  injection h2 with h2 _
  injection h1 with h1
  exact ⟨strs_inj h1, S_inj (PyData.str.inj h2)⟩
/-- the list itself -/
noncomputable def theW (A : List Nat → Prop) : List (List Nat) := Classical.epsilon (Fst A)
theorem Fst.is {A : List Nat → Prop} {L : List (List Nat)} (h : Fst A L) : L = theW A := h.uniq (Classical.epsilon_spec (p := Fst A) ⟨L, h⟩)
theorem Fst.the {A : List Nat → Prop} {L : List (List Nat)} (h : Fst A L) : Fst A (theW A) := h.is ▸ h
/-- what is known so far -/
structure Kn (sch : Sch) (t0 : List Nat) (ds : ND) : Prop where
  nd : (ds.map (·.1)).Nodup
  ok : ∀ p ∈ ds, ∃ bl t L, p.1 = kWf bl t ∧ p.2 = .list (L.map sD) ∧ Fst (OfS sch bl t) L ∧ (bl = [] ∨ bl ∈ BS sch) ∧ t <:+ t0
theorem Kn.nil (sch : Sch) (t0 : List Nat) : Kn sch t0 [] := ⟨List.nodup_nil, fun p hp => (by cases hp)⟩
def tails (t : List Nat) : List (List Nat) := (List.range (t.length + 1)).map fun i => t.drop i
theorem tails_mem {t u : List Nat} (h : u <:+ t) : u ∈ tails t := by
  obtain ⟨r, rfl⟩ := h
  exact List.mem_map.mpr ⟨r.length, List.mem_range.mpr (by rw [List.length_append]; omega), by rw [List.drop_left]⟩
theorem flat_const {α β : Type} {f : α → List β} {n : Nat} (h : ∀ a, (f a).length = n) : ∀ l : List α, (l.flatMap f).length = l.length * n
  | [] => by simp
  | a :: r => by
    rw [List.flatMap_cons, List.length_append, h, flat_const h r, List.length_cons, Nat.add_mul]
    omega
theorem Kn.few {sch : Sch} (hv : Valid sch) {t0 : List Nat} (ht : t0.length ≤ 40) {ds : ND} (h : Kn sch t0 ds) : ds.length ≤ 5000 := by
  have h1 : (ds.map (·.1)).length ≤ (([] :: BS sch).flatMap fun bl => (tails t0).map fun t => kWf bl t).length := nodup_sub h.nd fun k hk => by
    obtain ⟨p, hp, rfl⟩ := List.mem_map.mp hk
    obtain ⟨bl, t, L, e, _, _, hb, hs⟩ := h.ok p hp
    refine List.mem_flatMap.mpr ⟨bl, ?_, List.mem_map.mpr ⟨t, tails_mem hs, e.symm⟩⟩
    rcases hb with rfl | hb
    · exact List.mem_cons_self
    · exact List.mem_cons_of_mem _ hb
  rw [List.length_map, flat_const (n := t0.length + 1) fun bl => by rw [List.length_map]; unfold tails; rw [List.length_map, List.length_range], List.length_cons, bs_many] at h1
  have h2 := hv.hi
  have h3 : sch.length + sch.length * sch.length + 1 ≤ 111 := by
    have : sch.length * sch.length ≤ 10 * 10 := Nat.mul_le_mul h2 h2
    omega
  have h4 : (sch.length + sch.length * sch.length + 1) * (t0.length + 1) ≤ 111 * 41 := Nat.mul_le_mul h3 (by omega)
  omega
theorem atM_mem2 {ds : ND} {k : NestedKey} {d : PyData} (h : atM ds k = some d) : (k, d) ∈ ds := by
  unfold atM at h
  obtain ⟨p, hp, e⟩ := Option.map_eq_some_iff.mp h
  have h1 := List.mem_of_find?_eq_some hp
  have h2 := List.find?_some hp
  have h2 : p.1 = k := of_decide_eq_true h2
  obtain ⟨a, b⟩ := p
  subst h2 e
  exact h1
theorem atM_none {ds : ND} {k : NestedKey} (h : atM ds k = none) : k ∉ ds.map (·.1) := fun hm => by
  unfold atM at h
  rw [Option.map_eq_none_iff, List.find?_eq_none] at h
  obtain ⟨p, hp, e⟩ := List.mem_map.mp hm
  exact h p hp (decide_eq_true e)
theorem Kn.put {sch : Sch} {t0 : List Nat} {ds : ND} (h : Kn sch t0 ds) {bl : List (List Nat)} {t : List Nat} {L : List (List Nat)} (hF : Fst (OfS sch bl t) L) (hb : bl = [] ∨ bl ∈ BS sch) (hs : t <:+ t0) : Kn sch t0 (putM ds (kWf bl t) (.list (L.map sD))) := by
  unfold putM
  split
  · refine ⟨?_, fun p hp => ?_⟩
    · rw [List.map_map]
      have : ((fun p : NestedKey × PyData => p.1) ∘ fun p : NestedKey × PyData => if p.1 = kWf bl t then (p.1, PyData.list (L.map sD)) else p) = fun p => p.1 := by
        funext p
        show (if p.1 = kWf bl t then (p.1, PyData.list (L.map sD)) else p).1 = p.1
        split <;> rfl
      rw [this]
      exact h.nd
    · obtain ⟨q, hq, rfl⟩ := List.mem_map.mp hp
      split
      · rename_i e
        exact ⟨bl, t, L, e, rfl, hF, hb, hs⟩
      · exact h.ok q hq
  · rename_i hn
    have hn2 : atM ds (kWf bl t) = none := by
      cases e : atM ds (kWf bl t) with
      | none => rfl
      | some d => rw [e] at hn; exact absurd rfl hn
    refine ⟨?_, fun p hp => ?_⟩
    · rw [List.map_append, List.nodup_append]
      refine ⟨h.nd, by simp, fun a ha b hb e => ?_⟩
      rw [List.map_cons, List.map_nil, List.mem_singleton] at hb
      subst e hb
      exact atM_none hn2 ha
    · rcases List.mem_append.mp hp with hp | hp
      · exact h.ok p hp
      · rw [List.mem_singleton.mp hp]
        exact ⟨bl, t, L, rfl, rfl, hF, hb, hs⟩
structure IxWf where
  sch : Sch
  bl : List (List Nat)
  t : List Nat
  t0 : List Nat
structure WfOk (n : Nat) (i : IxWf) (ds : ND) : Prop where
  v : Valid i.sch
  b : i.bl = [] ∨ i.bl ∈ BS i.sch
  s : i.t <:+ i.t0
  l : i.t0.length ≤ 40
  n : i.t.length < n
  k : Kn i.sch i.t0 ds
def spFrom (P : Program) (w : World) (n : Nat) : Sp := Osp P w (fun i : IxWf => [schD i.sch, bsD i.bl, sD i.t]) (WfOk n) (fun i _ y ds' => (∃ L, y = .list (L.map sD) ∧ Fst (OfS i.sch i.bl i.t) L) ∧ Kn i.sch i.t0 ds')
theorem bs_ok {sch : Sch} (hv : Valid sch) {bl : List (List Nat)} (h : bl = [] ∨ bl ∈ BS sch) : bl.length ≤ 20 ∧ ∀ b ∈ bl, 1 ≤ b.length ∧ b.length ≤ 2 := by
  rcases h with rfl | h
  · exact ⟨by simp, fun b hb => (by cases hb)⟩
  · have := bs_few h
    have := hv.hi
    exact ⟨by omega, bs_len hv.sr3 h⟩
theorem bs_step {sch : Sch} (hv : Valid sch) {bl : List (List Nat)} (h : bl = [] ∨ bl ∈ BS sch) {p : List Nat × List Nat} (hp : p ∈ sch) : aftB sch bl p.1 ∈ BS sch := by
  have hm : p.1 ∈ sch.map (·.1) := List.mem_map.mpr ⟨p, hp, rfl⟩
  rcases h with rfl | h
  · exact bs_first hm
  · exact bs_next hv.sr3 h hm
abbrev N_words_from : List Str := ["scheme", "blocked", "text", "known", "words", "source", "target", "rest", "word"]
theorem sc_words_from : FnScope N_words_from ["scheme", "blocked", "text", "known"] (defScope s_words_from) := ⟨rfl, rfl, rfl, by decide +kernel, rfl, by decide +kernel, by decide +kernel⟩
theorem fromS (d : Defn K mg "words_from" s_words_from ["scheme", "blocked", "text", "known"]) (B : Bt K mg) (c_blocked_after : Cl P w K mg base 1 "blocked_after" spBlocked) (c_is_allowed : Cl P w K mg base 1 "is_allowed" spAllowed) (c_in_order : Cl P w K mg base 1 "in_order" spInOrder) (n : Nat) (c_words_from : Cl P w K mg base (1 + n) "words_from" (spFrom P w n)) : Cl P w K mg base (1 + (n + 1)) "words_from" (spFrom P w (n + 1)) := by
  rw [show 1 + (n + 1) = (1 + n) + 1 by omega]
  refine cl_osp d sc_words_from (fun i => rfl) (by decide) fun f cdv A outer s H E hr => ?_
  refine ⟨_, (PSs.nox (pss_cons (ps_if (kt_eq K hr (pv 2) pe_str) (pss_one (ps_ret (pe_lst (pa_cons pe_str pa_nil)))) pss_nil) (pss_cons (ps_if (kt_ninN hr (pe_tupF (pa_cons (pv 1) (pa_cons (pv 2) pa_nil))) (pv 3)) (pss_cons (ps_set (i := 4) sc_words_from.nd rfl (Or.inl rfl) (pe_lst pa_nil)) (pss_cons (ps_for PassesOwn.never rfl (k_i K (pv 0)) (k_gt K (n := 2) rfl (pgs_cons (pg_name (i := 5) sc_words_from.nd rfl (Or.inr rfl)) (pgs_cons (pg_name (i := 6) sc_words_from.nd rfl (Or.inl rfl)) pgs_nil))) (pss_one (ps_if (PW.pt (pw_and (pt_val (k_starts (pv 2) (pv 6))) (pw_and1 (pt_val (pe_f c_is_allowed hr (by omega) (by rfl) (pa_cons (pv 1) (pa_cons (pv 5) pa_nil))))))) (pss_cons (ps_set (i := 7) sc_words_from.nd rfl (Or.inl rfl) (pe_f c_words_from hr (by omega) (by rfl) (pa_cons (pv 0) (pa_cons (pe_f c_blocked_after hr (by omega) (by rfl) (pa_cons (pv 0) (pa_cons (pv 1) (pa_cons (pv 5) pa_nil)))) (pa_cons (k_sl K (pv 2) (po_some (k_len K (by rfl) B.len (pa_cons (pv 6) pa_nil))) po_none) (pa_cons (pv 3) pa_nil)))))) (pss_one (ps_expr (pe_bm PySem.F.plainAttrs_list PySem.F.slot_list_extend PySem.F.type_list_extend mt_extend (pv 4) (pa_cons (pe_lc (own := [("word", 8)]) rfl sc_words_from.nd (k_i K (pv 7)) (blkOk_by (N := N_words_from) (sc := defScope s_words_from) (by decide +kernel)) (fun _ _ _ _ _ => (pg_name (i := 8) sc_words_from.nd rfl (Or.inl rfl))) (fun _ _ _ _ _ => pts_nil) (fun _ _ _ _ _ => (k_add K (pv 5) (pv 8)))) pa_nil))))) pss_nil))) (pss_one (ps_asg (k_sl K (pe_f c_in_order hr (by omega) (by rfl) (pa_cons (pv 4) pa_nil)) po_none (po_some (C8.pe_gc (by rfl) B.k_MANY))) (pg_sub (pv 3) (pe_tupF (pa_cons (pv 1) (pa_cons (pv 2) pa_nil))) (set_N hr)))))) pss_nil) (pss_one (ps_ret (k_ixN hr (pv 3) (pe_tupF (pa_cons (pv 1) (pa_cons (pv 2) pa_nil))) (fun _ _ => rfl))))))), ?_⟩
  rintro ⟨sch, bl, t, t0⟩ ds kn ⟨hv, hb, hs, hl, hn, hk⟩
  dsimp only at hv hb hs hl hn hk
  have htl : t.length ≤ 40 := Nat.le_trans hs.length_le hl
  obtain ⟨hb1, hb2⟩ := bs_ok hv hb
  have hbne : ∀ b ∈ bl, b ≠ [] := fun b h e => by
    have := (hb2 b h).1
    rw [e] at this
    simp at this
  by_cases ht : t = []
  · subst ht
    refine sm_seq (sm_ifb (b := true) ((et_t (ev_eqS (ev_var rfl) (ev_s (l := []) rfl))).mono fun b e => by rw [e]; rfl) (fun _ => sm_ret (EvO.d (eo_lst (ea_c (ev_s (l := []) rfl) ea_nil) fun xs e => by rw [e]; exact size_ok (by simp))) ⟨_, rfl, ⟨[[]], rfl, ?_⟩, hk⟩) fun h => by cases h)
    refine ⟨List.pairwise_singleton _ _, fun w hw => ?_, by simp, fun w hw => .inl ?_⟩
    · rw [List.mem_singleton.mp hw]
      exact (ofS_nil hv).mpr rfl
    · rw [(ofS_nil hv).mp hw]
      exact List.mem_singleton.mpr rfl
  refine sm_seq (sm_ifb (b := false) ((et_t (ev_eqS (ev_var rfl) (ev_s (l := []) rfl))).mono fun b e => by rw [e]; exact decide_eq_false ht) (fun h => by cases h) fun _ => sm_next (sm_go ?_))
  have hkey : ∀ {ρ : List Sl}, ρ[1]? = some (.d (bsD bl)) → ρ[2]? = some (.d (sD t)) → Ev T0 (tTupF (tCons (tVar 1) (tCons (tVar 2) tNil))) ρ (nkD (kWf bl t)) := fun h1 h2 => (ev_tup (ea_c (ev_var h1) (ea_c (ev_var h2) ea_nil)) (size_ok (by simp))).cast (kWf_D bl t).symm
  have hdep := kWf_dep bl t
  have htup : ∃ ks, kWf bl t = .tup ks := ⟨_, rfl⟩
  have fin : ∀ {ρ : List Sl} {ds' : ND} {L : List (List Nat)}, ρ[1]? = some (.d (bsD bl)) → ρ[2]? = some (.d (sD t)) → ρ[3]? = some (.og (ndI P w (fun a => a = kn) ds')) → atM ds' (kWf bl t) = some (.list (L.map sD)) → Kn sch t0 ds' → Fst (OfS sch bl t) L → (∀ y, Po.rt { rt := fun y r => ∃ ds', r[3]? = some (.og (ndI P w (fun a => a = kn) ds')) ∧ (∃ L, y = .list (L.map sD) ∧ Fst (OfS sch bl t) L) ∧ Kn sch t0 ds' } y ρ → True) → True := fun _ _ _ _ _ _ _ => trivial
  cases hat : atM ds (kWf bl t) with
  | some d0 =>
    obtain ⟨bl', t', L, e1, e2, hF, _, _⟩ := hk.ok _ (atM_mem2 hat)
    obtain ⟨rfl, rfl⟩ := kWf_inj e1
    have e2 : d0 = .list (L.map sD) := e2
    subst e2
    refine sm_seq (sm_ifb (b := false) ((et_t (ev_inN (k := kWf bl t) (ds := ds) (g := fun a => a = kn) rfl (hkey rfl rfl) htup hdep)).mono fun b e => by rw [e, hat]; rfl) (fun h => by cases h) fun _ => sm_next (sm_go ?_))
    exact sm_ret (ev_ixN (k := kWf bl t) (ds := ds) (g := fun a => a = kn) rfl (hkey rfl rfl) htup hdep hat) ⟨ds, rfl, ⟨L, rfl, hF⟩, hk⟩
  | none =>
    refine sm_seq (Sm.mono (P := { nx := fun r => ∃ ds' L s4 s5 s6 s7, r = [.d (schD sch), .d (bsD bl), .d (sD t), .og (ndI P w (fun a => a = kn) ds'), s4, s5, s6, s7, .un] ∧ atM ds' (kWf bl t) = some (.list (L.map sD)) ∧ Fst (OfS sch bl t) L ∧ Kn sch t0 ds' }) ?_ (fun r h => ?_) (fun _ _ z => z.elim) (fun _ z => z.elim) (fun _ z => z.elim) (fun _ _ z => z.elim))
    · refine sm_ifb (b := true) ((et_t (ev_inN (k := kWf bl t) (ds := ds) (g := fun a => a = kn) rfl (hkey rfl rfl) htup hdep)).mono fun b e => by rw [e, hat]; rfl) (fun _ => ?_) fun h => by cases h
      refine sm_seq (sm_asgO (eo_lst ea_nil fun xs e => by rw [e]; exact size_ok (Nat.zero_le _)) fun xs e => sm_go ?_)
      subst e
      refine sm_seq (sm_for (wk_T (ev_var rfl)) ?_)
      rintro xs rfl
      refine ⟨fun i r => ∃ ds' s5 s6 s7, r = [.d (schD sch), .d (bsD bl), .d (sD t), .og (ndI P w (fun a => a = kn) ds'), .ol ((mrg sch bl t (fun p => theW (OfS sch (aftB sch bl p.1) (t.drop p.2.length))) (sch.take i)).map sD), s5, s6, s7, .un] ∧ Kn sch t0 ds' ∧ ∀ p ∈ sch.take i, fitB bl t p = true → Fst (OfS sch (aftB sch bl p.1) (t.drop p.2.length)) (theW (OfS sch (aftB sch bl p.1) (t.drop p.2.length))), ⟨ds, _, _, _, rfl, hk, fun p hp => (by simp at hp)⟩, ?_, ?_⟩
      · rintro i x r hx ⟨ds', s5, s6, s7, rfl, hk', hall⟩
        obtain ⟨p, hp, rfl⟩ : ∃ p, sch[i]? = some p ∧ entD p = x := by
          rw [List.getElem?_map] at hx
          exact Option.map_eq_some_iff.mp hx
        have hpm := List.mem_of_getElem? hp
        have hp1 := (hv.pt p hpm).1
        have hp2 := (hv.pt p hpm).2
        have h11 := hp1.2.1
        have h22 := hp2.2.1
        have htk : sch.take (i + 1) = sch.take i ++ [p] := by
          rw [List.take_add_one, hp]
          rfl
        have hmr : mrg sch bl t (fun p => theW (OfS sch (aftB sch bl p.1) (t.drop p.2.length))) (sch.take (i + 1)) = mrg sch bl t (fun p => theW (OfS sch (aftB sch bl p.1) (t.drop p.2.length))) (sch.take i) ++ (if fitB bl t p = true then (theW (OfS sch (aftB sch bl p.1) (t.drop p.2.length))).map (p.1 ++ ·) else []) := by
          rw [htk]
          unfold mrg
          rw [List.flatMap_append, List.flatMap_cons, List.flatMap_nil, List.append_nil]
        have hlen : (mrg sch bl t (fun p => theW (OfS sch (aftB sch bl p.1) (t.drop p.2.length))) (sch.take i)).length ≤ 500 := by
          have h1 := mrg_len (sch := sch) (bl := bl) (t := t) (R := fun p => theW (OfS sch (aftB sch bl p.1) (t.drop p.2.length))) (l := sch.take i) fun q hq hf => (hall q hq hf).len
          rw [List.length_take] at h1
          have h2 := hv.hi
          have : min i sch.length * 50 ≤ 10 * 50 := Nat.mul_le_mul (by omega) (Nat.le_refl _)
          omega
        refine ⟨_, tg_tup (tgs_cons tg_name (tgs_cons tg_name tgs_nil)) rfl, ?_⟩
        refine sm_ifb (b := fitB bl t p) (et_and (et_b (ev_starts (ev_var rfl) (ev_var rfl))) fun _ => et_b (ev_call (⟨bl, p.1⟩ : IxAl) (ea_c (ev_var rfl) (ea_c (ev_var rfl) ea_nil)) (by show bl.length ≤ 1000; omega) fun y e => e)) (fun hf => ?_) fun hf => sm_next ⟨ds', .d (sD p.1), .d (sD p.2), s7, ?_, hk', fun q hq hfq => ?_⟩
        · have hfa : t.take p.2.length = p.2 := by
            unfold fitB at hf
            rw [Bool.and_eq_true, decide_eq_true_eq] at hf
            exact hf.1
          have hpl : p.2.length ≤ t.length := by
            have := congrArg List.length hfa
            rw [List.length_take] at this
            omega
          have hp0 : 1 ≤ p.2.length := hp2.1
          refine sm_seq (sm_asgL (j := 7) (i := 3) (g := fun a => a = kn) (⟨sch, aftB sch bl p.1, t.drop p.2.length, t0⟩ : IxWf) (eao_cons (ev_var rfl) (eao_cons (ev_call (⟨sch, bl, p.1⟩ : IxB) (ea_c (ev_var rfl) (ea_c (ev_var rfl) (ea_c (ev_var rfl) ea_nil))) ⟨hv, by show bl.length ≤ 1000; omega, fun b h => by have := (hb2 b h).2; omega, by show p.1.length ≤ 100; omega⟩ fun y e => e) (eao_cons ((ev_slS (a := t) (ev_var rfl) (eb_some (ev_lenS (a := p.2) (ev_var rfl) (size_ok (by omega)))) eb_none (size_ok (by omega))).cast (by rw [cut_drop])) (eao_last (g := fun a => a = kn) (ds := ds') rfl)))) rfl ⟨hv, .inr (bs_step hv hb hpm), ?_, hl, ?_, hk'⟩ fun y ds2 hy => sm_go ?_)
          · exact List.IsSuffix.trans (List.drop_suffix _ _) hs
          · show (t.drop p.2.length).length < n
            rw [List.length_drop]
            omega
          · obtain ⟨⟨L, rfl, hF⟩, hk2⟩ := hy
            have hF : Fst (OfS sch (aftB sch bl p.1) (t.drop p.2.length)) L := hF
            have eL := hF.is
            have hxl : ∀ x ∈ L, x.length ≤ 120 := fun x hx => by
              have h1 := (hF.mem x hx).few hv
              rw [List.length_drop] at h1
              omega
            have hLl := hF.len
            refine sm_extend (i := 4) (ys := (L.map (p.1 ++ ·)).map sD) rfl (EvO.d ((eo_lc1 (h := sD) (as := L) (r := fun c => _) (f := fun x => sD (p.1 ++ x)) (wk_L (ev_var rfl)) (size_lt (by omega)) (fun c _ => tw_name (by simp)) fun x hx => ev_addS (ev_var rfl) (ev_var rfl) (size_ok (by have := hxl x hx; omega))).mono fun ys e => by rw [e, List.map_map]; rfl)) ?_ ⟨ds2, .d (sD p.1), .d (sD p.2), .d (.list (L.map sD)), ?_, hk2, fun q hq hfq => ?_⟩
            · rw [List.length_map, List.length_map, List.length_map]
              exact size_ok (by omega)
            · rw [hmr, if_pos hf, List.map_append, ← eL]
              rfl
            · rw [htk] at hq
              rcases List.mem_append.mp hq with hq | hq
              · exact hall q hq hfq
              · rw [List.mem_singleton.mp hq]
                exact hF.the
        · rw [hmr, if_neg (by rw [hf]; simp), List.append_nil]
          rfl
        · rw [htk] at hq
          rcases List.mem_append.mp hq with hq | hq
          · exact hall q hq hfq
          · rw [List.mem_singleton.mp hq, hf] at hfq
            cases hfq
      · rintro r ⟨ds', s5, s6, s7, rfl, hk', hall⟩
        rw [List.length_map, List.take_length] at hall
        have et : (sch.take (sch.map entD).length) = sch := by rw [List.length_map, List.take_length]
        rw [et]
        have hF := fst_mrg hv hbne ht (R := fun p => theW (OfS sch (aftB sch bl p.1) (t.drop p.2.length))) hall
        have hlen : (mrg sch bl t (fun p => theW (OfS sch (aftB sch bl p.1) (t.drop p.2.length))) sch).length ≤ 500 := by
          have h1 := mrg_len (sch := sch) (bl := bl) (t := t) (R := fun p => theW (OfS sch (aftB sch bl p.1) (t.drop p.2.length))) (l := sch) fun q hq hf => (hall q hq hf).len
          have h2 := hv.hi
          omega
        have hwl : ∀ x ∈ mrg sch bl t (fun p => theW (OfS sch (aftB sch bl p.1) (t.drop p.2.length))) sch, x.length ≤ 1000 := fun x hx => by
          unfold mrg at hx
          obtain ⟨p, hp, h⟩ := List.mem_flatMap.mp hx
          split at h
          · rename_i hf
            obtain ⟨y, hy, rfl⟩ := List.mem_map.mp h
            have h1 := ((hall p hp hf).mem y hy).few hv
            have h2 := (hv.pt p hp).1.2.1
            rw [List.length_drop] at h1
            rw [List.length_append]
            omega
          · cases h
        refine sm_go (sm_freeze (i := 4) rfl ?_)
        refine sm_putN (k := kWf bl t) (ds := ds') (g := fun a => a = kn) (x := .list (((ordW (mrg sch bl t (fun p => theW (OfS sch (aftB sch bl p.1) (t.drop p.2.length))) sch)).take 50).map sD)) rfl ((ev_slL (ev_call (⟨mrg sch bl t (fun p => theW (OfS sch (aftB sch bl p.1) (t.drop p.2.length))) sch, false⟩ : IxO) (ea_c (ev_var rfl) ea_nil) ⟨by dsimp only; omega, fun x hx => by have := hwl x hx; omega⟩ fun y e => e) eb_none (eb_some (i := 50) ev_int)).cast (by rw [show (50 : Int) = ((50 : Nat) : Int) from rfl, cut_take, List.map_take])) (hkey rfl rfl) htup hdep (size_lt (by have := hk'.few hv hl; omega)) ?_
        exact ⟨_, _, _, _, _, _, rfl, by rw [atM_put, if_pos rfl], hF, hk'.put hF hb hs⟩
    · obtain ⟨ds', L, s4, s5, s6, s7, rfl, h1, hF, hk'⟩ := h
      exact sm_go (sm_ret (ev_ixN (k := kWf bl t) (ds := ds') (g := fun a => a = kn) rfl (hkey rfl rfl) htup hdep h1) ⟨ds', rfl, ⟨L, rfl, hF⟩, hk'⟩)
theorem from0 (d : Defn K mg "words_from" s_words_from ["scheme", "blocked", "text", "known"]) : Cl P w K mg base (1 + 0) "words_from" (spFrom P w 0) :=
  cl_of d sc_words_from (fun _ _ _ _ h => by obtain ⟨_, _, _, _, _, _, _, _, _, _, _, _, hp, _⟩ := h; exact absurd hp.n (Nat.not_lt_zero _)) fun _ _ _ _ _ _ _ _ _ _ h => by obtain ⟨_, _, _, _, _, _, _, _, _, _, _, _, hp, _⟩ := h; exact absurd hp.n (Nat.not_lt_zero _)
theorem fromN (d : Defn K mg "words_from" s_words_from ["scheme", "blocked", "text", "known"]) (B : Bt K mg) (c_blocked_after : Cl P w K mg base 1 "blocked_after" spBlocked) (c_is_allowed : Cl P w K mg base 1 "is_allowed" spAllowed) (c_in_order : Cl P w K mg base 1 "in_order" spInOrder) : ∀ n, Cl P w K mg base (1 + n) "words_from" (spFrom P w n)
  | 0 => from0 d
  | n + 1 => fromS d B c_blocked_after c_is_allowed c_in_order n (fromN d B c_blocked_after c_is_allowed c_in_order n)
theorem cl_words_from (d : Defn K mg "words_from" s_words_from ["scheme", "blocked", "text", "known"]) (B : Bt K mg) (c_blocked_after : Cl P w K mg base 1 "blocked_after" spBlocked) (c_is_allowed : Cl P w K mg base 1 "is_allowed" spAllowed) (c_in_order : Cl P w K mg base 1 "in_order" spInOrder) : Cl P w K mg base 42 "words_from" (spFrom P w 41) := fromN d B c_blocked_after c_is_allowed c_in_order 41
/-- all words of a scheme with a transliteration -/
def Wfor (sch : Sch) (t w : List Nat) : Prop := Over (lets sch) w ∧ wr sch w = t
def spFor (K : PySem.W.Frag) : Sp := Fsp (fun i : IxA => [i.d, i.wd]) preA (fun i y => isSch i.d = true ∧ isStr 0 40 LET i.wd = true ∧ ∃ L, y = .list (L.map sD) ∧ Fst (Wfor (schOf i.d) (strOf i.wd)) L)
  (fun i c => (isSch i.d = false ∧ c = xS K) ∨ (isSch i.d = true ∧ isStr 0 40 LET i.wd = false ∧ c = xT K))
abbrev N_words_for : List Str := ["scheme", "text"]
theorem sc_words_for : FnScope N_words_for ["scheme", "text"] (defScope s_words_for) := ⟨rfl, rfl, rfl, by decide +kernel, rfl, by decide +kernel, by decide +kernel⟩
theorem cl_words_for (d : Defn K mg "words_for" s_words_for ["scheme", "text"]) (B : Bt K mg) (c_need_scheme : Cl P w K mg base 4 "need_scheme" (spNeedScheme K)) (c_is_string : Cl P w K mg base 1 "is_string" spIsString) (c_words_from : Cl P w K mg base 42 "words_from" (spFrom P w 41)) : Cl P w K mg base 43 "words_for" (spFor K) := by
  refine cl_fn d sc_words_for (fun i => rfl) fun f cdv A outer s H E hr => ?_
  refine ⟨_, (pss_cons (ps_expr (pe_fx c_need_scheme (L2N.takes_of rfl rfl rfl rfl) hr (by decide) (by rfl) (pa_cons (pv 0) pa_nil))) (pss_cons (ps_if (pt_not (pt_val (pe_f c_is_string hr (by decide) (by rfl) (pa_cons (pv 1) (pa_cons pe_int (pa_cons (C8.pe_gc (by rfl) B.k_LENGTH) (pa_cons (C8.pe_gc (by rfl) B.k_LETTERS) pa_nil))))))) (pss_one (L2N.ps_raise rfl (L2N.takes_of rfl rfl rfl rfl) (pmk_own0 PySem.F.excBase_ValueError B.InvalidText.x B.InvalidText.g B.InvalidText.k (raises_own B.InvalidText.b B.InvalidText.t) (by rfl)))) pss_nil) (pss_one (ps_ret (pe_f c_words_from hr (by decide) (by rfl) (pa_cons (pv 0) (pa_cons (pe_tupF pa_nil) (pa_cons (pv 1) (pa_cons pe_dnewN pa_nil))))))))), ?_⟩
  rintro ⟨d, wd⟩ ⟨hd, hw⟩
  dsimp only at hd hw
  refine sm_seq (sm_callX d (ea_c (ev_var rfl) ea_nil) hd (fun y hy => sm_go ?_) fun c h => .inl h)
  obtain ⟨e, hv⟩ := sch_ok hy.1
  refine sm_seq (sm_ifb (et_not (et_b (ev_call (⟨wd, 0, 40, LET, sD LET⟩ : IsS) (ea_c (ev_var rfl) (ea_c ev_int (ea_c ev_int (ea_c ev_str ea_nil)))) ⟨.s, hw.plain, hw.len⟩ fun y e => e))) (fun h => sm_raise (.inr ⟨hy.1, nb_t h, rfl⟩)) fun h => sm_next (sm_go ?_))
  have hs := nb_f h
  obtain ⟨e2, hl, _, hm⟩ := isStr_ok hs
  replace hl : ((strOf wd).length : Int) ≤ 40 := hl
  refine sm_retN (⟨schOf d, [], strOf wd, strOf wd⟩ : IxWf) (ean_cons (ev_var (show _ = some (Sl.d (schD (schOf d))) by rw [← e]; rfl)) (ean_cons (ev_tup ea_nil (size_ok (by simp))) (ean_cons (ev_var (show _ = some (Sl.d (sD (strOf wd))) by rw [← e2]; rfl)) ean_last))) ⟨hv, .inl rfl, List.suffix_rfl, by dsimp only; omega, by dsimp only; omega, Kn.nil _ _⟩ fun y ds' h => ⟨hy.1, hs, ?_⟩
  obtain ⟨⟨L, e3, hF⟩, _⟩ := h
  exact ⟨L, e3, hF.congr fun w => ofS_word hv⟩
end Tr

set_option Elab.async false
set_option linter.all false
set_option maxRecDepth 100000
/-! E3: words of a set, in order. -/
namespace Tr
open PySem PySem.Spec PyProof.Rows L2 TL
variable [PWc] {K : PySem.W.Frag}
theorem eo_slLP {T : Tn} {ρ : List Sl} {ta : TE} {tl th : TO} {lo hi : Option Int} {A : List PyData → Prop} (ha : EvP T ta ρ fun d => ∃ xs, d = .list xs ∧ A xs) (h1 : EvB T tl ρ lo) (h2 : EvB T th ρ hi) : EvO T (tSl (rSlU K) ta tl th) ρ fun ys => ∃ xs, ys = cutL xs lo hi ∧ A xs := fun F0 H0 σ F H e Q q =>
  ha F0 H0 σ F H e _ fun v F1 H1 x e1 px r1 => h1 F0 H0 σ F1 H1 (e.ext e1) _ fun F2 H2 e2 => h2 F0 H0 σ F2 H2 ((e.ext e1).ext e2) _ fun F3 H3 e3 => by
    obtain ⟨xs, rfl, hx⟩ := px
    obtain ⟨a, vs, rfl, hk, r⟩ := r1.lst_eq
    have x3 := (e1.trans e2).trans e3
    have e4 := e.ext x3
    refine .inr ⟨a, vs, rfl, SqL.of (e3.fh _ _ (e3.ff _ _ (e2.ff _ _ hk))), fun p hp => ?_⟩
    exact q p _ _ F3 _ (x3.trans (Ext.new1 e4.le hp)) (freshH e x3 hp) (e4.le.free hp) upd_same ⟨xs, rfl, hx⟩ ((r.mono (e2.ff.trans e3.ff)).cut lo hi)
/-- the word's key -/
def kW (x : List Nat) : NestedKey := .tup [.num ((x.length : Nat) : Int), .text (S x)]
theorem kW_D (x : List Nat) : nkD (kW x) = encW x := by
  unfold kW encW
  rw [nkD, nkDs, nkDs, nkDs]
  rfl
theorem kW_inj {x y : List Nat} (h : kW x = kW y) : x = y := by
  have := congrArg nkD h
  rw [kW_D, kW_D] at this
  unfold encW at this
  injection this with this
  injection this with _ this
  injection this with this _
  exact S_inj (PyData.str.inj this)
/-- [word for count, word in sorted(set(pairs))] -/
theorem eo_ordSet {T : Tn} {ρ : List Sl} {te tw : TE} {g : TG} {vs : List Nat} {ws : List (List Nat)} {r : List Nat → List Sl} (ha : Ev T te ρ (.list (ws.map encW))) (hl : ws.length ≤ 9900) (hg : ∀ a, TgW T g vs (encW a) (wipeR ρ vs) (r a)) (he : ∀ a, Ev T tw (r a) (sD a)) :
    EvO T (tLc (iAny K (tCB (rSortSetN P w) (tCons (tCB (rSetK K P w) (tCons te tNil)) tNil))) g tYes tw vs) ρ fun ys => ∃ zs : List (List Nat), zs.Nodup ∧ (∀ x, x ∈ zs ↔ x ∈ ws) ∧ ys = (ordW zs).map sD := by
  have ek : ws.map encW = (ws.map kW).map nkD := by
    rw [List.map_map]
    exact List.map_congr_left fun x _ => (kW_D x).symm
  have inks : ∀ {k : NestedKey}, k ∈ ws.map kW → ∃ x ∈ ws, k = kW x := fun {k} hk => by
    obtain ⟨x, hx, e⟩ := List.mem_map.mp hk
    exact ⟨x, hx, e.symm⟩
  have lift : ∀ zs : List NestedKey, (∀ z ∈ zs, z ∈ ws.map kW) → ∃ xs : List (List Nat), zs = xs.map kW := fun zs => by
    induction zs with
    | nil => exact fun _ => ⟨[], rfl⟩
    | cons z zs ih =>
      intro h
      obtain ⟨xs, e⟩ := ih fun y hy => h y (List.mem_cons_of_mem _ hy)
      obtain ⟨x, _, e2⟩ := inks (h z (by simp))
      exact ⟨x :: xs, by rw [e, e2]; rfl⟩
  rw [ek] at ha
  have h1 := eo_sortSetN (K := K) ha (fun k hk => by obtain ⟨x, _, rfl⟩ := inks hk; exact ⟨_, rfl⟩) (fun k hk => by
    obtain ⟨x, _, rfl⟩ := inks hk
    simp [kW, NestedKey.depth, NestedKey.depthAll]) (by rw [List.length_map]; exact hl) (by rw [← ek]; exact alike_encW ws) (fun zs hz => .inl fun x hx => by
    obtain ⟨z, hz2, rfl⟩ := List.mem_map.mp hx
    obtain ⟨y, _, rfl⟩ := inks (hz z hz2)
    rw [kW_D]
    exact ⟨_, _, rfl⟩) (fun k hk => by
    obtain ⟨x, _, rfl⟩ := inks hk
    rw [kW_D]
    simp [encW, PyData.depth, PyData.depthAll])
  refine (eo_lcS (h := encW) (A := fun as => ∃ zs : List (List Nat), zs.Nodup ∧ (∀ x, x ∈ zs ↔ x ∈ ws) ∧ as = ordW zs) (f := fun _ a => sD a) (r := r) (wk_any ((EvO.p h1).mono ?_)) ?_ hg fun as _ a _ => he a).mono ?_
  · rintro d ⟨ys, rfl, zs, nd, hx, rfl⟩
    obtain ⟨xs, rfl⟩ := lift zs fun z hz => (hx z).mp hz
    refine .inl ⟨_, rfl, ordW xs, ⟨xs, ?_, fun x => ?_, rfl⟩, ?_⟩
    · exact (List.pairwise_map.mp nd).imp fun hne e => hne (by rw [e])
    · have := hx (kW x)
      constructor
      · intro h
        obtain ⟨y, hy, e⟩ := inks (this.mp (List.mem_map.mpr ⟨x, h, rfl⟩))
        rw [kW_inj e]
        exact hy
      · intro h
        obtain ⟨y, hy, e⟩ := List.mem_map.mp (this.mpr (List.mem_map.mpr ⟨x, h, rfl⟩))
        rw [← kW_inj e]
        exact hy
    · have : (xs.map kW).map nkD = xs.map encW := by
        rw [List.map_map]
        exact List.map_congr_left fun x _ => kW_D x
      rw [this, srt_enc]
  · rintro as ⟨zs, nd, hx, rfl⟩
    have : (ordW zs).length = zs.length := List.length_mergeSort _
    rw [this]
    have := nd_sub nd fun x h => (hx x).mp h
    exact size_lt (by omega)
  · rintro ys ⟨as, ⟨zs, nd, hx, rfl⟩, rfl⟩
    exact ⟨zs, nd, hx, rfl⟩
/-- the first signs of a text by chance -/
theorem evp_cutS {T : Tn} {ρ : List Sl} {ta te : TE} {A : List Nat → Prop} {i n : Nat} (ha : EvP T ta ρ fun d => ∃ l, d = sD l ∧ l.length ≤ n ∧ A l) (hb : Ev T te ρ (.int (i : Int))) (hn : n ≤ 100000) : EvP T (tSl (rSlU K) ta tNoPart (tPart te)) ρ fun d => ∃ l, d = sD (l.take i) ∧ A l := fun F0 H0 σ F H e Q q =>
  ha F0 H0 σ F H e _ fun v F1 H1 x e1 px r1 => hb F0 H0 σ F1 H1 (e.ext e1) _ fun u F2 H2 e2 r2 => by
    obtain ⟨l, rfl, hl, hA⟩ := px
    refine ⟨_, r2.int_eq, .inl ⟨S l, r1.str_eq, by rw [S_len]; exact size_ok (by omega), ?_⟩⟩
    rw [cutS_S, cut_take]
    exact q _ F2 H2 _ (e1.trans e2) ⟨l, rfl, hA⟩ (.str _)
end Tr

set_option Elab.async false
set_option linter.all false
set_option maxRecDepth 100000
set_option maxHeartbeats 4000000
/-! K03: all words with a transliteration, as the law finds them. -/
namespace Tr
open PySem PySem.Spec PyProof.Rows L2 TL
variable [PWc] {K : PySem.W.Frag} {mg : Str → Option Value} {base : Heap}
abbrev WR := List Nat × List Nat
def fitR (r : List Nat) (p : WR) : Bool := decide (r.take p.2.length = p.2)
def goR (q p : WR) : WR := (q.1 ++ p.1, q.2.drop p.2.length)
def lvl (sch : Sch) (l : List WR) : List WR := l.flatMap fun q => (sch.filter (fitR q.2)).map (goR q)
def lv (sch : Sch) (t : List Nat) : Nat → List WR
  | 0 => [([], t)]
  | k + 1 => lvl sch (lv sch t k)
def isF (sch : Sch) (t : List Nat) (q : WR) : Bool := decide (q.2 = []) && decide (wr sch q.1 = t)
def fndL (sch : Sch) (t : List Nat) (l : List WR) : List (List Nat) := (l.filter (isF sch t)).map (·.1)
def fnd (sch : Sch) (t : List Nat) (k : Nat) : List (List Nat) := (List.range k).flatMap fun i => fndL sch t (lv sch t i)
theorem fnd_succ (sch : Sch) (t : List Nat) (k : Nat) : fnd sch t (k + 1) = fnd sch t k ++ fndL sch t (lv sch t k) := by
  unfold fnd
  rw [List.range_succ, List.flatMap_append]
  simp
theorem lv_ok {sch : Sch} (hv : Valid sch) {t : List Nat} : ∀ {k : Nat} {q : WR}, q ∈ lv sch t k → Over (lets sch) q.1 ∧ q.1.length ≤ 3 * k ∧ q.2.length + k ≤ t.length
  | 0, q, h => by
    rw [List.mem_singleton.mp h]
    exact ⟨fun c hc => (by cases hc), by simp, by simp⟩
  | k + 1, q, h => by
    obtain ⟨u, hu, h2⟩ := List.mem_flatMap.mp h
    obtain ⟨p, hp, rfl⟩ := List.mem_map.mp h2
    obtain ⟨hp1, hp2⟩ := List.mem_filter.mp hp
    obtain ⟨i1, i2, i3⟩ := lv_ok hv hu
    have hf : u.2.take p.2.length = p.2 := of_decide_eq_true hp2
    have hl := congrArg List.length hf
    rw [List.length_take] at hl
    have h3 := (hv.pt p hp1).1.2.1
    have h4 : 1 ≤ p.2.length := (hv.pt p hp1).2.1
    refine ⟨fun c hc => ?_, ?_, ?_⟩
    · rcases List.mem_append.mp hc with hc | hc
      · exact i1 c hc
      · have hcl := hv.cl
        unfold clo at hcl
        rw [List.all_eq_true] at hcl
        exact mem_lets.mpr (of_decide_eq_true (hcl _ (List.mem_flatMap.mpr ⟨p.1, List.mem_map.mpr ⟨p, hp1, rfl⟩, List.mem_map.mpr ⟨c, hc, rfl⟩⟩)))
    · show (u.1 ++ p.1).length ≤ _
      rw [List.length_append]
      omega
    · show (u.2.drop p.2.length).length + _ ≤ _
      rw [List.length_drop]
      omega
theorem lvl_len (sch : Sch) : ∀ l : List WR, (lvl sch l).length ≤ l.length * sch.length
  | [] => by simp [lvl]
  | q :: l => by
    have ih := lvl_len sch l
    show ((sch.filter (fitR q.2)).map (goR q) ++ lvl sch l).length ≤ _
    have := List.length_filter_le (fitR q.2) sch
    rw [List.length_append, List.length_map, List.length_cons, Nat.add_mul]
    omega
theorem lv_len {sch : Sch} (h6 : sch.length ≤ 6) (t : List Nat) : ∀ k, (lv sch t k).length ≤ 6 ^ k
  | 0 => by simp [lv]
  | k + 1 => by
    have h1 := lv_len h6 t k
    have h2 := lvl_len sch (lv sch t k)
    rw [Nat.pow_succ]
    exact Nat.le_trans h2 (Nat.mul_le_mul h1 h6)
theorem fndL_len (sch : Sch) (t : List Nat) (l : List WR) : (fndL sch t l).length ≤ l.length := by
  unfold fndL
  rw [List.length_map]
  exact List.length_filter_le _ _
theorem fnd_len {sch : Sch} (h6 : sch.length ≤ 6) (t : List Nat) {k : Nat} (hk : k ≤ 6) : (fnd sch t k).length ≤ 9331 := by
  have s : ∀ k, (fnd sch t k).length ≤ ((List.range k).map fun i => 6 ^ i).sum := fun k => by
    induction k with
    | zero => simp [fnd]
    | succ k ih =>
      rw [fnd_succ, List.length_append, List.range_succ, List.map_append, List.sum_append]
      have h1 := fndL_len sch t (lv sch t k)
      have h2 := lv_len h6 t k
      simp
      omega
  have := s k
  have : ((List.range k).map fun i => 6 ^ i).sum ≤ 9331 := by
    have : ∀ k ∈ List.range 7, ((List.range k).map fun i => 6 ^ i).sum ≤ 9331 := by decide
    exact this k (List.mem_range.mpr (by omega))
  omega
theorem lv_has {sch : Sch} (hv : Valid sch) {t : List Nat} : ∀ {n : Nat} {ps : List (List Nat)} {r : List Nat}, ps.length = n → (∀ s ∈ ps, s ∈ sch.map (·.1)) → txt sch ps ++ r = t → (ps.flatten, r) ∈ lv sch t n
  | 0, ps, r, hl, _, e => by
    have : ps = [] := List.eq_nil_of_length_eq_zero hl
    subst this
    have e : r = t := e
    rw [e]
    exact List.mem_singleton.mpr rfl
  | n + 1, ps, r, hl, hs, e => by
    have hne : ps ≠ [] := fun z => by
      rw [z] at hl
      simp at hl
    have ed := List.dropLast_concat_getLast hne
    obtain ⟨p, hp, ep⟩ := List.mem_map.mp (hs _ (List.getLast_mem hne))
    have ep : p.1 = ps.getLast hne := ep
    have et : txt sch ps = txt sch ps.dropLast ++ p.2 := by
      conv => lhs; rw [← ed]
      rw [txt_app, ← ep]
      congr 1
      show (look sch p.1).getD [] ++ txt sch [] = p.2
      rw [look_p hv hp]
      show p.2 ++ [] = p.2
      exact List.append_nil _
    rw [et, List.append_assoc] at e
    have ih := lv_has hv (n := n) (ps := ps.dropLast) (r := p.2 ++ r) (by rw [List.length_dropLast]; omega) (fun s h => hs s ((List.dropLast_sublist _).subset h)) e
    refine List.mem_flatMap.mpr ⟨_, ih, List.mem_map.mpr ⟨p, List.mem_filter.mpr ⟨hp, decide_eq_true (by show (p.2 ++ r).take p.2.length = p.2; rw [List.take_left])⟩, ?_⟩⟩
    show (ps.dropLast.flatten ++ p.1, (p.2 ++ r).drop p.2.length) = _
    rw [List.drop_left, ep]
    congr 1
    conv => rhs; rw [← ed]
    simp
theorem lv_nil {sch : Sch} {t : List Nat} {k : Nat} (h : lv sch t k = []) : ∀ j, k ≤ j → lv sch t j = []
  | 0, hj => by
    have : k = 0 := by omega
    subst this
    exact h
  | j + 1, hj => by
    by_cases e : k = j + 1
    · subst e
      exact h
    · show lvl sch (lv sch t j) = []
      rw [lv_nil h j (by omega)]
      rfl
theorem fnd_mem {sch : Sch} (hv : Valid sch) {t : List Nat} {k : Nat} (h : lv sch t k = []) {x : List Nat} : x ∈ fnd sch t k ↔ Wfor sch t x := by
  unfold fnd
  rw [List.mem_flatMap]
  constructor
  · rintro ⟨i, _, hx⟩
    obtain ⟨q, hq, rfl⟩ := List.mem_map.mp hx
    obtain ⟨q1, q2⟩ := List.mem_filter.mp hq
    unfold isF at q2
    rw [Bool.and_eq_true, decide_eq_true_eq, decide_eq_true_eq] at q2
    exact ⟨(lv_ok hv q1).1, q2.2⟩
  · rintro ⟨ho, hw⟩
    obtain ⟨h1, h2, _⟩ := segs_ok ho
    have hf : (segs sch x).flatten = x := splitL_flat h1
    have hs : ∀ s ∈ segs sch x, s ∈ sch.map (·.1) := fun s hs => by
      have := (h2 s hs).1
      rw [look_isSome] at this
      exact of_decide_eq_true this
    have hm := lv_has hv (t := t) (n := (segs sch x).length) (ps := segs sch x) (r := []) rfl hs (by rw [List.append_nil, ← wr_txt]; exact hw)
    rw [hf] at hm
    refine ⟨(segs sch x).length, List.mem_range.mpr ?_, List.mem_map.mpr ⟨_, List.mem_filter.mpr ⟨hm, ?_⟩, rfl⟩⟩
    · rcases Nat.lt_or_ge (segs sch x).length k with z | z
      · exact z
      · rw [lv_nil h _ z] at hm
        cases hm
    · unfold isF
      simp [hw]
theorem sm_parOO3 {T : Tn} {W : WX} {ρ : List Sl} {P : Po} {ta tb : TE} {i j : Nat} {R1 R2 : List PyData → Prop} (hij : i ≠ j) (h1 : EvO T ta ρ R1) (h2 : EvO T tb ρ R2) (k : ∀ xs ys, R1 xs → R2 ys → P.nx ((ρ.set i (.ol xs)).set j (.ol ys))) : Sm T W (tPar i j (tCons ta (tCons tb tNil))) ρ P := fun F0 H0 σ F H D e k1 _ _ _ _ =>
  h1 F0 H0 σ F H e _ fun a vs xs F1 H1 e1 hn hf hv p r1 => by
    have E1 := e.newL (i := i) e1 hn hf hv r1
    refine h2 F0 H0 σ F1 H1 (e.ext e1) _ fun b us ys F2 H2 e2 hn2 hf2 hv2 p2 r2 => ?_
    exact ⟨_, _, rfl, k1 _ F2 H2 _ (e1.ff.trans e2.ff) (E1.newL (i := j) e2 hn2 hf2 hv2 r2) (k xs ys p p2)⟩
def wrD (q : WR) : PyData := .tuple [sD q.1, sD q.2]
def spLAll : Sp := Fsp (fun i : IxL => [schD i.sch, sD i.l]) (fun i => Valid i.sch ∧ i.sch.length ≤ 6 ∧ i.l.length ≤ 5) (fun i y => ∃ zs : List (List Nat), zs.Nodup ∧ (∀ x, x ∈ zs ↔ Wfor i.sch i.l x) ∧ y = .list ((ordW zs).map sD)) noX
abbrev N_law_all : List Str := ["scheme", "text", "found", "last", "longer", "word", "rest", "source", "target", "size"]
theorem sc_law_all : FnScope N_law_all ["scheme", "text"] (defScope s_law_all) := ⟨rfl, rfl, rfl, by decide +kernel, rfl, by decide +kernel, by decide +kernel⟩
theorem cl_lall (d : Defn K mg "_law_all" s_law_all ["scheme", "text"]) (B : Bt K mg) (c_law_write : Cl P w K mg base 2 "_law_write" spLWrite) : Cl P w K mg base 3 "_law_all" spLAll := by
  refine cl_fn d sc_law_all (fun i => rfl) fun f cdv A outer s H E hr => ?_
  refine ⟨_, (PSs.nox (pss_cons (ps_par (by rfl) sc_law_all.nd (i := 2) (j := 3) rfl rfl (by decide) rfl rfl (pa_cons (pe_lst pa_nil) (pa_cons (pe_lst (pa_cons (pe_tupF (pa_cons pe_str (pa_cons (pv 1) pa_nil))) pa_nil)) pa_nil)) (by rfl)) (pss_cons (ps_while PassesOwn.never (kt_ne K hr (pv 3) (pe_lst pa_nil)) (pss_cons (ps_set (i := 4) sc_law_all.nd rfl (Or.inl rfl) (pe_lst pa_nil)) (pss_cons (ps_for PassesOwn.never rfl (k_i K (pv 3)) (k_gt K (n := 2) rfl (pgs_cons (pg_name (i := 5) sc_law_all.nd rfl (Or.inr rfl)) (pgs_cons (pg_name (i := 6) sc_law_all.nd rfl (Or.inr rfl)) pgs_nil))) (pss_cons (ps_if (PW.pt (pw_and (kt_eq K hr (pv 6) pe_str) (pw_and1 (kt_eq K hr (pe_f c_law_write hr (by decide) (by rfl) (pa_cons (pv 0) (pa_cons (pv 5) pa_nil))) (pv 1))))) (pss_one (ps_expr (pe_bm PySem.F.plainAttrs_list PySem.F.slot_list_append PySem.F.type_list_append mt_append (pv 2) (pa_cons (pv 5) pa_nil)))) pss_nil) (pss_one (ps_expr (pe_bm PySem.F.plainAttrs_list PySem.F.slot_list_extend PySem.F.type_list_extend mt_extend (pv 4) (pa_cons (pe_lc (own := [("source", 7), ("target", 8)]) rfl sc_law_all.nd (k_i K (pv 0)) (blkOk_by (N := N_law_all) (sc := defScope s_law_all) (by decide +kernel)) (fun _ _ _ _ _ => (k_gt K (n := 2) rfl (pgs_cons (pg_name (i := 7) sc_law_all.nd rfl (Or.inl rfl)) (pgs_cons (pg_name (i := 8) sc_law_all.nd rfl (Or.inl rfl)) pgs_nil)))) (fun _ _ _ _ _ => (pts_one (pt_val (k_starts (pv 6) (pv 8))))) (fun _ _ _ _ _ => (pe_tupF (pa_cons (k_add K (pv 5) (pv 7)) (pa_cons (k_sl K (pv 6) (po_some (k_len K (by rfl) B.len (pa_cons (pv 8) pa_nil))) po_none) pa_nil))))) pa_nil)))))) (pss_one (ps_set (i := 3) sc_law_all.nd rfl (Or.inl rfl) (pv 4)))))) (pss_one (ps_ret (pe_lc (own := [("size", 9), ("word", 5)]) rfl sc_law_all.nd (k_i K (k_sortSetN hr rfl (by rfl) B.sorted (pa_cons (k_setN K hr rfl (by rfl) B.set (pa_cons (pe_lc (own := [("word", 5)]) rfl sc_law_all.nd (k_i K (pv 2)) (blkOk_by (N := N_law_all) (sc := defScope s_law_all) (by decide +kernel)) (fun _ _ _ _ _ => (pg_name (i := 5) sc_law_all.nd rfl (Or.inl rfl))) (fun _ _ _ _ _ => pts_nil) (fun _ _ _ _ _ => (pe_tupF (pa_cons (k_len K (by rfl) B.len (pa_cons (pv 5) pa_nil)) (pa_cons (pv 5) pa_nil))))) pa_nil)) pa_nil))) (blkOk_by (N := N_law_all) (sc := defScope s_law_all) (by decide +kernel)) (fun _ _ _ _ _ => (k_gt K (n := 2) rfl (pgs_cons (pg_name (i := 9) sc_law_all.nd rfl (Or.inl rfl)) (pgs_cons (pg_name (i := 5) sc_law_all.nd rfl (Or.inl rfl)) pgs_nil)))) (fun _ _ _ _ _ => pts_nil) (fun _ _ _ _ _ => (pv 5)))))))), ?_⟩
  rintro ⟨sch, t⟩ ⟨hv, h6, ht⟩
  dsimp only at hv h6 ht
  have ep : ∀ k, k ≤ 5 → 6 ^ k ≤ 7776 := fun k hk => by
    have : ∀ k ∈ List.range 6, 6 ^ k ≤ 7776 := by decide
    exact this k (List.mem_range.mpr (by omega))
  refine sm_seq (sm_parOO3 (i := 2) (j := 3) (R1 := fun xs => xs = []) (R2 := fun ys => ys = [wrD ([], t)]) (by decide) (eo_lst ea_nil fun xs e => by rw [e]; exact size_ok (Nat.zero_le _)) (eo_lst (ea_c (ev_tup (ea_c (ev_s (l := []) rfl) (ea_c (ev_var rfl) ea_nil)) (size_ok (by simp))) ea_nil) fun xs e => by rw [e]; exact size_ok (by simp)) fun xs ys e1 e2 => sm_go ?_)
  subst e1 e2
  refine sm_freeze (i := 3) rfl ?_
  refine sm_seq (sm_while (fun m r => ∃ k s4 s5 s6 s7 s8, m = 7 - k ∧ k ≤ 6 ∧ r = [.d (schD sch), .d (sD t), .ol ((fnd sch t k).map sD), .d (.list ((lv sch t k).map wrD)), s4, s5, s6, s7, s8, .un]) ⟨0, .un, .un, .un, .un, .un, rfl, by omega, rfl⟩ ?_)
  rintro m r ⟨k, s4, s5, s6, s7, s8, rfl, hk, rfl⟩
  refine ⟨!decide (lv sch t k = []), et_t ((ev_ne (y := .list []) (ev_var rfl) (EvO.d (eo_lst ea_nil fun xs e => by rw [e]; exact size_ok (Nat.zero_le _))) ?_ rfl ?_).cast ?_), fun hb => ?_, fun hb => ?_⟩
  · exact plain_list (plainAll_of fun x hx => by
      obtain ⟨q, _, rfl⟩ := List.mem_map.mp hx
      rfl)
  · refine Nat.le_trans (Nat.min_le_right _ _) ?_
    simp [PyData.depth, PyData.depthAll]
  · congr 2
    cases hl : lv sch t k with
    | nil => simp [PyData.eqv, PyData.eqvAll]
    | cons q l => simp [PyData.eqv, PyData.eqvAll]
  · have hne : lv sch t k ≠ [] := by simpa using hb
    have hk5 : k ≤ 5 := by
      obtain ⟨q, hq⟩ := List.exists_mem_of_ne_nil _ hne
      have := (lv_ok hv hq).2.2
      omega
    have hlk := Nat.le_trans (lv_len h6 t k) (ep k hk5)
    have hfk := fnd_len h6 t (k := k) (by omega)
    refine sm_seq (sm_asgO (i := 4) (R := fun ys => ys = []) (eo_lst ea_nil fun xs e => by rw [e]; exact size_ok (Nat.zero_le _)) fun ys e => sm_go ?_)
    subst e
    refine sm_seq (sm_for (wk_L (ev_var rfl)) ?_)
    rintro xs rfl
    refine ⟨fun j r => ∃ s5 s6 s7 s8, r = [.d (schD sch), .d (sD t), .ol ((fnd sch t k ++ fndL sch t ((lv sch t k).take j)).map sD), .d (.list ((lv sch t k).map wrD)), .ol ((lvl sch ((lv sch t k).take j)).map wrD), s5, s6, s7, s8, .un], ⟨s5, s6, s7, s8, by simp [fndL, lvl]⟩, ?_, ?_⟩
    · rintro j x r hx ⟨s5, s6, s7, s8, rfl⟩
      obtain ⟨q, hq, rfl⟩ : ∃ q, (lv sch t k)[j]? = some q ∧ wrD q = x := by
        rw [List.getElem?_map] at hx
        exact Option.map_eq_some_iff.mp hx
      have hqm := List.mem_of_getElem? hq
      obtain ⟨o1, o2, o3⟩ := lv_ok hv hqm
      have htk : (lv sch t k).take (j + 1) = (lv sch t k).take j ++ [q] := by
        rw [List.take_add_one, hq]
        rfl
      have hf1 : fndL sch t ((lv sch t k).take (j + 1)) = fndL sch t ((lv sch t k).take j) ++ if isF sch t q = true then [q.1] else [] := by
        rw [htk]
        unfold fndL
        rw [List.filter_append, List.map_append]
        congr 1
        cases h : isF sch t q <;> simp [List.filter, h]
      have hl1 : lvl sch ((lv sch t k).take (j + 1)) = lvl sch ((lv sch t k).take j) ++ (sch.filter (fitR q.2)).map (goR q) := by
        rw [htk]
        unfold lvl
        rw [List.flatMap_append]
        simp
      have hfl := fndL_len sch t ((lv sch t k).take j)
      have hll := lvl_len sch ((lv sch t k).take j)
      have htl : ((lv sch t k).take j).length ≤ 7776 := by
        rw [List.length_take]
        omega
      have hll2 : (lvl sch ((lv sch t k).take j)).length ≤ 7776 * 6 := Nat.le_trans hll (Nat.mul_le_mul htl h6)
      refine ⟨_, tg_tup (tgs_cons tg_name (tgs_cons tg_name tgs_nil)) rfl, ?_⟩
      refine sm_seq (Sm.mono (P := { nx := fun r => r = [.d (schD sch), .d (sD t), .ol ((fnd sch t k ++ fndL sch t ((lv sch t k).take (j + 1))).map sD), .d (.list ((lv sch t k).map wrD)), .ol ((lvl sch ((lv sch t k).take j)).map wrD), .d (sD q.1), .d (sD q.2), s7, s8, .un] }) ?_ (fun r h => ?_) (fun _ _ z => z.elim) (fun _ z => z.elim) (fun _ z => z.elim) (fun _ _ z => z.elim))
      · refine sm_ifb (b := isF sch t q) (et_and (et_t (ev_eqS (a := q.2) (ev_var rfl) (ev_s (l := []) rfl))) fun _ => et_t (ev_eqS (ev_call (⟨sch, q.1⟩ : IxL) (ea_c (ev_var rfl) (ea_c (ev_var rfl) ea_nil)) ⟨hv, by dsimp only; omega, o1⟩ fun y e => e) (ev_var rfl))) (fun hF => sm_append rfl (ev_var rfl) (by rw [List.length_map, List.length_append]; exact size_lt (by omega)) ?_) fun hF => sm_next ?_
        · show _ = _
          rw [hf1, if_pos hF, ← List.append_assoc, List.map_append (l₂ := [q.1])]
          rfl
        · show _ = _
          rw [hf1, if_neg (by rw [hF]; simp), List.append_nil]
          rfl
      · subst h
        refine sm_go (sm_extend (i := 4) (ys := ((sch.filter (fitR q.2)).map (goR q)).map wrD) rfl (EvO.d ((eo_lc (h := entD) (as := sch) (p := fitR q.2) (r := fun c => _) (f := fun p => wrD (goR q p)) (wk_T (ev_var rfl)) hv.sl (fun c _ => tw_tup (tws_cons (tw_name (by simp)) (tws_cons (tw_name (by simp)) tws_nil)) rfl) (fun p hp => et_b (ev_starts (ev_var rfl) (ev_var rfl))) fun p hp _ => ?_).mono fun ys e => by rw [e, List.map_map]; rfl)) ?_ ⟨.d (sD q.1), .d (sD q.2), s7, s8, ?_⟩)
        · have h3 := (hv.pt p hp).1.2.1
          have h4 := (hv.pt p hp).2.2.1
          exact ev_tup (ea_c (ev_addS (ev_var rfl) (ev_var rfl) (size_ok (by omega))) (ea_c ((ev_slS (a := q.2) (ev_var rfl) (eb_some (ev_lenS (a := p.2) (ev_var rfl) (size_ok (by omega)))) eb_none (size_ok (by omega))).cast (by rw [cut_drop]; rfl)) ea_nil)) (size_ok (by simp))
        · have := List.length_filter_le (fitR q.2) sch
          rw [List.length_map, List.length_map, List.length_map]
          exact size_ok (by omega)
        · have e2 : (lvl sch ((lv sch t k).take (j + 1))).map wrD = (lvl sch ((lv sch t k).take j)).map wrD ++ ((sch.filter (fitR q.2)).map (goR q)).map wrD := by rw [hl1, List.map_append]
          rw [e2]
          rfl
    · rintro r ⟨s5, s6, s7, s8, rfl⟩
      rw [List.length_map, List.take_length]
      rw [← fnd_succ]
      exact sm_go (sm_freeze (i := 4) rfl (sm_asg (ev_var rfl) ⟨7 - (k + 1), by omega, k + 1, _, _, _, _, _, rfl, by omega, rfl⟩))
  · have hnil : lv sch t k = [] := by simpa using hb
    have hfk := fnd_len h6 t (k := k) hk
    refine sm_go (sm_freeze (i := 2) rfl ?_)
    have fw : ∀ x ∈ fnd sch t k, x.length ≤ 100 := fun x hx => by
      obtain ⟨i, _, hx⟩ := List.mem_flatMap.mp hx
      obtain ⟨q, hq, rfl⟩ := List.mem_map.mp hx
      have := lv_ok hv (List.mem_filter.mp hq).1
      omega
    refine sm_retP (EvO.p (eo_ordSet (ws := fnd sch t k) (r := fun a => _) (EvO.d ((eo_lc1 (h := sD) (as := fnd sch t k) (r := fun c => _) (f := encW) (wk_L (ev_var rfl)) (size_lt (by omega)) (fun c _ => tw_name (by simp)) fun x hx => ev_tup (ea_c (ev_lenS (ev_var rfl) (size_ok (by have := fw x hx; omega))) (ea_c (ev_var rfl) ea_nil)) (size_ok (by simp))).mono fun ys e => e)) (by omega) (fun a => tw_tup (tws_cons (tw_name (by simp)) (tws_cons (tw_name (by simp)) tws_nil)) rfl) fun a => ev_var rfl)) ?_
    rintro x ⟨ys, rfl, zs, nd, hx, rfl⟩
    exact ⟨zs, nd, fun x => by rw [hx, fnd_mem hv hnil], rfl⟩
abbrev N_law : List Str := ["script", "town", "scheme", "k", "text"]
theorem sc_law : FnScope N_law ["script"] (defScope s_law) := ⟨rfl, rfl, rfl, by decide +kernel, rfl, by decide +kernel, by decide +kernel⟩
theorem cl_k03 {f : Addr} {fd : FuncData} (F : FunD K "law" "law" (defArgs s_law) (defBody s_law) (defScope s_law) [] [] f fd) (B : Bt K mg)
    (c_law_any : Cl P w K mg base 5 "_law_any" (spAny K)) (c_law_pick : Cl P w K mg base 2 "_law_pick" (spPick K)) (c_law_string : Cl P w K mg base 3 "_law_string" (spString K)) (c_law_letters : Cl P w K mg base 1 "_law_letters" spLLetters) (c_law_write : Cl P w K mg base 2 "_law_write" spLWrite) (c_law_all : Cl P w K mg base 3 "_law_all" spLAll) (c_words_for : Cl P w K mg base 43 "words_for" (spFor K)) : FnOk P w K mg base L2.CX0 45 f fd ["script"] (spLaw K) := by
  refine law_fn F sc_law (by decide) fun cdv A outer s H E hr => ?_
  refine ⟨_, (PSs.nox (pss_cons (ps_set (i := 1) sc_law.nd rfl (Or.inl rfl) (pe_lst (pa_cons pe_int (pa_cons pe_int pa_nil)))) (pss_cons (ps_set (i := 2) sc_law.nd rfl (Or.inl rfl) (pe_f c_law_any hr (by decide) (by rfl) (pa_cons (pv 0) (pa_cons (pv 1) pa_nil)))) (pss_cons (ps_for PassesOwn.never rfl (pi_range1 (by rfl) B.range (pa_cons pe_int pa_nil)) (pg_name (i := 3) sc_law.nd rfl (Or.inl rfl)) (pss_cons (ps_set (i := 4) sc_law.nd rfl (Or.inl rfl) (pe_f c_law_string hr (by decide) (by rfl) (pa_cons (pv 0) (pa_cons (pv 1) (pa_cons (pe_f c_law_pick hr (by decide) (by rfl) (pa_cons (pv 0) (pa_cons (pv 1) (pa_cons (pe_lst (pa_cons pe_str (pa_cons pe_str (pa_cons pe_str pa_nil)))) pa_nil)))) (pa_cons pe_int (pa_cons pe_int pa_nil))))))) (pss_cons (ps_if (pt_cmpR op_gt (pv 3) pe_int (nomark _)) (pss_one (ps_set (i := 4) sc_law.nd rfl (Or.inl rfl) (k_sl K (pe_f c_law_write hr (by decide) (by rfl) (pa_cons (pv 2) (pa_cons (pe_f c_law_string hr (by decide) (by rfl) (pa_cons (pv 0) (pa_cons (pv 1) (pa_cons (pe_f c_law_letters hr (by decide) (by rfl) (pa_cons (pv 2) pa_nil)) (pa_cons pe_int (pa_cons pe_int pa_nil)))))) pa_nil))) po_none (po_some pe_int)))) pss_nil) (pss_one (ps_if (kt_ne K hr (pe_f c_words_for hr (by decide) (by rfl) (pa_cons (pv 2) (pa_cons (pv 4) pa_nil))) (k_sl K (pe_f c_law_all hr (by decide) (by rfl) (pa_cons (pv 2) (pa_cons (pv 4) pa_nil))) po_none (po_some pe_int))) (pss_one (ps_ret pe_bl)) pss_nil))))) (pss_one (ps_ret pe_bl)))))), ?_⟩
  intro T ns
  have sz : ∀ {xs : List PyData}, xs.length ≤ 100 → xs.length ≤ sizeLine := fun h => size_ok (by omega)
  refine sm_seq (sm_asgP (evp_callT1 (R := fun y => ∃ sch al tg, y = schD sch ∧ AnyS al tg sch) () rfl rfl ea_nil trivial fun y h => h) fun x hx => sm_go ?_)
  obtain ⟨sch, al, tg, rfl, hany⟩ := hx
  have hv := hany.valid
  obtain ⟨a1, a2, a3, a4⟩ := kinds_al al hany.ha
  obtain ⟨t1, t2, t3⟩ := kinds_tg tg hany.ht
  have h6 : sch.length ≤ 6 := by
    have := hany.dr.tb.len
    omega
  have hp0 := hv.lets_pos
  have hl10 : (lets sch).length ≤ 10 := by
    have h1 : (lets sch).length ≤ sch.length := by
      unfold lets
      rw [List.length_map]
      exact List.length_filter_le _ _
    omega
  refine sm_seq (sm_for (wk_range1 (P := fun j => j = 3) ((ea_c ev_int ea_nil).mono fun zs e => ⟨3, e, rfl⟩) fun j hj => by omega) ?_)
  rintro xs ⟨j, rfl, rfl⟩
  refine ⟨fun i r => ∃ s3 s4, r = [.pr (scrP K ns), .tw, .d (schD sch), s3, s4], ⟨_, _, rfl⟩, ?_, ?_⟩
  · rintro i x r hx ⟨s3, s4, rfl⟩
    obtain ⟨iz, rfl⟩ : ∃ z : Int, x = .int z := by
      rw [List.getElem?_map] at hx
      obtain ⟨n, _, e⟩ := Option.map_eq_some_iff.mp hx
      exact ⟨_, e.symm⟩
    refine ⟨_, tg_name, ?_⟩
    refine sm_seq (sm_asgP (R := fun y => ∃ l, y = sD l ∧ l.length ≤ 5 ∧ ∀ c ∈ l, c ∈ LET) (evp_callT (A := fun i : IxS => i.al ∈ ([[112], [112, 113], [112, 113, 114]] : List (List Nat)) ∧ i.lo = 0 ∧ i.hi = 5) rfl rfl ((ea_cons (pick_strs [[112], [112, 113], [112, 113, 114]] (by decide) (by decide) rfl rfl (EvO.d (eo_lst (ea_c (ev_s rfl) (ea_c (ev_s rfl) (ea_c (ev_s rfl) ea_nil))) fun xs e => by rw [e]; exact sz (by decide)))) (ea_cons (ev_int.p (P := fun d => d = .int 0) rfl) (ea_cons (ev_int.p (P := fun d => d = .int 5) rfl) ea_nil))).mono fun zs ⟨x, xs, e1, ⟨l, hl, e2⟩, y, ys, e3, e4, z, zs2, e5, e6, e7⟩ => ⟨⟨l, 0, 5⟩, by rw [e1, e2, e3, e4, e5, e6, e7]; rfl, hl, rfl, rfl⟩) (fun i ⟨h1, h2, h3⟩ => ?_) fun i y ⟨h1, h2, h3⟩ ⟨l, e, hl⟩ => ⟨l, e, by have := hl.2.1; omega, fun c hc => ?_⟩) fun x hx => sm_go ?_)
    · have : ∀ l ∈ ([[112], [112, 113], [112, 113, 114]] : List (List Nat)), 0 < l.length ∧ l.length ≤ 1000 := by decide
      exact ⟨(this _ h1).1, (this _ h1).2, by omega, by omega⟩
    · have : ∀ l ∈ ([[112], [112, 113], [112, 113, 114]] : List (List Nat)), ∀ c ∈ l, c ∈ LET := by decide
      exact this _ h1 c (hl.2.2 c hc)
    obtain ⟨l, rfl, hl5, hlc⟩ := hx
    refine sm_seq (Sm.mono (P := { nx := fun r => ∃ s4 l, r = [.pr (scrP K ns), .tw, .d (schD sch), s4, .d (sD l)] ∧ l.length ≤ 5 ∧ ∀ c ∈ l, c ∈ LET }) ?_ (fun r h => ?_) (fun _ _ z => z.elim) (fun _ z => z.elim) (fun _ z => z.elim) (fun _ _ z => z.elim))
    · refine sm_ifb (et_t (ev_cmpI (ev_var rfl) ev_int)) (fun _ => ?_) fun _ => sm_next ⟨_, l, rfl, hl5, hlc⟩
      refine sm_asgP (R := fun y => ∃ m, y = sD m ∧ m.length ≤ 5 ∧ ∀ c ∈ m, c ∈ LET) ?_ fun x ⟨m, e, h1, h2⟩ => by subst e; exact ⟨_, m, rfl, h1, h2⟩
      refine (evp_cutS (A := fun m => ∃ u, Wd (lets sch) 0 4 u ∧ m = wr sch u) (i := 5) (n := 12) (evp_call (A := fun i : IxL => i.sch = sch ∧ Wd (lets sch) 0 4 i.l) ((ea_cons ((ev_var rfl).p (P := fun y => y = schD sch) rfl) (ea_cons (evp_callT1 (R := fun y => ∃ l, y = sD l ∧ Wd (lets sch) 0 4 l) (⟨lets sch, 0, 4⟩ : IxS) rfl rfl (ea_c (ev_call sch (ea_c (ev_var rfl) ea_nil) hv fun y e => e) (ea_c ev_int (ea_c ev_int ea_nil))) ⟨hp0, by dsimp only; omega, by dsimp only; omega, by dsimp only; omega⟩ fun y h => h) ea_nil)).mono fun zs ⟨x, xs, e1, e2, y, ys, e3, ⟨l, e4, hl⟩, e5⟩ => ⟨⟨sch, l⟩, by rw [e1, e2, e3, e4, e5], rfl, hl⟩) (fun i ⟨h1, h2⟩ => ⟨by rw [h1]; exact hv, by have := h2.2.1; omega, by rw [h1]; exact h2.2.2⟩) (fun i y ⟨h1, h2⟩ e => ⟨wr i.sch i.l, e, ?_, i.l, h2, by rw [h1]⟩) fun i c _ z => z) ev_int (by omega)).mono fun d ⟨m, e, u, hu, em⟩ => ⟨m.take 5, e, ?_, fun c hc => ?_⟩
      · rw [h1]
        have := wr_len hv.t3 (l := i.l)
        have := h2.2.1
        omega
      · rw [List.length_take]
        omega
      · rw [em] at hc
        obtain ⟨p, hp, hcp⟩ := wr_mem (List.mem_of_mem_take hc)
        exact (hv.pt p hp).2.2.2 c hcp
    · obtain ⟨s4', m, rfl, hm5, hmc⟩ := h
      refine sm_go (sm_ifb (b := false) (et_neP (A := fun y => ∃ L, y = .list (L.map sD) ∧ Fst (Wfor sch m) L) (B := fun y => ∃ L, y = .list (L.map sD) ∧ Fst (Wfor sch m) L) (evp_call1 (⟨schD sch, sD m⟩ : IxA) (ea_c (ev_var rfl) (ea_c (ev_var rfl) ea_nil)) ⟨hv.ok, okS (by omega)⟩ (fun y hy => ?_) fun c hc => ?_) ((EvO.p (eo_slLP (evp_call1 (R := fun d => ∃ xs, d = .list xs ∧ ∃ zs : List (List Nat), zs.Nodup ∧ (∀ x, x ∈ zs ↔ Wfor sch m x) ∧ xs = (ordW zs).map sD) (⟨sch, m⟩ : IxL) (ea_c (ev_var rfl) (ea_c (ev_var rfl) ea_nil)) ⟨hv, h6, hm5⟩ (fun y ⟨zs, h1, h2, h3⟩ => ⟨_, h3, zs, h1, h2, rfl⟩) fun c z => z) eb_none (eb_some (i := 50) ev_int))).mono fun d ⟨ys, e, xs, e2, zs, h1, h2, e3⟩ => ⟨(ordW zs).take 50, ?_, fst_of h1 h2⟩) (fun y ⟨L, e, _⟩ => by rw [e]; exact ⟨plain_strL _, depth_strs _⟩) fun x y ⟨L, e, hL⟩ ⟨L', e', hL'⟩ => by rw [e, e', hL.uniq hL']) (fun z => by cases z) fun _ => sm_next ⟨_, _, rfl⟩)
      · obtain ⟨_, _, L, e, hF⟩ := hy
        dsimp only at hF
        rw [schOf_D] at hF
        exact ⟨L, e, hF⟩
      · rcases hc with ⟨h, _⟩ | ⟨_, h, _⟩
        · have h : isSch (schD sch) = false := h
          rw [isSch_ok hv] at h
          cases h
        · have h2 : isStr 0 40 LET (sD m) = true := isStr_yes (lo := 0) (hi := 40) ⟨Nat.zero_le _, by omega, hmc⟩
          have h : isStr 0 40 LET (sD m) = false := h
          rw [h2] at h
          cases h
      · rw [e, e2, e3, show (50 : Int) = ((50 : Nat) : Int) from rfl, cut_take, List.map_take]
  · rintro r ⟨s3, s4, rfl⟩
    exact sm_go (sm_ret ev_bl rfl)
end Tr

set_option Elab.async false
set_option linter.all false
set_option maxRecDepth 100000
set_option maxHeartbeats 0
namespace Tr
open PySem PySem.Spec PyProof.Rows L2 TL
def d_is_string : He.DefD := ⟨("is_string", none), "is_string", "is_string", defArgs s_is_string, defBody s_is_string, defScope s_is_string, [], []⟩
def d_is_entry : He.DefD := ⟨("is_entry", none), "is_entry", "is_entry", defArgs s_is_entry, defBody s_is_entry, defScope s_is_entry, [], []⟩
def d_is_scheme : He.DefD := ⟨("is_scheme", none), "is_scheme", "is_scheme", defArgs s_is_scheme, defBody s_is_scheme, defScope s_is_scheme, [], []⟩
def d_need_scheme : He.DefD := ⟨("need_scheme", none), "need_scheme", "need_scheme", defArgs s_need_scheme, defBody s_need_scheme, defScope s_need_scheme, [], []⟩
def d_blocked_after : He.DefD := ⟨("blocked_after", none), "blocked_after", "blocked_after", defArgs s_blocked_after, defBody s_blocked_after, defScope s_blocked_after, [], []⟩
def d_is_allowed : He.DefD := ⟨("is_allowed", none), "is_allowed", "is_allowed", defArgs s_is_allowed, defBody s_is_allowed, defScope s_is_allowed, [], []⟩
def d_in_order : He.DefD := ⟨("in_order", none), "in_order", "in_order", defArgs s_in_order, defBody s_in_order, defScope s_in_order, [], []⟩
def d_words_from : He.DefD := ⟨("words_from", none), "words_from", "words_from", defArgs s_words_from, defBody s_words_from, defScope s_words_from, [], []⟩
def d_words_for : He.DefD := ⟨("words_for", none), "words_for", "words_for", defArgs s_words_for, defBody s_words_for, defScope s_words_for, [], []⟩
def d_law_draw : He.DefD := ⟨("_law_draw", none), "_law_draw", "_law_draw", defArgs s_law_draw, defBody s_law_draw, defScope s_law_draw, [], []⟩
def d_law_pick : He.DefD := ⟨("_law_pick", none), "_law_pick", "_law_pick", defArgs s_law_pick, defBody s_law_pick, defScope s_law_pick, [], []⟩
def d_law_string : He.DefD := ⟨("_law_string", none), "_law_string", "_law_string", defArgs s_law_string, defBody s_law_string, defScope s_law_string, [], []⟩
def d_law_scheme : He.DefD := ⟨("_law_scheme", none), "_law_scheme", "_law_scheme", defArgs s_law_scheme, defBody s_law_scheme, defScope s_law_scheme, [], []⟩
def d_law_any : He.DefD := ⟨("_law_any", none), "_law_any", "_law_any", defArgs s_law_any, defBody s_law_any, defScope s_law_any, [], []⟩
def d_law_letters : He.DefD := ⟨("_law_letters", none), "_law_letters", "_law_letters", defArgs s_law_letters, defBody s_law_letters, defScope s_law_letters, [], []⟩
def d_law_segments : He.DefD := ⟨("_law_segments", none), "_law_segments", "_law_segments", defArgs s_law_segments, defBody s_law_segments, defScope s_law_segments, [], []⟩
def d_law_write : He.DefD := ⟨("_law_write", none), "_law_write", "_law_write", defArgs s_law_write, defBody s_law_write, defScope s_law_write, [], []⟩
def d_law_read : He.DefD := ⟨("_law_read", none), "_law_read", "_law_read", defArgs s_law_read, defBody s_law_read, defScope s_law_read, [], []⟩
def d_law_all : He.DefD := ⟨("_law_all", none), "_law_all", "_law_all", defArgs s_law_all, defBody s_law_all, defScope s_law_all, [], []⟩
def d_law : He.DefD := ⟨("law", none), "law", "law", defArgs s_law, defBody s_law, defScope s_law, [], []⟩
def fn : List He.DefD := [d_is_string, d_is_entry, d_is_scheme, d_need_scheme, d_blocked_after, d_is_allowed, d_in_order, d_words_from, d_words_for, d_law_draw, d_law_pick, d_law_string, d_law_scheme, d_law_any, d_law_letters, d_law_segments, d_law_write, d_law_read, d_law_all, d_law]
def fa : List He.Fa := [.glo "is_string", .glo "is_entry", .glo "is_scheme", .glo "need_scheme", .glo "blocked_after", .glo "is_allowed", .glo "in_order", .glo "words_from", .glo "words_for", .glo "_law_draw", .glo "_law_pick", .glo "_law_string", .glo "_law_scheme", .glo "_law_any", .glo "_law_letters", .glo "_law_segments", .glo "_law_write", .glo "_law_read", .glo "_law_all", .glo "law", .free "ValueError", .free "all", .free "any", .free "dict", .free "isinstance", .free "len", .free "max", .free "min", .free "range", .free "set", .free "sorted", .free "str", .free "tuple", .free "zip", .str "LETTERS" "abcdefghijklmnopqrstuvwxyz", .int "PART" 3, .int "ENTRIES" 10, .int "LENGTH" 40, .int "MANY" 50, .exc "TranslitError", .glo "TranslitError", .exc "InvalidScheme", .glo "InvalidScheme", .exc "InvalidText", .glo "InvalidText"]
abbrev R : PySem.W.OpenRow := PySem.W.OpenLaw.row PySem.Challenge.rw_translit_k03_whole_words_for
def ts : List Xt := []
abbrev hk : PySem.W.Hook := hookX 4 fa fn ts
def ob (s : PySem.W.SharedT) : AlX := obsXG 4 fa fn ts (HandSHeadRun.getT s)
theorem ob_eq (s : PySem.W.SharedT) : ob s = hk.obs s.abs := obsXG_eq (HandSHeadRun.getT_eq s)
def names : List PySem.Str := (["TranslitError", "InvalidScheme", "InvalidText", "LETTERS", "PART", "ENTRIES", "LENGTH", "MANY", "is_string", "is_entry", "is_scheme", "need_scheme", "blocked_after", "is_allowed", "in_order", "words_from", "words_for", "_law_draw", "_law_pick", "_law_string", "_law_scheme", "_law_triple", "_law_any", "_law_words", "_law_letters", "_law_segments", "_law_write", "_law_read", "_law_all"] : List PySem.Str)
theorem run (w : World) : HandSHeadRun.RunEq R (PySem.W.view R.prog [32]) hk ob 20000 names w := by
  intro os
  kernel_rfl
theorem facts [PWc] {K : PySem.W.Frag} {h : Heap} {mg : Str → Option Value} {f : Addr} (X : K.In h) (G : h.Ns mainGlobals mg) (hfa : mg ("law" : Str) = some (.ref f)) (c0 : SaysX fa fn ts K) :
    ∃ fd : FuncData, (∀ (s : Shared) (v : Value), BindsTo s fd ⟨[v], []⟩ [("script", v)]) ∧ ∀ base : Heap, K.In base → base.Ns mainGlobals mg → FnOk P w K mg base L2.CX0 45 f fd ["script"] (spLaw K) := by
  have c : He.SaysD fa fn K := c0.d
  have c0t : ∀ (i : Nat) {t : Xt}, ts[i]? = some t → t.ok K = true := fun i {t} h => c0.t i h
  have B : Bt K mg := {
    ValueError := He.free_ok X G (c.fact 20 (f := .free "ValueError") rfl),
    all := He.free_ok X G (c.fact 21 (f := .free "all") rfl),
    any := He.free_ok X G (c.fact 22 (f := .free "any") rfl),
    dict := He.free_ok X G (c.fact 23 (f := .free "dict") rfl),
    isinstance := He.free_ok X G (c.fact 24 (f := .free "isinstance") rfl),
    len := He.free_ok X G (c.fact 25 (f := .free "len") rfl),
    max := He.free_ok X G (c.fact 26 (f := .free "max") rfl),
    min := He.free_ok X G (c.fact 27 (f := .free "min") rfl),
    range := He.free_ok X G (c.fact 28 (f := .free "range") rfl),
    set := He.free_ok X G (c.fact 29 (f := .free "set") rfl),
    sorted := He.free_ok X G (c.fact 30 (f := .free "sorted") rfl),
    str := He.free_ok X G (c.fact 31 (f := .free "str") rfl),
    tuple := He.free_ok X G (c.fact 32 (f := .free "tuple") rfl),
    zip := He.free_ok X G (c.fact 33 (f := .free "zip") rfl),
    k_LETTERS := (by obtain ⟨t, e⟩ := He.str_ok X G (c.fact 34 (f := .str "LETTERS" "abcdefghijklmnopqrstuvwxyz") rfl); exact ⟨_, e, t, rfl⟩),
    k_PART := (by obtain ⟨t, e⟩ := He.int_ok X G (c.fact 35 (f := .int "PART" 3) rfl); exact ⟨_, e, t, rfl⟩),
    k_ENTRIES := (by obtain ⟨t, e⟩ := He.int_ok X G (c.fact 36 (f := .int "ENTRIES" 10) rfl); exact ⟨_, e, t, rfl⟩),
    k_LENGTH := (by obtain ⟨t, e⟩ := He.int_ok X G (c.fact 37 (f := .int "LENGTH" 40) rfl); exact ⟨_, e, t, rfl⟩),
    k_MANY := (by obtain ⟨t, e⟩ := He.int_ok X G (c.fact 38 (f := .int "MANY" 50) rfl); exact ⟨_, e, t, rfl⟩),
    TranslitError := (by obtain ⟨h1, h2, h3, h4⟩ := He.exc_ok (c.fact 39 (f := .exc "TranslitError") rfl); exact ⟨h1, He.glo_ok X G (c.fact 40 (f := .glo "TranslitError") rfl), h2, h3, h4⟩),
    InvalidScheme := (by obtain ⟨h1, h2, h3, h4⟩ := He.exc_ok (c.fact 41 (f := .exc "InvalidScheme") rfl); exact ⟨h1, He.glo_ok X G (c.fact 42 (f := .glo "InvalidScheme") rfl), h2, h3, h4⟩),
    InvalidText := (by obtain ⟨h1, h2, h3, h4⟩ := He.exc_ok (c.fact 43 (f := .exc "InvalidText") rfl); exact ⟨h1, He.glo_ok X G (c.fact 44 (f := .glo "InvalidText") rfl), h2, h3, h4⟩) }
  obtain ⟨fd_is_string, F_is_string⟩ := c.def_ 0 (d := d_is_string) rfl
  have D_is_string : Defn K mg "is_string" s_is_string ["value", "least", "most", "allowed"] := ⟨_, fd_is_string, F_is_string, He.glo_ok X G (c.fact 0 (f := .glo "is_string") rfl), FunD.bindsN (ps := ["value", "least", "most", "allowed"]) F_is_string fun _ _ _ _ _ _ us hl => match us, hl with | [_, _, _, _], _ => rfl⟩
  obtain ⟨fd_is_entry, F_is_entry⟩ := c.def_ 1 (d := d_is_entry) rfl
  have D_is_entry : Defn K mg "is_entry" s_is_entry ["value"] := ⟨_, fd_is_entry, F_is_entry, He.glo_ok X G (c.fact 1 (f := .glo "is_entry") rfl), FunD.bindsN (ps := ["value"]) F_is_entry fun _ _ _ _ _ _ us hl => match us, hl with | [_], _ => rfl⟩
  obtain ⟨fd_is_scheme, F_is_scheme⟩ := c.def_ 2 (d := d_is_scheme) rfl
  have D_is_scheme : Defn K mg "is_scheme" s_is_scheme ["value"] := ⟨_, fd_is_scheme, F_is_scheme, He.glo_ok X G (c.fact 2 (f := .glo "is_scheme") rfl), FunD.bindsN (ps := ["value"]) F_is_scheme fun _ _ _ _ _ _ us hl => match us, hl with | [_], _ => rfl⟩
  obtain ⟨fd_need_scheme, F_need_scheme⟩ := c.def_ 3 (d := d_need_scheme) rfl
  have D_need_scheme : Defn K mg "need_scheme" s_need_scheme ["value"] := ⟨_, fd_need_scheme, F_need_scheme, He.glo_ok X G (c.fact 3 (f := .glo "need_scheme") rfl), FunD.bindsN (ps := ["value"]) F_need_scheme fun _ _ _ _ _ _ us hl => match us, hl with | [_], _ => rfl⟩
  obtain ⟨fd_blocked_after, F_blocked_after⟩ := c.def_ 4 (d := d_blocked_after) rfl
  have D_blocked_after : Defn K mg "blocked_after" s_blocked_after ["scheme", "blocked", "source"] := ⟨_, fd_blocked_after, F_blocked_after, He.glo_ok X G (c.fact 4 (f := .glo "blocked_after") rfl), FunD.bindsN (ps := ["scheme", "blocked", "source"]) F_blocked_after fun _ _ _ _ _ _ us hl => match us, hl with | [_, _, _], _ => rfl⟩
  obtain ⟨fd_is_allowed, F_is_allowed⟩ := c.def_ 5 (d := d_is_allowed) rfl
  have D_is_allowed : Defn K mg "is_allowed" s_is_allowed ["blocked", "source"] := ⟨_, fd_is_allowed, F_is_allowed, He.glo_ok X G (c.fact 5 (f := .glo "is_allowed") rfl), FunD.bindsN (ps := ["blocked", "source"]) F_is_allowed fun _ _ _ _ _ _ us hl => match us, hl with | [_, _], _ => rfl⟩
  obtain ⟨fd_in_order, F_in_order⟩ := c.def_ 6 (d := d_in_order) rfl
  have D_in_order : Defn K mg "in_order" s_in_order ["words"] := ⟨_, fd_in_order, F_in_order, He.glo_ok X G (c.fact 6 (f := .glo "in_order") rfl), FunD.bindsN (ps := ["words"]) F_in_order fun _ _ _ _ _ _ us hl => match us, hl with | [_], _ => rfl⟩
  obtain ⟨fd_words_from, F_words_from⟩ := c.def_ 7 (d := d_words_from) rfl
  have D_words_from : Defn K mg "words_from" s_words_from ["scheme", "blocked", "text", "known"] := ⟨_, fd_words_from, F_words_from, He.glo_ok X G (c.fact 7 (f := .glo "words_from") rfl), FunD.bindsN (ps := ["scheme", "blocked", "text", "known"]) F_words_from fun _ _ _ _ _ _ us hl => match us, hl with | [_, _, _, _], _ => rfl⟩
  obtain ⟨fd_words_for, F_words_for⟩ := c.def_ 8 (d := d_words_for) rfl
  have D_words_for : Defn K mg "words_for" s_words_for ["scheme", "text"] := ⟨_, fd_words_for, F_words_for, He.glo_ok X G (c.fact 8 (f := .glo "words_for") rfl), FunD.bindsN (ps := ["scheme", "text"]) F_words_for fun _ _ _ _ _ _ us hl => match us, hl with | [_, _], _ => rfl⟩
  obtain ⟨fd_law_draw, F_law_draw⟩ := c.def_ 9 (d := d_law_draw) rfl
  have D_law_draw : Defn K mg "_law_draw" s_law_draw ["script", "town", "many"] := ⟨_, fd_law_draw, F_law_draw, He.glo_ok X G (c.fact 9 (f := .glo "_law_draw") rfl), FunD.bindsN (ps := ["script", "town", "many"]) F_law_draw fun _ _ _ _ _ _ us hl => match us, hl with | [_, _, _], _ => rfl⟩
  obtain ⟨fd_law_pick, F_law_pick⟩ := c.def_ 10 (d := d_law_pick) rfl
  have D_law_pick : Defn K mg "_law_pick" s_law_pick ["script", "town", "some"] := ⟨_, fd_law_pick, F_law_pick, He.glo_ok X G (c.fact 10 (f := .glo "_law_pick") rfl), FunD.bindsN (ps := ["script", "town", "some"]) F_law_pick fun _ _ _ _ _ _ us hl => match us, hl with | [_, _, _], _ => rfl⟩
  obtain ⟨fd_law_string, F_law_string⟩ := c.def_ 11 (d := d_law_string) rfl
  have D_law_string : Defn K mg "_law_string" s_law_string ["script", "town", "letters", "least", "most"] := ⟨_, fd_law_string, F_law_string, He.glo_ok X G (c.fact 11 (f := .glo "_law_string") rfl), FunD.bindsN (ps := ["script", "town", "letters", "least", "most"]) F_law_string fun _ _ _ _ _ _ us hl => match us, hl with | [_, _, _, _, _], _ => rfl⟩
  obtain ⟨fd_law_scheme, F_law_scheme⟩ := c.def_ 12 (d := d_law_scheme) rfl
  have D_law_scheme : Defn K mg "_law_scheme" s_law_scheme ["script", "town", "letters", "targets", "more"] := ⟨_, fd_law_scheme, F_law_scheme, He.glo_ok X G (c.fact 12 (f := .glo "_law_scheme") rfl), FunD.bindsN (ps := ["script", "town", "letters", "targets", "more"]) F_law_scheme fun _ _ _ _ _ _ us hl => match us, hl with | [_, _, _, _, _], _ => rfl⟩
  obtain ⟨fd_law_any, F_law_any⟩ := c.def_ 13 (d := d_law_any) rfl
  have D_law_any : Defn K mg "_law_any" s_law_any ["script", "town"] := ⟨_, fd_law_any, F_law_any, He.glo_ok X G (c.fact 13 (f := .glo "_law_any") rfl), FunD.bindsN (ps := ["script", "town"]) F_law_any fun _ _ _ _ _ _ us hl => match us, hl with | [_, _], _ => rfl⟩
  obtain ⟨fd_law_letters, F_law_letters⟩ := c.def_ 14 (d := d_law_letters) rfl
  have D_law_letters : Defn K mg "_law_letters" s_law_letters ["scheme"] := ⟨_, fd_law_letters, F_law_letters, He.glo_ok X G (c.fact 14 (f := .glo "_law_letters") rfl), FunD.bindsN (ps := ["scheme"]) F_law_letters fun _ _ _ _ _ _ us hl => match us, hl with | [_], _ => rfl⟩
  obtain ⟨fd_law_segments, F_law_segments⟩ := c.def_ 15 (d := d_law_segments) rfl
  have D_law_segments : Defn K mg "_law_segments" s_law_segments ["scheme", "word"] := ⟨_, fd_law_segments, F_law_segments, He.glo_ok X G (c.fact 15 (f := .glo "_law_segments") rfl), FunD.bindsN (ps := ["scheme", "word"]) F_law_segments fun _ _ _ _ _ _ us hl => match us, hl with | [_, _], _ => rfl⟩
  obtain ⟨fd_law_write, F_law_write⟩ := c.def_ 16 (d := d_law_write) rfl
  have D_law_write : Defn K mg "_law_write" s_law_write ["scheme", "word"] := ⟨_, fd_law_write, F_law_write, He.glo_ok X G (c.fact 16 (f := .glo "_law_write") rfl), FunD.bindsN (ps := ["scheme", "word"]) F_law_write fun _ _ _ _ _ _ us hl => match us, hl with | [_, _], _ => rfl⟩
  obtain ⟨fd_law_read, F_law_read⟩ := c.def_ 17 (d := d_law_read) rfl
  have D_law_read : Defn K mg "_law_read" s_law_read ["scheme", "text"] := ⟨_, fd_law_read, F_law_read, He.glo_ok X G (c.fact 17 (f := .glo "_law_read") rfl), FunD.bindsN (ps := ["scheme", "text"]) F_law_read fun _ _ _ _ _ _ us hl => match us, hl with | [_, _], _ => rfl⟩
  obtain ⟨fd_law_all, F_law_all⟩ := c.def_ 18 (d := d_law_all) rfl
  have D_law_all : Defn K mg "_law_all" s_law_all ["scheme", "text"] := ⟨_, fd_law_all, F_law_all, He.glo_ok X G (c.fact 18 (f := .glo "_law_all") rfl), FunD.bindsN (ps := ["scheme", "text"]) F_law_all fun _ _ _ _ _ _ us hl => match us, hl with | [_, _], _ => rfl⟩
  obtain ⟨fd_law, F_law⟩ := c.def_ 19 (d := d_law) rfl
  have e := hfa.symm.trans (He.glo_ok X G (c.fact 19 (f := .glo "law") rfl))
  cases e
  have b := FunD.bindsA (ps := ["script"]) F_law fun _ _ _ _ _ _ us hl => match us, hl with | [_], _ => rfl
  refine ⟨fd_law, fun s v => b s [v] rfl, fun base _ _ => ?_⟩
  have c_is_string := cl_is_string (K := K) (mg := mg) (base := base) (k := 0) D_is_string B 
  have c_is_entry := cl_is_entry (K := K) (mg := mg) (base := base) D_is_entry B c_is_string
  have c_is_scheme := cl_is_scheme (K := K) (mg := mg) (base := base) D_is_scheme B c_is_entry
  have c_need_scheme := cl_need_scheme (K := K) (mg := mg) (base := base) D_need_scheme B c_is_scheme
  have c_law_draw := cl_draw (K := K) (mg := mg) (base := base) (k := 0) D_law_draw B 
  have c_law_pick := cl_pick (K := K) (mg := mg) (base := base) D_law_pick B c_law_draw
  have c_law_string := cl_string (K := K) (mg := mg) (base := base) D_law_string B c_law_draw c_law_pick
  have c_law_scheme := cl_lscheme (K := K) (mg := mg) (base := base) D_law_scheme B c_law_draw c_law_string
  have c_law_any := cl_any (K := K) (mg := mg) (base := base) D_law_any B c_law_pick c_law_scheme
  have c_law_letters := cl_lletters (K := K) (mg := mg) (base := base) (k := 0) D_law_letters B 
  have c_law_segments := cl_lsegments (K := K) (mg := mg) (base := base) (k := 0) D_law_segments B 
  have c_law_write := cl_lwrite (K := K) (mg := mg) (base := base) D_law_write B c_law_segments
  have c_law_read := cl_lread (K := K) (mg := mg) (base := base) (k := 0) D_law_read B 
  have c_blocked_after := cl_blocked_after (K := K) (mg := mg) (base := base) (k := 0) D_blocked_after B 
  have c_is_allowed := cl_is_allowed (K := K) (mg := mg) (base := base) (k := 0) D_is_allowed B 
  have c_in_order := cl_in_order (K := K) (mg := mg) (base := base) (k := 0) D_in_order B 
  have c_words_from := cl_words_from (K := K) (mg := mg) (base := base) D_words_from B c_blocked_after c_is_allowed c_in_order
  have c_words_for := cl_words_for (K := K) (mg := mg) (base := base) D_words_for B c_need_scheme c_is_string c_words_from
  have c_law_all := cl_lall (K := K) (mg := mg) (base := base) D_law_all B c_law_write
  exact cl_k03 (K := K) (mg := mg) (base := base) F_law B c_law_any c_law_pick c_law_string c_law_letters c_law_write c_law_all c_words_for
end Tr
open PySem PySem.W PySem.Calls PyProof.Rows
theorem PySem.Challenge.cw_translit_k03_whole_words_for_holds : PySem.Challenge.rw_translit_k03_whole_words_for.Holds := by
  w_on; o_law
  refine HandSHeadRun.head_any (r := OpenLaw.row PySem.Challenge.rw_translit_k03_whole_words_for) (q := view (OpenLaw.row PySem.Challenge.rw_translit_k03_whole_words_for).prog [32]) (H := Tr.hk) (ob := Tr.ob) (M := 20000) (loose := Tr.names) (d := HandSHeadRun.topDef (OpenLaw.row PySem.Challenge.rw_translit_k03_whole_words_for).prog 32) (kwd := []) Tr.ob_eq
    (by kernel_rfl) (fun s => by kernel_rfl) Tr.run (by kernel_rfl) (by kernel_rfl) (by kernel_rfl) (by rfl) (by first | assumption | decide +kernel) (by decide +kernel) ⟨rfl, rfl, rfl, rfl, rfl, by decide +kernel⟩ ?hw ?hc
  case hw => w_witness2
  case hc =>
    refine L2.walk_ofE (l := PySem.Challenge.rw_translit_k03_whole_words_for) (n := 63) (k := 45) (x := "script") (CX := L2.CX0) rfl (by decide) (by kernel_rfl) ⟨rfl, by decide, by decide⟩ ?F (fun _ _ _ _ z => z)
    intro w mg fa h Y G hmg0
    obtain ⟨K, KX, c⟩ := Y
    have hmg : mg ("law" : PySem.Str) = some (.ref fa) := by
      have e : (HandSHeadRun.topDef (OpenLaw.row PySem.Challenge.rw_translit_k03_whole_words_for).prog 32).name = ("law" : PySem.Str) := by kernel_rfl
      rw [← e]
      exact hmg0
    letI : Tr.PWc := ⟨(PySem.Challenge.rw_translit_k03_whole_words_for).prog, w⟩
    obtain ⟨fd, hb, hF⟩ := Tr.facts KX G hmg c
    exact ⟨K, fd, Tr.spLaw K, KX, hb, fun H a ns hl _ hS => ⟨a, ns, rfl, hS, fun _ => rfl⟩, hF⟩
