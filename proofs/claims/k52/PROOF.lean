import PyProof.Rows.All
import Wide.All
import OpenK.AllK
import Wide.FinOn
import HandS.ForMost
import HandS.Wide
import HandS.IsInst
import HandS.Style
import HandS.Defaults
import HandS.Head0
import HandS.Head1
import HandS.Head2
import HandS.HeadEnd
import HandS.HeadHook1
import HandS.HeadHook2
import HandS.ExcField
import HandS.Codes
import HandS.ExcCtx
import HandS.ExcIs
import HandS.HotCalls
import HandS.WordsExc
import HandS.SetTxt0
import HandS.Set
import PyProof.Rows.SortShellAny
import HandS.DictEq
import HandS.Finally
import HandS.SetKeys
import HandS.More
import HandS.Flow
import HandS.Replace
import KE.DatumOrd
import PyProof.Rows.InDataRows
import HandS.RevRange
import HandS.SetFor
import HandS.Conv
import HandS.RevTup
import HandS.Rev
import PyProof.ListNew
import PyProof.ListRange
import HandS.WordsDict
import HandS.SortKw
import HandS.SortInts
import KE.DataMinMax
import ObjForm.LawKit
import KE.KEqNest
import HandS.Zip
import PyProof.StrOps2
import PyProof.Rows.RegReprOcc
import KE.KDictDisplayH
import KE.KDictList
import PyProof.NeKinds
import HandS.Text
import HandS.Strs
import HandS.TryOnly
import HandS.HeadHook3
import HandS.ExcInit
import KE.DataEq
import PySem.Challenge.RW_tilefall_k52_no_wishes
set_option Elab.async false
set_option linter.all false
set_option maxRecDepth 100000
set_option maxHeartbeats 4000000
/-! A3a: plain data over the abstract heap, frames of plain data. -/
namespace A3
open PySem PySem.Spec PyProof.Rows L2

/-! ### what a value stands for -/
def kD : Key → PyData
  | .inl i => .int i
  | .inr x => .str x
mutual
inductive Rp (K : PySem.W.Frag) (H : Hp) : V → PyData → Prop
  | non : Rp K H .non .none
  | bl (b : Bool) : Rp K H (.bl b) (.bool b)
  | int (i : Int) : Rp K H (.int i) (.int i)
  | str (x : Str) : Rp K H (.str x) (.str x)
  | lst {a : Addr} {xs : List V} {ds : List PyData} : SqL K H a xs → RpAll K H xs ds → Rp K H (.ref a) (.list ds)
  | tup {a : Addr} {xs : List V} {ds : List PyData} : SqT K H a xs → RpAll K H xs ds → Rp K H (.ref a) (.tuple ds)
  | dct {a : Addr} {kvs : List (Key × V)} {es : List (PyData × PyData)} : Rd H a (.dK kvs) → RpKV K H kvs es → Rp K H (.ref a) (.dict es)
  | ptp {a : Addr} {ob : Obj} {xs : List V} {ds : List PyData} : H a = some (.frz ob (.tup xs)) → ob.dict = none → RpAll K H xs ds → Rp K H (.ref a) (.dict [(.none, .tuple ds)])
inductive RpAll (K : PySem.W.Frag) (H : Hp) : List V → List PyData → Prop
  | nil : RpAll K H [] []
  | cons {v : V} {vs : List V} {d : PyData} {ds : List PyData} : Rp K H v d → RpAll K H vs ds → RpAll K H (v :: vs) (d :: ds)
inductive RpKV (K : PySem.W.Frag) (H : Hp) : List (Key × V) → List (PyData × PyData) → Prop
  | nil : RpKV K H [] []
  | cons {k : Key} {v : V} {d : PyData} {kvs : List (Key × V)} {es : List (PyData × PyData)} : Rp K H v d → RpKV K H kvs es → RpKV K H ((k, v) :: kvs) ((kD k, d) :: es)
end

/-- the same, but that dicts may be locked or no longer -/
def LkR (H H' : Hp) : Prop := ∀ b o, H b = some o → H' b = some o ∨ (∃ kvs q, o = .dK kvs ∧ H' b = some (.frz q (.dK kvs))) ∨ ∃ kvs q, o = .frz q (.dK kvs) ∧ H' b = some (.dK kvs)
theorem same_lk {H H' : Hp} (e : Same H H') : LkR H H' := fun b o h => .inl (e b o h)
section
variable {K : PySem.W.Frag} {H H' : Hp}
theorem rd_same (e : Same H H') {a : Addr} {u : HO} (h : Rd H a u) : Rd H' a u := by
  rcases h with h | ⟨o, h⟩
  · exact .inl (e _ _ h)
  · exact .inr ⟨o, e _ _ h⟩
theorem rd_lk (e : LkR H H') {a : Addr} {u : HO} (h : Rd H a u) (n : ∀ o v, u ≠ .frz o v) : Rd H' a u := by
  rcases h with h | ⟨o, h⟩
  · rcases e _ _ h with h2 | ⟨kvs, q, z, h2⟩ | ⟨kvs, q, z, h2⟩
    · exact .inl h2
    · rw [z]; exact .inr ⟨q, h2⟩
    · exact absurd z (n _ _)
  · rcases e _ _ h with h2 | ⟨kvs, q, z, h2⟩ | ⟨kvs, q, z, h2⟩
    · exact .inr ⟨o, h2⟩
    · cases z
    · injection z with z1 z2
      rw [z2]; exact .inl h2
theorem sqL_same (e : Same H H') {a : Addr} {xs : List V} (h : SqL K H a xs) : SqL K H' a xs := e.seq h
theorem sqT_same (e : Same H H') {a : Addr} {xs : List V} (h : SqT K H a xs) : SqT K H' a xs := by
  rcases h with h | h
  · exact .inl (rd_same e h)
  · exact .inr h
theorem sqL_lk (e : LkR H H') {a : Addr} {xs : List V} (h : SqL K H a xs) : SqL K H' a xs := by
  rcases h with h | h
  · exact .inl (rd_lk e h fun _ _ z => by cases z)
  · exact .inr h
theorem sqT_lk (e : LkR H H') {a : Addr} {xs : List V} (h : SqT K H a xs) : SqT K H' a xs := by
  rcases h with h | h
  · exact .inl (rd_lk e h fun _ _ z => by cases z)
  · exact .inr h
theorem lk_ft (e : LkR H H') {a : Addr} {ob : Obj} {xs : List V} (h : H a = some (.frz ob (.tup xs))) : H' a = some (.frz ob (.tup xs)) := by
  rcases e _ _ h with g | ⟨kvs, q, z, _⟩ | ⟨kvs, q, z, _⟩
  · exact g
  · cases z
  · cases z
theorem Rp.lk (e : LkR H H') {v : V} {d : PyData} (h : Rp K H v d) : Rp K H' v d :=
  Rp.rec (K := K) (H := H) (motive_1 := fun v d _ => Rp K H' v d) (motive_2 := fun vs ds _ => RpAll K H' vs ds) (motive_3 := fun a b _ => RpKV K H' a b)
    .non .bl .int .str (fun s _ q => .lst (sqL_lk e s) q) (fun s _ q => .tup (sqT_lk e s) q) (fun s _ q => .dct (rd_lk e s fun _ _ z => by cases z) q) (fun s n _ q => .ptp (lk_ft e s) n q)
    .nil (fun _ _ a b => .cons a b) .nil (fun _ _ a b => .cons a b) h
theorem Rp.mono (e : Same H H') {v : V} {d : PyData} (h : Rp K H v d) : Rp K H' v d := h.lk (same_lk e)
theorem RpAll.lk (e : LkR H H') : ∀ {vs : List V} {ds : List PyData}, RpAll K H vs ds → RpAll K H' vs ds
  | _, _, .nil => .nil
  | _, _, .cons a b => .cons (a.lk e) (b.lk e)
theorem RpKV.lk (e : LkR H H') : ∀ {vs : List (Key × V)} {ds : List (PyData × PyData)}, RpKV K H vs ds → RpKV K H' vs ds
  | _, _, .nil => .nil
  | _, _, .cons a b => .cons (a.lk e) (b.lk e)
theorem RpAll.mono (e : Same H H') {vs : List V} {ds : List PyData} (h : RpAll K H vs ds) : RpAll K H' vs ds := h.lk (same_lk e)
theorem RpKV.mono (e : Same H H') {vs : List (Key × V)} {ds : List (PyData × PyData)} (h : RpKV K H vs ds) : RpKV K H' vs ds := h.lk (same_lk e)
theorem RpAll.length : ∀ {vs : List V} {ds : List PyData}, RpAll K H vs ds → vs.length = ds.length
  | _, _, .nil => rfl
  | _, _, .cons _ b => congrArg (· + 1) b.length
theorem RpAll.get : ∀ {vs : List V} {ds : List PyData} {i : Nat} {d : PyData}, RpAll K H vs ds → ds[i]? = some d → ∃ v, vs[i]? = some v ∧ Rp K H v d
  | _, _, 0, _, .cons a _, e => ⟨_, rfl, by cases Option.some.inj e; exact a⟩
  | _, _, i + 1, _, .cons _ b, e => RpAll.get (i := i) b e
  | _, _, _, _, .nil, e => by simp at e
theorem RpAll.get2 : ∀ {vs : List V} {ds : List PyData} {i : Nat} {v : V}, RpAll K H vs ds → vs[i]? = some v → ∃ d, ds[i]? = some d ∧ Rp K H v d
  | _, _, 0, _, .cons a _, e => ⟨_, rfl, by cases Option.some.inj e; exact a⟩
  | _, _, i + 1, _, .cons _ b, e => RpAll.get2 (i := i) b e
  | _, _, _, _, .nil, e => by simp at e
theorem RpAll.snoc {v : V} {d : PyData} (r : Rp K H v d) : ∀ {vs : List V} {ds : List PyData}, RpAll K H vs ds → RpAll K H (vs ++ [v]) (ds ++ [d])
  | _, _, .nil => .cons r .nil
  | _, _, .cons a b => .cons a (b.snoc r)
theorem RpAll.app : ∀ {vs ws : List V} {ds es : List PyData}, RpAll K H vs ds → RpAll K H ws es → RpAll K H (vs ++ ws) (ds ++ es)
  | _, _, _, _, .nil, s => s
  | _, _, _, _, .cons a b, s => .cons a (b.app s)
theorem RpAll.set {v : V} {d : PyData} (r : Rp K H v d) : ∀ {vs : List V} {ds : List PyData} (i : Nat), RpAll K H vs ds → RpAll K H (vs.set i v) (ds.set i d)
  | _, _, _, .nil => .nil
  | _, _, 0, .cons _ b => .cons r b
  | _, _, i + 1, .cons a b => .cons a (b.set r i)
theorem RpAll.take : ∀ {vs : List V} {ds : List PyData} (i : Nat), RpAll K H vs ds → RpAll K H (vs.take i) (ds.take i)
  | _, _, _, .nil => by simpa using RpAll.nil
  | _, _, 0, .cons _ _ => .nil
  | _, _, i + 1, .cons a b => .cons a (b.take i)
theorem RpAll.drop : ∀ {vs : List V} {ds : List PyData} (i : Nat), RpAll K H vs ds → RpAll K H (vs.drop i) (ds.drop i)
  | _, _, _, .nil => by simpa using RpAll.nil
  | _, _, 0, .cons a b => .cons a b
  | _, _, i + 1, .cons _ b => b.drop i
theorem RpAll.ints : ∀ (ns : List Int), RpAll K H (ns.map V.int) (ns.map PyData.int)
  | [] => .nil
  | n :: ns => .cons (.int n) (RpAll.ints ns)
theorem Rp.int_inv {v : V} {i : Int} (h : Rp K H v (.int i)) : v = .int i := by cases h; rfl
theorem Rp.bl_inv {v : V} {b : Bool} (h : Rp K H v (.bool b)) : v = .bl b := by cases h; rfl
theorem Rp.str_inv {v : V} {x : Str} (h : Rp K H v (.str x)) : v = .str x := by cases h; rfl
theorem Rp.non_inv {v : V} (h : Rp K H v .none) : v = .non := by cases h; rfl
theorem Rp.lst_inv {v : V} {ds : List PyData} (h : Rp K H v (.list ds)) : ∃ a vs, v = .ref a ∧ SqL K H a vs ∧ RpAll K H vs ds := by
  cases h with
  | lst s q => exact ⟨_, _, rfl, s, q⟩
theorem Rp.tup_inv {v : V} {ds : List PyData} (h : Rp K H v (.tuple ds)) : ∃ a vs, v = .ref a ∧ SqT K H a vs ∧ RpAll K H vs ds := by
  cases h with
  | tup s q => exact ⟨_, _, rfl, s, q⟩
end

/-! ### a part of the heap -/
def cut (H : Hp) (T : Addr → Bool) : Hp := fun b => if T b = true then none else H b
theorem cut_some {H : Hp} {T : Addr → Bool} {b : Addr} {o : HO} (h : cut H T b = some o) : T b = false ∧ H b = some o := by
  unfold cut at h
  cases e : T b with
  | true => rw [e] at h; simp at h
  | false => rw [e] at h; simp at h; exact ⟨rfl, h⟩
theorem cut_of {H : Hp} {T : Addr → Bool} {b : Addr} {o : HO} (e : T b = false) (h : H b = some o) : cut H T b = some o := by
  unfold cut; rw [e]; simpa using h
theorem cut_same {H H' : Hp} {T T' : Addr → Bool} (h : ∀ b o, T b = false → H b = some o → T' b = false ∧ H' b = some o) : Same (cut H T) (cut H' T') := fun b o e => by
  obtain ⟨e1, e2⟩ := cut_some e
  obtain ⟨f1, f2⟩ := h b o e1 e2
  exact cut_of f1 f2
theorem cut_all (H : Hp) (T : Addr → Bool) : Same (cut H T) H := fun b o e => (cut_some e).2

/-! ### frames -/
/-- a part of an object: data, or an owned object that another slot tells -/
inductive Fld where
  | dat (d : PyData)
  | «at» (g : Addr)
/-- an object told by its parts: an instance, a dict, a list -/
inductive Mix where
  | ins (C : Addr) (fs : List (Str × Fld))
  | dct (fs : List (Key × Fld))
  | seq (fs : List Fld)
inductive Slot where
  | no
  | ref (a : Addr)
  | dat (d : PyData)
  | own (a : Addr) (d : PyData)
  /-- an owned object, told as it is | a value that stands for data -/
  | raw (a : Addr) (o : HO)
  | isv (v : V) (d : PyData)
  /-- an owned object, told by its parts -/
  | mix (a : Addr) (m : Mix)
abbrev Fm := List Slot
def adr : Slot → Option Addr
  | .own a _ => some a
  | .raw a _ => some a
  | .mix a _ => some a
  | _ => none
def ownL : Fm → List Addr
  | [] => []
  | .own a _ :: r => a :: ownL r
  | .raw a _ :: r => a :: ownL r
  | .mix a _ :: r => a :: ownL r
  | _ :: r => ownL r
theorem ownL_cons (s : Slot) (r : Fm) : ownL (s :: r) = (adr s).toList ++ ownL r := by cases s <;> rfl
def tt (T : Addr → Bool) (l : List Addr) : Addr → Bool := fun b => T b || decide (b ∈ l)
theorem tt_false {T : Addr → Bool} {l : List Addr} {b : Addr} : tt T l b = false ↔ T b = false ∧ b ∉ l := by
  unfold tt; simp
theorem mem_ownL : ∀ {fs : Fm} {b : Addr}, b ∈ ownL fs ↔ ∃ (i : Nat) (s : Slot), fs[i]? = some s ∧ adr s = some b
  | [], b => by simp [ownL]
  | x :: r, b => by
    rw [ownL_cons, List.mem_append, mem_ownL (fs := r) (b := b)]
    constructor
    · rintro (h | ⟨i, s, h⟩)
      · exact ⟨0, x, rfl, by simpa using h⟩
      · exact ⟨i + 1, s, h⟩
    · rintro ⟨i, s, h, e⟩
      cases i with
      | zero => cases Option.some.inj h; exact .inl (by simp [e])
      | succ i => exact .inr ⟨i, s, h, e⟩
theorem mem_own {fs : Fm} {i : Nat} {a : Addr} {d : PyData} (h : fs[i]? = some (.own a d)) : a ∈ ownL fs := mem_ownL.mpr ⟨i, _, h, rfl⟩
theorem mem_mix {fs : Fm} {i : Nat} {a : Addr} {m : Mix} (h : fs[i]? = some (.mix a m)) : a ∈ ownL fs := mem_ownL.mpr ⟨i, _, h, rfl⟩
theorem ownL_set : ∀ {fs : Fm} {i : Nat} {s : Slot} {b : Addr}, b ∈ ownL (fs.set i s) → b ∈ ownL fs ∨ adr s = some b := by
  intro fs i s b h
  obtain ⟨j, u, h, e2⟩ := mem_ownL.mp h
  by_cases e : i = j
  · subst e
    by_cases l : i < fs.length
    · rw [List.getElem?_set_self l] at h
      cases Option.some.inj h
      exact .inr e2
    · rw [List.getElem?_eq_none (by simpa using l)] at h
      cases h
  · rw [List.getElem?_set_ne e] at h
    exact .inl (mem_ownL.mpr ⟨j, u, h, e2⟩)
theorem ownL_set_sub : ∀ {fs : Fm} {i : Nat} {s : Slot}, adr s = none → (ownL (fs.set i s)).Sublist (ownL fs)
  | [], i, s, _ => by simp [ownL]
  | x :: r, 0, s, h => by
    rw [List.set_cons_zero, ownL_cons, ownL_cons, h]
    exact List.sublist_append_right _ _
  | x :: r, i + 1, s, h => by
    rw [List.set_cons_succ, ownL_cons, ownL_cons]
    exact List.Sublist.append (List.Sublist.refl _) (ownL_set_sub h)
theorem nodup_set : ∀ {fs : Fm} {i : Nat} {a : Addr} {s : Slot}, (ownL fs).Nodup → a ∉ ownL fs → adr s = some a → (ownL (fs.set i s)).Nodup
  | [], i, a, s, h, _, _ => by simp [ownL]
  | x :: r, 0, a, s, h, n, e => by
    rw [ownL_cons] at h n
    rw [List.set_cons_zero, ownL_cons, e]
    exact List.nodup_cons.mpr ⟨fun z => n (List.mem_append_right _ z), (List.nodup_append.mp h).2.1⟩
  | x :: r, i + 1, a, s, h, n, e => by
    rw [ownL_cons] at h n
    rw [List.set_cons_succ, ownL_cons]
    obtain ⟨h1, h2, h3⟩ := List.nodup_append.mp h
    refine List.nodup_append.mpr ⟨h1, nodup_set h2 (fun z => n (List.mem_append_right _ z)) e, fun b hb c hc => ?_⟩
    rcases ownL_set hc with z | z
    · exact h3 b hb c z
    · rw [e] at z; cases Option.some.inj z
      exact fun q => n (List.mem_append_left _ (by rw [← q]; exact hb))
theorem ownL_putS : ∀ {fs : Fm} {i : Nat} {s u : Slot}, fs[i]? = some s → adr u = adr s → ownL (fs.set i u) = ownL fs
  | [], i, s, u, h, _ => by simp at h
  | x :: r, 0, s, u, h, e => by
    cases Option.some.inj h
    rw [List.set_cons_zero, ownL_cons, ownL_cons, e]
  | x :: r, i + 1, s, u, h, e => by
    rw [List.set_cons_succ, ownL_cons, ownL_cons, ownL_putS (fs := r) h e]
theorem ownL_put {fs : Fm} {i : Nat} {a : Addr} {d d' : PyData} (h : fs[i]? = some (.own a d)) : ownL (fs.set i (.own a d')) = ownL fs := ownL_putS h rfl
theorem own_injS : ∀ {fs : Fm} {i j : Nat} {a : Addr} {s u : Slot}, (ownL fs).Nodup → fs[i]? = some s → fs[j]? = some u → adr s = some a → adr u = some a → i = j
  | [], i, j, a, d, e, _, h, _, _, _ => by simp at h
  | x :: r, 0, 0, a, d, e, _, _, _, _, _ => rfl
  | x :: r, 0, j + 1, a, s, u, n, h, g, e1, e2 => by
    cases Option.some.inj h
    rw [ownL_cons, e1] at n
    exact absurd (mem_ownL.mpr ⟨j, u, g, e2⟩) (List.nodup_cons.mp n).1
  | x :: r, i + 1, 0, a, s, u, n, h, g, e1, e2 => by
    cases Option.some.inj g
    rw [ownL_cons, e2] at n
    exact absurd (mem_ownL.mpr ⟨i, s, h, e1⟩) (List.nodup_cons.mp n).1
  | x :: r, i + 1, j + 1, a, s, u, n, h, g, e1, e2 => by
    rw [ownL_cons] at n
    exact congrArg (· + 1) (own_injS (fs := r) (List.nodup_append.mp n).2.1 h g e1 e2)
/-- an owned list or dict -/
def Ow (K : PySem.W.Frag) (S H : Hp) (a : Addr) : PyData → Prop
  | .list ds => ∃ vs, H a = some (.lst vs) ∧ RpAll K S vs ds
  | .dict es => ∃ kvs, H a = some (.dK kvs) ∧ RpKV K S kvs es
  | _ => False
section
variable {K : PySem.W.Frag} {S S' H H' : Hp} {a : Addr} {d : PyData}
theorem Ow.lk (e : LkR S S') (k : H' a = H a) (h : Ow K S H a d) : Ow K S' H' a d := by
  cases d with
  | list ds => obtain ⟨vs, h1, h2⟩ := h; exact ⟨vs, k.trans h1, h2.lk e⟩
  | dict es => obtain ⟨vs, h1, h2⟩ := h; exact ⟨vs, k.trans h1, h2.lk e⟩
  | _ => exact h.elim
theorem Ow.mono (e : Same S S') (k : H' a = H a) (h : Ow K S H a d) : Ow K S' H' a d := h.lk (same_lk e) k
theorem Ow.there (h : Ow K S H a d) : ∃ o, H a = some o := by
  cases d with
  | list ds => obtain ⟨vs, h1, h2⟩ := h; exact ⟨_, h1⟩
  | dict es => obtain ⟨vs, h1, h2⟩ := h; exact ⟨_, h1⟩
  | _ => exact h.elim
theorem Ow.rp (e : Same S H) (h : Ow K S H a d) : Rp K H (.ref a) d := by
  cases d with
  | list ds => obtain ⟨vs, h1, h2⟩ := h; exact .lst (SqL.of h1) (h2.mono e)
  | dict es => obtain ⟨vs, h1, h2⟩ := h; exact .dct (.inl h1) (h2.mono e)
  | _ => exact h.elim
end

def FldR (K : PySem.W.Frag) (S : Hp) (v : V) : Fld → Prop
  | .dat d => Rp K S v d
  | .at g => v = .ref g
inductive FrK (K : PySem.W.Frag) (S : Hp) {α : Type} : List (α × V) → List (α × Fld) → Prop
  | nil : FrK K S [] []
  | cons {k : α} {v : V} {f : Fld} {vs : List (α × V)} {fs : List (α × Fld)} : FldR K S v f → FrK K S vs fs → FrK K S ((k, v) :: vs) ((k, f) :: fs)
inductive FrS (K : PySem.W.Frag) (S : Hp) : List V → List Fld → Prop
  | nil : FrS K S [] []
  | cons {v : V} {f : Fld} {vs : List V} {fs : List Fld} : FldR K S v f → FrS K S vs fs → FrS K S (v :: vs) (f :: fs)
theorem FldR.lk {K : PySem.W.Frag} {S S' : Hp} {v : V} {f : Fld} (e : LkR S S') (h : FldR K S v f) : FldR K S' v f := by
  cases f with
  | dat d => exact Rp.lk e h
  | «at» g => exact h
theorem FrK.lk {K : PySem.W.Frag} {S S' : Hp} {α : Type} {vs : List (α × V)} {fs : List (α × Fld)} (e : LkR S S') (h : FrK K S vs fs) : FrK K S' vs fs := by
  induction h with
  | nil => exact .nil
  | cons a _ ih => exact .cons (a.lk e) ih
theorem FrS.lk {K : PySem.W.Frag} {S S' : Hp} {vs : List V} {fs : List Fld} (e : LkR S S') (h : FrS K S vs fs) : FrS K S' vs fs := by
  induction h with
  | nil => exact .nil
  | cons a _ ih => exact .cons (a.lk e) ih
def MixR (K : PySem.W.Frag) (S H : Hp) (a : Addr) : Mix → Prop
  | .ins C fs => ∃ dx vs, H a = some (.ins C dx vs) ∧ FrK K S vs fs
  | .dct fs => ∃ vs, H a = some (.dK vs) ∧ FrK K S vs fs
  | .seq fs => ∃ vs, H a = some (.lst vs) ∧ FrS K S vs fs
theorem MixR.lk {K : PySem.W.Frag} {S S' H H' : Hp} {a : Addr} {m : Mix} (e : LkR S S') (k : H' a = H a) (h : MixR K S H a m) : MixR K S' H' a m := by
  cases m with
  | ins C fs => obtain ⟨dx, vs, h1, h2⟩ := h; exact ⟨dx, vs, k.trans h1, h2.lk e⟩
  | dct fs => obtain ⟨vs, h1, h2⟩ := h; exact ⟨vs, k.trans h1, h2.lk e⟩
  | seq fs => obtain ⟨vs, h1, h2⟩ := h; exact ⟨vs, k.trans h1, h2.lk e⟩
theorem MixR.there {K : PySem.W.Frag} {S H : Hp} {a : Addr} {m : Mix} (h : MixR K S H a m) : ∃ o, H a = some o := by
  cases m with
  | ins C fs => obtain ⟨dx, vs, h1, h2⟩ := h; exact ⟨_, h1⟩
  | dct fs => obtain ⟨vs, h1, h2⟩ := h; exact ⟨_, h1⟩
  | seq fs => obtain ⟨vs, h1, h2⟩ := h; exact ⟨_, h1⟩
def SlR (K : PySem.W.Frag) (S H : Hp) : Option V → Slot → Prop
  | _, .no => True
  | some v, .ref a => v = .ref a
  | some v, .dat d => Rp K S v d
  | some v, .own a d => v = .ref a ∧ Ow K S H a d
  | some v, .raw a o => v = .ref a ∧ H a = some o
  | some v, .isv w d => v = w ∧ Rp K S v d
  | some v, .mix a m => v = .ref a ∧ MixR K S H a m
  | none, _ => False
section
variable {K : PySem.W.Frag} {S S' H H' : Hp} {ov : Option V} {s : Slot} {a : Addr}
theorem SlR.lk (e : LkR S S') (k : ∀ a, adr s = some a → H' a = H a) (h : SlR K S H ov s) : SlR K S' H' ov s := by
  cases s with
  | no => cases ov <;> trivial
  | ref q =>
    cases ov with
    | none => exact h.elim
    | some v => exact h
  | dat d =>
    cases ov with
    | none => exact h.elim
    | some v => exact Rp.lk e h
  | own a d =>
    cases ov with
    | none => exact h.elim
    | some v => exact ⟨h.1, h.2.lk e (k a rfl)⟩
  | raw a o =>
    cases ov with
    | none => exact h.elim
    | some v => exact ⟨h.1, (k a rfl).trans h.2⟩
  | isv w d =>
    cases ov with
    | none => exact h.elim
    | some v => exact ⟨h.1, Rp.lk e h.2⟩
  | mix a m =>
    cases ov with
    | none => exact h.elim
    | some v => exact ⟨h.1, h.2.lk e (k a rfl)⟩
theorem SlR.mono (e : Same S S') (k : ∀ a, adr s = some a → H' a = H a) (h : SlR K S H ov s) : SlR K S' H' ov s := h.lk (same_lk e) k
theorem SlR.adr (h : SlR K S H ov s) (e : adr s = some a) : ov = some (.ref a) ∧ ∃ o, H a = some o := by
  cases s with
  | own b d =>
    cases Option.some.inj e
    cases ov with
    | none => exact h.elim
    | some v => exact ⟨congrArg some h.1, h.2.there⟩
  | raw b o =>
    cases Option.some.inj e
    cases ov with
    | none => exact h.elim
    | some v => exact ⟨congrArg some h.1, _, h.2⟩
  | mix b m =>
    cases Option.some.inj e
    cases ov with
    | none => exact h.elim
    | some v => exact ⟨congrArg some h.1, h.2.there⟩
  | _ => cases e
end

/-- slots beyond the names are ghosts: what they tell of stands in the heap alone -/
structure ER (K : PySem.W.Frag) (T : Addr → Bool) (σ : L2.St) (H : Hp) (fs : Fm) : Prop where
  len : σ.length ≤ fs.length
  sl : ∀ (i : Nat) (s : Slot), fs[i]? = some s → ∃ ov, (i < σ.length → σ[i]? = some ov) ∧ SlR K (cut H (tt T (ownL fs))) H ov s
  nd : (ownL fs).Nodup
  out : ∀ a ∈ ownL fs, T a = false
  dom : ∀ b, T b = true → H b ≠ none
section
variable {K : PySem.W.Frag} {T : Addr → Bool} {σ : L2.St} {H H' : Hp} {fs : Fm} {i : Nat} {v : V} {d : PyData} {a : Addr} {s : Slot}
theorem ER.own (E : ER K T σ H fs) (h : fs[i]? = some (.own a d)) : (i < σ.length → σ[i]? = some (some (.ref a))) ∧ Ow K (cut H (tt T (ownL fs))) H a d := by
  obtain ⟨ov, h1, h2⟩ := E.sl i _ h
  cases ov with
  | none => exact h2.elim
  | some v =>
    obtain ⟨e, q⟩ := h2
    subst e
    exact ⟨h1, q⟩
theorem ER.raw {o : HO} (E : ER K T σ H fs) (h : fs[i]? = some (.raw a o)) : (i < σ.length → σ[i]? = some (some (.ref a))) ∧ H a = some o := by
  obtain ⟨ov, h1, h2⟩ := E.sl i _ h
  cases ov with
  | none => exact h2.elim
  | some v =>
    obtain ⟨e, q⟩ := h2
    subst e
    exact ⟨h1, q⟩
theorem ER.mix {m : Mix} (E : ER K T σ H fs) (h : fs[i]? = some (.mix a m)) : (i < σ.length → σ[i]? = some (some (.ref a))) ∧ MixR K (cut H (tt T (ownL fs))) H a m := by
  obtain ⟨ov, h1, h2⟩ := E.sl i _ h
  cases ov with
  | none => exact h2.elim
  | some v =>
    obtain ⟨e, q⟩ := h2
    subst e
    exact ⟨h1, q⟩
theorem ER.dat (E : ER K T σ H fs) (h : fs[i]? = some (.dat d)) : ∃ v, (i < σ.length → σ[i]? = some (some v)) ∧ Rp K (cut H (tt T (ownL fs))) v d := by
  obtain ⟨ov, h1, h2⟩ := E.sl i _ h
  cases ov with
  | none => exact h2.elim
  | some v => exact ⟨v, h1, h2⟩
theorem ER.isv (E : ER K T σ H fs) (h : fs[i]? = some (.isv v d)) : (i < σ.length → σ[i]? = some (some v)) ∧ Rp K (cut H (tt T (ownL fs))) v d := by
  obtain ⟨ov, h1, h2⟩ := E.sl i _ h
  cases ov with
  | none => exact h2.elim
  | some w =>
    obtain ⟨e, q⟩ := h2
    subst e
    exact ⟨h1, q⟩
theorem ER.thereL (E : ER K T σ H fs) (h : a ∈ ownL fs) : ∃ o, H a = some o := by
  obtain ⟨i, s, h, e⟩ := mem_ownL.mp h
  obtain ⟨ov, h1, h2⟩ := E.sl i s h
  exact (h2.adr e).2
theorem ER.there (E : ER K T σ H fs) (h : tt T (ownL fs) a = true) : ∃ o, H a = some o := by
  unfold tt at h
  rw [Bool.or_eq_true] at h
  rcases h with h | h
  · have := E.dom a h
    cases e : H a with
    | none => exact absurd e this
    | some o => exact ⟨o, rfl⟩
  · exact E.thereL (of_decide_eq_true h)
/-- what is not tracked is nobody's -/
theorem ER.free (E : ER K T σ H fs) (h : H a = none) : tt T (ownL fs) a = false := by
  cases e : tt T (ownL fs) a with
  | false => rfl
  | true =>
    obtain ⟨o, q⟩ := E.there e
    rw [h] at q; cases q
/-- all but what is owned stays, what is owned too -/
theorem ER.keep (E : ER K T σ H fs) (k : Same H H') : ER K T σ H' fs where
  len := E.len
  sl := fun i s h => by
    obtain ⟨ov, h1, h2⟩ := E.sl i s h
    refine ⟨ov, h1, h2.mono (cut_same fun b o e q => ⟨e, k b o q⟩) fun a e => ?_⟩
    obtain ⟨o, q⟩ := (h2.adr e).2
    rw [q, k _ _ q]
  nd := E.nd
  out := E.out
  dom := fun b h => by
    obtain ⟨o, q⟩ := E.there (a := b) (by unfold tt; rw [h]; rfl)
    rw [k _ _ q]; exact fun z => by cases z
/-- a slot that owns nothing is written -/
theorem ER.setS {ov : Option V} (E : ER K T σ H fs) (e : adr s = none) (r : SlR K (cut H (tt T (ownL (fs.set i s)))) H ov s) : ER K T (σ.set i ov) H (fs.set i s) := by
  have sub : ∀ b, tt T (ownL fs) b = false → tt T (ownL (fs.set i s)) b = false := fun b h => by
    obtain ⟨h1, h2⟩ := tt_false.mp h
    refine tt_false.mpr ⟨h1, fun z => ?_⟩
    rcases ownL_set z with z | z
    · exact h2 z
    · rw [e] at z; cases z
  have up : Same (cut H (tt T (ownL fs))) (cut H (tt T (ownL (fs.set i s)))) := cut_same fun b o e q => ⟨sub b e, q⟩
  refine ⟨by simpa using E.len, fun j u h => ?_, E.nd.sublist (ownL_set_sub e), fun a h => ?_, E.dom⟩
  · by_cases q : i = j
    · subst q
      by_cases l : i < fs.length
      · rw [List.getElem?_set_self l] at h
        cases Option.some.inj h
        exact ⟨ov, fun l2 => by rw [List.getElem?_set_self (by simpa using l2)], r⟩
      · rw [List.getElem?_eq_none (by simpa using l)] at h
        cases h
    · rw [List.getElem?_set_ne q] at h
      obtain ⟨ov, h1, h2⟩ := E.sl j u h
      exact ⟨ov, fun l2 => by rw [List.getElem?_set_ne q]; exact h1 (by simpa using l2), h2.mono up fun _ _ => rfl⟩
  · rcases ownL_set h with z | z
    · exact E.out a z
    · rw [e] at z; cases z
theorem up_setS {T : Addr → Bool} {H : Hp} {fs : Fm} {i : Nat} {s : Slot} (e : adr s = none) : Same (cut H (tt T (ownL fs))) (cut H (tt T (ownL (fs.set i s)))) := cut_same fun b o q z => by
  obtain ⟨h1, h2⟩ := tt_false.mp q
  refine ⟨tt_false.mpr ⟨h1, fun y => ?_⟩, z⟩
  rcases ownL_set y with y | y
  · exact h2 y
  · rw [e] at y; cases y
theorem ER.setDat (E : ER K T σ H fs) (r : Rp K (cut H (tt T (ownL fs))) v d) : ER K T (σ.set i (some v)) H (fs.set i (.dat d)) := E.setS (s := .dat d) (ov := some v) rfl (Rp.mono (up_setS rfl) r)
theorem ER.setIsv (E : ER K T σ H fs) (r : Rp K (cut H (tt T (ownL fs))) v d) : ER K T (σ.set i (some v)) H (fs.set i (.isv v d)) := E.setS (s := .isv v d) (ov := some v) rfl ⟨rfl, Rp.mono (up_setS rfl) r⟩
end
/-- the heap without one object -/
def hide (H : Hp) (a : Addr) : Hp := cut H fun b => decide (b = a)
theorem hide_self (H : Hp) (a : Addr) : hide H a a = none := by simp [hide, cut]
theorem hide_ne {H : Hp} {a b : Addr} (h : b ≠ a) : hide H a b = H b := by simp [hide, cut, h]
theorem hide_same (H : Hp) (a : Addr) : Same (hide H a) H := cut_all H _
theorem same_hide {H H' : Hp} {a : Addr} (k : Same H H') (n : H a = none) : Same H (hide H' a) := fun b o e => by
  rw [hide_ne (fun z => by rw [z, n] at e; cases e)]
  exact k b o e
section
variable {K : PySem.W.Frag} {T : Addr → Bool} {σ : L2.St} {H H' : Hp} {fs : Fm} {i : Nat} {v : V} {d d' : PyData} {a : Addr} {s u : Slot}
theorem ER.setAt (E : ER K T σ (hide H a) fs) (ea : adr s = some a) (r : SlR K (cut (hide H a) (tt T (ownL fs))) H (some (.ref a)) s) : ER K T (σ.set i (some (.ref a))) H (fs.set i s) := by
  have f : tt T (ownL fs) a = false := E.free (hide_self H a)
  obtain ⟨f1, f2⟩ := tt_false.mp f
  have sub : ∀ b, b ≠ a → tt T (ownL fs) b = false → tt T (ownL (fs.set i s)) b = false := fun b n h => by
    obtain ⟨h1, h2⟩ := tt_false.mp h
    refine tt_false.mpr ⟨h1, fun z => ?_⟩
    rcases ownL_set z with z | z
    · exact h2 z
    · rw [ea] at z; exact n (Option.some.inj z).symm
  have up : Same (cut (hide H a) (tt T (ownL fs))) (cut H (tt T (ownL (fs.set i s)))) := cut_same fun b o e q => by
    have n : b ≠ a := fun z => by rw [z, hide_self] at q; cases q
    rw [hide_ne n] at q
    exact ⟨sub b n e, q⟩
  have dom : ∀ b, T b = true → H b ≠ none := fun b h z => E.dom b h (by
    by_cases n : b = a
    · rw [n]; exact hide_self H a
    · rw [hide_ne n]; exact z)
  by_cases l : i < fs.length
  · refine ⟨by simpa using E.len, fun j u h => ?_, nodup_set E.nd f2 ea, fun b h => ?_, dom⟩
    · by_cases e : i = j
      · subst e
        rw [List.getElem?_set_self l] at h
        cases Option.some.inj h
        exact ⟨some (.ref a), fun l2 => by rw [List.getElem?_set_self (by simpa using l2)], r.mono up fun _ _ => rfl⟩
      · rw [List.getElem?_set_ne e] at h
        obtain ⟨ov, h1, h2⟩ := E.sl j u h
        refine ⟨ov, fun l2 => by rw [List.getElem?_set_ne e]; exact h1 (by simpa using l2), h2.mono up fun b q => ?_⟩
        exact (hide_ne (fun z => f2 (mem_ownL.mpr ⟨j, u, h, by rw [← z]; exact q⟩))).symm
    · rcases ownL_set h with z | z
      · exact E.out b z
      · rw [ea] at z; rw [← Option.some.inj z]; exact f1
  · have q := E.keep (hide_same H a)
    rw [List.set_eq_of_length_le (by have := E.len; omega), List.set_eq_of_length_le (by omega)]
    exact q
theorem ER.setOwn (E : ER K T σ (hide H a) fs) (r : Ow K (cut (hide H a) (tt T (ownL fs))) H a d) : ER K T (σ.set i (some (.ref a))) H (fs.set i (.own a d)) := E.setAt (s := .own a d) rfl ⟨rfl, r⟩
/-- an owned object is written -/
theorem ER.putS (E : ER K T σ H fs) (h : fs[i]? = some s) (ea : adr s = some a) (eu : adr u = some a) (k : ∀ b o, b ≠ a → H b = some o → H' b = some o) (r : SlR K (cut H' (tt T (ownL fs))) H' (some (.ref a)) u) : ER K T σ H' (fs.set i u) := by
  have eo : ownL (fs.set i u) = ownL fs := ownL_putS h (eu.trans ea.symm)
  have ia : a ∈ ownL fs := mem_ownL.mpr ⟨i, s, h, ea⟩
  have l : i < fs.length := (List.getElem?_eq_some_iff.mp h).1
  have up : Same (cut H (tt T (ownL fs))) (cut H' (tt T (ownL fs))) := cut_same fun b q e z => ⟨e, k b q (fun n => (tt_false.mp e).2 (by rw [n]; exact ia)) z⟩
  refine ⟨by simpa using E.len, fun j w g => ?_, by rw [eo]; exact E.nd, fun b z => E.out b (by rw [eo] at z; exact z), fun b z => ?_⟩
  · rw [eo]
    by_cases e : i = j
    · subst e
      rw [List.getElem?_set_self l] at g
      cases Option.some.inj g
      obtain ⟨ov, h1, h2⟩ := E.sl i s h
      exact ⟨some (.ref a), fun l2 => by rw [← (h2.adr ea).1]; exact h1 l2, r⟩
    · rw [List.getElem?_set_ne e] at g
      obtain ⟨ov, h1, h2⟩ := E.sl j w g
      refine ⟨ov, h1, h2.mono up fun b q => ?_⟩
      obtain ⟨o, ho⟩ := (h2.adr q).2
      rw [ho, k _ _ (fun n => e (own_injS E.nd h g ea (by rw [← n]; exact q))) ho]
  · obtain ⟨o, ho⟩ := E.there (a := b) (by unfold tt; rw [z]; rfl)
    by_cases n : b = a
    · obtain ⟨o', ho'⟩ := (r.adr eu).2
      rw [n, ho']; exact fun z => by cases z
    · rw [k b o n ho]; exact fun z => by cases z
theorem ER.put (E : ER K T σ H fs) (h : fs[i]? = some (.own a d)) (k : ∀ b o, b ≠ a → H b = some o → H' b = some o) (r : Ow K (cut H' (tt T (ownL fs))) H' a d') : ER K T σ H' (fs.set i (.own a d')) := E.putS (u := .own a d') h rfl rfl k ⟨rfl, r⟩
end
/-- what is not owned stays -/
def Kp (H H' : Hp) (l : List Addr) : Prop := ∀ b o, b ∉ l → H b = some o → H' b = some o
theorem Kp.refl (H : Hp) (l : List Addr) : Kp H H l := fun _ _ _ h => h
theorem Kp.trans {H H1 H2 : Hp} {l : List Addr} (a : Kp H H1 l) (b : Kp H1 H2 l) : Kp H H2 l := fun c o n h => b c o n (a c o n h)
theorem Kp.of {H H' : Hp} {l : List Addr} (a : Same H H') : Kp H H' l := fun c o _ h => a c o h
theorem Kp.up {H H' : Hp} {T : Addr → Bool} {l l' : List Addr} (k : Kp H H' l) (e : l' = l) : Same (cut H (tt T l)) (cut H' (tt T l')) := by
  subst e
  exact cut_same fun b o n h => ⟨n, k b o (tt_false.mp n).2 h⟩

/-! ### results -/
inductive Res where
  /-- data | a new list or dict | an owned one, by its name | a new pair, the second one new too -/
  | val (d : PyData) | new (d : PyData) | at (a : Addr) (d : PyData) | two (d e : PyData)
  /-- a new pair, both parts new -/
  | tw (d e : PyData)
def Res.d : Res → PyData
  | .val d => d
  | .new d => d
  | .at _ d => d
  | .two d e => .tuple [d, e]
  | .tw d e => .tuple [d, e]
/-- the heap without the three -/
def hide3 (H : Hp) (h g a : Addr) : Hp := hide (hide (hide H h) g) a
theorem hide3_same (H : Hp) (h g a : Addr) : Same (hide3 H h g a) H := fun b o z => hide_same H h b o (hide_same _ g b o (hide_same _ a b o z))
theorem hide3_ne {H : Hp} {h g a b : Addr} (n1 : b ≠ h) (n2 : b ≠ g) (n3 : b ≠ a) : hide3 H h g a b = H b := by unfold hide3; rw [hide_ne n3, hide_ne n2, hide_ne n1]
theorem hide3_a (H : Hp) (h g a : Addr) : hide3 H h g a a = none := hide_self _ a
theorem hide3_g (H : Hp) (h g a : Addr) : hide3 H h g a g = none := by
  unfold hide3
  by_cases e : g = a
  · rw [e]; exact hide_self _ a
  · rw [hide_ne e]; exact hide_self _ g
theorem hide3_h (H : Hp) (h g a : Addr) : hide3 H h g a h = none := by
  unfold hide3
  by_cases e : h = a
  · rw [e]; exact hide_self _ a
  · rw [hide_ne e]
    by_cases e2 : h = g
    · rw [e2]; exact hide_self _ g
    · rw [hide_ne e2]; exact hide_self _ h
def Po (K : PySem.W.Frag) (T : Addr → Bool) (σ : L2.St) (H0 H : Hp) (fs : Fm) (v : V) : Res → Prop
  | .val d => ER K T σ H fs ∧ Rp K (cut H (tt T (ownL fs))) v d
  | .new d => ∃ a, v = .ref a ∧ H0 a = none ∧ ER K T σ (hide H a) fs ∧ Ow K (cut (hide H a) (tt T (ownL fs))) H a d
  | .at a d => ER K T σ H fs ∧ v = .ref a ∧ ∃ i : Nat, fs[i]? = some (.own a d)
  | .two d e => ∃ a g v1, v = .ref a ∧ H0 a = none ∧ H0 g = none ∧ a ≠ g ∧ H a = some (.tup [v1, .ref g]) ∧ ER K T σ (hide (hide H g) a) fs ∧ Rp K (cut (hide (hide H g) a) (tt T (ownL fs))) v1 d ∧ Ow K (cut (hide (hide H g) a) (tt T (ownL fs))) H g e
  | .tw d e => ∃ a g h, v = .ref a ∧ H0 a = none ∧ H0 g = none ∧ H0 h = none ∧ a ≠ g ∧ a ≠ h ∧ g ≠ h ∧ H a = some (.tup [.ref g, .ref h]) ∧ ER K T σ (hide3 H h g a) fs ∧ Ow K (cut (hide3 H h g a) (tt T (ownL fs))) H g d ∧ Ow K (cut (hide3 H h g a) (tt T (ownL fs))) H h e
section
variable {K : PySem.W.Frag} {T : Addr → Bool} {σ : L2.St} {H0 H H' : Hp} {fs : Fm} {v : V} {r : Res} {d : PyData}
theorem Po.er (p : Po K T σ H0 H fs v r) : ER K T σ H fs := by
  cases r with
  | val d => exact p.1
  | new d => obtain ⟨a, _, _, h, _⟩ := p; exact h.keep (hide_same H a)
  | «at» a d => exact p.1
  | two d e => obtain ⟨a, g, _, _, _, _, _, _, h, _⟩ := p; exact h.keep fun b o z => hide_same H g b o (hide_same _ a b o z)
  | tw d e => obtain ⟨a, g, h, _, _, _, _, _, _, _, _, E, _⟩ := p; exact E.keep (hide3_same H h g a)
theorem Po.toVal (p : Po K T σ H0 H fs v (.new d)) : Po K T σ H0 H fs v (.val d) := by
  have er := p.er
  obtain ⟨a, rfl, n, h, q⟩ := p
  have f : tt T (ownL fs) a = false := h.free (hide_self H a)
  refine ⟨er, ?_⟩
  have m : Same (cut (hide H a) (tt T (ownL fs))) (cut H (tt T (ownL fs))) := cut_same fun b o e z => ⟨e, hide_same H a b o z⟩
  obtain ⟨o, ho⟩ := q.there
  refine Ow.rp (S := cut (hide H a) (tt T (ownL fs))) m (q.mono (fun _ _ z => z) ?_)
  rw [ho]; exact cut_of f ho
theorem Po.pairVal {d e : PyData} (p : Po K T σ H0 H fs v (.two d e)) : Po K T σ H0 H fs v (.val (.tuple [d, e])) := by
  have er := p.er
  obtain ⟨a, g, v1, rfl, n1, n2, ne, ha, h, rv, q⟩ := p
  have fa : tt T (ownL fs) a = false := h.free (hide_self _ a)
  have fg : tt T (ownL fs) g = false := h.free (by rw [hide_ne (fun z => ne z.symm)]; exact hide_self H g)
  have m : Same (cut (hide (hide H g) a) (tt T (ownL fs))) (cut H (tt T (ownL fs))) := cut_same fun b o e z => ⟨e, hide_same H g b o (hide_same _ a b o z)⟩
  obtain ⟨o, ho⟩ := q.there
  have rg : Rp K (cut H (tt T (ownL fs))) (.ref g) e := Ow.rp (S := cut (hide (hide H g) a) (tt T (ownL fs))) m (q.mono (fun _ _ z => z) (by rw [ho]; exact cut_of fg ho))
  exact ⟨er, .tup (xs := [v1, .ref g]) (.inl (.inl (cut_of fa ha))) (.cons (rv.mono m) (.cons rg .nil))⟩
theorem Po.twVal {d e : PyData} (p : Po K T σ H0 H fs v (.tw d e)) : Po K T σ H0 H fs v (.val (.tuple [d, e])) := by
  have er := p.er
  obtain ⟨a, g, h, rfl, n1, n2, n3, ag, ah, gh, ha, E, w1, w2⟩ := p
  have fa : tt T (ownL fs) a = false := E.free (hide3_a ..)
  have fg : tt T (ownL fs) g = false := E.free (hide3_g ..)
  have fh : tt T (ownL fs) h = false := E.free (hide3_h ..)
  have m : Same (cut (hide3 H h g a) (tt T (ownL fs))) (cut H (tt T (ownL fs))) := cut_same fun b o e z => ⟨e, hide3_same H h g a b o z⟩
  obtain ⟨o1, ho1⟩ := w1.there
  obtain ⟨o2, ho2⟩ := w2.there
  have rg : Rp K (cut H (tt T (ownL fs))) (.ref g) d := Ow.rp (S := cut (hide3 H h g a) (tt T (ownL fs))) m (w1.mono (fun _ _ z => z) (by rw [ho1]; exact cut_of fg ho1))
  have rh : Rp K (cut H (tt T (ownL fs))) (.ref h) e := Ow.rp (S := cut (hide3 H h g a) (tt T (ownL fs))) m (w2.mono (fun _ _ z => z) (by rw [ho2]; exact cut_of fh ho2))
  exact ⟨er, .tup (xs := [.ref g, .ref h]) (.inl (.inl (cut_of fa ha))) (.cons rg (.cons rh .nil))⟩
/-- a list, however it lies -/
theorem Po.list {ds : List PyData} (p : Po K T σ H0 H fs v r) (e : r.d = .list ds) : ∃ a vs, v = .ref a ∧ SqL K H a vs ∧ RpAll K (cut H (tt T (ownL fs))) vs ds := by
  cases r with
  | val d =>
    cases (show d = .list ds from e)
    obtain ⟨a, vs, e, s, q⟩ := p.2.lst_inv
    exact ⟨a, vs, e, sqL_same (cut_all _ _) s, q⟩
  | new d =>
    cases (show d = .list ds from e)
    obtain ⟨a, vs, e, s, q⟩ := (Po.toVal p).2.lst_inv
    exact ⟨a, vs, e, sqL_same (cut_all _ _) s, q⟩
  | «at» a d =>
    cases (show d = .list ds from e)
    obtain ⟨er, rfl, i, hi⟩ := p
    obtain ⟨vs, h1, h2⟩ := (er.own hi).2
    exact ⟨a, vs, rfl, SqL.of h1, h2⟩
  | two d e' => cases e
  | tw d e' => cases e
theorem Po.tuple {ds : List PyData} (p : Po K T σ H0 H fs v (.val (.tuple ds))) : ∃ a vs, v = .ref a ∧ SqT K H a vs ∧ RpAll K (cut H (tt T (ownL fs))) vs ds := by
  obtain ⟨a, vs, e, s, q⟩ := p.2.tup_inv
  exact ⟨a, vs, e, sqT_same (cut_all _ _) s, q⟩
/-- all is as it was, seen from ahead -/
theorem Po.rp (p : Po K T σ H0 H fs v r) : Rp K H v r.d := by
  cases r with
  | val d => exact p.2.mono (cut_all _ _)
  | new d => exact (Po.toVal p).2.mono (cut_all _ _)
  | «at» a d =>
    obtain ⟨er, rfl, i, hi⟩ := p
    exact Ow.rp (cut_all _ _) (er.own hi).2
  | two d e => exact (Po.pairVal p).2.mono (cut_all _ _)
  | tw d e => exact (Po.twVal p).2.mono (cut_all _ _)
end
end A3
namespace A3
open PySem PySem.Spec PyProof.Rows L2

/-! ### products -/
def MulOk (i j : Int) : Prop := IntMulOk i j
theorem op_mulK {X : Cx} : OpR X (binaryOp .Mult) (rI MulOk fun i j => .int (i * j)) := opI fun _ _ _ _ _ _ _ hc q => mul_int q hc
/-- // by any number but 0 below 2 ^ 9000 -/
def CDivG (_ j : Int) : Prop := j ≠ 0 ∧ j.natAbs.log2 < 9000
theorem op_fdivG {X : Cx} : OpR X (binaryOp .FloorDiv) (rI CDivG fun i j => .int (i.fdiv j)) := opI fun i j _ _ _ _ _ hc q => floordiv_int hc.1 q (.inl (PyProof.noPylong_of_log2 hc.2))
theorem mulL {i j : Int} (h : i.natAbs < 18446744073709551616) : MulOk i j := CMul.ok (.inl ⟨by omega, by omega⟩)
theorem mulR {i j : Int} (h : j.natAbs < 18446744073709551616) : MulOk i j := CMul.ok (.inr ⟨by omega, by omega⟩)
/-- a number below a power of two -/
def Bd (n : Nat) (i : Int) : Prop := i.natAbs < 2 ^ n
theorem divB {i j : Int} {n : Nat} (h : 0 < j) (hj : Bd n j) (hn : n < 8999 := by decide) : CDivW i j :=
  wide_div (b := n + 1) h (Nat.lt_trans hj (Nat.pow_lt_pow_right (by decide) (by omega))) (by omega) (by omega)
theorem divG {i j : Int} {n : Nat} (h : j ≠ 0) (hj : Bd n j) (hn : n < 8999 := by decide) : CDivG i j :=
  ⟨h, Nat.lt_of_lt_of_le (PySem.Flt.log2_lt_of (k := n + 1) (by omega) (Nat.lt_trans hj (Nat.pow_lt_pow_right (by decide) (by omega)))) (by omega)⟩
theorem divS {i j : Int} (h : 0 < j) (hj : j < 18446744073709551616) : CDivW i j := divB (n := 64) h (by unfold Bd; omega)

/-! ### the weakest readings -/
def bE (X : Cx) (e : Expr) : TE := fun σ H Q => ∀ pins s, Inv X pins σ H s → wpAny (model X.prog X.w) X.A (eval e X.env) (EP X pins σ Q) X.xe s
def bT (X : Cx) (e : Expr) : TT := fun σ H Q => ∀ pins s, Inv X pins σ H s → wpAny (model X.prog X.w) X.A (isTrue e X.env (eval e X.env)) (TP X pins σ Q) X.xe s
def bW (X : Cx) (e : Expr) : TT := fun σ H Q => ∀ whole pins s, Inv X pins σ H s → wpAny (model X.prog X.w) X.A (isTrue e X.env whole) (TP X pins σ Q) X.xe s
def bA (X : Cx) (es : List Expr) : TA := fun σ H Q => ∀ pos pins s, Inv X pins σ H s → wpAny (model X.prog X.w) X.A (spliced (backTo pos (starEach es X.env))) (AP X pins σ Q) X.xe s
def bSs (X : Cx) (st : List Stmt) : TS := fun D σ H => ∀ pins s, Inv X pins σ H s → wpAny (model X.prog X.w) X.A (execs st X.env) (SP X pins D) X.xe s
section
variable {X : Cx} {e : Expr} {es : List Expr} {st : Stmt} {sts : List Stmt} {σ : L2.St} {H : Hp}
theorem best : PE X e (bE X e) := ⟨fun pins s _ _ _ I h => h pins s I⟩
theorem bestT : PT X e (bT X e) := ⟨fun pins s _ _ _ I h => h pins s I⟩
theorem bestW : PW X e (bW X e) := ⟨fun w pins s _ _ _ I h => h w pins s I⟩
theorem bestA : PA X es (bA X es) := ⟨fun pos pins s _ _ _ I h => h pos pins s I⟩
theorem bestSs : PSs X sts (bSs X sts) := ⟨fun pins s _ _ _ I h => h pins s I⟩
theorem bE_of {t : TE} {Q : VK} (p : PE X e t) (h : t σ H Q) : bE X e σ H Q := fun pins s I => p.run pins s σ H Q I h
theorem bE_inv {Q : VK} (h : σ.length = X.N.length → bE X e σ H Q) : bE X e σ H Q := fun pins s I => h I.len pins s I
theorem bT_of {t : TT} {Q : Bool → Hp → Prop} (p : PT X e t) (h : t σ H Q) : bT X e σ H Q := fun pins s I => p.run pins s σ H Q I h
theorem bW_of {t : TT} {Q : Bool → Hp → Prop} (p : PW X e t) (h : t σ H Q) : bW X e σ H Q := fun w pins s I => p.run w pins s σ H Q I h
theorem bA_of {t : TA} {Q : List V → Hp → Prop} (p : PA X es t) (h : t σ H Q) : bA X es σ H Q := fun pos pins s I => p.run pos pins s σ H Q I h
theorem bSs_of {t : TS} {D : Ends} (p : PSs X sts t) (h : t D σ H) : bSs X sts D σ H := fun pins s I => p.run pins s σ H D I h
end

/-! ### the judgements over frames of data -/
/-- e, from fs, comes to r; fs' stands behind it -/
structure AE (X : Cx) (e : Expr) (fs fs' : Fm) (r : Res) : Prop where
  ow : ownL fs' = ownL fs
  run : ∀ (T : Addr → Bool) (σ : L2.St) (H : Hp) (Q : VK), ER X.K T σ H fs → (∀ v H', Kp H H' (ownL fs) → Po X.K T σ H H' fs' v r → Q v H') → bE X e σ H Q
structure AT (X : Cx) (e : Expr) (fs fs' : Fm) (b : Bool) : Prop where
  ow : ownL fs' = ownL fs
  run : ∀ (T : Addr → Bool) (σ : L2.St) (H : Hp) (Q : Bool → Hp → Prop), ER X.K T σ H fs → (∀ H', Kp H H' (ownL fs) → ER X.K T σ H' fs' → Q b H') → bT X e σ H Q
structure AW (X : Cx) (e : Expr) (fs fs' : Fm) (b : Bool) : Prop where
  ow : ownL fs' = ownL fs
  run : ∀ (T : Addr → Bool) (σ : L2.St) (H : Hp) (Q : Bool → Hp → Prop), ER X.K T σ H fs → (∀ H', Kp H H' (ownL fs) → ER X.K T σ H' fs' → Q b H') → bW X e σ H Q
/-- arguments: data -/
structure AD (X : Cx) (es : List Expr) (fs fs' : Fm) (ds : List PyData) : Prop where
  ow : ownL fs' = ownL fs
  run : ∀ (T : Addr → Bool) (σ : L2.St) (H : Hp) (Q : List V → Hp → Prop), ER X.K T σ H fs → (∀ vs H', Kp H H' (ownL fs) → ER X.K T σ H' fs' → RpAll X.K (cut H' (tt T (ownL fs'))) vs ds → Q vs H') → bA X es σ H Q
/-- arguments: data, and owned objects that are lent -/
inductive ArgR (K : PySem.W.Frag) (S : Hp) (fs : Fm) : List V → List Slot → Prop
  | nil : ArgR K S fs [] []
  | dat {v : V} {d : PyData} {vs : List V} {ss : List Slot} : Rp K S v d → ArgR K S fs vs ss → ArgR K S fs (v :: vs) (.dat d :: ss)
  | own {a : Addr} {d : PyData} {vs : List V} {ss : List Slot} (i : Nat) : fs[i]? = some (.own a d) → ArgR K S fs vs ss → ArgR K S fs (.ref a :: vs) (.own a d :: ss)
structure AA (X : Cx) (es : List Expr) (fs fs' : Fm) (ss : List Slot) : Prop where
  ow : ownL fs' = ownL fs
  run : ∀ (T : Addr → Bool) (σ : L2.St) (H : Hp) (Q : List V → Hp → Prop), ER X.K T σ H fs → (∀ vs H', Kp H H' (ownL fs) → ER X.K T σ H' fs' → ArgR X.K (cut H' (tt T (ownL fs'))) fs' vs ss → Q vs H') → bA X es σ H Q

section
variable {X : Cx} {a b c : Expr} {es : List Expr} {fs f1 f2 f3 : Fm} {d d1 d2 d3 : PyData} {r r1 r2 : Res} {pos : Pos} {T : Addr → Bool} {σ : L2.St} {H : Hp}
theorem AE.val (h : AE X a fs f1 (.new d)) : AE X a fs f1 (.val d) := ⟨h.ow, fun T σ H Q E q => h.run T σ H Q E fun v H' k p => q v H' k p.toVal⟩
theorem AE.is (h : AE X a fs f1 r) (e : r = r1) : AE X a fs f1 r1 := by rw [← e]; exact h
/-- two in a row -/
theorem two (ha : AE X a fs f1 (.val d1)) (hb : AE X b f1 f2 r2) (E : ER X.K T σ H fs) {R : V → V → Hp → Prop}
    (h : ∀ x y H1 H2, Kp H H2 (ownL fs) → Kp H H1 (ownL fs) → Rp X.K (cut H2 (tt T (ownL f2))) x d1 → Po X.K T σ H1 H2 f2 y r2 → R x y H2) : bE X a σ H (fun x H1 => bE X b σ H1 fun y H2 => R x y H2) :=
  ha.run T σ H _ E fun x H1 k1 p1 => hb.run T σ H1 _ p1.er fun y H2 k2 p2 => h x y H1 H2 (k1.trans (by rw [ha.ow] at k2; exact k2)) k1 (p1.2.mono (k2.up hb.ow)) p2
/-- a rule for two values that gives a scalar -/
theorem ae_rule2 {op : Operator} {rr : R2} (ho : OpR X (binaryOp op) rr) (ha : AE X a fs f1 (.val d1)) (hb : AE X b f1 f2 (.val d2))
    (h : ∀ (S H2 : Hp) (x y : V) (Q : VK), Same S H2 → Rp X.K S x d1 → Rp X.K S y d2 → (∀ v, (∀ S, Rp X.K S v d3) → Q v H2) → rr x y H2 Q) : AE X (.BinOp a op b pos) fs f2 (.val d3) := by
  refine ⟨hb.ow.trans ha.ow, fun T σ H Q E q => bE_of (pe_op ho best best) (two ha hb E fun x y H1 H2 k k1 rx p => ?_)⟩
  exact h _ H2 x y Q (cut_all _ _) rx p.2 fun v rv => q v H2 k ⟨p.1, rv _⟩
theorem ae_int2 {op : Operator} {C : Int → Int → Prop} {g : Int → Int → Int} {i j : Int} (ho : OpR X (binaryOp op) (rI C fun i j => .int (g i j))) (ha : AE X a fs f1 (.val (.int i))) (hb : AE X b f1 f2 (.val (.int j))) (hc : C i j) :
    AE X (.BinOp a op b pos) fs f2 (.val (.int (g i j))) :=
  ae_rule2 ho ha hb fun S H2 x y Q _ rx ry q => ⟨i, j, rx.int_inv, ry.int_inv, hc, q _ fun _ => .int _⟩
theorem ae_int20 {op : Operator} {g : Int → Int → Int} {i j : Int} (ho : OpR X (binaryOp op) (rI0 fun i j => .int (g i j))) (ha : AE X a fs f1 (.val (.int i))) (hb : AE X b f1 f2 (.val (.int j))) :
    AE X (.BinOp a op b pos) fs f2 (.val (.int (g i j))) :=
  ae_rule2 ho ha hb fun S H2 x y Q _ rx ry q => ⟨i, j, rx.int_inv, ry.int_inv, q _ fun _ => .int _⟩
variable {i j : Int}
theorem ae_add (ha : AE X a fs f1 (.val (.int i))) (hb : AE X b f1 f2 (.val (.int j))) : AE X (.BinOp a .Add b pos) fs f2 (.val (.int (i + j))) := ae_int20 op_add ha hb
theorem ae_sub (ha : AE X a fs f1 (.val (.int i))) (hb : AE X b f1 f2 (.val (.int j))) : AE X (.BinOp a .Sub b pos) fs f2 (.val (.int (i - j))) := ae_int20 op_sub ha hb
theorem ae_mul (ha : AE X a fs f1 (.val (.int i))) (hb : AE X b f1 f2 (.val (.int j))) (h : MulOk i j) : AE X (.BinOp a .Mult b pos) fs f2 (.val (.int (i * j))) := ae_int2 op_mulK ha hb h
theorem ae_div (ha : AE X a fs f1 (.val (.int i))) (hb : AE X b f1 f2 (.val (.int j))) (h : CDivW i j) : AE X (.BinOp a .FloorDiv b pos) fs f2 (.val (.int (i / j))) := ae_int2 op_fdivW ha hb h
theorem ae_fdiv (ha : AE X a fs f1 (.val (.int i))) (hb : AE X b f1 f2 (.val (.int j))) (h : CDivG i j) : AE X (.BinOp a .FloorDiv b pos) fs f2 (.val (.int (i.fdiv j))) := ae_int2 op_fdivG ha hb h
theorem ae_mod (ha : AE X a fs f1 (.val (.int i))) (hb : AE X b f1 f2 (.val (.int j))) (h : 0 < j) : AE X (.BinOp a .Mod b pos) fs f2 (.val (.int (i % j))) := ae_int2 op_mod ha hb h
theorem ae_pow (ha : AE X a fs f1 (.val (.int i))) (hb : AE X b f1 f2 (.val (.int j))) (h : CPow i j) : AE X (.BinOp a .Pow b pos) fs f2 (.val (.int (i ^ j.toNat))) := ae_int2 op_pow ha hb h

/-! names, constants -/
theorem ae_dat (n : Nat) {x : Str} (hN : X.N[n]? = some x := by rfl) (hv : Vis X.env.scope x := by first | exact Or.inl rfl | exact Or.inr (Or.inl rfl) | exact Or.inr (Or.inr rfl)) (hs : fs[n]? = some (.dat d) := by rfl)
    (hd : (x == ("__debug__" : Str)) = false := by decide) (hcd : (x == ("__classdict__" : Str)) = false := by decide) : AE X (.Name x pos) fs fs (.val d) := by
  refine ⟨rfl, fun T σ H Q E q => bE_inv fun L => bE_of (pe_var hN hv hd hcd) ?_⟩
  obtain ⟨v, e, r⟩ := E.dat hs
  exact ⟨v, e (by rw [L]; exact (List.getElem?_eq_some_iff.mp hN).1), q v H (Kp.refl _ _) ⟨E, r⟩⟩
theorem ae_own (n : Nat) {x : Str} {l : Addr} (hN : X.N[n]? = some x := by rfl) (hv : Vis X.env.scope x := by first | exact Or.inl rfl | exact Or.inr (Or.inl rfl) | exact Or.inr (Or.inr rfl)) (hs : fs[n]? = some (.own l d) := by rfl)
    (hd : (x == ("__debug__" : Str)) = false := by decide) (hcd : (x == ("__classdict__" : Str)) = false := by decide) : AE X (.Name x pos) fs fs (.at l d) := by
  refine ⟨rfl, fun T σ H Q E q => bE_inv fun L => bE_of (pe_var hN hv hd hcd) ?_⟩
  exact ⟨.ref l, (E.own hs).1 (by rw [L]; exact (List.getElem?_eq_some_iff.mp hN).1), q _ H (Kp.refl _ _) ⟨E, rfl, n, hs⟩⟩
theorem ae_const {v : V} (p : PE X a (tC v)) (r : ∀ S, Rp X.K S v d) : AE X a fs fs (.val d) :=
  ⟨rfl, fun T σ H Q E q => bE_of p (q v H (Kp.refl _ _) ⟨E, r _⟩)⟩
theorem ae_int {k} : AE X (.Constant (.int i) k pos) fs fs (.val (.int i)) := ae_const pe_int fun _ => .int i
theorem ae_bl {k} {b : Bool} : AE X (.Constant (.bool b) k pos) fs fs (.val (.bool b)) := ae_const pe_bl fun _ => .bl b
theorem ae_non {k} : AE X (.Constant .none k pos) fs fs (.val .none) := ae_const pe_non fun _ => .non
theorem ae_str {k} {x : Str} : AE X (.Constant (.str x) k pos) fs fs (.val (.str x)) := ae_const pe_str fun _ => .str x
theorem ae_neg (ha : AE X a fs f1 (.val (.int i))) : AE X (.UnaryOp .USub a pos) fs f1 (.val (.int (-i))) :=
  ⟨ha.ow, fun T σ H Q E q => bE_of (pe_un un_neg best) (ha.run T σ H _ E fun v H1 k p => ⟨i, p.2.int_inv, q _ H1 k ⟨p.1, .int _⟩⟩)⟩

/-! comparisons -/
theorem ae_cmp {op : CmpOp} {rr : R2} {bb : Bool} (ho : OpR X (compareOp op) rr) (ha : AE X a fs f1 (.val d1)) (hb : AE X b f1 f2 r2) (hm : behindInMarks op b = false)
    (h : ∀ (T : Addr → Bool) (σ : L2.St) (H1 H2 : Hp) (x y : V) (Q : VK), Rp X.K (cut H2 (tt T (ownL f2))) x d1 → Po X.K T σ H1 H2 f2 y r2 → Q (.bl bb) H2 → rr x y H2 Q) : AE X (.Compare a [op] [b] pos) fs f2 (.val (.bool bb)) := by
  refine ⟨hb.ow.trans ha.ow, fun T σ H Q E q => bE_of (pe_cmpR ho best best hm) (two ha hb E fun x y H1 H2 k k1 rx p => ?_)⟩
  exact h T σ H1 H2 x y Q rx p (q _ H2 k ⟨p.er, .bl _⟩)
theorem at_cmp {op : CmpOp} {rr : R2} {bb : Bool} (ho : OpR X (compareOp op) rr) (ha : AE X a fs f1 (.val d1)) (hb : AE X b f1 f2 r2) (hm : behindInMarks op b = false)
    (h : ∀ (T : Addr → Bool) (σ : L2.St) (H1 H2 : Hp) (x y : V) (Q : VK), Rp X.K (cut H2 (tt T (ownL f2))) x d1 → Po X.K T σ H1 H2 f2 y r2 → Q (.bl bb) H2 → rr x y H2 Q) : AT X (.Compare a [op] [b] pos) fs f2 bb := by
  refine ⟨hb.ow.trans ha.ow, fun T σ H Q E q => bT_of (pt_cmpR ho best best hm) (two ha hb E fun x y H1 H2 k k1 rx p => ?_)⟩
  exact h T σ H1 H2 x y _ rx p ⟨bb, rfl, q H2 k p.er⟩
/-- what a comparison asks of two values, and its answer -/
structure CmpA (X : Cx) (op : CmpOp) (b : Expr) (f2 : Fm) (d1 : PyData) (r2 : Res) (bb : Bool) : Prop where
  mk' : ∃ rr : R2, OpR X (compareOp op) rr ∧ behindInMarks op b = false ∧ ∀ (T : Addr → Bool) (σ : L2.St) (H1 H2 : Hp) (x y : V) (Q : VK), Rp X.K (cut H2 (tt T (ownL f2))) x d1 → Po X.K T σ H1 H2 f2 y r2 → Q (.bl bb) H2 → rr x y H2 Q
theorem ae_cmpA {op : CmpOp} {bb : Bool} (ha : AE X a fs f1 (.val d1)) (hb : AE X b f1 f2 r2) (hc : CmpA X op b f2 d1 r2 bb) : AE X (.Compare a [op] [b] pos) fs f2 (.val (.bool bb)) := by
  obtain ⟨rr, h1, h2, h3⟩ := hc
  exact ae_cmp h1 ha hb h2 h3
theorem at_cmpA {op : CmpOp} {bb : Bool} (ha : AE X a fs f1 (.val d1)) (hb : AE X b f1 f2 r2) (hc : CmpA X op b f2 d1 r2 bb) : AT X (.Compare a [op] [b] pos) fs f2 bb := by
  obtain ⟨rr, h1, h2, h3⟩ := hc
  exact at_cmp h1 ha hb h2 h3
theorem cmp_I {op : CmpOp} {g : Int → Int → Bool} (ho : OpR X (compareOp op) (rI0 fun i j => .bl (g i j))) (h1 : op ≠ .In := by decide) (h2 : op ≠ .NotIn := by decide) : CmpA X op b f2 (.int i) (.val (.int j)) (g i j) :=
  ⟨_, ho, nomark _ h1 h2, fun T σ H1 H2 x y Q rx p q => ⟨i, j, rx.int_inv, p.2.int_inv, q⟩⟩
theorem c_lt : CmpA X .Lt b f2 (.int i) (.val (.int j)) (decide (i < j)) := cmp_I op_lt
theorem c_le : CmpA X .LtE b f2 (.int i) (.val (.int j)) (decide (i ≤ j)) := cmp_I op_le
theorem c_gt : CmpA X .Gt b f2 (.int i) (.val (.int j)) (decide (j < i)) := cmp_I op_gt
theorem c_ge : CmpA X .GtE b f2 (.int i) (.val (.int j)) (decide (j ≤ i)) := cmp_I op_ge
theorem c_eqI : CmpA X .Eq b f2 (.int i) (.val (.int j)) (decide (i = j)) :=
  ⟨_, op_eq, nomark _, fun T σ H1 H2 x y Q rx p q => by rw [rx.int_inv, p.2.int_inv]; exact ⟨rfl, by simpa using q⟩⟩
theorem c_neI : CmpA X .NotEq b f2 (.int i) (.val (.int j)) (!decide (i = j)) :=
  ⟨_, op_ne, nomark _, fun T σ H1 H2 x y Q rx p q => by rw [rx.int_inv, p.2.int_inv]; exact ⟨rfl, by simpa using q⟩⟩
theorem c_eqS {x y : Str} : CmpA X .Eq b f2 (.str x) (.val (.str y)) (decide (x = y)) :=
  ⟨_, op_eq, nomark _, fun T σ H1 H2 v w Q rx p q => by rw [rx.str_inv, p.2.str_inv]; exact ⟨rfl, by simpa using q⟩⟩
/-! tests -/
theorem at_val {bb : Bool} (h : AE X a fs f1 (.val (.bool bb))) (he : ∀ whole, isTrue a X.env whole = (do let v ← whole; standAt a.pos; holding [v] (truthy v)) := by intro _; rfl) : AT X a fs f1 bb := by
  refine ⟨h.ow, fun T σ H Q E q => bT_of (pt_val best he) (h.run T σ H _ E fun v H1 k p => ⟨bb, p.2.bl_inv, q H1 k p.1⟩)⟩
theorem at_not {bb : Bool} (h : AT X a fs f1 bb) : AT X (.UnaryOp .Not a pos) fs f1 (!bb) :=
  ⟨h.ow, fun T σ H Q E q => bT_of (pt_not bestT) (h.run T σ H _ E fun H1 k p => q H1 k p)⟩
theorem AW.at {bb : Bool} (h : AW X a fs f1 bb) : AT X a fs f1 bb := ⟨h.ow, fun T σ H Q E q => bT_of bestW.pt (h.run T σ H _ E q)⟩
theorem aw_and1 {bb : Bool} (h : AT X a fs f1 bb) : AW X (.BoolOp .And [a] pos) fs f1 bb := ⟨h.ow, fun T σ H Q E q => bW_of (pw_and1 bestT) (h.run T σ H _ E q)⟩
theorem aw_or1 {bb : Bool} (h : AT X a fs f1 bb) : AW X (.BoolOp .Or [a] pos) fs f1 bb := ⟨h.ow, fun T σ H Q E q => bW_of (pw_or1 bestT) (h.run T σ H _ E q)⟩
/-- a and rest: the rest is asked where a holds; what it leaves stands as f2 either way -/
theorem aw_and {rest : List Expr} {x y : Bool} (ha : AT X a fs f1 x) (hb : x = true → AW X (.BoolOp .And (b :: rest) pos) f1 f2 y) (hf : x = false → f1 = f2) : AW X (.BoolOp .And (a :: b :: rest) pos) fs f2 (x && y) := by
  cases x with
  | true =>
    have hb := hb rfl
    exact ⟨hb.ow.trans ha.ow, fun T σ H Q E q => bW_of (pw_and bestT bestW) (ha.run T σ H _ E fun H1 k p => by
      show bW X _ σ H1 Q
      exact hb.run T σ H1 Q p fun H2 k2 p2 => q H2 (k.trans (by rw [ha.ow] at k2; exact k2)) p2)⟩
  | false =>
    have e := hf rfl
    subst e
    exact ⟨ha.ow, fun T σ H Q E q => bW_of (pw_and bestT bestW) (ha.run T σ H _ E fun H1 k p => q H1 k p)⟩
theorem aw_or {rest : List Expr} {x y : Bool} (ha : AT X a fs f1 x) (hb : x = false → AW X (.BoolOp .Or (b :: rest) pos) f1 f2 y) (hf : x = true → f1 = f2) : AW X (.BoolOp .Or (a :: b :: rest) pos) fs f2 (x || y) := by
  cases x with
  | false =>
    have hb := hb rfl
    exact ⟨hb.ow.trans ha.ow, fun T σ H Q E q => bW_of (pw_or bestT bestW) (ha.run T σ H _ E fun H1 k p => by
      show bW X _ σ H1 Q
      exact hb.run T σ H1 Q p fun H2 k2 p2 => q H2 (k.trans (by rw [ha.ow] at k2; exact k2)) p2)⟩
  | true =>
    have e := hf rfl
    subst e
    exact ⟨ha.ow, fun T σ H Q E q => bW_of (pw_or bestT bestW) (ha.run T σ H _ E fun H1 k p => q H1 k p)⟩
/-! the same as values (of bools) -/
theorem ae_one {op} (h : AE X a fs f1 r) : AE X (.BoolOp op [a] pos) fs f1 r := ⟨h.ow, fun T σ H Q E q => bE_of (pe_one best) (h.run T σ H Q E q)⟩
theorem ae_and {rest : List Expr} {x y : Bool} (ha : AE X a fs f1 (.val (.bool x))) (hb : x = true → AE X (.BoolOp .And (b :: rest) pos) f1 f2 (.val (.bool y))) (hf : x = false → f1 = f2) : AE X (.BoolOp .And (a :: b :: rest) pos) fs f2 (.val (.bool (x && y))) := by
  cases x with
  | true =>
    have hb := hb rfl
    exact ⟨hb.ow.trans ha.ow, fun T σ H Q E q => bE_of (pe_and best best) (ha.run T σ H _ E fun v H1 k p => ⟨true, p.2.bl_inv, by
      show bE X _ σ H1 Q
      exact hb.run T σ H1 Q p.1 fun v2 H2 k2 p2 => q v2 H2 (k.trans (by rw [ha.ow] at k2; exact k2)) p2⟩)⟩
  | false =>
    have e := hf rfl
    subst e
    exact ⟨ha.ow, fun T σ H Q E q => bE_of (pe_and best best) (ha.run T σ H _ E fun v H1 k p => ⟨false, p.2.bl_inv, q _ H1 k ⟨p.1, .bl false⟩⟩)⟩
theorem ae_not {x : Bool} (h : AE X a fs f1 (.val (.bool x))) : AE X (.UnaryOp .Not a pos) fs f1 (.val (.bool (!x))) :=
  ⟨h.ow, fun T σ H Q E q => bE_of (pe_not best) (h.run T σ H _ E fun v H1 k p => ⟨x, p.2.bl_inv, q _ H1 k ⟨p.1, .bl _⟩⟩)⟩
/-- new behind a step is new ahead of it -/
theorem Po.back {K : PySem.W.Frag} {H1 H2 : Hp} {l : List Addr} {g : Fm} {v : V} (p : Po K T σ H1 H2 g v r) (k : Kp H H1 l) (E : ER K T σ H1 f1) (e : ownL f1 = l) : Po K T σ H H2 g v r := by
  have nn : ∀ a, H1 a = none → H a = none := fun a n => by
    cases hh : H a with
    | none => rfl
    | some o =>
      exfalso
      by_cases hl : a ∈ l
      · rw [← e] at hl
        obtain ⟨o2, h2⟩ := E.thereL hl
        rw [n] at h2; cases h2
      · rw [k a o hl hh] at n; cases n
  cases r with
  | val d => exact p
  | «at» a d => exact p
  | new d =>
    obtain ⟨a, e1, n, z⟩ := p
    exact ⟨a, e1, nn a n, z⟩
  | two d e =>
    obtain ⟨a, g, v1, e1, n1, n2, z⟩ := p
    exact ⟨a, g, v1, e1, nn a n1, nn g n2, z⟩
  | tw d e =>
    obtain ⟨a, g, h, e1, n1, n2, n3, z⟩ := p
    exact ⟨a, g, h, e1, nn a n1, nn g n2, nn h n3, z⟩
end
end A3
namespace A3
open PySem PySem.Spec PyProof.Rows L2

section
variable {X : Cx} {a b c : Expr} {es : List Expr} {fs f1 f2 f3 : Fm} {d d1 d2 d3 : PyData} {ds : List PyData} {r r1 r2 : Res} {pos : Pos} {T : Addr → Bool} {σ : L2.St} {H : Hp} {i j : Int}
theorem none_back {K : PySem.W.Frag} {H1 : Hp} {p : Addr} (E : ER K T σ H1 f1) (k : Kp H H1 (ownL fs)) (e : ownL f1 = ownL fs) (n : H1 p = none) : H p = none := by
  cases hh : H p with
  | none => rfl
  | some o =>
    exfalso
    by_cases hl : p ∈ ownL fs
    · rw [← e] at hl
      obtain ⟨o2, h2⟩ := E.thereL hl
      rw [n] at h2; cases h2
    · rw [k p o hl hh] at n; cases n
theorem same_upd {p : Addr} {o : HO} (n : H p = none) : Same H (upd H p o) := fun b u e => by
  rw [upd_ne (ne_of_none e n)]; exact e
/-- a new tuple -/
theorem po_tup {K : PySem.W.Frag} {H1 : Hp} {p : Addr} {vs : List V} (E : ER K T σ H1 f1) (n : H1 p = none) (q : RpAll K (cut H1 (tt T (ownL f1))) vs ds) : Po K T σ H (upd H1 p (.tup vs)) f1 (.ref p) (.val (.tuple ds)) := by
  have sm : Same H1 (upd H1 p (.tup vs)) := same_upd n
  refine ⟨E.keep sm, .tup (.inl (.inl (cut_of (E.free n) upd_same))) (q.mono (cut_same fun b o e z => ⟨e, sm b o z⟩))⟩
/-- a new list -/
theorem po_lst {K : PySem.W.Frag} {H1 : Hp} {p : Addr} {vs : List V} (E : ER K T σ H1 f1) (k : Kp H H1 (ownL fs)) (e : ownL f1 = ownL fs) (n : H1 p = none) (q : RpAll K (cut H1 (tt T (ownL f1))) vs ds) : Po K T σ H (upd H1 p (.lst vs)) f1 (.ref p) (.new (.list ds)) := by
  have sm : Same H1 (hide (upd H1 p (.lst vs)) p) := same_hide (same_upd n) n
  exact ⟨p, rfl, none_back E k e n, E.keep sm, vs, upd_same, q.mono (cut_same fun b o e z => ⟨e, sm b o z⟩)⟩

/-! arguments -/
theorem ad_nil : AD X [] fs fs [] := ⟨rfl, fun T σ H Q E q => bA_of pa_nil (q [] H (Kp.refl _ _) E .nil)⟩
theorem ad_cons (ha : AE X a fs f1 (.val d)) (hr : AD X es f1 f2 ds) (hs : starEach (a :: es) X.env = (false, eval a X.env) :: starEach es X.env := by rfl) : AD X (a :: es) fs f2 (d :: ds) := by
  refine ⟨hr.ow.trans ha.ow, fun T σ H Q E q => bA_of (pa_cons best bestA hs) (ha.run T σ H _ E fun v H1 k p => hr.run T σ H1 _ p.1 fun vs H2 k2 E2 p2 => ?_)⟩
  have k2' : Kp H1 H2 (ownL fs) := by rw [ha.ow] at k2; exact k2
  exact q (v :: vs) H2 (k.trans k2') E2 (.cons (p.2.mono (k2.up hr.ow)) p2)
/-! displays -/
theorem ae_tup {k} (h : AD X es fs f1 ds) (hl : ds.length ≤ 1000 := by exact Nat.le_of_ble_eq_true rfl) : AE X (.Tuple es k pos) fs f1 (.val (.tuple ds)) := by
  refine ⟨h.ow, fun T σ H Q E q => bE_of (pe_tup bestA) (h.run T σ H _ E fun vs H1 k1 E1 p1 => ?_)⟩
  refine ⟨by rw [p1.length]; exact Nat.le_of_lt (small1000 hl), fun p n => q _ _ (k1.trans (Kp.of (same_upd n))) (po_tup E1 n p1)⟩
theorem ae_lst (h : AD X es fs f1 ds) (hl : ds.length ≤ 1000 := by exact Nat.le_of_ble_eq_true rfl) : AE X (.List es pos) fs f1 (.new (.list ds)) := by
  refine ⟨h.ow, fun T σ H Q E q => bE_of (pe_lst bestA) (h.run T σ H _ E fun vs H1 k1 E1 p1 => ?_)⟩
  refine ⟨by rw [p1.length]; exact Nat.le_of_lt (small1000 hl), fun p n => q _ _ (k1.trans (Kp.of (same_upd n))) (po_lst E1 k1 h.ow n p1)⟩

/-! items -/
theorem RpAll.at {K : PySem.W.Frag} {S : Hp} {vs : List V} (q : RpAll K S vs ds) (h : atI ds i = some d) : ∃ v, atI vs i = some v ∧ Rp K S v d := by
  unfold atI at h ⊢
  rw [q.length]
  cases e : ixN ds.length i with
  | none => rw [e] at h; cases h
  | some n =>
    rw [e] at h
    exact q.get (i := n) h
theorem ae_ixL (ha : AE X a fs f1 (.val (.list ds))) (hb : AE X b f1 f2 (.val (.int i))) (h : atI ds i = some d) (hs : PlainIx b := by intro _ _; rfl) : AE X (.Subscript a b pos) fs f2 (.val d) := by
  refine ⟨hb.ow.trans ha.ow, fun T σ H Q E q => bE_of (pe_ix ix_list best best hs) (two ha hb E fun x y H1 H2 k k1 rx p => ?_)⟩
  obtain ⟨l, vs, rfl, s, qv⟩ := rx.lst_inv
  obtain ⟨v, hv, rv⟩ := qv.at h
  exact ⟨l, vs, i, v, rfl, p.2.int_inv, sqL_same (cut_all _ _) s, hv, q v H2 k ⟨p.1, rv⟩⟩
theorem ae_ixT (ha : AE X a fs f1 (.val (.tuple ds))) (hb : AE X b f1 f2 (.val (.int i))) (h : atI ds i = some d) (hs : PlainIx b := by intro _ _; rfl) : AE X (.Subscript a b pos) fs f2 (.val d) := by
  refine ⟨hb.ow.trans ha.ow, fun T σ H Q E q => bE_of (pe_ix ix_tup best best hs) (two ha hb E fun x y H1 H2 k k1 rx p => ?_)⟩
  obtain ⟨l, vs, rfl, s, qv⟩ := rx.tup_inv
  obtain ⟨v, hv, rv⟩ := qv.at h
  exact ⟨l, vs, i, v, rfl, p.2.int_inv, sqT_same (cut_all _ _) s, hv, q v H2 k ⟨p.1, rv⟩⟩
theorem ae_ixS {z : Str} {ch : Nat} (ha : AE X a fs f1 (.val (.str z))) (hb : AE X b f1 f2 (.val (.int i))) (hz : z.length ≤ 1000) (h : atI z.cps.toList i = some ch) (hs : PlainIx b := by intro _ _; rfl) : AE X (.Subscript a b pos) fs f2 (.val (.str ⟨#[ch]⟩)) := by
  refine ⟨hb.ow.trans ha.ow, fun T σ H Q E q => bE_of (pe_ix ix_str best best hs) (two ha hb E fun x y H1 H2 k k1 rx p => ?_)⟩
  exact ⟨z, i, ch, rx.str_inv, p.2.int_inv, Nat.le_of_lt (small1000 hz), h, q _ H2 k ⟨p.1, .str _⟩⟩

/-! built-ins -/
theorem ae_callB {x : Str} {id : String} {rr : List V → Hp → VK → Prop} {p : Pos} (hc : CallR X (.builtin id) rr) (ha : AD X (a :: es) fs f1 ds)
    (h : ∀ (S H2 : Hp) (vs : List V) (Q : VK), Same S H2 → RpAll X.K S vs ds → (∀ v, (∀ S, Rp X.K S v d) → Q v H2) → rr vs H2 Q) (hg : Gl X x) (hm : X.mg x = none) (hv : bootBuiltins x = some (.builtin id))
    (hn : x ≠ "__name__" := by decide) (hdb : (x == ("__debug__" : Str)) = false := by decide) (he : starEach (a :: es) X.env = (false, eval a X.env) :: starEach es X.env := by rfl) (hpl : (backTo pos (starEach es X.env)).any (·.1) = false := by rfl) :
    AE X (.Call (.Name x p) (a :: es) [] pos) fs f1 (.val d) := by
  refine ⟨ha.ow, fun T σ H Q E q => bE_of (pe_callB hc hg hm hv bestA hn hdb he hpl) (ha.run T σ H _ E fun vs H1 k1 E1 p1 => ?_)⟩
  exact h _ H1 vs Q (cut_all _ _) p1 fun v rv => q v H1 k1 ⟨E1, rv _⟩
theorem RpAll.one_inv {K : PySem.W.Frag} {S : Hp} {vs : List V} (q : RpAll K S vs [d]) : ∃ v, vs = [v] ∧ Rp K S v d := by
  cases q with
  | cons a b => cases b; exact ⟨_, rfl, a⟩
theorem RpAll.two_inv {K : PySem.W.Frag} {S : Hp} {vs : List V} (q : RpAll K S vs [d1, d2]) : ∃ v w, vs = [v, w] ∧ Rp K S v d1 ∧ Rp K S w d2 := by
  cases q with
  | cons a b =>
    cases b with
    | cons b c => cases c; exact ⟨_, _, rfl, a, b⟩
theorem ae_abs {p : Pos} (ha : AE X a fs f1 (.val (.int i))) (hg : Gl X "abs") (hm : X.mg "abs" = none) (he : starEach [a] X.env = (false, eval a X.env) :: starEach [] X.env := by rfl) : AE X (.Call (.Name "abs" p) [a] [] pos) fs f1 (.val (.int (if i < 0 then -i else i))) :=
  ae_callB call_abs (ad_cons ha ad_nil he) (fun S H2 vs Q _ pv q => by
    obtain ⟨v, rfl, rv⟩ := pv.one_inv
    exact ⟨i, by rw [rv.int_inv], q _ fun _ => .int _⟩) hg hm (by decide +kernel) (he := he)
theorem ae_max2 {p : Pos} (hca : X.calm = true) (ha : AE X a fs f1 (.val (.int i))) (hb : AE X b f1 f2 (.val (.int j))) (hg : Gl X "max") (hm : X.mg "max" = none) (he : starEach [a, b] X.env = (false, eval a X.env) :: starEach [b] X.env := by rfl) (he2 : starEach [b] X.env = (false, eval b X.env) :: starEach [] X.env := by rfl) (hpl : (backTo pos (starEach [b] X.env)).any (·.1) = false := by rfl) :
    AE X (.Call (.Name "max" p) [a, b] [] pos) fs f2 (.val (.int (if j > i then j else i))) :=
  ae_callB (call_max2 hca) (ad_cons ha (ad_cons hb ad_nil he2) he) (fun S H2 vs Q _ pv q => by
    obtain ⟨v, w, rfl, rv, rw'⟩ := pv.two_inv
    exact ⟨i, j, by rw [rv.int_inv, rw'.int_inv], q _ fun _ => .int _⟩) hg hm (by decide +kernel) (he := he) (hpl := hpl)
theorem ae_min2 {p : Pos} (hca : X.calm = true) (ha : AE X a fs f1 (.val (.int i))) (hb : AE X b f1 f2 (.val (.int j))) (hg : Gl X "min") (hm : X.mg "min" = none) (he : starEach [a, b] X.env = (false, eval a X.env) :: starEach [b] X.env := by rfl) (he2 : starEach [b] X.env = (false, eval b X.env) :: starEach [] X.env := by rfl) (hpl : (backTo pos (starEach [b] X.env)).any (·.1) = false := by rfl) :
    AE X (.Call (.Name "min" p) [a, b] [] pos) fs f2 (.val (.int (if j < i then j else i))) :=
  ae_callB (call_min2 hca) (ad_cons ha (ad_cons hb ad_nil he2) he) (fun S H2 vs Q _ pv q => by
    obtain ⟨v, w, rfl, rv, rw'⟩ := pv.two_inv
    exact ⟨i, j, by rw [rv.int_inv, rw'.int_inv], q _ fun _ => .int _⟩) hg hm (by decide +kernel) (he := he) (hpl := hpl)
/-- len of a list (owned or not), a tuple, a text -/
def lenD : PyData → Option Nat
  | .list ds => some ds.length
  | .tuple ds => some ds.length
  | .str z => some z.length
  | _ => none
theorem ae_len {p : Pos} {n : Nat} (ha : AE X a fs f1 r) (hn : lenD r.d = some n) (hz : (match r.d with | .str z => decide (z.length ≤ 1000000) | _ => true) = true) (hg : Gl X "len") (hm : X.mg "len" = none) (he : starEach [a] X.env = (false, eval a X.env) :: starEach [] X.env := by rfl) :
    AE X (.Call (.Name "len" p) [a] [] pos) fs f1 (.val (.int n)) := by
  refine ⟨ha.ow, fun T σ H Q E q => bE_of (pe_callB call_len hg hm PySem.boot_len (pa_cons best pa_nil he) (he := he)) (ha.run T σ H _ E fun v H1 k1 p1 => ?_)⟩
  have rp := p1.rp
  refine ⟨v, n, rfl, ?_, q _ H1 k1 ⟨p1.er, .int _⟩⟩
  generalize r.d = d at rp hn hz
  cases rp with
  | lst s qv =>
    cases (show some _ = some n from hn)
    exact .inl ⟨_, s, qv.length.symm⟩
  | tup s qv =>
    cases (show some _ = some n from hn)
    exact .inr ⟨_, s, qv.length.symm⟩
  | str z =>
    cases (show some _ = some n from hn)
    exact ⟨Nat.le_trans (of_decide_eq_true hz) (by rw [sizeLine_eq]; decide), rfl⟩
  | _ => cases (show none = some n from hn)
/-! isinstance against a built-in class -/
def tyD : PyData → String
  | .none => "NoneType"
  | .bool _ => "bool"
  | .int _ => "int"
  | .str _ => "str"
  | .list _ => "list"
  | .tuple _ => "tuple"
  | .dict _ => "dict"
/-- a plain tuple -/
def isPtB : PyData → Bool
  | .dict [(.none, .tuple _)] => true
  | _ => false
/-- isinstance answers alike for tuples and dicts -/
def PtOk (d : PyData) (tn : String) : Prop := isPtB d = false ∨ kitB "tuple" tn = kitB "dict" tn
theorem Rp.ty0 {K : PySem.W.Frag} {v : V} (h : Rp K H v d) : TyX K H v (.type (tyD d)) ∨ (isPtB d = true ∧ tyD d = "dict" ∧ TyX K H v (.type "tuple")) := by
  cases h with
  | ptp s _ _ => exact .inr ⟨rfl, rfl, .fTuple s⟩
  | non => exact .inl <| .base .non
  | bl b => exact .inl <| .base (.bl b)
  | int i => exact .inl <| .base (.int i)
  | str x => exact .inl <| .base (.str x)
  | lst s _ =>
    rcases s with (s | ⟨o, s⟩) | ⟨o, _, _, s, c, _⟩
    · exact .inl <| .base (.lst s)
    · exact .inl <| .base (.frz s)
    · exact .inl <| .kList s c
  | tup s _ =>
    rcases s with (s | ⟨o, s⟩) | ⟨o, _, _, s, c, _⟩
    · exact .inl <| .base (.tup s)
    · exact .inl <| .fTuple s
    · exact .inl <| .kTuple s c
  | dct s _ =>
    rcases s with s | ⟨o, s⟩
    · exact .inl <| .base (.dK s)
    · exact .inl <| .fDict s
theorem Rp.ty {K : PySem.W.Frag} {v : V} (h : Rp K H v d) : ∃ s, TyX K H v (.type s) ∧ ∀ tn, PtOk d tn → kitB s tn = kitB (tyD d) tn := by
  rcases h.ty0 with t | ⟨h1, h2, t⟩
  · exact ⟨_, t, fun _ _ => rfl⟩
  · refine ⟨_, t, fun tn o => ?_⟩
    rcases o with o | o
    · rw [h1] at o; cases o
    · rw [h2]; exact o
theorem ae_isi {p px : Pos} {T' : Str} {tn : String} {bb : Bool} (ha : AE X a fs f1 r) (hb : kitB (tyD r.d) tn = some bb) (hg : Gl X "isinstance") (hm : X.mg "isinstance" = none) (hgT : Gl X T') (hmT : X.mg T' = none) (hv : bootBuiltins T' = some (.type tn))
    (hn : T' ≠ "__name__" := by decide) (hdb : (T' == ("__debug__" : Str)) = false := by decide)
    (he : starEach [a, .Name T' px] X.env = (false, eval a X.env) :: starEach [.Name T' px] X.env := by rfl) (he2 : starEach [.Name T' px] X.env = (false, eval (.Name T' px) X.env) :: starEach [] X.env := by rfl) (hpl : (backTo pos (starEach [.Name T' px] X.env)).any (·.1) = false := by rfl) (hpt : PtOk r.d tn := by first | exact .inr rfl | exact .inl rfl | exact .inl (by assumption)) :
    AE X (.Call (.Name "isinstance" p) [a, .Name T' px] [] pos) fs f1 (.val (.bool bb)) := by
  refine ⟨ha.ow, fun T σ H Q E q => bE_of (pe_callB call_isi hg hm (by decide +kernel) (pa_cons best (pa_cons (pe_bltn (v := .ty tn) hgT hmT hv rfl hn hdb) pa_nil he2) he) (he := he) (hpl := hpl)) (ha.run T σ H _ E fun v H1 k1 p1 => ?_)⟩
  obtain ⟨s, ty, e⟩ := p1.rp.ty
  exact ⟨v, .ty tn, _, _, bb, rfl, .ty tn, ty, kit_ty ((e tn hpt).trans hb), q _ H1 k1 ⟨p1.er, .bl _⟩⟩

/-! calls of defs -/
/-- what a def promises: with such arguments it gives this, and the owned ones stand so; or it raises an error of this class -/
abbrev Ct := List Slot → List Slot → Res → Prop
abbrev Cex := List Slot → Addr → Prop
/-- so many arguments stand ahead of the ghosts (the first .no parts them) -/
def nA : List Slot → Nat
  | [] => 0
  | .no :: _ => 0
  | _ :: r => nA r + 1
def Sp3 (K : PySem.W.Frag) (ct : Ct) (cx : Cex) : Sp := fun vs H Q E => ∃ (T : Addr → Bool) (ss : List Slot), ER K T (vs.map some) H ss ∧ nA ss = vs.length ∧
  ((∃ ss' r, ct ss ss' r ∧ ownL ss' = ownL ss ∧ ∀ v H', Kp H H' (ownL ss) → Po K T (vs.map some) H H' ss' v r → Q v H') ∨
   (∃ C, cx ss C ∧ ownL ss = [] ∧ ∀ H', Same H H' → E (.ref C) none H'))
abbrev nox : Cex := fun _ _ => False
theorem ArgR.len {K : PySem.W.Frag} {S : Hp} {vs : List V} {ss : List Slot} (h : ArgR K S fs vs ss) : vs.length = ss.length := by
  induction h with
  | nil => rfl
  | dat _ _ ih => exact congrArg (· + 1) ih
  | own _ _ _ ih => exact congrArg (· + 1) ih
theorem ArgR.mem {K : PySem.W.Frag} {S : Hp} {vs : List V} {ss : List Slot} (h : ArgR K S fs vs ss) {l : Addr} (m : l ∈ ownL ss) : l ∈ ownL fs := by
  induction h with
  | nil => simp [ownL] at m
  | dat _ _ ih => exact ih m
  | own i e _ ih =>
    rcases List.mem_cons.mp m with z | z
    · subst z; exact mem_own e
    · exact ih z
theorem ArgR.nA {K : PySem.W.Frag} {S : Hp} {vs : List V} {ss : List Slot} (h : ArgR K S fs vs ss) : nA ss = vs.length := by
  induction h with
  | nil => rfl
  | dat _ _ ih => exact congrArg (· + 1) ih
  | own _ _ _ ih => exact congrArg (· + 1) ih
theorem ArgR.get {K : PySem.W.Frag} {S : Hp} {vs : List V} {ss : List Slot} (h : ArgR K S fs vs ss) : ∀ (n : Nat) (s : Slot), ss[n]? = some s → ∃ v, vs[n]? = some v ∧ ((∃ d, s = .dat d ∧ Rp K S v d) ∨ ∃ (l : Addr) (d : PyData) (i : Nat), s = .own l d ∧ v = .ref l ∧ fs[i]? = some (.own l d)) := by
  induction h with
  | nil => intro n s e; simp at e
  | dat r _ ih =>
    intro n s e
    cases n with
    | zero => cases Option.some.inj e; exact ⟨_, rfl, .inl ⟨_, rfl, r⟩⟩
    | succ n => exact ih n s e
  | own i r _ ih =>
    intro n s e
    cases n with
    | zero => cases Option.some.inj e; exact ⟨_, rfl, .inr ⟨_, _, i, rfl, rfl, r⟩⟩
    | succ n => exact ih n s e
theorem argR_all {K : PySem.W.Frag} {S : Hp} : ∀ {ws : List V} {ds : List PyData}, RpAll K S ws ds → ArgR K S fs ws (ds.map .dat)
  | _, _, .nil => .nil
  | _, _, .cons a b => .dat a (argR_all b)
theorem ArgR.app {K : PySem.W.Frag} {S : Hp} {vs ws : List V} {ss : List Slot} (h : ArgR K S fs vs ss) (g : RpAll K S ws ds) : ArgR K S fs (vs ++ ws) (ss ++ ds.map .dat) := by
  induction h with
  | nil => exact argR_all g
  | dat r _ ih => exact .dat r ih
  | own i e _ ih => exact .own i e ih
/-- the callee's outer world: what is owned but not lent -/
def lent (T : Addr → Bool) (l m : List Addr) : Addr → Bool := fun b => tt T l b && !decide (b ∈ m)
theorem lent_tt {T : Addr → Bool} {l m : List Addr} (h : ∀ b ∈ m, b ∈ l) : tt (lent T l m) m = tt T l := by
  funext b
  unfold tt lent tt
  by_cases e : b ∈ m
  · simp [e, h b e]
  · simp [e]
theorem er_args {K : PySem.W.Frag} {vs : List V} {ss : List Slot} (E : ER K T σ H fs) (h : ArgR K (cut H (tt T (ownL fs))) fs vs ss) (nd : (ownL ss).Nodup) : ER K (lent T (ownL fs) (ownL ss)) (vs.map some) H ss := by
  have e := lent_tt (T := T) (l := ownL fs) (m := ownL ss) fun b hb => h.mem hb
  refine ⟨by simp [h.len], fun n s hn => ?_, nd, fun a ha => ?_, fun b hb => ?_⟩
  · obtain ⟨v, hv, q⟩ := h.get n s hn
    refine ⟨some v, fun _ => by simp [hv], ?_⟩
    rw [e]
    rcases q with ⟨d, rfl, q⟩ | ⟨l, d, i, rfl, rfl, q⟩
    · exact q
    · exact ⟨rfl, (E.own q).2⟩
  · unfold lent; simp [ha]
  · have hb' : tt T (ownL fs) b = true := by unfold lent at hb; exact (Bool.and_eq_true_iff.mp hb).1
    obtain ⟨o, ho⟩ := E.there hb'
    rw [ho]; exact fun z => by cases z
theorem ownL_app : ∀ {x y : Fm}, ownL (x ++ y) = ownL x ++ ownL y
  | [], _ => rfl
  | .no :: r, y => ownL_app (x := r)
  | .ref _ :: r, y => ownL_app (x := r)
  | .dat _ :: r, y => ownL_app (x := r)
  | .own a _ :: r, y => congrArg (a :: ·) (ownL_app (x := r))
  | .raw a _ :: r, y => congrArg (a :: ·) (ownL_app (x := r))
  | .mix a _ :: r, y => congrArg (a :: ·) (ownL_app (x := r))
  | .isv _ _ :: r, y => ownL_app (x := r)
theorem ownL_dats : ∀ {ds : List PyData}, ownL (ds.map Slot.dat) = []
  | [] => rfl
  | _ :: r => ownL_dats (ds := r)
theorem po_back0 {K : PySem.W.Frag} {s2 : L2.St} {H2 H' : Hp} {ss' : List Slot} {v : V} (E : ER K T σ H2 f1) (p : Po K (lent T (ownL f1) []) s2 H2 H' ss' v r) (o : ownL ss' = []) (k : Kp H2 H' []) (hat : ∀ l d, r ≠ .at l d) : Po K T σ H2 H' f1 v r := by
  have sm : Same H2 H' := fun b o h => k b o (by simp) h
  have e := lent_tt (T := T) (l := ownL f1) (m := []) fun b hb => by simp at hb
  cases r with
  | val d =>
    refine ⟨E.keep sm, ?_⟩
    have q := p.2
    rw [o, e] at q
    exact q
  | new d =>
    obtain ⟨a, e1, n, _, q⟩ := p
    rw [o, e] at q
    exact ⟨a, e1, n, E.keep (same_hide sm n), q⟩
  | «at» l d => exact absurd rfl (hat l d)
  | two d d' =>
    obtain ⟨a, g, v1, e1, n1, n2, ne, ha, _, r1, q⟩ := p
    rw [o, e] at q r1
    exact ⟨a, g, v1, e1, n1, n2, ne, ha, E.keep (same_hide (same_hide sm n2) n1), r1, q⟩
  | tw d d' =>
    obtain ⟨a, g, h, e1, n1, n2, n3, ag, ah, gh, ha, _, r1, q⟩ := p
    rw [o, e] at q r1
    exact ⟨a, g, h, e1, n1, n2, n3, ag, ah, gh, ha, E.keep (same_hide (same_hide (same_hide sm n3) n2) n1), r1, q⟩
def isAt : Res → Bool
  | .at _ _ => true
  | _ => false
theorem isAt_no (h : isAt r = false) : ∀ l d, r ≠ .at l d := fun l d e => by rw [e] at h; cases h
section
variable {CX : CXT} {k : Nat} {f : Addr} {fd : FuncData} {ps : List Str} {ct : Ct} {cx : Cex} {dvs : List V} {dvals : List Value} {W : XK} {x : Str} {p : Pos} {ss ss' : List Slot} {dd : List PyData}
/-- a def as it is called: its place, its promise, its defaults -/
structure Fn (X : Cx) (CX : CXT) (k : Nat) (x : Str) (f : Addr) (fd : FuncData) (ps : List Str) (ct : Ct) (cx : Cex) (dvs : List V) (dd : List PyData) : Prop where
  ok : FnOk X.prog X.w X.K X.mg X.base CX k f fd ps (Sp3 X.K ct cx)
  mg : X.mg x = some (.ref f)
  kp : PySem.W.keepIn X.K (.ref f) = true
  bd : ∃ dvals, Binds X.K fd ps dvals ∧ Vals dvs dvals
  df : ∀ S, RpAll X.K S dvs dd
/-- f(..), nothing is lent -/
theorem ae_call (G : Fn X CX k x f fd ps ct cx dvs dd) (hr : Room k X.A) (hx : Passes CX X W) (ha : AD X (a :: es) fs f1 ds) (hc : ct ((ds ++ dd).map .dat) ss' r) (ho : ownL ss' = [] := by rfl) (hat : isAt r = false := by rfl) (hg : Gl X x := by rfl)
    (hdb : (x == ("__debug__" : Str)) = false := by decide) (he : starEach (a :: es) X.env = (false, eval a X.env) :: starEach es X.env := by rfl) (hpl : (backTo pos (starEach es X.env)).any (·.1) = false := by rfl) :
    AE X (.Call (.Name x p) (a :: es) [] pos) fs f1 r := by
  obtain ⟨dvals, hb, hd⟩ := G.bd
  refine ⟨ha.ow, fun T σ H Q E q => bE_of (pe_call (E := W) G.ok hr hg G.mg G.kp hb hd hx bestA hdb he hpl) (ha.run T σ H _ E fun vs H1 k1 E1 p1 => ?_)⟩
  have g := argR_all (fs := f1) (p1.app (G.df (cut H1 (tt T (ownL f1)))))
  have e0 : ownL ((ds ++ dd).map Slot.dat) = [] := ownL_dats
  have E2 := er_args E1 g (by rw [e0]; exact List.nodup_nil)
  refine ⟨_, _, E2, g.nA, .inl ⟨ss', r, hc, by rw [ho, e0], fun v H' kk pp => ?_⟩⟩
  rw [e0] at kk pp
  exact q v H' (k1.trans (Kp.of fun b o h => kk b o (by simp) h)) ((po_back0 E1 pp ho kk (isAt_no hat)).back k1 E1 ha.ow)
end
end
end A3
namespace A3
open PySem PySem.Spec PyProof.Rows L2

/-- a def's run: what is owned outside, the heap at its entry, what is lent to it, what a loop walks -/
structure Cf where
  T : Addr → Bool
  H0 : Hp
  ws : List Addr
  G : Hp
structure S3 (K : PySem.W.Frag) (c : Cf) (σ : L2.St) (H : Hp) (fs : Fm) : Prop where
  er : ER K c.T σ H fs
  kp : Kp c.H0 H c.ws
  dm : ∀ b, c.H0 b ≠ none → H b ≠ none
  ow : ∀ a ∈ ownL fs, a ∈ c.ws ∨ c.H0 a = none
  wd : ∀ a ∈ c.ws, c.H0 a ≠ none
  gs : Same c.G H
  gd : ∀ a ∈ ownL fs, c.G a = none
/-- what is wanted behind statements -/
structure D3 where
  nx : Fm → Prop
  rt : Fm → Res → Prop
  bk : Fm → Prop := fun _ => False
  ct : Fm → Prop := fun _ => False
  /-- a value told otherwise: an object by its parts, what stands behind it -/
  rm : Fm → V → Prop := fun _ _ => False
structure R3 (K : PySem.W.Frag) (c : Cf) (σ : L2.St) (Hm H : Hp) (fs : Fm) (v : V) (r : Res) : Prop where
  po : Po K c.T σ Hm H fs v r
  kp : Kp c.H0 H c.ws
  dm : ∀ b, c.H0 b ≠ none → Hm b ≠ none
  na : isAt r = false
  gs : Same c.G H
  gd : ∀ a ∈ ownL fs, c.G a = none
def ends (K : PySem.W.Frag) (c : Cf) (D : D3) : Ends where
  nx := fun σ H => ∃ fs, S3 K c σ H fs ∧ D.nx fs
  rt := fun v H => (∃ σ fs r Hm, R3 K c σ Hm H fs v r ∧ D.rt fs r) ∨ ∃ σ fs, S3 K c σ H fs ∧ D.rm fs v
  bk := fun σ H => ∃ fs, S3 K c σ H fs ∧ D.bk fs
  ct := fun σ H => ∃ fs, S3 K c σ H fs ∧ D.ct fs
def AS (X : Cx) (sts : List Stmt) (c : Cf) (fs : Fm) (D : D3) : Prop := ∀ σ H, S3 X.K c σ H fs → bSs X sts (ends X.K c D) σ H

section
variable {X : Cx} {a b e : Expr} {es : List Expr} {sts rest body : List Stmt} {c : Cf} {D : D3} {fs f1 f2 f3 : Fm} {d d1 d2 d3 : PyData} {ds : List PyData} {r r1 r2 : Res} {pos pos' : Pos} {T : Addr → Bool} {σ σ' : L2.St} {H H' : Hp} {i j : Int} {l : Addr} {x : Str} {v : V}
theorem S3.keeps {K : PySem.W.Frag} (S : S3 K c σ H fs) (k : Kp H H' (ownL fs)) : Kp c.H0 H' c.ws := fun b o n h => k b o (fun z => by
  rcases S.ow b z with z | z
  · exact n z
  · rw [z] at h; cases h) (S.kp b o n h)
theorem S3.step {K : PySem.W.Frag} (S : S3 K c σ H fs) (k : Kp H H' (ownL fs)) (E : ER K c.T σ' H' f1) (o : ownL f1 = ownL fs) : S3 K c σ' H' f1 where
  er := E
  kp := S.keeps k
  dm := fun b h => by
    have h2 := S.dm b h
    by_cases m : b ∈ ownL fs
    · rw [← o] at m
      obtain ⟨u, hu⟩ := E.thereL m
      rw [hu]; exact fun z => by cases z
    · cases hh : H b with
      | none => exact absurd hh h2
      | some u => rw [k b u m hh]; exact fun z => by cases z
  ow := fun a h => S.ow a (by rw [← o]; exact h)
  wd := S.wd
  gs := fun b u h => k b u (fun z => by rw [S.gd b z] at h; cases h) (S.gs b u h)
  gd := fun a h => S.gd a (by rw [← o]; exact h)
/-- fewer are owned -/
theorem S3.less {K : PySem.W.Frag} (S : S3 K c σ H fs) (E : ER K c.T σ' H f1) (o : ∀ a ∈ ownL f1, a ∈ ownL fs) : S3 K c σ' H f1 :=
  ⟨E, S.kp, S.dm, fun a h => S.ow a (o a h), S.wd, S.gs, fun a h => S.gd a (o a h)⟩
theorem S3.setDat {K : PySem.W.Frag} {n : Nat} (S : S3 K c σ H fs) (r : Rp K (cut H (tt c.T (ownL fs))) v d) : S3 K c (σ.set n (some v)) H (fs.set n (.dat d)) :=
  S.less (S.er.setDat r) fun a h => by
    rcases ownL_set h with z | z
    · exact z
    · cases z
/-- behind an expression whose value is a new object, which is kept in a slot -/
theorem S3.setNew {K : PySem.W.Frag} {n : Nat} (S : S3 K c σ H fs) (k : Kp H H' (ownL fs)) (o : ownL f1 = ownL fs) (na : H l = none) (E : ER K c.T σ (hide H' l) f1) (w : Ow K (cut (hide H' l) (tt c.T (ownL f1))) H' l d) : S3 K c (σ.set n (some (.ref l))) H' (f1.set n (.own l d)) where
  er := E.setOwn w
  kp := S.keeps k
  dm := (S.step k (E.keep (hide_same H' l)) o).dm
  ow := fun a h => by
    rcases ownL_set h with z | z
    · exact S.ow a (by rw [← o]; exact z)
    · injection z with z1
      subst z1
      refine .inr ?_
      cases hh : c.H0 l with
      | none => rfl
      | some u => exact absurd na (S.dm l (by rw [hh]; exact fun z => by cases z))
  wd := S.wd
  gs := (S.step k (E.keep (hide_same H' l)) o).gs
  gd := fun a h => by
    rcases ownL_set h with z | z
    · exact S.gd a (by rw [← o]; exact z)
    · injection z with z1
      subst z1
      cases hh : c.G l with
      | none => rfl
      | some u => rw [S.gs l u hh] at na; cases na
theorem S3.not_ws {K : PySem.W.Frag} (S : S3 K c σ H fs) (n : H l = none) : l ∉ c.ws := fun z => S.dm l (S.wd l z) n

theorem as_nil (h : D.nx fs) : AS X [] c fs D := fun σ H S => bSs_of pss_nil ⟨fs, S, h⟩
/-- x = e -/
theorem as_set (n : Nat) (he : AE X e fs f1 (.val d)) (hk : AS X rest c (f1.set n (.dat d)) D) (hN : X.N.Nodup) (hi : X.N[n]? = some x := by rfl) (hx : Loc X.env.scope x := by first | exact .inl rfl | exact .inr rfl)
    (hs : swapsWith e (some (.Name x pos')) pos.line X.env = pure false := by rfl) (hf : X.fn x = true ∨ X.env.scope.names.lookup x = some .local := by first | exact .inl rfl | exact .inr rfl) : AS X (.Assign [.Name x pos'] e pos :: rest) c fs D :=
  fun σ H S => bSs_of (pss_cons (ps_set hN hi hx best hs hf) bestSs) (he.run c.T σ H _ S.er fun v H1 k1 p1 => hk _ _ ((S.step k1 p1.1 he.ow).setDat p1.2))
/-- x = e, a new list or dict: it is x's own -/
theorem as_new (n : Nat) (he : AE X e fs f1 (.new d)) (hk : ∀ l, l ∉ c.ws → l ∉ ownL f1 → AS X rest c (f1.set n (.own l d)) D) (hN : X.N.Nodup) (hi : X.N[n]? = some x := by rfl) (hx : Loc X.env.scope x := by first | exact .inl rfl | exact .inr rfl)
    (hs : swapsWith e (some (.Name x pos')) pos.line X.env = pure false := by rfl) (hf : X.fn x = true ∨ X.env.scope.names.lookup x = some .local := by first | exact .inl rfl | exact .inr rfl) : AS X (.Assign [.Name x pos'] e pos :: rest) c fs D :=
  fun σ H S => bSs_of (pss_cons (ps_set hN hi hx best hs hf) bestSs) (he.run c.T σ H _ S.er fun v H1 k1 p1 => by
    obtain ⟨l, rfl, na, E1, w⟩ := p1
    exact hk l (S.not_ws na) (tt_false.mp (E1.free (hide_self H1 l))).2 _ _ (S.setNew k1 he.ow na E1 w))
/-- if -/
theorem as_if {t : Expr} {A B : List Stmt} {bb : Bool} (ht : AT X t fs f1 bb) (h1 : bb = true → AS X A c f1 { D with nx := fun f => AS X rest c f D }) (h2 : bb = false → AS X B c f1 { D with nx := fun f => AS X rest c f D }) : AS X (.If t A B pos :: rest) c fs D := by
  refine fun σ H S => bSs_of (pss_cons (ps_if bestT bestSs bestSs) bestSs) (ht.run c.T σ H _ S.er fun H1 k1 E1 => ?_)
  have S1 := S.step k1 E1 ht.ow
  have fix : ∀ {sts : List Stmt}, AS X sts c f1 { D with nx := fun f => AS X rest c f D } → bSs X sts { ends X.K c D with nx := bSs X rest (ends X.K c D) } σ H1 := fun h pins s I => by
    refine thn (h σ H1 S1 pins s I) fun fl s' q => ?_
    cases fl with
    | next => obtain ⟨σ', H', I', f, S', q⟩ := q; exact ⟨σ', H', I', q σ' H' S'⟩
    | _ => exact q
  cases bb with
  | true => exact fix (h1 rfl)
  | false => exact fix (h2 rfl)
/-- return e -/
theorem as_ret (he : AE X e fs f1 r) (hr : D.rt f1 r) (hat : isAt r = false := by rfl) : AS X (.Return (some e) pos :: rest) c fs D :=
  fun σ H S => bSs_of (pss_cons (ps_ret best) bestSs) (he.run c.T σ H _ S.er fun v H1 k1 p1 => Or.inl ⟨σ, f1, r, H, ⟨p1, S.keeps k1, S.dm, hat, (S.step k1 p1.er he.ow).gs, (S.step k1 p1.er he.ow).gd⟩, hr⟩)
theorem er_dropS {K : PySem.W.Frag} {n : Nat} {s : Slot} (E : ER K T σ H fs) (hn : fs[n]? = some s) (ea : adr s = some l) : ER K T σ (hide H l) (fs.set n .no) ∧ SlR K (cut (hide H l) (tt T (ownL (fs.set n .no)))) H (some (.ref l)) s := by
  have il : l ∈ ownL fs := mem_ownL.mpr ⟨n, s, hn, ea⟩
  have up : Same (cut H (tt T (ownL fs))) (cut (hide H l) (tt T (ownL (fs.set n .no)))) := cut_same fun b o e h => by
    obtain ⟨e1, e2⟩ := tt_false.mp e
    refine ⟨tt_false.mpr ⟨e1, fun z => ?_⟩, ?_⟩
    · rcases ownL_set z with z | z
      · exact e2 z
      · cases z
    · rw [hide_ne (fun z => e2 (by rw [z]; exact il))]; exact h
  obtain ⟨ov0, g1, g2⟩ := E.sl n _ hn
  obtain ⟨rfl, _⟩ := g2.adr ea
  refine ⟨⟨by simpa using E.len, fun j s h => ?_, E.nd.sublist (ownL_set_sub rfl), fun a h => ?_, fun b h => ?_⟩, g2.mono up fun _ _ => rfl⟩
  · by_cases e : n = j
    · subst e
      have lt : n < fs.length := (List.getElem?_eq_some_iff.mp hn).1
      rw [List.getElem?_set_self lt] at h
      cases Option.some.inj h
      exact ⟨_, g1, trivial⟩
    · rw [List.getElem?_set_ne e] at h
      obtain ⟨ov, h1, h2⟩ := E.sl j s h
      refine ⟨ov, h1, h2.mono up fun b q => ?_⟩
      exact hide_ne fun z => e (own_injS E.nd hn h ea (by rw [← z]; exact q))
  · rcases ownL_set h with z | z
    · exact E.out a z
    · cases z
  · rw [hide_ne (fun z => by have := E.out l il; rw [← z, h] at this; cases this)]
    exact E.dom b h
theorem er_drop {K : PySem.W.Frag} {n : Nat} (E : ER K T σ H fs) (hn : fs[n]? = some (.own l d)) : ER K T σ (hide H l) (fs.set n .no) ∧ Ow K (cut (hide H l) (tt T (ownL (fs.set n .no)))) H l d := by
  obtain ⟨h1, h2⟩ := er_dropS E hn rfl
  exact ⟨h1, h2.2⟩
/-- return x, x a local's own -/
theorem as_retO (n : Nat) (he : AE X e fs f1 (.at l d)) (hr : D.rt (f1.set n .no) (.new d)) (hw : l ∉ c.ws) (hn : f1[n]? = some (.own l d) := by rfl) : AS X (.Return (some e) pos :: rest) c fs D :=
  fun σ H S => bSs_of (pss_cons (ps_ret best) bestSs) (he.run c.T σ H _ S.er fun v H1 k1 p1 => by
    obtain ⟨E1, rfl, _⟩ := p1
    obtain ⟨q1, q2⟩ := er_drop E1 hn
    have h0 : c.H0 l = none := by
      rcases S.ow l (by rw [← he.ow]; exact mem_own hn) with z | z
      · exact absurd z hw
      · exact z
    refine Or.inl ⟨σ, _, .new d, hide H l, ⟨⟨l, rfl, hide_self H l, q1, q2⟩, S.keeps k1, fun b h => ?_, rfl, (S.step k1 E1 he.ow).gs, fun a h => (S.step k1 E1 he.ow).gd a (by
      rcases ownL_set h with z | z
      · exact z
      · cases z)⟩, hr⟩
    rw [hide_ne (fun z => h (by rw [z]; exact h0))]
    exact S.dm b h)
/-- a local's own object is not changed any more -/
theorem er_freeze {K : PySem.W.Frag} {n : Nat} (E : ER K T σ H fs) (hn : fs[n]? = some (.own l d)) : ER K T σ H (fs.set n (.isv (.ref l) d)) := by
  obtain ⟨q1, q2⟩ := er_drop E hn
  have E2 := q1.keep (hide_same H l)
  have f : tt T (ownL (fs.set n .no)) l = false := q1.free (hide_self H l)
  have w : Rp K (cut H (tt T (ownL (fs.set n .no)))) (.ref l) d := by
    obtain ⟨o, ho⟩ := q2.there
    exact Ow.rp (S := cut (hide H l) (tt T (ownL (fs.set n .no)))) (cut_same fun b o e z => ⟨e, hide_same H l b o z⟩) (q2.mono (fun _ _ z => z) (by rw [ho]; exact cut_of f ho))
  have E3 := E2.setIsv (i := n) w
  rw [List.set_set] at E3
  have e : σ.set n (some (.ref l)) = σ := by
    by_cases lt : n < σ.length
    · have h1 := (E.own hn).1 lt
      apply List.ext_getElem?
      intro m
      by_cases z : n = m
      · subst z
        rw [List.getElem?_set_self (List.getElem?_eq_some_iff.mp h1).1, h1]
      · rw [List.getElem?_set_ne z]
    · exact List.set_eq_of_length_le (by omega)
  rw [e] at E3
  exact E3
theorem er_isv_dat {K : PySem.W.Frag} {n : Nat} (E : ER K T σ H fs) (hn : fs[n]? = some (.isv v d)) : ER K T σ H (fs.set n (.dat d)) := by
  have eo : ownL (fs.set n (.dat d)) = ownL fs := ownL_putS hn rfl
  refine ⟨by simpa using E.len, fun j s h => ?_, by rw [eo]; exact E.nd, fun a h => E.out a (by rw [eo] at h; exact h), E.dom⟩
  rw [eo]
  by_cases e : n = j
  · subst e
    rw [List.getElem?_set_self (List.getElem?_eq_some_iff.mp hn).1] at h
    cases Option.some.inj h
    obtain ⟨h1, h2⟩ := E.isv hn
    exact ⟨some v, h1, h2⟩
  · rw [List.getElem?_set_ne e] at h
    exact E.sl j s h
theorem as_freezeV (n : Nat) (hk : AS X sts c (fs.set n (.isv (.ref l) d)) D) (hn : fs[n]? = some (.own l d) := by rfl) : AS X sts c fs D := fun σ H S =>
  hk σ H (S.less (er_freeze S.er hn) fun a h => by
    rcases ownL_set h with z | z
    · exact z
    · cases z)
theorem as_isv_dat (n : Nat) (hk : AS X sts c (fs.set n (.dat d)) D) (hn : fs[n]? = some (.isv v d) := by rfl) : AS X sts c fs D := fun σ H S =>
  hk σ H (S.less (er_isv_dat S.er hn) fun a h => by
    rcases ownL_set h with z | z
    · exact z
    · cases z)
theorem as_freeze (n : Nat) (hk : AS X sts c (fs.set n (.dat d)) D) (hn : fs[n]? = some (.own l d) := by rfl) : AS X sts c fs D :=
  as_freezeV n (as_isv_dat n (by rw [List.set_set]; exact hk) (by rw [List.getElem?_set_self (List.getElem?_eq_some_iff.mp hn).1])) hn
/-- an expression's value is dropped -/
theorem as_expr (he : AE X e fs f1 r) (hk : AS X rest c f1 D) (hs : swapsWith e none pos.line X.env = pure false := by rfl) : AS X (.Expr e pos :: rest) c fs D :=
  fun σ H S => bSs_of (pss_cons (ps_expr best hs) bestSs) (he.run c.T σ H _ S.er fun v H1 k1 p1 => hk _ _ (S.step k1 p1.er he.ow))
/-- a, b = x, y -/
theorem as_par {y : Str} {px py pt : Pos} {kt k2 pt2} (n m : Nat) (ha : AD X [a, b] fs f1 [d1, d2]) (hk : AS X rest c ((f1.set n (.dat d1)).set m (.dat d2)) D) (hN : X.N.Nodup) (hc : X.calm = true := by rfl) (hi : X.N[n]? = some x := by rfl) (hj : X.N[m]? = some y := by rfl) (hij : n ≠ m := by decide)
    (hx : X.env.scope.names.lookup x = some .local := by rfl) (hy : X.env.scope.names.lookup y = some .local := by rfl)
    (hw : swappedStores [.Tuple [.Name x px, .Name y py] kt pt] (.Tuple [a, b] k2 pt2) X.env = pure (some [x, y]) := by rfl)
    (hs : swapsWithSole [.Tuple [.Name x px, .Name y py] kt pt] (.Tuple [a, b] k2 pt2) pos.line X.env = pure false := by rfl) :
    AS X (.Assign [.Tuple [.Name x px, .Name y py] kt pt] (.Tuple [a, b] k2 pt2) pos :: rest) c fs D :=
  fun σ H S => bSs_of (pss_cons (ps_par hc hN hi hj hij hx hy bestA hw hs) bestSs) (ha.run c.T σ H _ S.er fun vs H1 k1 E1 p1 => by
    obtain ⟨v, w, rfl, rv, rw'⟩ := p1.two_inv
    have S1 := (S.step k1 E1 ha.ow).setDat (n := n) rv
    refine ⟨v, w, rfl, hk _ _ (S1.setDat (rw'.mono (cut_same fun b o e z => ⟨?_, z⟩)))⟩
    obtain ⟨e1, e2⟩ := tt_false.mp e
    refine tt_false.mpr ⟨e1, fun z => ?_⟩
    rcases ownL_set z with z | z
    · exact e2 z
    · cases z)
/-- l.append(e), l an owned list in the slot n -/
theorem as_app {o : Expr} {apos cpos : Pos} (n : Nat) (ho : AE X o fs fs (.at l (.list ds))) (he : AE X e fs f1 (.val d)) (hz : ds.length ≤ 100000) (hk : AS X rest c (f1.set n (.own l (.list (ds ++ [d])))) D) (hn : f1[n]? = some (.own l (.list ds)) := by rfl)
    (hpe : ∀ {to : TE} {t : TA}, PE X o to → PA X [e] t → PE X (.Call (.Attribute o "append" apos) [e] [] cpos) (tBM X.K "list" rAppend to t) := by exact fun h1 h2 => pe_bm PySem.F.plainAttrs_list PySem.F.slot_list_append PySem.F.type_list_append mt_append h1 h2)
    (hst : starEach [e] X.env = (false, eval e X.env) :: starEach [] X.env := by rfl) (hs : swapsWith (.Call (.Attribute o "append" apos) [e] [] cpos) none pos.line X.env = pure false := by rfl) : AS X (.Expr (.Call (.Attribute o "append" apos) [e] [] cpos) pos :: rest) c fs D :=
  fun σ H S => bSs_of (pss_cons (ps_expr (hpe best (pa_cons best pa_nil hst)) hs) bestSs) (ho.run c.T σ H _ S.er fun ov H1 k1 p1 => by
    obtain ⟨E1, rfl, i, hi⟩ := p1
    refine ⟨?_, he.run c.T σ H1 _ E1 fun v H2 k2 p2 => ?_⟩
    · obtain ⟨vs, hl, _⟩ := (E1.own hi).2
      exact .inl ⟨rfl, _, SqL.of hl⟩
    · obtain ⟨E2, rv⟩ := p2
      obtain ⟨vs, hl, qv⟩ := (E2.own hn).2
      have S2 := S.step (k1.trans k2) E2 he.ow
      refine ⟨l, vs, v, rfl, rfl, hl, by rw [qv.length]; exact Nat.lt_of_le_of_lt hz (by rw [sizeLine_eq]; decide), hk _ _ ?_⟩
      have il : l ∈ ownL f1 := mem_own hn
      have up : Same (cut H2 (tt c.T (ownL f1))) (cut (upd H2 l (.lst (vs ++ [v]))) (tt c.T (ownL f1))) := cut_same fun b o e z => ⟨e, by rw [upd_ne (fun q => (tt_false.mp e).2 (by rw [q]; exact il))]; exact z⟩
      have E4 : ER X.K c.T σ (upd H2 l (.lst (vs ++ [v]))) (f1.set n (.own l (.list (ds ++ [d])))) := E2.put hn (fun b o nb h => by rw [upd_ne nb]; exact h) ⟨_, upd_same, (qv.snoc rv).mono up⟩
      exact S2.step (fun b o nb h => by rw [upd_ne (fun z => nb (by rw [z]; exact il))]; exact h) E4 (ownL_put hn))

/-! ### loops -/
theorem as_while {t : Expr} (hp : PassesOwn (model X.prog X.w) X.A X.env X.xe) (P : Nat → Fm → Prop) (m0 : Nat) (h0 : P m0 fs)
    (hs : ∀ m f, P m f → ∃ g bb, AT X t f g bb ∧ (bb = true → AS X body c g { nx := fun f' => ∃ m', m' < m ∧ P m' f', ct := fun f' => ∃ m', m' < m ∧ P m' f', bk := fun f' => AS X rest c f' D, rt := D.rt, rm := D.rm }) ∧ (bb = false → AS X rest c g D)) :
    AS X (.While t body [] pos :: rest) c fs D := by
  refine fun σ H S => bSs_of (pss_cons (ps_while hp bestT bestSs) bestSs) ?_
  refine ⟨fun m σ H => ∃ f, S3 X.K c σ H f ∧ P m f, ⟨m0, fs, S, h0⟩, ?_⟩
  rintro m σ1 H1 ⟨f, S1, p⟩
  obtain ⟨g, bb, ht, h1, h2⟩ := hs m f p
  refine ht.run c.T σ1 H1 _ S1.er fun H2 k2 E2 => ?_
  have S2 := S1.step k2 E2 ht.ow
  cases bb with
  | true =>
    refine ⟨fun σ' H' => ∃ m', m' < m ∧ ∃ f', S3 X.K c σ' H' f' ∧ P m' f', fun σ' H' ⟨m', l, f', q⟩ => ⟨m', l, f', q⟩, fun pins s I => ?_⟩
    refine thn (h1 rfl σ1 H2 S2 pins s I) fun fl s' q => ?_
    cases fl with
    | next => obtain ⟨σ', H', I', f', S', m', lm, q⟩ := q; exact ⟨σ', H', I', m', lm, f', S', q⟩
    | cont => obtain ⟨σ', H', I', f', S', m', lm, q⟩ := q; exact ⟨σ', H', I', m', lm, f', S', q⟩
    | brk => obtain ⟨σ', H', I', f', S', q⟩ := q; exact ⟨σ', H', I', q σ' H' S'⟩
    | ret u => exact q
  | false => exact h2 rfl σ1 H2 S2
/-- targets -/
def bG (X : Cx) (tg : Expr) : TG := fun v σ H Q => ∀ pins s u, Inv X pins σ H s → RelV v u → wpAny (model X.prog X.w) X.A (assign tg X.env u) (fun _ s' => ∃ σ' H', Inv X pins σ' H' s' ∧ Q σ' H') X.xe s
theorem bestG {tg : Expr} : PG X tg (bG X tg) := ⟨fun pins s _ _ _ u _ I r h => h pins s u I r⟩
theorem bG_of {tg : Expr} {t : TG} {Q : L2.St → Hp → Prop} (p : PG X tg t) (h : t v σ H Q) : bG X tg v σ H Q := fun pins s u I r => p.run pins s σ H v u Q I r h
structure AG (X : Cx) (tg : Expr) (d : PyData) (fs fs' : Fm) : Prop where
  sub : ∀ a ∈ ownL fs', a ∈ ownL fs
  run : ∀ (T : Addr → Bool) (σ : L2.St) (H : Hp) (v : V) (Q : L2.St → Hp → Prop), ER X.K T σ H fs → Rp X.K (cut H (tt T (ownL fs))) v d → (∀ σ', ER X.K T σ' H fs' → Q σ' H) → bG X tg v σ H Q
structure AGs (X : Cx) (ts : List Expr) (ds : List PyData) (fs fs' : Fm) : Prop where
  sub : ∀ a ∈ ownL fs', a ∈ ownL fs
  run : ∃ t : TGs, PGs X ts t ∧ ∀ (T : Addr → Bool) (σ : L2.St) (H : Hp) (vs : List V) (Q : L2.St → Hp → Prop), ER X.K T σ H fs → RpAll X.K (cut H (tt T (ownL fs))) vs ds → (∀ σ', ER X.K T σ' H fs' → Q σ' H) → t vs σ H Q
theorem sub_set {n : Nat} : ∀ a ∈ ownL (fs.set n (.dat d)), a ∈ ownL fs := fun a h => by
  rcases ownL_set h with z | z
  · exact z
  · cases z
theorem ag_name (n : Nat) (hN : X.N.Nodup) (hi : X.N[n]? = some x := by rfl) (hx : Loc X.env.scope x := by first | exact .inl rfl | exact .inr rfl) (hf : X.fn x = true ∨ X.env.scope.names.lookup x = some .local := by first | exact .inl rfl | exact .inr rfl) : AG X (.Name x pos) d fs (fs.set n (.dat d)) :=
  ⟨sub_set, fun T σ H v Q E r q => bG_of (pg_name hN hi hx hf) (q _ (E.setDat r))⟩
theorem ags_nil : AGs X [] [] fs fs := ⟨fun _ h => h, gNil, pgs_nil, fun T σ H vs Q E r q => by cases r; exact ⟨rfl, q σ E⟩⟩
theorem ags_cons {tg : Expr} {ts : List Expr} (h1 : AG X tg d fs f1) (h2 : AGs X ts ds f1 f2) (hs : (assignEach (tg :: ts) X.env).map (·.2) = assign tg X.env :: (assignEach ts X.env).map (·.2) := by rfl) : AGs X (tg :: ts) (d :: ds) fs f2 := by
  obtain ⟨t, p, h3⟩ := h2.run
  refine ⟨fun a h => h1.sub a (h2.sub a h), gCons (bG X tg) t, pgs_cons bestG p hs, fun T σ H vs Q E r q => ?_⟩
  cases r with
  | cons r rr =>
    refine ⟨_, _, rfl, h1.run T σ H _ _ E r fun σ' E' => h3 T σ' H _ Q E' (rr.mono (cut_same fun b o e z => ⟨?_, z⟩)) q⟩
    obtain ⟨e1, e2⟩ := tt_false.mp e
    exact tt_false.mpr ⟨e1, fun z => e2 (h1.sub b z)⟩
theorem ag_tup {ts : List Expr} {k : Nat} (h : AGs X ts ds fs f1) (hc : X.calm = true := by rfl) (hl : ds.length = ts.length := by rfl) (hn : (assignEach ts X.env).length = ts.length := by rfl) (hst : (assignEach ts X.env).findIdx? (·.1) = none := by rfl) : AG X (.Tuple ts k pos) (.tuple ds) fs f1 := by
  obtain ⟨t, p, h3⟩ := h.run
  refine ⟨h.sub, fun T σ H v Q E r q => bG_of (pg_tup (n := ts.length) hc p hn hst) ?_⟩
  obtain ⟨a, vs, rfl, s, qv⟩ := r.tup_inv
  exact ⟨a, vs, rfl, sqT_same (cut_all _ _) s, by rw [qv.length, hl], h3 T σ H vs Q E qv q⟩
/-- target = e -/
theorem as_asg {tg : Expr} (he : AE X e fs f1 (.val d)) (hg : AG X tg d f1 f2) (hk : AS X rest c f2 D) (hs : swapsWithSole [tg] e pos.line X.env = pure false := by rfl) (hw : swappedStores [tg] e X.env = pure none := by rfl)
    (h1 : (assignEach [tg] X.env).map (·.2) = [assign tg X.env] := by rfl) : AS X (.Assign [tg] e pos :: rest) c fs D :=
  fun σ H S => bSs_of (pss_cons (ps_asg best bestG hs hw h1) bestSs) (he.run c.T σ H _ S.er fun v H1 k1 p1 => hg.run c.T σ H1 v _ p1.1 p1.2 fun σ' E' => hk σ' H1 ((S.step k1 p1.1 he.ow).less E' hg.sub))
/-- what the body of a loop over ds is to do, from turn to turn -/
def Turn3 (X : Cx) (tg : Expr) (body rest : List Stmt) (c : Cf) (D : D3) (ds : List PyData) (P : Nat → Fm → Prop) : Prop :=
  ∀ (G : Hp) (k : Nat) (d : PyData) (f : Fm), ds[k]? = some d → P k f → ∃ g, AG X tg d f g ∧ AS X body { c with G := G } g { nx := P (k + 1), ct := P (k + 1), bk := fun f' => AS X rest c f' D, rt := D.rt }
theorem S3.base {K : PySem.W.Frag} {G : Hp} (S : S3 K { c with G := G } σ H fs) (g : Same c.G G) : S3 K c σ H fs :=
  ⟨S.er, S.kp, S.dm, S.ow, S.wd, fun b o h => S.gs b o (g b o h), fun a h => by
    cases e : c.G a with
    | none => rfl
    | some o => have h2 := g a o e; have h3 : G a = none := S.gd a h; rw [h3] at h2; cases h2⟩
theorem R3.base {K : PySem.W.Frag} {G Hm : Hp} (g : Same c.G G) (R : R3 K { c with G := G } σ Hm H fs v r) : R3 K c σ Hm H fs v r :=
  ⟨R.po, R.kp, R.dm, R.na, fun b o h => R.gs b o (g b o h), fun a h => by
    cases e : c.G a with
    | none => rfl
    | some o => have h2 := g a o e; have h3 : G a = none := R.gd a h; rw [h3] at h2; cases h2⟩
/-- all that isn't owned is to be walked -/
theorem S3.walk {K : PySem.W.Frag} (S : S3 K c σ H fs) : S3 K { c with G := cut H fun b => decide (b ∈ ownL fs) } σ H fs ∧ Same c.G (cut H fun b => decide (b ∈ ownL fs)) := by
  have g : Same c.G (cut H fun b => decide (b ∈ ownL fs)) := fun b o h => cut_of (by
    refine decide_eq_false fun z => ?_
    rw [S.gd b z] at h; cases h) (S.gs b o h)
  refine ⟨⟨S.er, S.kp, S.dm, S.ow, S.wd, cut_all _ _, fun a h => ?_⟩, g⟩
  show cut H (fun b => decide (b ∈ ownL fs)) a = none
  unfold cut; simp [h]
/-- the loop's W, for any walk that yields the data ds -/
theorem for_core {tg : Expr} {P : Nat → Fm → Prop} {J : It} (S : S3 X.K c σ H fs) (h0 : P 0 fs)
    (hgo : ∀ G, Same (cut H fun b => decide (b ∈ ownL fs)) G → ∀ k, k < ds.length → J.go k G) (hst : ∀ G, Same (cut H fun b => decide (b ∈ ownL fs)) G → J.stop ds.length G)
    (hy : ∀ G, Same (cut H fun b => decide (b ∈ ownL fs)) G → ∀ k v G', k < ds.length → J.yld k G v G' → Same G G' ∧ ∃ d, ds[k]? = some d ∧ ∀ (T : Addr → Bool) (σ : L2.St) (f : Fm), ER X.K T σ G f → (∀ a ∈ ownL f, cut H (fun b => decide (b ∈ ownL fs)) a = none) → (∀ b, T b = c.T b) → Rp X.K (cut G' (tt T (ownL f))) v d)
    (hs : Turn3 X tg body rest c D ds P) (hd : ∀ f, P ds.length f → AS X rest c f D) :
    ∃ W : Nat → Nat → L2.St → Hp → Prop, (∃ m, W 0 m σ H) ∧ ∀ i m σ H, W i m σ H →
      (J.stop i H ∧ bSs X rest (ends X.K c D) σ H) ∨ (J.go i H ∧ ∃ N : L2.St → Hp → Prop, (∀ σ' H', N σ' H' → ∃ m', m' < m ∧ W (i + 1) m' σ' H') ∧ ∀ v H', J.yld i H v H' → bG X tg v σ H' fun σ2 H2 => bSs X body { nx := N, ct := N, bk := bSs X rest (ends X.K c D), rt := (ends X.K c D).rt } σ2 H2) := by
  obtain ⟨S0, g0⟩ := S.walk
  refine ⟨fun i m σ' H' => m = ds.length - i ∧ i ≤ ds.length ∧ ∃ f, S3 X.K { c with G := cut H fun b => decide (b ∈ ownL fs) } σ' H' f ∧ P i f, ⟨_, rfl, Nat.zero_le _, fs, S0, h0⟩, ?_⟩
  rintro i m σ1 H1 ⟨rfl, hi, f, S1, p⟩
  by_cases lt : i < ds.length
  · refine .inr ⟨hgo H1 S1.gs i lt, fun σ' H' => ∃ f', S3 X.K { c with G := cut H fun b => decide (b ∈ ownL fs) } σ' H' f' ∧ P (i + 1) f', fun σ' H' ⟨f', q⟩ => ⟨ds.length - (i + 1), by omega, rfl, lt, f', q⟩, fun v H2 y => ?_⟩
    obtain ⟨sm, d, hd', rp⟩ := hy H1 S1.gs i v H2 lt y
    have E2 : ER X.K c.T σ1 H2 f := S1.er.keep sm
    have S2 : S3 X.K { c with G := cut H fun b => decide (b ∈ ownL fs) } σ1 H2 f := S1.step (Kp.of sm) E2 rfl
    obtain ⟨g, ag, asb⟩ := hs (cut H fun b => decide (b ∈ ownL fs)) i d f hd' p
    refine ag.run c.T σ1 H2 v _ E2 (rp c.T σ1 f S1.er S1.gd fun _ => rfl) fun σ3 E3 => ?_
    intro pins s I
    refine thn (asb σ3 H2 (S2.less E3 ag.sub) pins s I) fun fl s' q => ?_
    cases fl with
    | next => obtain ⟨σ', H', I', f', S', q⟩ := q; exact ⟨σ', H', I', f', S', q⟩
    | cont => obtain ⟨σ', H', I', f', S', q⟩ := q; exact ⟨σ', H', I', f', S', q⟩
    | brk => obtain ⟨σ', H', I', f', S', q⟩ := q; exact ⟨σ', H', I', q σ' H' (S'.base g0)⟩
    | ret u =>
      obtain ⟨v', σ', H', I', rv, ⟨σ4, f4, r4, Hm, R, q⟩ | ⟨_, _, _, zz⟩⟩ := q
      · exact ⟨v', σ', H', I', rv, .inl ⟨σ4, f4, r4, Hm, R.base g0, q⟩⟩
      · exact zz.elim
  · have e : i = ds.length := by omega
    subst e
    exact .inl ⟨hst H1 S1.gs, hd f p σ1 H1 (S1.base g0)⟩
/-- for target in e, a list that isn't owned -/
theorem as_forL {tg : Expr} (hp : PassesOwn (model X.prog X.w) X.A X.env X.xe) (P : Nat → Fm → Prop) (he : AE X e fs f1 (.val (.list ds))) (h0 : P 0 f1) (hs : Turn3 X tg body rest c D ds P) (hd : ∀ f, P ds.length f → AS X rest c f D) (hc : X.calm = true := by rfl)
    (hf : ∀ x, foldedSetIterable e X.env x = pure x := by intro _; rfl) : AS X (.For tg e body [] pos :: rest) c fs D := by
  refine fun σ H S => bSs_of (pss_cons (ps_for hp hc (pi_list best) bestG bestSs hf) bestSs) (he.run c.T σ H _ S.er fun v H1 k1 p1 => ?_)
  obtain ⟨E1, rl⟩ := p1
  obtain ⟨l, vs, rfl, s, qv⟩ := rl.lst_inv
  have up : Same (cut H1 (tt c.T (ownL f1))) (cut H1 fun b => decide (b ∈ ownL f1)) := cut_same fun b o e z => ⟨decide_eq_false (tt_false.mp e).2, z⟩
  have s1 : SqL X.K (cut H1 fun b => decide (b ∈ ownL f1)) l vs := sqL_same up s
  refine ⟨l, rfl, ⟨vs, sqL_same (cut_all _ _) s⟩, for_core (ds := ds) (S.step k1 E1 he.ow) h0 (fun G g k lt => ?_) (fun G g => ?_) (fun G g k v G' lt y => ?_) hs hd⟩
  · have := qv.length
    exact ⟨vs, vs[k]'(by omega), sqL_same g s1, by simp⟩
  · exact ⟨vs, sqL_same g s1, by rw [qv.length]; exact Nat.le_refl _⟩
  · obtain ⟨rfl, y⟩ := y
    have hv := y vs (sqL_same g s1)
    obtain ⟨d, hd', rd⟩ := qv.get2 hv
    refine ⟨fun _ _ h => h, d, hd', fun T σ f E dis et => rd.mono fun b o h => ?_⟩
    obtain ⟨e1, e2⟩ := cut_some h
    obtain ⟨e3, e4⟩ := tt_false.mp e1
    have gb := g b o (cut_of (decide_eq_false e4) e2)
    refine cut_of (tt_false.mpr ⟨by rw [et]; exact e3, fun z => ?_⟩) gb
    have := dis b z
    rw [cut_of (decide_eq_false e4) e2] at this; cases this
def rngD (lo : Int) (n : Nat) : List PyData := (List.range n).map fun (k : Nat) => PyData.int (lo + (k : Int))
theorem rngD_len (lo : Int) (n : Nat) : (rngD lo n).length = n := by simp [rngD]
theorem rngD_get {lo : Int} {n k : Nat} (h : k < n) : (rngD lo n)[k]? = some (.int (lo + (k : Int))) := by simp [rngD, h]
theorem rngD_inv {lo : Int} {n k : Nat} {d : PyData} (h : (rngD lo n)[k]? = some d) : k < n ∧ d = .int (lo + (k : Int)) := by
  have lt : k < n := by
    have := (List.getElem?_eq_some_iff.mp h).1
    rw [rngD_len] at this; exact this
  rw [rngD_get lt] at h
  exact ⟨lt, (Option.some.inj h).symm⟩
/-- for target in range(a) -/
theorem as_forR {tg : Expr} {p : Pos} {n : Int} (hp : PassesOwn (model X.prog X.w) X.A X.env X.xe) (P : Nat → Fm → Prop) (ha : AD X [a] fs f1 [.int n]) (hn : n ≤ 1000000000000) (h0 : P 0 f1) (hs : Turn3 X tg body rest c D (rngD 0 n.toNat) P) (hd : ∀ f, P n.toNat f → AS X rest c f D)
    (hm : X.mg "range" = none) (hg : Gl X "range" := by rfl) (hc : X.calm = true := by rfl) (hst : starEach [a] X.env = [(false, eval a X.env)] := by rfl) (hn0 : -1000000000000 ≤ n := by first | omega | ((repeat' split) <;> omega))
    (hf : ∀ x, foldedSetIterable (.Call (.Name "range" p) [a] [] pos') X.env x = pure x := by intro _; rfl) : AS X (.For tg (.Call (.Name "range" p) [a] [] pos') body [] pos :: rest) c fs D := by
  refine fun σ H S => bSs_of (pss_cons (ps_for hp hc (pi_range1 hg hm bestA hst) bestG bestSs hf) bestSs) (ha.run c.T σ H _ S.er fun vs H1 k1 E1 p1 => ?_)
  obtain ⟨v, rfl, rv⟩ := p1.one_inv
  refine ⟨n, by rw [rv.int_inv], by omega, by omega, for_core (ds := rngD 0 n.toNat) (S.step k1 E1 ha.ow) h0 (fun G g k lt => ?_) (fun G g => ?_) (fun G g k v G' lt y => ?_) hs (by rw [rngD_len]; exact hd)⟩
  · rw [rngD_len] at lt; exact lt
  · show n.toNat ≤ _; rw [rngD_len]; exact Nat.le_refl _
  · obtain ⟨rfl, rfl⟩ := y
    rw [rngD_len] at lt
    exact ⟨fun _ _ h => h, _, rngD_get lt, fun T σ f E dis et => .int _⟩

/-! ### a def by its body -/
/-- the owned arguments as they stand at the end, behind the marker the ghosts -/
inductive OutG (fs : Fm) : List Slot → List Slot → Prop
  | nil : OutG fs [] []
  | own {a : Addr} {d d' : PyData} {x y : List Slot} (n : Nat) : fs[n]? = some (.own a d') → OutG fs x y → OutG fs (.own a d :: x) (.own a d' :: y)
  | raw {a : Addr} {o o' : HO} {x y : List Slot} (n : Nat) : fs[n]? = some (.raw a o') → OutG fs x y → OutG fs (.raw a o :: x) (.raw a o' :: y)
  | isv {v v' : V} {d d' : PyData} {x y : List Slot} (n : Nat) : fs[n]? = some (.isv v' d') → OutG fs x y → OutG fs (.isv v d :: x) (.isv v' d' :: y)
  | mix {a : Addr} {o o' : Mix} {x y : List Slot} (n : Nat) : fs[n]? = some (.mix a o') → OutG fs x y → OutG fs (.mix a o :: x) (.mix a o' :: y)
inductive OutR (fs : Fm) : List Slot → List Slot → Prop
  | nil : OutR fs [] []
  | dat {d : PyData} {x y : List Slot} : OutR fs x y → OutR fs (.dat d :: x) (.dat d :: y)
  | own {a : Addr} {d d' : PyData} {x y : List Slot} (n : Nat) : fs[n]? = some (.own a d') → OutR fs x y → OutR fs (.own a d :: x) (.own a d' :: y)
  | raw {a : Addr} {o o' : HO} {x y : List Slot} (n : Nat) : fs[n]? = some (.raw a o') → OutR fs x y → OutR fs (.raw a o :: x) (.raw a o' :: y)
  | mix {a : Addr} {o o' : Mix} {x y : List Slot} (n : Nat) : fs[n]? = some (.mix a o') → OutR fs x y → OutR fs (.mix a o :: x) (.mix a o' :: y)
  | gh {x y : List Slot} : OutG fs x y → OutR fs (.no :: x) (.no :: y)
theorem OutG.len {x y : List Slot} (h : OutG fs x y) : x.length = y.length := by
  induction h with
  | nil => rfl
  | own _ _ _ ih => exact congrArg (· + 1) ih
  | raw _ _ _ ih => exact congrArg (· + 1) ih
  | isv _ _ _ ih => exact congrArg (· + 1) ih
  | mix _ _ _ ih => exact congrArg (· + 1) ih
theorem OutG.own_eq {x y : List Slot} (h : OutG fs x y) : ownL y = ownL x := by
  induction h with
  | nil => rfl
  | own _ _ _ ih => exact congrArg (List.cons _) ih
  | raw _ _ _ ih => exact congrArg (List.cons _) ih
  | isv _ _ _ ih => exact ih
  | mix _ _ _ ih => exact congrArg (List.cons _) ih
theorem OutG.get {x y : List Slot} (h : OutG fs x y) : ∀ (n : Nat) (s : Slot), y[n]? = some s → ∃ j : Nat, fs[j]? = some s := by
  induction h with
  | nil => intro n s e; simp at e
  | own m r _ ih =>
    intro n s e
    cases n with
    | zero => cases Option.some.inj e; exact ⟨m, r⟩
    | succ n => exact ih n s e
  | raw m r _ ih =>
    intro n s e
    cases n with
    | zero => cases Option.some.inj e; exact ⟨m, r⟩
    | succ n => exact ih n s e
  | isv m r _ ih =>
    intro n s e
    cases n with
    | zero => cases Option.some.inj e; exact ⟨m, r⟩
    | succ n => exact ih n s e
  | mix m r _ ih =>
    intro n s e
    cases n with
    | zero => cases Option.some.inj e; exact ⟨m, r⟩
    | succ n => exact ih n s e
theorem OutR.len {x y : List Slot} (h : OutR fs x y) : x.length = y.length := by
  induction h with
  | nil => rfl
  | dat _ ih => exact congrArg (· + 1) ih
  | own _ _ _ ih => exact congrArg (· + 1) ih
  | raw _ _ _ ih => exact congrArg (· + 1) ih
  | mix _ _ _ ih => exact congrArg (· + 1) ih
  | gh g => exact congrArg (· + 1) g.len
theorem OutR.own_eq {x y : List Slot} (h : OutR fs x y) : ownL y = ownL x := by
  induction h with
  | nil => rfl
  | dat _ ih => exact ih
  | own _ _ _ ih => exact congrArg (List.cons _) ih
  | raw _ _ _ ih => exact congrArg (List.cons _) ih
  | mix _ _ _ ih => exact congrArg (List.cons _) ih
  | gh g => exact g.own_eq
theorem OutR.get {x y : List Slot} (h : OutR fs x y) : ∀ (n : Nat) (s : Slot), y[n]? = some s → s = .no ∨ (∃ d, s = .dat d ∧ x[n]? = some (.dat d)) ∨ (∃ j : Nat, fs[j]? = some s ∧ nA x ≤ n) ∨ ∃ (a : Addr) (u : Slot) (j : Nat), x[n]? = some u ∧ adr u = some a ∧ adr s = some a ∧ fs[j]? = some s := by
  induction h with
  | nil => intro n s e; simp at e
  | dat _ ih =>
    intro n s e
    cases n with
    | zero => cases Option.some.inj e; exact .inr (.inl ⟨_, rfl, rfl⟩)
    | succ n =>
      rcases ih n s e with h | h | ⟨j, h, l⟩ | h
      · exact .inl h
      · exact .inr (.inl h)
      · exact .inr (.inr (.inl ⟨j, h, Nat.succ_le_succ l⟩))
      · exact .inr (.inr (.inr h))
  | own m r _ ih =>
    intro n s e
    cases n with
    | zero => cases Option.some.inj e; exact .inr (.inr (.inr ⟨_, _, m, rfl, rfl, rfl, r⟩))
    | succ n =>
      rcases ih n s e with h | h | ⟨j, h, l⟩ | h
      · exact .inl h
      · exact .inr (.inl h)
      · exact .inr (.inr (.inl ⟨j, h, Nat.succ_le_succ l⟩))
      · exact .inr (.inr (.inr h))
  | raw m r _ ih =>
    intro n s e
    cases n with
    | zero => cases Option.some.inj e; exact .inr (.inr (.inr ⟨_, _, m, rfl, rfl, rfl, r⟩))
    | succ n =>
      rcases ih n s e with h | h | ⟨j, h, l⟩ | h
      · exact .inl h
      · exact .inr (.inl h)
      · exact .inr (.inr (.inl ⟨j, h, Nat.succ_le_succ l⟩))
      · exact .inr (.inr (.inr h))
  | mix m r _ ih =>
    intro n s e
    cases n with
    | zero => cases Option.some.inj e; exact .inr (.inr (.inr ⟨_, _, m, rfl, rfl, rfl, r⟩))
    | succ n =>
      rcases ih n s e with h | h | ⟨j, h, l⟩ | h
      · exact .inl h
      · exact .inr (.inl h)
      · exact .inr (.inr (.inl ⟨j, h, Nat.succ_le_succ l⟩))
      · exact .inr (.inr (.inr h))
  | gh g =>
    intro n s e
    cases n with
    | zero => cases Option.some.inj e; exact .inl rfl
    | succ n =>
      obtain ⟨j, h⟩ := g.get n s e
      exact .inr (.inr (.inl ⟨j, h, Nat.zero_le _⟩))
theorem OutR.mem {x y : List Slot} (h : OutR fs x y) {l : Addr} (m : l ∈ ownL y) : l ∈ ownL fs := by
  obtain ⟨i, s, hi, e⟩ := mem_ownL.mp m
  rcases h.get i s hi with rfl | ⟨d, rfl, _⟩ | ⟨j, hj, _⟩ | ⟨_, _, j, _, _, _, hj⟩
  · cases e
  · cases e
  · exact mem_ownL.mpr ⟨j, s, hj, e⟩
  · exact mem_ownL.mpr ⟨j, s, hj, e⟩
/-- the arguments' frame behind the body -/
theorem er_out {K : PySem.W.Frag} {τ : L2.St} {H0 : Hp} {x y : List Slot} (E0 : ER K T τ H0 x) (hA : nA x = τ.length) (E : ER K T σ H fs) (k : Kp H0 H (ownL x)) (o : OutR fs x y) : ER K T τ H y where
  len := o.len ▸ E0.len
  sl := fun n s h => by
    have up : Same (cut H (tt T (ownL fs))) (cut H (tt T (ownL y))) := cut_same fun b u e h => by
      obtain ⟨e1, e2⟩ := tt_false.mp e
      exact ⟨tt_false.mpr ⟨e1, fun z => e2 (o.mem z)⟩, h⟩
    rcases o.get n s h with rfl | ⟨d, rfl, hx⟩ | ⟨j, hj, ln⟩ | ⟨a, u, j, hx, eu, es, hj⟩
    · exact ⟨(τ[n]?).getD none, fun l => by rw [List.getElem?_eq_getElem l]; rfl, by cases (τ[n]?).getD none <;> trivial⟩
    · obtain ⟨v, hv, r⟩ := E0.dat hx
      exact ⟨some v, hv, r.mono (k.up o.own_eq)⟩
    · obtain ⟨ov, h1, h2⟩ := E.sl j s hj
      exact ⟨ov, fun l => absurd l (by omega), h2.mono up fun _ _ => rfl⟩
    · obtain ⟨ov, h1, h2⟩ := E0.sl n u hx
      obtain ⟨e1, _⟩ := h2.adr eu
      obtain ⟨ov2, h3, h4⟩ := E.sl j s hj
      obtain ⟨e3, _⟩ := h4.adr es
      exact ⟨ov, h1, by rw [e1, ← e3]; exact h4.mono up fun _ _ => rfl⟩
  nd := by rw [o.own_eq]; exact E0.nd
  out := fun a h => E0.out a (by rw [← o.own_eq]; exact h)
  dom := E.dom
theorem po_out {K : PySem.W.Frag} {τ : L2.St} {H0 Hm : Hp} {x y : List Slot} (E0 : ER K T τ H0 x) (hA : nA x = τ.length) (p : Po K T σ Hm H fs v r) (k : Kp H0 H (ownL x)) (dm : ∀ b, H0 b ≠ none → Hm b ≠ none) (o : OutR fs x y) (na : isAt r = false) : Po K T τ H0 H y v r := by
  have up : ∀ G : Hp, Same (cut G (tt T (ownL fs))) (cut G (tt T (ownL y))) := fun G => cut_same fun b u e h => by
    obtain ⟨e1, e2⟩ := tt_false.mp e
    exact ⟨tt_false.mpr ⟨e1, fun z => e2 (o.mem z)⟩, h⟩
  cases r with
  | val d => exact ⟨er_out E0 hA p.1 k o, p.2.mono (up H)⟩
  | new d =>
    obtain ⟨l, rfl, n, E, w⟩ := p
    have h0 : H0 l = none := by
      cases hh : H0 l with
      | none => rfl
      | some u => exact absurd n (dm l (by rw [hh]; exact fun z => by cases z))
    refine ⟨l, rfl, h0, er_out E0 hA E (fun b u nb h => ?_) o, w.mono (up _) rfl⟩
    rw [hide_ne (fun z => by rw [z, h0] at h; cases h)]
    exact k b u nb h
  | «at» l d => cases na
  | two d e =>
    obtain ⟨l, g, v1, rfl, n1, n2, ne, ha, E, r1, w⟩ := p
    have h00 : ∀ x, Hm x = none → H0 x = none := fun x n => by
      cases hh : H0 x with
      | none => rfl
      | some u => exact absurd n (dm x (by rw [hh]; exact fun z => by cases z))
    refine ⟨l, g, v1, rfl, h00 l n1, h00 g n2, ne, ha, er_out E0 hA E (fun b u nb h => ?_) o, r1.mono (up _), w.mono (up _) rfl⟩
    rw [hide_ne (fun z => by rw [z, h00 l n1] at h; cases h), hide_ne (fun z => by rw [z, h00 g n2] at h; cases h)]
    exact k b u nb h
  | tw d e =>
    obtain ⟨l, g, q, rfl, n1, n2, n3, ag, ah, gh, ha, E, r1, w⟩ := p
    have h00 : ∀ x, Hm x = none → H0 x = none := fun x n => by
      cases hh : H0 x with
      | none => rfl
      | some u => exact absurd n (dm x (by rw [hh]; exact fun z => by cases z))
    refine ⟨l, g, q, rfl, h00 l n1, h00 g n2, h00 q n3, ag, ah, gh, ha, er_out E0 hA E (fun b u nb h => ?_) o, r1.mono (up _) rfl, w.mono (up _) rfl⟩
    rw [hide3_ne (fun z => by rw [z, h00 q n3] at h; cases h) (fun z => by rw [z, h00 g n2] at h; cases h) (fun z => by rw [z, h00 l n1] at h; cases h)]
    exact k b u nb h
/-- what a body is to reach -/
def goal3 (ss ss' : List Slot) (r : Res) : D3 where
  nx := fun fs => r = .val .none ∧ OutR fs ss ss'
  rt := fun fs q => q = r ∧ OutR fs ss ss'
/-- the frame of a body: the arguments, the other names, the ghosts -/
def bodyF (n : Nat) (ss : List Slot) : Fm := ss.take (nA ss) ++ (List.replicate (n - nA ss) .no ++ ss.drop (nA ss))
theorem ownL_rep : ∀ n, ownL (List.replicate n Slot.no) = []
  | 0 => rfl
  | n + 1 => ownL_rep n
theorem bodyF_own (n : Nat) (ss : List Slot) : ownL (bodyF n ss) = ownL ss := by
  unfold bodyF
  rw [ownL_app, ownL_app, ownL_rep, List.nil_append, ← ownL_app, List.take_append_drop]
theorem nA_le : ∀ ss : List Slot, nA ss ≤ ss.length
  | [] => Nat.le_refl _
  | .no :: _ => Nat.zero_le _
  | .ref _ :: r => Nat.succ_le_succ (nA_le r)
  | .dat _ :: r => Nat.succ_le_succ (nA_le r)
  | .own _ _ :: r => Nat.succ_le_succ (nA_le r)
  | .raw _ _ :: r => Nat.succ_le_succ (nA_le r)
  | .mix _ _ :: r => Nat.succ_le_succ (nA_le r)
  | .isv _ _ :: r => Nat.succ_le_succ (nA_le r)
theorem start_er {K : PySem.W.Frag} {N : List Str} {vs : List V} {ss : List Slot} (E : ER K T (vs.map some) H ss) (hA : nA ss = vs.length) (hN : vs.length ≤ N.length) : ER K T (L2.start N vs) H (bodyF N.length ss) := by
  have lA := nA_le ss
  have l1 : (ss.take (nA ss)).length = vs.length := by rw [List.length_take]; omega
  have l2 : (L2.start N vs).length = N.length := by unfold L2.start; simp; omega
  refine ⟨?_, fun n s h => ?_, by rw [bodyF_own]; exact E.nd, fun a h => E.out a (by rw [bodyF_own] at h; exact h), E.dom⟩
  · rw [l2]; unfold bodyF; simp only [List.length_append, List.length_replicate, l1]; omega
  · rw [bodyF_own]
    unfold bodyF at h
    by_cases lt : n < vs.length
    · rw [List.getElem?_append_left (by omega), List.getElem?_take_of_lt (by omega)] at h
      obtain ⟨ov, h1, h2⟩ := E.sl n s h
      refine ⟨ov, fun _ => ?_, h2⟩
      unfold L2.start
      rw [List.getElem?_append_left (by simpa using lt)]
      exact h1 (by simpa using lt)
    · rw [List.getElem?_append_right (by omega), l1] at h
      by_cases lt2 : n - vs.length < N.length - nA ss
      · rw [List.getElem?_append_left (by simpa using lt2), List.getElem?_replicate, if_pos lt2] at h
        cases Option.some.inj h
        refine ⟨none, fun _ => ?_, trivial⟩
        unfold L2.start
        rw [List.getElem?_append_right (by simp; omega), List.getElem?_replicate]
        simp only [List.length_map]
        rw [if_pos (by omega)]
      · rw [List.getElem?_append_right (by simp; omega), List.getElem?_drop] at h
        obtain ⟨ov, h1, h2⟩ := E.sl _ s h
        exact ⟨ov, fun l => absurd l (by rw [l2]; omega), h2⟩
/-- THE RULE for a def that raises nothing -/
theorem fn3 {P : Program} {w : World} {K : PySem.W.Frag} {mg : Str → Option Value} {base : Heap} {x' qual : Str} {params : Arguments} {bd : List Stmt} {scope : Scope} {dvs : List V} {kws : List (Str × V)} {f : Addr} {fd : FuncData} {N ps : List Str} {k : Nat} {ct : Ct}
    (F : FunD K x' qual params bd scope dvs kws f fd) (S : FnScope N ps scope) (len : ∀ ss ss' r, ct ss ss' r → nA ss = ps.length)
    (hb : ∀ (cdv : Value) (A : Around) (outer : List Env) (s : Shared) (H : Hp) (E : XK) (c : Cf) (ss ss' : List Slot) (r : Res), Room k (A.deeper (envOfC qual scope s.heap.objs.size f cdv)) → ct ss ss' r → ownL ss = c.ws →
      AS (cxOf CX0 P w K mg base N qual scope f cdv A outer s H E).nox bd c (bodyF N.length ss) (goal3 ss ss' r)) (hN : ps.length ≤ N.length := by decide) : FnOk P w K mg base CX0 (k + 1) f fd ps (Sp3 K ct nox) := by
  refine F.ok S (fun vs H Q E h => ?_) (fun cdv A outer s H vs Q E hr h => ?_)
  · obtain ⟨T, ss, E0, hA, h⟩ := h
    rcases h with ⟨ss', r, hc, _⟩ | ⟨C, hx, _⟩
    · rw [← hA]; exact len _ _ _ hc
    · exact hx.elim
  · obtain ⟨T, ss, E0, hA, h⟩ := h
    rcases h with ⟨ss', r, hc, ho, hq⟩ | ⟨C, hx, _⟩
    · refine ⟨_, PSs.nox bestSs, ?_⟩
      have hvN : vs.length ≤ N.length := by rw [← hA, len _ _ _ hc]; exact hN
      have S0 : S3 K ⟨T, H, ownL ss, fun _ => none⟩ (L2.start N vs) H (bodyF N.length ss) := by
        refine ⟨start_er E0 hA hvN, Kp.refl _ _, fun b h => h, fun a h => .inl (by rw [bodyF_own] at h; exact h), fun a h => ?_, fun b o h => (by cases h), fun a h => rfl⟩
        obtain ⟨o, ho⟩ := E0.thereL h
        show H a ≠ none
        rw [ho]; exact fun z => by cases z
      have bdy := hb cdv A outer s H E ⟨T, H, ownL ss, fun _ => none⟩ ss ss' r hr hc rfl _ _ S0
      have hA' : nA ss = (vs.map some).length := by rw [hA]; simp
      intro pins s' I
      refine thn (bdy pins s' I) fun fl s2 q => ?_
      cases fl with
      | next =>
        obtain ⟨σ', H', I', f', S', rfl, o⟩ := q
        exact ⟨σ', H', I', hq _ H' S'.kp (po_out E0 hA' (Hm := H') (r := .val .none) ⟨S'.er, .non⟩ S'.kp S'.dm o rfl)⟩
      | ret u =>
        obtain ⟨v', σ', H', I', rv, ⟨σ4, f4, r4, Hm, R, rfl, o⟩ | ⟨_, _, _, zz⟩⟩ := q
        · exact ⟨v', σ', H', I', rv, hq _ H' R.kp (po_out E0 hA' R.po R.kp R.dm o R.na)⟩
        · exact zz.elim
      | brk => obtain ⟨_, _, _, _, _, q⟩ := q; exact q.elim
      | cont => obtain ⟨_, _, _, _, _, q⟩ := q; exact q.elim
    · exact hx.elim
end
end A3
namespace A3
open PySem PySem.Spec PyProof.Rows L2

/-! ### defs by name -/
abbrev FnP (K : PySem.W.Frag) (x : Str) (st : Stmt) (dfl : List He.Dv) (f : Addr) (fd : FuncData) : Prop := FunD K x x (defArgs st) (defBody st) (defScope st) (dfl.map (He.Dv.v K)) [] f fd
def dvD : He.Dv → PyData
  | .bl b => .bool b
  | .int i => .int i
  | .str x => .str x
  | _ => .none
def dvS : He.Dv → Bool
  | .bl _ => true
  | .int _ => true
  | .str _ => true
  | .non => true
  | _ => false
theorem dv_rp {K : PySem.W.Frag} {S : Hp} {d : He.Dv} (h : dvS d = true) : Rp K S (d.v K) (dvD d) := by
  cases d with
  | bl b => exact .bl b
  | int i => exact .int i
  | str x => exact .str x
  | non => exact .non
  | _ => cases h
theorem dvs_rp {K : PySem.W.Frag} {S : Hp} : ∀ {ds : List He.Dv}, ds.all dvS = true → RpAll K S (ds.map (He.Dv.v K)) (ds.map dvD)
  | [], _ => .nil
  | d :: r, h => by
    have h2 : (dvS d && r.all dvS) = true := h
    obtain ⟨a, b⟩ := Bool.and_eq_true_iff.mp h2
    exact .cons (dv_rp a) (dvs_rp b)
/-- a def of the text, found by its name, with its promise and its last defaults -/
def FnT (K : PySem.W.Frag) (mg : Str → Option Value) (P : Program) (w : World) (base : Heap) (k : Nat) (x : Str) (ps : List Str) (ct : Ct) (cx : Cex) (dfl : List He.Dv) : Prop :=
  ∃ f fd, FnOk P w K mg base CX0 k f fd ps (Sp3 K ct cx) ∧ mg x = some (.ref f) ∧ PySem.W.keepIn K (.ref f) = true ∧ (∃ dvals, Binds K fd ps dvals ∧ Vals (dfl.map (He.Dv.v K)) dvals) ∧ dfl.all dvS = true
theorem FnT.fn {X : Cx} {P : Program} {w : World} {K : PySem.W.Frag} {mg : Str → Option Value} {base : Heap} {k : Nat} {x : Str} {ps : List Str} {ct : Ct} {cx : Cex} {dfl : List He.Dv} (h : FnT K mg P w base k x ps ct cx dfl)
    (h1 : X.prog = P) (h2 : X.w = w) (h3 : X.K = K) (h4 : X.mg = mg) (h5 : X.base = base) : ∃ f fd, Fn X CX0 k x f fd ps ct cx (dfl.map (He.Dv.v K)) (dfl.map dvD) := by
  obtain ⟨f, fd, a, b, c, d, e⟩ := h
  subst h1 h2 h3 h4 h5
  exact ⟨f, fd, a, b, c, d, fun S => dvs_rp e⟩
/-- a def without defaults left open -/
theorem FnT.mk0 {P : Program} {w : World} {K : PySem.W.Frag} {mg : Str → Option Value} {base : Heap} {k : Nat} {x : Str} {ps : List Str} {ct : Ct} {cx : Cex} {f : Addr} {fd : FuncData} (a : FnOk P w K mg base CX0 k f fd ps (Sp3 K ct cx)) (b : mg x = some (.ref f)) (c : PySem.W.keepIn K (.ref f) = true) (d : Binds K fd ps []) : FnT K mg P w base k x ps ct cx [] :=
  ⟨f, fd, a, b, c, ⟨[], d, .nil⟩, rfl⟩
/-! ### the module's constants -/
def KonT (K : PySem.W.Frag) (mg : Str → Option Value) (x : Str) (d : PyData) : Prop := ∃ v u, mg x = some u ∧ RelV v u ∧ ∀ H, Rp K H v d
theorem ae_kon {X : Cx} {x : Str} {pos : Pos} {fs : Fm} {d : PyData} (h : KonT X.K X.mg x d) (hg : Gl X x := by rfl) (hd : (x == ("__debug__" : Str)) = false := by decide) : AE X (.Name x pos) fs fs (.val d) := by
  obtain ⟨v, u, h1, h2, h3⟩ := h
  exact ae_const (pe_glob hg h1 h2 hd) fun S => h3 S
section
variable {K : PySem.W.Frag} {h : Heap} {mg : Str → Option Value}
theorem konT_int (X : K.In h) (G : h.Ns mainGlobals mg) {x : Str} {i : Int} (c : (He.Fa.int x i).ok K = true) : KonT K mg x (.int i) := by
  obtain ⟨t, e⟩ := He.int_ok X G c
  exact ⟨.int i, _, e, ⟨t, rfl⟩, fun _ => .int i⟩
theorem konT_str (X : K.In h) (G : h.Ns mainGlobals mg) {x z : Str} (c : (He.Fa.str x z).ok K = true) : KonT K mg x (.str z) := by
  obtain ⟨t, e⟩ := He.str_ok X G c
  exact ⟨.str z, _, e, ⟨t, rfl⟩, fun _ => .str z⟩
end
/-! ### the head's facts: defs, names, tuples of scalars -/
/-- an own class of errors that has an __init__ of its own -/
def oexB (K : PySem.W.Frag) (C : Addr) : Bool := match K.lookup C with
  | some ⟨.type t0, _, .cls cd, sl⟩ => decide (t0 = "type") && ((match sl.toList with
      | [_, _, _, _, some (.builtin n), _] => decide (n = "ValueError.__new__")
      | _ => false) && ((match cd.mro with
      | .ref D :: r => decide (D = C) && PySem.HandSPX.refsVE r
      | _ => false) && (cd.hasDict && !cd.hasDel)))
  | _ => false
def isValB : Option PySem.W.CFound → String → Bool
  | some (.val (.builtin n)), s => decide (n = s)
  | _, _ => false
inductive Ko where
  | tup (x : Str) (ds : List He.Dv)
  | isx (x : Str)
  | kit (x y : Str) (b : Bool)
  | kitb (x : Str) (t : String) (b : Bool)
  /-- an own __init__ that keeps a field | a class whose __init__ is ValueError's -/
  | oex (x f : Str)
  | tin (y : Str)
def konB (K : PySem.W.Frag) : Ko → Bool
  | .tup x ds => He.eqO (PySem.W.nsIn K mainGlobals x) (some (some (.ref (He.ga K x)))) && He.tupB K x ds
  | .isx x => decide (PySem.W.findIn K (.ref (He.ga K x)) "__getattribute__" = some (some (.builtin "BaseException.__getattribute__"))) && (decide (PySem.W.findIn K (.ref (He.ga K x)) "__getattr__" = some none) && (decide (PySem.W.subIn K (.ref (He.ga K x)) (.type "BaseException") = some true) && (PySem.W.hasDictIn K (He.ga K x) && (decide (PySem.W.findIn K (.ref (He.ga K x)) "__class__" = some (some (.builtin "object.__class__"))) && (decide (PySem.W.specialIn K (.builtin "object.__class__") "__get__" = some (some (.builtin "getset_descriptor.__get__"))) && (decide (PySem.W.takesIn K (.builtin "object.__class__") = some true) && decide (PySem.W.mroIn K (He.ga K x) (.type "object") = some true)))))))
  | .kit x y b => decide (PySem.W.kitOne K (.ref (He.ga K x)) (.ref (He.ga K y)) = some b)
  | .kitb x t b => decide (PySem.W.kitOne K (.ref (He.ga K x)) (.type t) = some b)
  | .oex x f => oexB K (He.ga K x) && (decide (PySem.W.findIn K (.ref (He.ga K x)) "__setattr__" = some (some (.builtin "object.__setattr__"))) && (decide (PySem.W.subIn K (.ref (He.ga K x)) (.type "BaseException") = some true) && (decide (PySem.W.typeIn K (.ref (He.ga K x)) = some (.type "type")) && (PySem.W.keepIn K (.ref (He.ga K x)) && (decide (PySem.W.findIn K (.ref (He.ga K x)) f = some none) && xfB K (He.ga K x))))))
  | .tin y => decide (PySem.W.specialIn K (.ref (He.ga K y)) "__getattribute__" = some (some (.builtin "type.__getattribute__"))) && (PySem.W.readsIn K (He.ga K y) (.type "type") && isValB (PySem.W.findCls K (.ref (He.ga K y)) (.type "type") "__init__") "ValueError.__init__")
abbrev AlC : Type := He.AlD × Bool
def obsC (fa : List He.Fa) (fn : List He.DefD) (ko : List Ko) (K : PySem.W.Frag) : AlC := (He.obsD fa fn K, ko.all (konB K))
def valC (fn : List He.DefD) : AlC := (He.valD fn, true)
def SaysC (fa : List He.Fa) (fn : List He.DefD) (ko : List Ko) (K : PySem.W.Frag) : Prop := obsC fa fn ko K = valC fn
def obsCG (n : Nat) (fa : List He.Fa) (fn : List He.DefD) (ko : List Ko) (g : Addr → Option Obj) : AlC := obsC fa fn ko (He.frG g (He.asD g n ++ [PySem.cStatics]))
def hookC (n : Nat) (fa : List He.Fa) (fn : List He.DefD) (ko : List Ko) : PySem.W.Hook where
  α := AlC
  obs := fun s => obsCG n fa fn ko s.heap.get?
  val := fun _ => valC fn
  says := fun _ h => ∃ K : PySem.W.Frag, K.In h ∧ SaysC fa fn ko K
  of := fun _ _ e => ⟨_, He.frG_in, e⟩
  keeps := fun _ _ _ ⟨K, hK, c⟩ k => ⟨K, PySem.W.Frag.In.keeps hK k, c⟩
theorem obsCG_eq {n : Nat} {fa : List He.Fa} {fn : List He.DefD} {ko : List Ko} {g : Addr → Option Obj} {s : Shared} (h : ∀ a, g a = s.heap.get? a) : obsCG n fa fn ko g = (hookC n fa fn ko).obs s := by
  have e : g = s.heap.get? := funext h
  rw [e] <;> rfl
section
variable {fa : List He.Fa} {fn : List He.DefD} {ko : List Ko} {K : PySem.W.Frag} {h : Heap} {mg : Str → Option Value}
theorem SaysC.d (c : SaysC fa fn ko K) : He.SaysD fa fn K := congrArg (fun z : AlC => z.1) c
theorem SaysC.tup (c : SaysC fa fn ko K) (i : Nat) {q : Ko} (h : ko[i]? = some q := by rfl) : konB K q = true :=
  List.all_eq_true.mp (show ko.all (konB K) = true from congrArg (fun z : AlC => z.2) c) q (List.mem_of_getElem? h)
theorem konT_tup (X : K.In h) (G : h.Ns mainGlobals mg) {x : Str} {ds : List He.Dv} (c : konB K (.tup x ds) = true) (a : ds.all dvS = true) : KonT K mg x (.tuple (ds.map dvD)) := by
  obtain ⟨c1, c2⟩ := Bool.and_eq_true_iff.mp c
  exact ⟨.ref (He.ga K x), _, PySem.W.mg_of X G (He.eqO_ok c1), rfl, fun H => .tup (He.tupB_ok c2 H) (dvs_rp a)⟩
end
/-! ### the law's own promise -/
theorem law_sp3 {K : PySem.W.Frag} {H : Hp} {a : Addr} {ns : List Int} {ct : Ct} (h : ∀ ns : List Int, ns.length ≤ 63 → ct [.dat (.list (ns.map .int))] [.dat (.list (ns.map .int))] (.val (.bool true))) (hl : ns.length ≤ 63) (hS : SqL K H a (ns.map V.int)) :
    Sp3 K ct nox [.ref a] H (fun v _ => v = .bl true) fun _ _ _ => False := by
  refine ⟨fun _ => false, [.dat (.list (ns.map .int))], ⟨Nat.le_refl _, fun i s e => ?_, List.nodup_nil, fun a h => (by simp [ownL] at h), fun b h => (by cases h)⟩, rfl, .inl ⟨_, _, h ns hl, rfl, fun v H' _ p => p.2.bl_inv⟩⟩
  cases i with
  | zero =>
    cases Option.some.inj e
    refine ⟨some (.ref a), fun _ => rfl, .lst (sqL_same (fun b o hb => cut_of ?_ hb) hS) (RpAll.ints ns)⟩
    simp [tt, ownL]
  | succ i => simp at e
/-! ### ways that meet -/
section
variable {X : Cx} {sts rest A B : List Stmt} {c : Cf} {D D' : D3} {fs f1 : Fm} {t : Expr} {bb : Bool} {pos : Pos}
theorem AS.mono (h : AS X sts c fs D) (hn : ∀ f, D.nx f → D'.nx f) (hr : ∀ f r, D.rt f r → D'.rt f r) (hb : ∀ f, D.bk f → D'.bk f) (hc : ∀ f, D.ct f → D'.ct f) (hm : ∀ f v, D.rm f v → D'.rm f v := by exact fun _ _ h => h) : AS X sts c fs D' := fun σ H S pins s I => by
  refine thn (h σ H S pins s I) fun fl s' q => ?_
  cases fl with
  | next => obtain ⟨σ', H', I', f, S', q⟩ := q; exact ⟨σ', H', I', f, S', hn f q⟩
  | brk => obtain ⟨σ', H', I', f, S', q⟩ := q; exact ⟨σ', H', I', f, S', hb f q⟩
  | cont => obtain ⟨σ', H', I', f, S', q⟩ := q; exact ⟨σ', H', I', f, S', hc f q⟩
  | ret u =>
    obtain ⟨v, σ', H', I', rv, ⟨σ4, f4, r4, Hm, R, q⟩ | ⟨σ4, f4, S4, q⟩⟩ := q
    · exact ⟨v, σ', H', I', rv, .inl ⟨σ4, f4, r4, Hm, R, hr f4 r4 q⟩⟩
    · exact ⟨v, σ', H', I', rv, .inr ⟨σ4, f4, S4, hm f4 v q⟩⟩
end
end A3
namespace A3
open PySem PySem.Spec PyProof.Rows L2
section
variable {X : Cx} {a b c : Expr} {es : List Expr} {fs f1 f2 f3 : Fm} {d d1 d2 d3 : PyData} {ds ds2 : List PyData} {r r1 r2 : Res} {pos p2 : Pos} {T : Addr → Bool} {σ : L2.St} {H : Hp} {i j : Int}

/-! ### ways that are cut short -/
theorem aw_orT {rest : List Expr} (ha : AT X a fs f1 true) : AW X (.BoolOp .Or (a :: b :: rest) pos) fs f1 true :=
  ⟨ha.ow, fun T σ H Q E q => bW_of (pw_or bestT bestW) (ha.run T σ H _ E fun H1 k p => q H1 k p)⟩
theorem ae_andF {rest : List Expr} (ha : AE X a fs f1 (.val (.bool false))) : AE X (.BoolOp .And (a :: b :: rest) pos) fs f1 (.val (.bool false)) :=
  ⟨ha.ow, fun T σ H Q E q => bE_of (pe_and best best) (ha.run T σ H _ E fun v H1 k p => ⟨false, p.2.bl_inv, q _ H1 k ⟨p.1, .bl false⟩⟩)⟩
theorem aw_orF {rest : List Expr} {y : Bool} (ha : AT X a fs f1 false) (hb : AW X (.BoolOp .Or (b :: rest) pos) f1 f2 y) : AW X (.BoolOp .Or (a :: b :: rest) pos) fs f2 y := by
  have h := aw_or (pos := pos) ha (fun _ => hb) (fun z => by cases z)
  rw [Bool.false_or] at h; exact h
theorem ae_isb {x y : Bool} (h : AE X a fs f1 (.val (.bool x))) (e : x = y) : AE X a fs f1 (.val (.bool y)) := by rw [← e]; exact h
theorem at_is {t : Expr} {x y : Bool} (h : AT X t fs f1 x) (e : x = y) : AT X t fs f1 y := by rw [← e]; exact h

/-! ### lists made of lists -/
theorem rlist (p : Po X.K T σ H0 H f1 v (.new (.list ds))) : ∃ l vs, v = .ref l ∧ H l = some (.lst vs) ∧ RpAll X.K (cut H (tt T (ownL f1))) vs ds ∧ H0 l = none := by
  obtain ⟨l, rfl, n, E, vs, h1, h2⟩ := p
  exact ⟨l, vs, rfl, h1, h2.mono (cut_same fun b o e z => ⟨e, hide_same H l b o z⟩), n⟩
theorem rlistA {l : Addr} (p : Po X.K T σ H0 H f1 v (.at l (.list ds))) : ∃ vs, v = .ref l ∧ H l = some (.lst vs) ∧ RpAll X.K (cut H (tt T (ownL f1))) vs ds := by
  obtain ⟨E, rfl, n, hn⟩ := p
  obtain ⟨vs, h1, h2⟩ := (E.own hn).2
  exact ⟨vs, rfl, h1, h2⟩
/-- a list that is at hand: new, or owned -/
def Hand : Res → Prop
  | .val _ => False
  | _ => True
theorem rhand (hh : Hand r) (e : r.d = .list ds) (p : Po X.K T σ H0 H f1 v r) : ∃ l vs, v = .ref l ∧ H l = some (.lst vs) ∧ RpAll X.K (cut H (tt T (ownL f1))) vs ds := by
  cases r with
  | val d => exact hh.elim
  | new d =>
    cases (show d = .list ds from e)
    obtain ⟨l, vs, a, b, c, _⟩ := rlist p
    exact ⟨l, vs, a, b, c⟩
  | two dA dB => exact absurd e (by intro z; cases z)
  | tw dA dB => exact absurd e (by intro z; cases z)
  | «at» l d =>
    cases (show d = .list ds from e)
    obtain ⟨vs, a, b, c⟩ := rlistA p
    exact ⟨l, vs, a, b, c⟩
/-- xs + ys; where the left one is owned, the right one leaves it -/
theorem ae_addL (ha : AE X a fs f1 r1) (hb : AE X b f1 f2 r2) (e1 : r1.d = .list ds := by rfl) (e2 : r2.d = .list ds2 := by rfl) (h1 : Hand r1 := by trivial) (h2 : Hand r2 := by trivial)
    (st : ∀ l d, r1 = .at l d → f2 = f1 := by intro _ _ _; rfl) (hz : ds.length + ds2.length ≤ 100000 := by first | exact Nat.le_of_ble_eq_true rfl | omega | (simp; omega)) : AE X (.BinOp a .Add b pos) fs f2 (.new (.list (ds ++ ds2))) := by
  refine ⟨hb.ow.trans ha.ow, fun T σ H Q E q => bE_of (pe_op op_cat best best) (ha.run T σ H _ E fun x H1 k1 p1 => hb.run T σ H1 _ p1.er fun y H2 k2 p2 => ?_)⟩
  have k2' : Kp H1 H2 (ownL fs) := by rw [ha.ow] at k2; exact k2
  obtain ⟨m, ws, rfl, hm, qw⟩ := rhand h2 e2 p2
  have left : ∃ l vs, x = .ref l ∧ H2 l = some (.lst vs) ∧ RpAll X.K (cut H2 (tt T (ownL f2))) vs ds := by
    cases r1 with
    | val d => exact h1.elim
    | new d =>
      cases (show d = .list ds from e1)
      obtain ⟨l, vs, rfl, hl, qv, n⟩ := rlist p1
      have fr : l ∉ ownL f1 := fun z => by
        obtain ⟨l', e, _, E1, _⟩ := p1
        cases e
        exact (tt_false.mp (E1.free (hide_self H1 l))).2 z
      exact ⟨l, vs, rfl, k2 l _ fr hl, qv.mono (k2.up hb.ow)⟩
    | two dA dB => exact absurd e1 (by intro z; cases z)
    | tw dA dB => exact absurd e1 (by intro z; cases z)
    | «at» l d =>
      cases (show d = .list ds from e1)
      have ef := st l _ rfl
      subst ef
      obtain ⟨E1, rfl, n, hn⟩ := p1
      obtain ⟨vs, g1, g2⟩ := (p2.er.own hn).2
      exact ⟨l, vs, rfl, g1, g2⟩
  obtain ⟨l, vs, rfl, hl, qv⟩ := left
  refine ⟨l, m, vs, ws, rfl, rfl, hl, hm, by rw [qv.length, qw.length]; exact Nat.le_trans hz (by rw [sizeLine_eq]; decide), fun p n => ?_⟩
  exact q _ _ ((k1.trans k2').trans (Kp.of (same_upd n))) (po_lst p2.er (k1.trans k2') (hb.ow.trans ha.ow) n (qv.app qw))
/-- xs[lo:hi] of a list, a tuple -/
def cutD (xs : List PyData) (lo hi : Option Int) : List PyData := (xs.drop (HT.sIx xs.length 0 lo)).take (HT.sIx xs.length xs.length hi - HT.sIx xs.length 0 lo)
theorem RpAll.cut {K : PySem.W.Frag} {S : Hp} {vs : List V} (q : RpAll K S vs ds) (lo hi : Option Int) : RpAll K S (cutV vs lo hi) (cutD ds lo hi) := by
  unfold cutV cutD
  rw [q.length]
  exact (q.drop _).take _
/-- a slice's part -/
structure AO (X : Cx) (e : Option Expr) (fs : Fm) (o : Option Int) : Prop where
  ex : ∃ t : TO, PO X e t ∧ ∀ (T : Addr → Bool) (σ : L2.St) (H : Hp) (Q : Option Int → Hp → Prop), ER X.K T σ H fs → (∀ H', Kp H H' (ownL fs) → ER X.K T σ H' fs → Q o H') → t σ H Q
theorem ao_none : AO X none fs none := ⟨_, po_none, fun T σ H Q E q => q H (Kp.refl _ _) E⟩
theorem ao_some (h : AE X a fs fs (.val (.int i))) : AO X (some a) fs (some i) := ⟨_, po_some best, fun T σ H Q E q => h.run T σ H _ E fun v H' k p => ⟨i, p.2.int_inv, q H' k p.1⟩⟩
theorem ae_sliceL {lo hi : Option Expr} {l h : Option Int} (ha : AE X a fs f1 r) (e : r.d = .list ds) (hl : AO X lo f1 l) (hh : AO X hi f1 h) : AE X (.Subscript a (.Slice lo hi none p2) pos) fs f1 (.new (.list (cutD ds l h))) := by
  obtain ⟨tl, pl, gl⟩ := hl
  obtain ⟨th, ph, gh⟩ := hh
  refine ⟨ha.ow, fun T σ H Q E q => bE_of (pe_slice sl_list best pl ph) (ha.run T σ H _ E fun x H1 k1 p1 => gl T σ H1 _ p1.er fun H2 k2 E2 => gh T σ H2 _ E2 fun H3 k3 E3 => ?_)⟩
  have k13 : Kp H1 H3 (ownL f1) := k2.trans k3
  have k : Kp H H3 (ownL fs) := k1.trans (by rw [ha.ow] at k13; exact k13)
  have left : ∃ l vs, x = .ref l ∧ SqL X.K H3 l vs ∧ RpAll X.K (cut H3 (tt T (ownL f1))) vs ds := by
    cases r with
    | val d =>
      cases (show d = .list ds from e)
      obtain ⟨l, vs, rfl, s, qv⟩ := p1.2.lst_inv
      exact ⟨l, vs, rfl, sqL_same (cut_all _ _) (sqL_same (k13.up rfl) s), qv.mono (k13.up rfl)⟩
    | new d =>
      cases (show d = .list ds from e)
      obtain ⟨l, vs, rfl, s, qv⟩ := p1.toVal.2.lst_inv
      exact ⟨l, vs, rfl, sqL_same (cut_all _ _) (sqL_same (k13.up rfl) s), qv.mono (k13.up rfl)⟩
    | two dA dB => exact absurd e (by intro z; cases z)
    | tw dA dB => exact absurd e (by intro z; cases z)
    | «at» l d =>
      cases (show d = .list ds from e)
      obtain ⟨E1, rfl, n, hn⟩ := p1
      obtain ⟨vs, g1, g2⟩ := (E3.own hn).2
      exact ⟨l, vs, rfl, SqL.of g1, g2⟩
  obtain ⟨l, vs, rfl, s, qv⟩ := left
  exact ⟨l, vs, rfl, s, fun p n => q _ _ (k.trans (Kp.of (same_upd n))) (po_lst E3 k ha.ow n (qv.cut _ _))⟩
/-- list(xs), list(t) -/
def seqD : PyData → Option (List PyData)
  | .list ds => some ds
  | .tuple ds => some ds
  | _ => none
theorem ae_list {p : Pos} (ha : AE X a fs f1 r) (e : seqD r.d = some ds) (hg : Gl X "list") (hm : X.mg "list" = none) (he : starEach [a] X.env = (false, eval a X.env) :: starEach [] X.env := by rfl) : AE X (.Call (.Name "list" p) [a] [] pos) fs f1 (.new (.list ds)) := by
  refine ⟨ha.ow, fun T σ H Q E q => bE_of (pe_callTy call_list_of hg hm (by decide +kernel) (pa_cons best pa_nil he) (he := he)) (ha.run T σ H _ E fun x H1 k1 p1 => ?_)⟩
  have fin : ∀ l vs, (SqL X.K H1 l vs ∨ SqT X.K H1 l vs) → RpAll X.K (cut H1 (tt T (ownL f1))) vs ds → x = .ref l → (∃ p ys, [x] = [V.ref p] ∧ (SqL X.K H1 p ys ∨ SqT X.K H1 p ys) ∧ ∀ l, H1 l = none → Q (.ref l) (upd H1 l (.lst ys))) := fun l vs s qv ex =>
    ⟨l, vs, by rw [ex], s, fun p n => q _ _ (k1.trans (Kp.of (same_upd n))) (po_lst p1.er k1 ha.ow n qv)⟩
  cases hd : r.d with
  | list es =>
    rw [hd] at e
    cases (show some es = some ds from e)
    obtain ⟨l, vs, ex, s, qv⟩ := p1.list hd
    exact fin l vs (.inl s) qv ex
  | tuple es =>
    rw [hd] at e
    cases (show some es = some ds from e)
    cases r with
    | val d =>
      cases (show d = .tuple ds from hd)
      obtain ⟨l, vs, ex, s, qv⟩ := p1.tuple
      exact fin l vs (.inr s) qv ex
    | new d =>
      cases (show d = .tuple ds from hd)
      obtain ⟨_, _, _, _, w⟩ := p1
      exact w.elim
    | two dA dB =>
      cases (show PyData.tuple [dA, dB] = .tuple ds from hd)
      obtain ⟨l, vs, ex, s, qv⟩ := (Po.pairVal p1).tuple
      exact fin l vs (.inr s) qv ex
    | tw dA dB =>
      cases (show PyData.tuple [dA, dB] = .tuple ds from hd)
      obtain ⟨l, vs, ex, s, qv⟩ := (Po.twVal p1).tuple
      exact fin l vs (.inr s) qv ex
    | «at» l d =>
      cases (show d = .tuple ds from hd)
      obtain ⟨E1, _, n, hn⟩ := p1
      exact ((E1.own hn).2).elim
  | _ => rw [hd] at e; cases e

/-! ### == and != of data -/
mutual
theorem Rp.dp {K : PySem.W.Frag} {S : Hp} : ∀ (d : PyData) (v : V), Rp K S v d → d.canLay0 = true → Dp K S v d
  | .none, _, h, _ => by cases h; exact .non
  | .bool b, _, h, _ => by cases h; exact .bl b
  | .int i, _, h, _ => by cases h; exact .int i
  | .str x, _, h, _ => by cases h; exact .str x
  | .list ds, _, h, c => by
    cases h with
    | lst s q => exact .lst s (RpAll.dp ds _ q (by simpa only [PyData.canLay0] using c))
  | .tuple ds, _, h, c => by
    cases h with
    | tup s q => exact .tup s (RpAll.dp ds _ q (by simpa only [PyData.canLay0] using c))
  | .dict _, _, _, c => by simp [PyData.canLay0] at c
theorem RpAll.dp {K : PySem.W.Frag} {S : Hp} : ∀ (ds : List PyData) (vs : List V), RpAll K S vs ds → PyData.canLayAll0 ds = true → DpAll K S vs ds
  | [], _, h, _ => by cases h; exact .nil
  | d :: ds, _, h, c => by
    cases h with
    | cons a b =>
      have c' : d.canLay0 = true ∧ PyData.canLayAll0 ds = true := by simpa only [PyData.canLayAll0, Bool.and_eq_true] using c
      exact .cons (Rp.dp d _ a c'.1) (RpAll.dp ds _ b c'.2)
end
theorem c_eqD (hu : X.A.units + 64 < cLine) (h1 : SeqAt.shaped d1 = true) (h2 : SeqAt.shaped r2.d = true) : CmpA X .Eq b f2 d1 r2 (PyData.eqv d1 r2.d) :=
  ⟨_, op_eqD hu, nomark _, fun T σ H1 H2 x y Q rx p q => ⟨d1, r2.d, Rp.dp _ _ (rx.mono (cut_all _ _)) (SeqAt.canLay_of_shaped h1), Rp.dp _ _ p.rp (SeqAt.canLay_of_shaped h2), h1, h2, q⟩⟩
theorem c_neD (hu : X.A.units + 64 < cLine) (h1 : SeqAt.shaped d1 = true) (h2 : SeqAt.shaped r2.d = true) : CmpA X .NotEq b f2 d1 r2 (!PyData.eqv d1 r2.d) :=
  ⟨_, op_neD hu, nomark _, fun T σ H1 H2 x y Q rx p q => ⟨d1, r2.d, Rp.dp _ _ (rx.mono (cut_all _ _)) (SeqAt.canLay_of_shaped h1), Rp.dp _ _ p.rp (SeqAt.canLay_of_shaped h2), h1, h2, q⟩⟩
/-! isinstance of data that isn't known -/
def isI : PyData → Bool
  | .int _ => true
  | .bool _ => true
  | _ => false
def isB : PyData → Bool
  | .bool _ => true
  | _ => false
def isT : PyData → Bool
  | .tuple _ => true
  | _ => false
def isL : PyData → Bool
  | .list _ => true
  | _ => false
def isS : PyData → Bool
  | .str _ => true
  | _ => false
theorem kit_int (d : PyData) : kitB (tyD d) "int" = some (isI d) := by cases d <;> rfl
theorem kit_bool (d : PyData) : kitB (tyD d) "bool" = some (isB d) := by cases d <;> rfl
theorem kit_tuple (d : PyData) : kitB (tyD d) "tuple" = some (isT d) := by cases d <;> rfl
theorem kit_list (d : PyData) : kitB (tyD d) "list" = some (isL d) := by cases d <;> rfl
theorem kit_str (d : PyData) : kitB (tyD d) "str" = some (isS d) := by cases d <;> rfl
end
end A3
namespace A3
open PySem PySem.Spec PyProof.Rows L2
/-! ### comprehensions -/
def wipeF (fs : Fm) : List Nat → Fm
  | [] => fs
  | v :: vs => (wipeF fs vs).set v .no
theorem wipe_len (σ : L2.St) : ∀ vs : List Nat, (wipe σ vs).length = σ.length
  | [] => rfl
  | v :: vs => by unfold wipe; rw [List.length_set, wipe_len σ vs]
theorem wipe_get (σ : L2.St) : ∀ (vs : List Nat) (i : Nat), (wipe σ vs)[i]? = if i ∈ vs then (σ[i]?).map fun _ => none else σ[i]?
  | [], i => by simp [wipe]
  | v :: vs, i => by
    unfold wipe
    by_cases e : v = i
    · subst e
      rw [if_pos List.mem_cons_self]
      by_cases l : v < σ.length
      · rw [List.getElem?_set_self (by rw [wipe_len]; exact l), List.getElem?_eq_getElem l]; rfl
      · rw [List.getElem?_eq_none (by rw [List.length_set, wipe_len]; omega), List.getElem?_eq_none (by omega)]; rfl
    · rw [List.getElem?_set_ne e, wipe_get σ vs i]
      have : (i ∈ v :: vs) ↔ i ∈ vs := by
        rw [List.mem_cons]
        exact ⟨fun h => h.elim (fun z => absurd z.symm e) id, .inr⟩
      by_cases m : i ∈ vs
      · rw [if_pos m, if_pos (this.mpr m)]
      · rw [if_neg m, if_neg (fun z => m (this.mp z))]
theorem wipe_set {σ : L2.St} {vs : List Nat} {n : Nat} {x : Option V} (h : n ∈ vs) : wipe (σ.set n x) vs = wipe σ vs := by
  apply List.ext_getElem?
  intro i
  rw [wipe_get, wipe_get]
  by_cases m : i ∈ vs
  · rw [if_pos m, if_pos m]
    by_cases e : n = i
    · subst e
      by_cases l : n < σ.length
      · rw [List.getElem?_set_self l, List.getElem?_eq_getElem l]; rfl
      · rw [List.getElem?_eq_none (by rw [List.length_set]; omega), List.getElem?_eq_none (by omega)]
    · rw [List.getElem?_set_ne e]
  · rw [if_neg m, if_neg m, List.getElem?_set_ne (fun e => m (by rw [← e]; exact h))]
theorem er_no {K : PySem.W.Frag} {T : Addr → Bool} {σ : L2.St} {H : Hp} {fs : Fm} {n : Nat} (E : ER K T σ H fs) : ER K T (σ.set n none) H (fs.set n .no) := E.setS rfl trivial
theorem er_wipe {K : PySem.W.Frag} {T : Addr → Bool} {σ : L2.St} {H : Hp} {fs : Fm} (E : ER K T σ H fs) : ∀ vs : List Nat, ER K T (wipe σ vs) H (wipeF fs vs)
  | [] => E
  | v :: vs => er_no (er_wipe E vs)
/-- the outer frame behind a comprehension: what it owned stands as the block left it -/
structure BackR (f1 g f2 : Fm) : Prop where
  len : f2.length = f1.length
  own : ownL f2 = ownL f1
  sl : ∀ (i : Nat) (s : Slot), f2[i]? = some s → s = .no ∨ (adr s = none ∧ f1[i]? = some s) ∨ ∃ a u, adr s = some a ∧ g[i]? = some s ∧ f1[i]? = some u ∧ adr u = some a
theorem er_back {K : PySem.W.Frag} {T : Addr → Bool} {σ τ : L2.St} {H1 H : Hp} {f1 g f2 : Fm} (E1 : ER K T σ H1 f1) (E : ER K T τ H g) (k : Kp H1 H (ownL f1)) (og : ownL g = ownL f1) (b : BackR f1 g f2) : ER K T σ H f2 where
  len := b.len ▸ E1.len
  sl := fun i s h => by
    rcases b.sl i s h with rfl | ⟨e, h1⟩ | ⟨a, u, e, hg, h1, e1⟩
    · exact ⟨(σ[i]?).getD none, fun l => by rw [List.getElem?_eq_getElem l]; rfl, by cases (σ[i]?).getD none <;> trivial⟩
    · obtain ⟨ov, h2, h3⟩ := E1.sl i _ h1
      exact ⟨ov, h2, h3.mono (k.up b.own) fun a z => by rw [e] at z; cases z⟩
    · obtain ⟨ov, h2, h3⟩ := E1.sl i _ h1
      obtain ⟨e2, _⟩ := h3.adr e1
      obtain ⟨ov2, h4, h5⟩ := E.sl i _ hg
      obtain ⟨e3, _⟩ := h5.adr e
      refine ⟨ov, h2, ?_⟩
      rw [b.own, ← og, e2, ← e3]; exact h5
  nd := by rw [b.own]; exact E1.nd
  out := fun a h => E1.out a (by rw [← b.own]; exact h)
  dom := E.dom
/-- a new object is no longer anybody's to write -/
def with1 (T : Addr → Bool) (D : Addr) : Addr → Bool := fun b => T b || decide (b = D)
theorem with1_cut {T : Addr → Bool} {D : Addr} {l : List Addr} {H : Hp} : cut H (tt (with1 T D) l) = cut (hide H D) (tt T l) := by
  funext b
  unfold cut tt with1 hide cut
  by_cases e : b = D
  · subst e; simp
  · simp [e]
theorem er_with {K : PySem.W.Frag} {T : Addr → Bool} {τ : L2.St} {H : Hp} {g : Fm} {D : Addr} (E : ER K T τ (hide H D) g) (h : H D ≠ none) : ER K (with1 T D) τ H g where
  len := E.len
  sl := fun i s e => by
    obtain ⟨ov, h1, h2⟩ := E.sl i s e
    refine ⟨ov, h1, ?_⟩
    rw [with1_cut]
    refine h2.mono (fun _ _ z => z) fun a q => ?_
    obtain ⟨o, ho⟩ := (h2.adr q).2
    exact (hide_ne (fun z => by rw [z, hide_self] at ho; cases ho)).symm
  nd := E.nd
  out := fun a m => by
    have h1 := E.out a m
    unfold with1
    rw [h1]
    simp only [Bool.false_or]
    refine decide_eq_false fun z => ?_
    obtain ⟨o, ho⟩ := E.thereL m
    rw [z, hide_self] at ho; cases ho
  dom := fun b m => by
    unfold with1 at m
    rcases Bool.or_eq_true_iff.mp m with m | m
    · intro z
      refine E.dom b m ?_
      by_cases e : b = D
      · rw [e, hide_self]
      · rw [hide_ne e]; exact z
    · rw [of_decide_eq_true m]; exact h
theorem er_unwith {K : PySem.W.Frag} {T : Addr → Bool} {τ : L2.St} {H : Hp} {g : Fm} {D : Addr} (E : ER K (with1 T D) τ H g) (f : T D = false) : ER K T τ (hide H D) g where
  len := E.len
  sl := fun i s e => by
    obtain ⟨ov, h1, h2⟩ := E.sl i s e
    refine ⟨ov, h1, ?_⟩
    rw [with1_cut] at h2
    refine h2.mono (fun _ _ z => z) fun a q => ?_
    exact hide_ne fun z => by
      have := E.out a (mem_ownL.mpr ⟨i, s, e, q⟩)
      rw [z] at this
      simp [with1] at this
  nd := E.nd
  out := fun a m => by
    have := E.out a m
    unfold with1 at this
    exact (Bool.or_eq_false_iff.mp this).1
  dom := fun b m => by
    have e : b ≠ D := fun z => by rw [z, f] at m; cases m
    rw [hide_ne e]
    exact E.dom b (by unfold with1; rw [m]; rfl)

section
variable {X : Cx} {a b e elt tg iter : Expr} {es ifs : List Expr} {sts rest : List Stmt} {c : Cf} {D3' : D3} {fs f1 f2 f3 g1 g2 : Fm} {d d1 d2 : PyData} {ds : List PyData} {r : Res} {pos pos' spos : Pos} {T : Addr → Bool} {σ : L2.St} {H : Hp} {x : Str} {v : V} {scope : Scope} {own : List (Str × Nat)}
abbrev BX (X : Cx) (scope : Scope) (s : Shared) (H : Hp) (C : Addr) (cl : List (Str × Addr)) (fp : List Addr) : Cx := X.blk s H scope (compEnvC scope cl C X.env) fp
/-- a target within a block: it stores only the block's own names -/
structure AGC (X : Cx) (vs : List Nat) (tg : Expr) (d : PyData) (fs fs' : Fm) : Prop where
  ow : ownL fs' = ownL fs
  run : ∀ (T : Addr → Bool) (σ : L2.St) (H : Hp) (v : V) (Q : L2.St → Hp → Prop), ER X.K T σ H fs → Rp X.K (cut H (tt T (ownL fs))) v d → (∀ σ', ER X.K T σ' H fs' → wipe σ' vs = wipe σ vs → Q σ' H) → bG X tg v σ H Q
structure AGCs (X : Cx) (vs : List Nat) (ts : List Expr) (ds : List PyData) (fs fs' : Fm) : Prop where
  ow : ownL fs' = ownL fs
  run : ∃ t : TGs, PGs X ts t ∧ ∀ (T : Addr → Bool) (σ : L2.St) (H : Hp) (ws : List V) (Q : L2.St → Hp → Prop), ER X.K T σ H fs → RpAll X.K (cut H (tt T (ownL fs))) ws ds → (∀ σ', ER X.K T σ' H fs' → wipe σ' vs = wipe σ vs → Q σ' H) → t ws σ H Q
theorem agc_name {vs : List Nat} (n : Nat) (hN : X.N.Nodup) (hv : n ∈ vs := by decide) (ho : ownL (fs.set n (.dat d)) = ownL fs := by rfl) (hi : X.N[n]? = some x := by rfl) (hx : Loc X.env.scope x := by first | exact .inl rfl | exact .inr rfl) (hf : X.fn x = true ∨ X.env.scope.names.lookup x = some .local := by first | exact .inl rfl | exact .inr rfl) : AGC X vs (.Name x pos) d fs (fs.set n (.dat d)) :=
  ⟨ho, fun T σ H v Q E r q => bG_of (pg_name hN hi hx hf) (q _ (E.setDat r) (wipe_set hv))⟩
/-- the tests -/
def bI (X : Cx) (ifs : List Expr) : TT := fun σ H Q => ∀ pins s, Inv X pins σ H s → wpAny (model X.prog X.w) X.A (forIn ifs true fun c r => if r = true then do let ok ← isTrue c X.env (eval c X.env); pure (ForInStep.yield ok) else pure (ForInStep.yield r)) (TP X pins σ Q) X.xe s
theorem bI_of {t : TT} {Q : Bool → Hp → Prop} (p : PTs X ifs t) (h : t σ H Q) : bI X ifs σ H Q := fun pins s I => p.run pins s σ H Q I h
structure AI (X : Cx) (ifs : List Expr) (fs fs' : Fm) (bb : Bool) : Prop where
  ow : ownL fs' = ownL fs
  run : ∀ (T : Addr → Bool) (σ : L2.St) (H : Hp) (Q : Bool → Hp → Prop), ER X.K T σ H fs → (∀ H', Kp H H' (ownL fs) → ER X.K T σ H' fs' → Q bb H') → bI X ifs σ H Q
theorem ai_nil : AI X [] fs fs true := ⟨rfl, fun T σ H Q E q => bI_of pts_nil (q H (Kp.refl _ _) E)⟩
/-- one turn: what is kept (none: the tests say no) -/
def TurnC (X : Cx) (scope : Scope) (vs : List Nat) (tg : Expr) (ifs : List Expr) (elt : Expr) (d : PyData) (f g : Fm) (y : Option PyData) : Prop :=
  ∃ g1 g2 bb, (∀ s H C cl fp, AGC (BX X scope s H C cl fp) vs tg d f g1) ∧ (∀ s H C cl fp, AI (BX X scope s H C cl fp) ifs g1 g2 bb) ∧
    (bb = true → ∃ g3 z, (∀ s H C cl fp, AE (BX X scope s H C cl fp) elt g2 g3 (.val z)) ∧ y = some z ∧ wipeF g3 vs = g) ∧ (bb = false → y = none ∧ wipeF g2 vs = g)
/-- no test -/
theorem turnC1 {vs : List Nat} {g : Fm} (hg : ∀ s H C cl fp, AGC (BX X scope s H C cl fp) vs tg d f1 f2) (he : ∀ s H C cl fp, AE (BX X scope s H C cl fp) elt f2 f3 (.val d1)) (hw : wipeF f3 vs = g := by rfl) : TurnC X scope vs tg [] elt d f1 g (some d1) :=
  ⟨f2, f2, true, hg, fun _ _ _ _ _ => ai_nil, fun _ => ⟨f3, d1, he, rfl, hw⟩, fun z => by cases z⟩
/-- the readings of a block, whatever block it is -/
def gB (X : Cx) (scope : Scope) (tg : Expr) : TG := fun v σ H Q => ∀ s H0 C cl fp, bG (BX X scope s H0 C cl fp) tg v σ H Q
def iB (X : Cx) (scope : Scope) (ifs : List Expr) : TT := fun σ H Q => ∀ s H0 C cl fp, bI (BX X scope s H0 C cl fp) ifs σ H Q
def eB (X : Cx) (scope : Scope) (elt : Expr) : TE := fun σ H Q => ∀ s H0 C cl fp, bE (BX X scope s H0 C cl fp) elt σ H Q
theorem gB_ok (s : Shared) (H0 : Hp) (C : Addr) (cl : List (Str × Addr)) (fp : List Addr) : PG (BX X scope s H0 C cl fp) tg (gB X scope tg) := ⟨fun pins s' _ _ _ u _ I r h => h s H0 C cl fp pins s' u I r⟩
theorem iB_ok (s : Shared) (H0 : Hp) (C : Addr) (cl : List (Str × Addr)) (fp : List Addr) : PTs (BX X scope s H0 C cl fp) ifs (iB X scope ifs) := ⟨fun pins s' _ _ _ I h => h s H0 C cl fp pins s' I⟩
theorem eB_ok (s : Shared) (H0 : Hp) (C : Addr) (cl : List (Str × Addr)) (fp : List Addr) : PE (BX X scope s H0 C cl fp) elt (eB X scope elt) := ⟨fun pins s' _ _ _ I h => h s H0 C cl fp pins s' I⟩
/-- what a comprehension makes, from turn to turn -/
def madeC (y : Nat → Option PyData) (i : Nat) : List PyData := (List.range i).filterMap y
theorem madeC_succ (y : Nat → Option PyData) (i : Nat) : madeC y (i + 1) = madeC y i ++ (y i).toList := by
  unfold madeC
  rw [List.range_succ, List.filterMap_append]
  cases h : y i <;> simp [h]
theorem madeC_len (y : Nat → Option PyData) (i : Nat) : (madeC y i).length ≤ i := by
  induction i with
  | zero => simp [madeC]
  | succ i ih =>
    rw [madeC_succ, List.length_append]
    have : (y i).toList.length ≤ 1 := by cases y i <;> simp
    omega
/-- the walk of a comprehension -/
theorem comp_core {vs : List Nat} {J : It} {F : Nat → Fm} {y : Nat → Option PyData} {D : Addr} {Q : VK} (E1 : ER X.K T σ H f1) (nD : H D = none) (hz : ds.length ≤ 100000) (F0 : F 0 = wipeF f1 vs) (Fo : ∀ i, ownL (F i) = ownL f1)
    (hgo : ∀ G, Same (cut H fun b => decide (b ∈ ownL f1)) G → ∀ k, k < ds.length → J.go k G) (hst : ∀ G, Same (cut H fun b => decide (b ∈ ownL f1)) G → J.stop ds.length G)
    (hy : ∀ G, Same (cut H fun b => decide (b ∈ ownL f1)) G → ∀ k w G', k < ds.length → J.yld k G w G' → Same G G' ∧ ∃ d, ds[k]? = some d ∧ ∀ (T' : Addr → Bool) (τ : L2.St) (f : Fm), ER X.K T' τ G f → ownL f = ownL f1 → (∀ b, T' b = true → T b = true ∨ H b = none) → Rp X.K (cut G' (tt T' (ownL f))) w d)
    (hs : ∀ i d, ds[i]? = some d → TurnC X scope vs tg ifs elt d (F i) (F (i + 1)) (y i))
    (hq : ∀ H', Kp H H' (ownL f1) → ER X.K (with1 T D) (wipe σ vs) H' (F ds.length) → (∃ acc, H' D = some (.lst acc) ∧ RpAll X.K (cut H' (tt (with1 T D) (ownL f1))) acc (madeC y ds.length)) → Q (.ref D) H') :
    ∃ W : Nat → Nat → Hp → Prop, (∃ m, W 0 m (upd H D (.lst []))) ∧ ∀ i m H, W i m H →
      (J.stop i H ∧ Q (.ref D) H) ∨ (J.go i H ∧ ∃ Nx : Hp → Prop, (∀ H', Nx H' → ∃ m', m' < m ∧ W (i + 1) m' H') ∧ ∀ x H', J.yld i H x H' → gB X scope tg x (wipe σ vs) H' fun σ2 H2 => wipe σ2 vs = wipe σ vs ∧ iB X scope ifs σ2 H2 fun b H3 =>
        if b = true then eB X scope elt σ2 H3 fun z H4 => ∃ acc, H4 D = some (.lst acc) ∧ acc.length < sizeLine ∧ Nx (upd H4 D (.lst (acc ++ [z]))) else Nx H3) := by
  have fD : tt T (ownL f1) D = false := E1.free nD
  have dD : D ∉ ownL f1 := (tt_false.mp fD).2
  have region : ∀ {G : Hp}, Kp H G (ownL f1) → Same (cut H fun b => decide (b ∈ ownL f1)) G := fun {G} k b o h => by
    obtain ⟨h1, h2⟩ := cut_some h
    exact k b o (of_decide_eq_false h1) h2
  refine ⟨fun i m H' => m = ds.length - i ∧ i ≤ ds.length ∧ Kp H H' (ownL f1) ∧ ER X.K (with1 T D) (wipe σ vs) H' (F i) ∧ ∃ acc, H' D = some (.lst acc) ∧ RpAll X.K (cut H' (tt (with1 T D) (ownL f1))) acc (madeC y i), ⟨_, rfl, Nat.zero_le _, Kp.of (same_upd nD), ?_, [], upd_same, .nil⟩, ?_⟩
  · have E2 : ER X.K T (wipe σ vs) (hide (upd H D (.lst [])) D) (F 0) := by
      rw [F0]
      exact er_wipe (E1.keep (same_hide (same_upd nD) nD)) vs
    exact er_with E2 (by rw [upd_same]; exact fun z => by cases z)
  · rintro i m H1 ⟨rfl, hi, k1, E2, acc, hacc, qacc⟩
    by_cases lt : i < ds.length
    · refine .inr ⟨hgo H1 (region k1) i lt, fun H' => Kp H H' (ownL f1) ∧ ER X.K (with1 T D) (wipe σ vs) H' (F (i + 1)) ∧ ∃ acc, H' D = some (.lst acc) ∧ RpAll X.K (cut H' (tt (with1 T D) (ownL f1))) acc (madeC y (i + 1)), fun H' q => ⟨ds.length - (i + 1), by omega, rfl, lt, q⟩, fun w H2 yl => ?_⟩
      obtain ⟨sm, d, hd, rp⟩ := hy H1 (region k1) i w H2 lt yl
      have E3 : ER X.K (with1 T D) (wipe σ vs) H2 (F i) := E2.keep sm
      have rw' := rp (with1 T D) (wipe σ vs) (F i) E2 (Fo i) fun b h => by
        unfold with1 at h
        rcases Bool.or_eq_true_iff.mp h with h | h
        · exact .inl h
        · rw [of_decide_eq_true h]; exact .inr nD
      have k2 : Kp H H2 (ownL f1) := k1.trans (Kp.of sm)
      have hacc2 : H2 D = some (.lst acc) := sm _ _ hacc
      have qacc2 : RpAll X.K (cut H2 (tt (with1 T D) (ownL f1))) acc (madeC y i) := qacc.mono (cut_same fun b o e h => ⟨e, sm b o h⟩)
      obtain ⟨g1, g2, bb, ag, ai, h1, h2⟩ := hs i d hd
      have nD' : ∀ {H' : Hp} {g : Fm}, Kp H2 H' (ownL (F i)) → H' D = some (.lst acc) := fun k => k _ _ (by rw [Fo i]; exact dD) hacc2
      intro s H0 C cl fp
      refine (ag s H0 C cl fp).run (with1 T D) (wipe σ vs) H2 w _ E3 rw' fun σ2 E4 ww => ?_
      have e1 : ownL g1 = ownL f1 := (ag s H0 C cl fp).ow.trans (Fo i)
      have ww2 : wipe σ2 vs = wipe σ vs := by
        rw [ww]
        apply List.ext_getElem?
        intro j
        rw [wipe_get (wipe σ vs) vs j, wipe_get σ vs j]
        by_cases mj : j ∈ vs
        · rw [if_pos mj, if_pos mj]
          cases σ[j]? <;> rfl
        · rw [if_neg mj, if_neg mj]
      refine ⟨ww2, fun s H0 C cl fp => ?_⟩
      refine (ai s H0 C cl fp).run (with1 T D) σ2 H2 _ E4 fun H3 k3 E5 => ?_
      have e2 : ownL g2 = ownL f1 := (ai s H0 C cl fp).ow.trans e1
      rw [e1] at k3
      have hacc3 : H3 D = some (.lst acc) := k3 _ _ dD hacc2
      have qacc3 : RpAll X.K (cut H3 (tt (with1 T D) (ownL f1))) acc (madeC y i) := qacc2.mono (k3.up rfl)
      cases bb with
      | true =>
        obtain ⟨g3, z, he, hyz, hw⟩ := h1 rfl
        show eB X scope elt σ2 H3 _
        intro s H0 C cl fp
        refine (he s H0 C cl fp).run (with1 T D) σ2 H3 _ E5 fun v H4 k4 p4 => ?_
        obtain ⟨E6, rv⟩ := p4
        have e3 : ownL g3 = ownL f1 := (he s H0 C cl fp).ow.trans e2
        rw [e2] at k4
        have hacc4 : H4 D = some (.lst acc) := k4 _ _ dD hacc3
        have la : acc.length ≤ 100000 := by rw [qacc.length]; exact Nat.le_trans (madeC_len y i) (by omega)
        refine ⟨acc, hacc4, Nat.lt_of_le_of_lt la (by rw [sizeLine_eq]; decide), ?_⟩
        have up : Same (cut H4 (tt (with1 T D) (ownL f1))) (cut (upd H4 D (.lst (acc ++ [v]))) (tt (with1 T D) (ownL f1))) := cut_same fun b o e h => ⟨e, by
          rw [upd_ne (fun q => by rw [q] at e; simp [tt, with1] at e)]; exact h⟩
        have k5 : Kp H4 (upd H4 D (.lst (acc ++ [v]))) (ownL f1 ++ [D]) := fun b o n h => by
          rw [upd_ne (fun q => n (by rw [q]; simp))]; exact h
        have E7 : ER X.K (with1 T D) (wipe σ2 vs) H4 (wipeF g3 vs) := er_wipe E6 vs
        rw [hw, ww2] at E7
        refine ⟨fun b o n h => ?_, ?_, acc ++ [v], upd_same, ?_⟩
        · rw [upd_ne (fun q => by rw [q, nD] at h; cases h)]
          exact k4 b o n (k3 b o n (k2 b o n h))
        · have u := er_unwith E7 (by have := (tt_false.mp fD).1; exact this)
          refine er_with (D := D) ?_ (by rw [upd_same]; exact fun z => by cases z)
          have eh : hide (upd H4 D (.lst (acc ++ [v]))) D = hide H4 D := by
            funext b
            by_cases q : b = D
            · rw [q, hide_self, hide_self]
            · rw [hide_ne q, hide_ne q, upd_ne q]
          rw [eh]; exact u
        · rw [madeC_succ, hyz]
          rw [e3] at rv
          exact ((qacc3.mono (k4.up rfl)).mono up).snoc (rv.mono up)
      | false =>
        obtain ⟨hyn, hw⟩ := h2 rfl
        have E7 : ER X.K (with1 T D) (wipe σ2 vs) H3 (wipeF g2 vs) := er_wipe E5 vs
        rw [hw, ww2] at E7
        refine ⟨k2.trans k3, E7, acc, hacc3, ?_⟩
        rw [madeC_succ, hyn]
        simpa using qacc3
    · have e : i = ds.length := by omega
      subst e
      exact .inl ⟨hst H1 (region k1), hq H1 k1 E2 ⟨acc, hacc, qacc⟩⟩
/-- what a comprehension comes to -/
structure CompR (X : Cx) (fs f2 : Fm) (d : PyData) (t : TE) : Prop where
  ow : ownL f2 = ownL fs
  run : ∀ (T : Addr → Bool) (σ : L2.St) (H : Hp) (Q : VK), ER X.K T σ H fs → (∀ v H', Kp H H' (ownL fs) → Po X.K T σ H H' f2 v (.new d) → Q v H') → t σ H Q
theorem comp_end {vs : List Nat} {g : Fm} {D : Addr} {H0 H' : Hp} {y : List PyData} (E1 : ER X.K T σ H f1) (k0 : Kp H0 H (ownL fs)) (o1 : ownL f1 = ownL fs) (nD : H D = none) (k : Kp H H' (ownL f1)) (E : ER X.K (with1 T D) (wipe σ vs) H' g) (og : ownL g = ownL f1) (b : BackR f1 g f2)
    (q : ∃ acc, H' D = some (.lst acc) ∧ RpAll X.K (cut H' (tt (with1 T D) (ownL f1))) acc y) : Kp H0 H' (ownL fs) ∧ Po X.K T σ H0 H' f2 (.ref D) (.new (.list y)) := by
  obtain ⟨acc, h1, h2⟩ := q
  have fD := (tt_false.mp (E1.free nD)).1
  have u := er_unwith E fD
  refine ⟨k0.trans (by rw [← o1]; exact k), D, rfl, none_back E1 k0 o1 nD, er_back E1 u (fun b o n h => ?_) og b, acc, h1, ?_⟩
  · rw [hide_ne (fun z => by rw [z, nD] at h; cases h)]
    exact k b o n h
  · rw [with1_cut] at h2
    rw [b.own]; exact h2
theorem compR_list {vs : List Nat} {F : Nat → Fm} {y : Nat → Option PyData} (ha : AE X iter fs f1 (.val (.list ds))) (hz : ds.length ≤ 100000) (F0 : F 0 = wipeF f1 vs) (Fo : ∀ i, ownL (F i) = ownL f1) (hs : ∀ i d, ds[i]? = some d → TurnC X scope vs tg ifs elt d (F i) (F (i + 1)) (y i)) (b : BackR f1 (F ds.length) f2) :
    CompR X fs f2 (.list (madeC y ds.length)) (tLc (iList X.K (bE X iter)) (gB X scope tg) (iB X scope ifs) (eB X scope elt) vs) := by
  refine ⟨b.own.trans ha.ow, fun T σ H Q E q => ha.run T σ H _ E fun v H1 k1 p1 => ?_⟩
  obtain ⟨E1, rl⟩ := p1
  obtain ⟨l, ws, rfl, s, qv⟩ := rl.lst_inv
  have up : Same (cut H1 (tt T (ownL f1))) (cut H1 fun b => decide (b ∈ ownL f1)) := cut_same fun b o e z => ⟨decide_eq_false (tt_false.mp e).2, z⟩
  have s1 : SqL X.K (cut H1 fun b => decide (b ∈ ownL f1)) l ws := sqL_same up s
  refine ⟨l, rfl, ⟨ws, sqL_same (cut_all _ _) s⟩, fun D nD => ?_⟩
  refine comp_core (ds := ds) (F := F) (y := y) E1 nD hz F0 Fo (fun G g k lt => ?_) (fun G g => ?_) (fun G g k w G' lt y => ?_) hs (fun H' k E2 z => ?_)
  · have := qv.length
    exact ⟨ws, ws[k]'(by omega), sqL_same g s1, by simp⟩
  · exact ⟨ws, sqL_same g s1, by rw [qv.length]; exact Nat.le_refl _⟩
  · obtain ⟨rfl, y⟩ := y
    have hv := y ws (sqL_same g s1)
    obtain ⟨d, hd', rd⟩ := qv.get2 hv
    refine ⟨fun _ _ h => h, d, hd', fun T' τ f E2 ef et => rd.mono fun b o h => ?_⟩
    obtain ⟨e1, e2⟩ := cut_some h
    obtain ⟨e3, e4⟩ := tt_false.mp e1
    have gb := g b o (cut_of (decide_eq_false e4) e2)
    refine cut_of (tt_false.mpr ⟨?_, by rw [ef]; exact e4⟩) gb
    cases hT : T' b with
    | false => rfl
    | true =>
      rcases et b hT with z | z
      · rw [e3] at z; cases z
      · rw [e2] at z; cases z
  · obtain ⟨r1, r2⟩ := comp_end E1 k1 ha.ow nD k E2 (Fo _) b z
    exact q _ _ r1 r2
/-- the outer frame behind a block, slot by slot -/
inductive BackL : Fm → Fm → Fm → Prop
  | nil : BackL [] [] []
  | dat {d : PyData} {s : Slot} {f g h : Fm} : BackL f g h → BackL (.dat d :: f) (s :: g) (.dat d :: h)
  | own {l : Addr} {d e : PyData} {f g h : Fm} : BackL f g h → BackL (.own l e :: f) (.own l d :: g) (.own l d :: h)
  | no {s : Slot} {f g h : Fm} : BackL f g h → BackL (.no :: f) (s :: g) (.no :: h)
  | ref {a : Addr} {s : Slot} {f g h : Fm} : BackL f g h → BackL (.ref a :: f) (s :: g) (.ref a :: h)
  | raw {l : Addr} {d e : HO} {f g h : Fm} : BackL f g h → BackL (.raw l e :: f) (.raw l d :: g) (.raw l d :: h)
  | mix {l : Addr} {d e : Mix} {f g h : Fm} : BackL f g h → BackL (.mix l e :: f) (.mix l d :: g) (.mix l d :: h)
  | isv {v : V} {d : PyData} {s : Slot} {f g h : Fm} : BackL f g h → BackL (.isv v d :: f) (s :: g) (.isv v d :: h)
theorem BackR.cons {s u w : Slot} {f g h : Fm} (ih : BackR f g h) (e : adr w = adr s) (k : w = .no ∨ (adr w = none ∧ s = w) ∨ ∃ a, adr w = some a ∧ u = w) : BackR (s :: f) (u :: g) (w :: h) := by
  refine ⟨congrArg (· + 1) ih.len, by rw [ownL_cons, ownL_cons, ih.own, e], fun i x q => ?_⟩
  cases i with
  | zero =>
    cases Option.some.inj q
    rcases k with k | ⟨k1, k2⟩ | ⟨a, k1, k2⟩
    · exact .inl k
    · exact .inr (.inl ⟨k1, congrArg some k2⟩)
    · exact .inr (.inr ⟨a, s, k1, congrArg some k2, rfl, by rw [← e]; exact k1⟩)
  | succ i => exact ih.sl i x q
theorem BackL.back {f g h : Fm} (b : BackL f g h) : BackR f g h := by
  induction b with
  | nil => exact ⟨rfl, rfl, fun i s e => by simp at e⟩
  | dat b ih => exact ih.cons rfl (.inr (.inl ⟨rfl, rfl⟩))
  | own b ih => exact ih.cons rfl (.inr (.inr ⟨_, rfl, rfl⟩))
  | no b ih => exact ih.cons rfl (.inl rfl)
  | ref b ih => exact ih.cons rfl (.inr (.inl ⟨rfl, rfl⟩))
  | raw b ih => exact ih.cons rfl (.inr (.inr ⟨_, rfl, rfl⟩))
  | mix b ih => exact ih.cons rfl (.inr (.inr ⟨_, rfl, rfl⟩))
  | isv b ih => exact ih.cons rfl (.inr (.inl ⟨rfl, rfl⟩))
/-- [elt for tg in iter], iter a list that isn't owned -/
theorem ae_lcL {F : Nat → Fm} (own : List (Str × Nat)) (y : Nat → Option PyData) (hN : X.N.Nodup) (ha : AE X iter fs f1 (.val (.list ds))) (F0 : F 0 = wipeF f1 (own.map (·.2))) (Fo : ∀ i, ownL (F i) = ownL f1) (hs : ∀ i d, ds[i]? = some d → TurnC X scope (own.map (·.2)) tg ifs elt d (F i) (F (i + 1)) (y i)) (b : BackL f1 (F ds.length) f2)
    (hz : ds.length ≤ 100000) (hc : X.calm = true := by rfl) (ok : blkC X.N X.env.scope scope own = true := by first | decide +kernel | rfl) (hf : ∀ x, foldedSetIterable iter X.env x = pure x := by intro _; rfl) :
    AE X (.ListComp elt [⟨tg, iter, ifs, 0⟩] scope pos) fs f2 (.new (.list (madeC y ds.length))) :=
  let R := compR_list (X := X) (scope := scope) (tg := tg) (ifs := ifs) (elt := elt) ha hz F0 Fo hs b.back
  ⟨R.ow, fun T σ H Q E q => bE_of (pe_lc hc hN (pi_list best) (blkOk_by ok) gB_ok iB_ok eB_ok hf) (R.run T σ H Q E q)⟩
theorem as_compD {t : TE} (n : Nat) (R : CompR X fs f1 d t) (hp : PS X (.Assign [.Name x pos'] e spos) (tAsg t (gName n))) (hk : AS X rest c (f1.set n (.dat d)) D3') : AS X (.Assign [.Name x pos'] e spos :: rest) c fs D3' :=
  fun σ H S => bSs_of (pss_cons hp bestSs) (R.run c.T σ H _ S.er fun v H1 k1 p1 => by
    have p2 := p1.toVal
    exact hk _ _ ((S.step k1 p2.1 R.ow).setDat p2.2))
theorem FnT.mkD {P : Program} {w : World} {K : PySem.W.Frag} {mg : Str → Option Value} {base : Heap} {k : Nat} {x : Str} {ps : List Str} {ct : Ct} {cx : Cex} {f : Addr} {fd : FuncData} {dl : List He.Dv} (a : FnOk P w K mg base CX0 k f fd ps (Sp3 K ct cx)) (b : mg x = some (.ref f)) (c : PySem.W.keepIn K (.ref f) = true) (d : ∃ ds, Vals (dl.map (He.Dv.v K)) ds ∧ Binds K fd ps ds) (h : dl.all dvS = true) : FnT K mg P w base k x ps ct cx dl := by
  obtain ⟨ds, h1, h2⟩ := d
  exact ⟨f, fd, a, b, c, ⟨ds, h2, h1⟩, h⟩
theorem Fn.blk {CX : CXT} {k : Nat} {x : Str} {f : Addr} {fd : FuncData} {ps : List Str} {ct : Ct} {cx : Cex} {dvs : List V} {dd : List PyData} {s : Shared} {H : Hp} {C : Addr} {cl : List (Str × Addr)} {fp : List Addr} (h : Fn X CX k x f fd ps ct cx dvs dd) : Fn (BX X scope s H C cl fp) CX k x f fd ps ct cx dvs dd := ⟨h.ok, h.mg, h.kp, h.bd, h.df⟩
end
end A3
namespace A3
open PySem PySem.Spec PyProof.Rows L2
/-! ### numbers, drawn -/
abbrev Sd := Int × Int × Int
def scD (ns : List Int) : PyData := .list (ns.map .int)
def nxS (s : Sd) : Int := (s.2.2 % 2147483647 * 48271 + 7919 * (s.2.1 + 1) * (s.2.1 + 1) + 11) % 2147483647
def drawV (s : Sd) (m : Int) : Int := if 0 < s.1 then s.1 % m else nxS s * 69621 % 2147483629 / 64 % m
def drawS (s : Sd) (m : Int) : Sd := if 0 < s.1 then (s.1 / m, s.2.1, s.2.2) else (s.1, s.2.1 + 1, nxS s)
theorem drawV_b (s : Sd) {m : Int} (h : 0 < m) : 0 ≤ drawV s m ∧ drawV s m < m := by
  unfold drawV
  split
  · exact ⟨Int.emod_nonneg _ (by omega), Int.emod_lt_of_pos _ h⟩
  · exact ⟨Int.emod_nonneg _ (by omega), Int.emod_lt_of_pos _ h⟩
/-- so many draws may follow -/
def Bs (n : Int) (s : Sd) : Prop := 0 ≤ s.2.1 ∧ s.2.1 + n ≤ 1000000000
theorem Bs.draw {n : Int} {s : Sd} {m : Int} (h : Bs n s) (hn : 1 ≤ n) : Bs (n - 1) (drawS s m) := by
  unfold Bs drawS at *
  split <;> simp only <;> omega
theorem Bs.le {n k : Int} {s : Sd} (h : Bs n s) (hk : k ≤ n) : Bs k s := ⟨h.1, by have := h.2; omega⟩
theorem Bs.t0 {n : Int} {s : Sd} (h : Bs n s) : 0 ≤ s.2.1 := h.1
def cellV (ns : List Int) (k : Int) : Int := ns.getD k.toNat 0
theorem at_map {α : Type} (f : α → PyData) (xs : List α) (k : Int) (d : α) (h0 : 0 ≤ k) (h : k < xs.length) : atI (xs.map f) k = some (f (xs.getD k.toNat d)) := by
  obtain ⟨n, rfl⟩ : ∃ n : Nat, k = n := ⟨k.toNat, by omega⟩
  have hn : n < xs.length := by omega
  exact atI_nat (by simp [hn])
/-! ### fractions -/
abbrev Fr := Int × Int
def frD (p : Fr) : PyData := .tuple [.int p.1, .int p.2]
def sg (t b : Int) : Int := if b < 0 then 0 - (Int.gcd t b : Int) else (Int.gcd t b : Int)
/-- t over b in lowest terms -/
def nrm (t b : Int) : Fr := (t.fdiv (sg t b), b.fdiv (sg t b))
theorem gcd_step (a b : Int) (ha : 0 ≤ a) (hb : 0 < b) : Int.gcd b (a % b) = Int.gcd a b := by
  obtain ⟨m, rfl⟩ := Int.eq_ofNat_of_zero_le ha
  obtain ⟨n, rfl⟩ := Int.eq_ofNat_of_zero_le (Int.le_of_lt hb)
  show Nat.gcd n _ = Nat.gcd m n
  have e : (((m : Int) % (n : Int)).natAbs) = m % n := by
    rw [← Int.natCast_emod]; rfl
  rw [e, Nat.gcd_comm m n]
  exact (Nat.gcd_rec n m).symm ▸ (Nat.gcd_comm _ _)
theorem gcd_end {a b : Int} (ha : 0 ≤ a) (hb : b = 0) : (Int.gcd a b : Int) = a := by
  subst hb
  rw [Int.gcd_zero_right]; omega
theorem gcd_abs (t b : Int) : Int.gcd (if t < 0 then -t else t) (if b < 0 then -b else b) = Int.gcd t b := by
  split <;> split <;> simp [Int.gcd]
theorem abs_nn (t : Int) : 0 ≤ (if t < 0 then -t else t) := by split <;> omega
theorem gcd_le_abs {t b : Int} (h : b ≠ 0) : 0 < (Int.gcd t b : Int) ∧ (Int.gcd t b) ≤ b.natAbs := by
  have h1 : Int.gcd t b ∣ b.natAbs := Int.gcd_dvd_natAbs_right t b
  have h2 : 0 < b.natAbs := by omega
  have h3 : 0 < Int.gcd t b := Nat.pos_of_dvd_of_pos h1 h2
  exact ⟨by omega, Nat.le_of_dvd h2 h1⟩
theorem sg_ok {t b : Int} (h : b ≠ 0) (hb : Bd 8000 b) (u : Int) : CDivG u (sg t b) := by
  obtain ⟨h1, h2⟩ := gcd_le_abs (t := t) h
  unfold sg
  split
  · exact divG (n := 8000) (by omega) (Nat.lt_of_le_of_lt (by omega) hb)
  · exact divG (n := 8000) (by omega) (Nat.lt_of_le_of_lt (by omega) hb)
/-! ### drawn numbers, drawn fractions -/
abbrev T18 : Int := 10 ^ (18 : Int).toNat
def pick3 (x y z v : Int) : Int := if v = 0 then x else if v = 1 then y else z
def numS (s : Sd) : Sd := if drawV s 4 = 3 then drawS (drawS (drawS s 4) T18) 2 else drawS (drawS s 4) (pick3 13 41 199 (drawV s 4))
theorem Bs.num {n : Int} {s : Sd} (h : Bs n s) (hn : 3 ≤ n) : Bs (n - 3) (numS s) := by
  unfold numS
  split
  · exact (((h.draw (by omega)).draw (by omega)).draw (by omega)).le (by omega)
  · exact ((h.draw (by omega)).draw (by omega)).le (by omega)
def shS (s : Sd) : Sd := numS (numS s)
theorem Bs.sh {n : Int} {s : Sd} (h : Bs n s) (hn : 6 ≤ n) : Bs (n - 6) (shS s) := ((h.num (by omega)).num (by omega)).le (by omega)
theorem bd_le {n : Nat} {x : Int} {k : Nat} (h : x.natAbs ≤ k) (hk : k < 2 ^ n) : Bd n x := Nat.lt_of_le_of_lt h hk
theorem Bd.mono {n m : Nat} {x : Int} (h : Bd n x) (hm : n ≤ m) : Bd m x := Nat.lt_of_lt_of_le h (Nat.pow_le_pow_right (by decide) hm)
theorem Bd.mul {n m : Nat} {x y : Int} (h : Bd n x) (g : Bd m y) : Bd (n + m) (x * y) := wide_lt h g
theorem Bd.sub {n : Nat} {x y : Int} (h : Bd n x) (g : Bd n y) : Bd (n + 1) (x - y) := by
  unfold Bd at *
  rw [Nat.pow_succ]; omega
/-- in lowest terms, the bottom above 0 -/
structure IsFr (p : Fr) : Prop where
  pos : 0 < p.2
  cop : Int.gcd p.1 p.2 = 1
structure FrB (n : Nat) (p : Fr) : Prop where
  top : Bd n p.1
  bot : Bd n p.2
theorem fdiv_dvd {a g : Int} (h : g ∣ a) : a.fdiv g = a / g := Int.fdiv_eq_ediv_of_dvd h
theorem sg_ne {t b : Int} (h : b ≠ 0) : sg t b ≠ 0 := by
  have := (gcd_le_abs (t := t) h).1
  unfold sg; split <;> omega
theorem sg_dvd_t (t b : Int) : sg t b ∣ t := by
  have := Int.gcd_dvd_left t b
  unfold sg; split
  · rw [Int.zero_sub]; exact Int.neg_dvd.mpr this
  · exact this
theorem sg_dvd_b (t b : Int) : sg t b ∣ b := by
  have := Int.gcd_dvd_right t b
  unfold sg; split
  · rw [Int.zero_sub]; exact Int.neg_dvd.mpr this
  · exact this
theorem nrm_mul (t b : Int) : (nrm t b).1 * sg t b = t ∧ (nrm t b).2 * sg t b = b := by
  unfold nrm
  rw [fdiv_dvd (sg_dvd_t t b), fdiv_dvd (sg_dvd_b t b)]
  exact ⟨Int.ediv_mul_cancel (sg_dvd_t t b), Int.ediv_mul_cancel (sg_dvd_b t b)⟩
theorem sg_abs (t b : Int) : (sg t b).natAbs = Int.gcd t b := by unfold sg; split <;> omega
theorem nrm_fr {t b : Int} (h : b ≠ 0) : IsFr (nrm t b) := by
  obtain ⟨h1, h2⟩ := nrm_mul t b
  have hs := sg_ne (t := t) h
  have hg := (gcd_le_abs (t := t) h).1
  constructor
  · by_cases hb : b < 0
    · have e : sg t b = 0 - (Int.gcd t b : Int) := if_pos hb
      have : sg t b < 0 := by omega
      have q := Int.mul_lt_mul_of_neg_right (a := 0) (b := (nrm t b).2) (c := sg t b)
      rcases Int.lt_trichotomy (nrm t b).2 0 with z | z | z
      · have := Int.mul_pos_of_neg_of_neg z this
        omega
      · rw [z] at h2; omega
      · exact z
    · have e : sg t b = (Int.gcd t b : Int) := if_neg hb
      have p : 0 < sg t b := by omega
      rcases Int.lt_trichotomy (nrm t b).2 0 with z | z | z
      · have := Int.mul_neg_of_neg_of_pos z p
        omega
      · rw [z] at h2; omega
      · exact z
  · have e : Int.gcd ((nrm t b).1 * sg t b) ((nrm t b).2 * sg t b) = Int.gcd (nrm t b).1 (nrm t b).2 * (sg t b).natAbs := Int.gcd_mul_right _ _ _
    rw [h1, h2, sg_abs] at e
    have hg2 : 0 < Int.gcd t b := by omega
    exact Nat.eq_of_mul_eq_mul_right hg2 (by rw [Nat.one_mul]; exact e.symm)
theorem natAbs_le_mul {x g : Int} (h : g ≠ 0) : x.natAbs ≤ (x * g).natAbs := by
  rw [Int.natAbs_mul]
  exact Nat.le_mul_of_pos_right _ (by omega)
theorem nrm_b {n : Nat} {t b : Int} (h : b ≠ 0) (h1 : Bd n t) (h2 : Bd n b) : FrB n (nrm t b) := by
  obtain ⟨e1, e2⟩ := nrm_mul t b
  have hs := sg_ne (t := t) h
  constructor
  · refine Nat.lt_of_le_of_lt (natAbs_le_mul hs) ?_
    rw [e1]; exact h1
  · refine Nat.lt_of_le_of_lt (natAbs_le_mul hs) ?_
    rw [e2]; exact h2
/-! ### which things are fractions -/
def isW : PyData → Bool
  | .int _ => true
  | _ => false
def isFrB : PyData → Bool
  | .tuple [.int a, .int b] => decide (0 < b) && decide ((Int.gcd a b : Int) = 1)
  | _ => false
theorem isW_inv {d : PyData} (h : isW d = true) : ∃ a, d = .int a := by
  cases d <;> first | exact ⟨_, rfl⟩ | cases h
theorem fr_cases (d : PyData) : (isT d = false ∧ isFrB d = false) ∨ (∃ ds, d = .tuple ds ∧ ds.length ≠ 2 ∧ isFrB d = false) ∨ (∃ x y, d = .tuple [x, y] ∧ isW x = false ∧ isFrB d = false) ∨ (∃ a y, d = .tuple [.int a, y] ∧ isW y = false ∧ isFrB d = false) ∨ ∃ a b, d = .tuple [.int a, .int b] := by
  cases d with
  | tuple ds =>
    right
    match ds with
    | [] => exact .inl ⟨_, rfl, by decide, rfl⟩
    | [x] => exact .inl ⟨_, rfl, by simp, by simp [isFrB]⟩
    | x :: y :: z :: r => exact .inl ⟨_, rfl, by simp, by simp [isFrB]⟩
    | [x, y] =>
      right
      cases hx : isW x with
      | false => exact .inl ⟨x, y, rfl, hx, by cases x <;> first | rfl | cases hx⟩
      | true =>
        obtain ⟨a, rfl⟩ := isW_inv hx
        right
        cases hy : isW y with
        | false => exact .inl ⟨a, y, rfl, hy, by cases y <;> first | rfl | cases hy⟩
        | true =>
          obtain ⟨b, rfl⟩ := isW_inv hy
          exact .inr ⟨a, b, rfl⟩
  | _ => exact .inl ⟨rfl, rfl⟩
/-! ### fractions as rational numbers -/
def ofR (r : Rat) : Fr := (r.num, (r.den : Int))
theorem ofR_fr (r : Rat) : IsFr (ofR r) := ⟨Int.natCast_pos.mpr r.den_pos, by
  show Int.gcd r.num (r.den : Int) = 1
  have := r.reduced
  unfold Nat.Coprime at this
  unfold Int.gcd
  rw [Int.natAbs_natCast]; exact this⟩
theorem cop_dvd {a b c : Int} (h : Int.gcd a b = 1) (hd : b ∣ a * c) : b ∣ c := by
  rw [← Int.natAbs_dvd_natAbs] at *
  rw [Int.natAbs_mul] at hd
  exact Nat.Coprime.dvd_of_dvd_mul_left (k := b.natAbs) (m := a.natAbs) (by unfold Nat.Coprime; rw [Nat.gcd_comm]; exact h) hd
theorem fr_uniq {p q : Fr} (hp : IsFr p) (hq : IsFr q) (h : p.1 * q.2 = q.1 * p.2) : p = q := by
  have h1 : p.2 ∣ q.2 := cop_dvd hp.cop ⟨q.1, by rw [h, Int.mul_comm]⟩
  have h2 : q.2 ∣ p.2 := cop_dvd hq.cop ⟨p.1, by rw [← h, Int.mul_comm]⟩
  have e := Int.dvd_antisymm (Int.le_of_lt hp.pos) (Int.le_of_lt hq.pos) h1 h2
  have p0 := hp.pos
  rw [← e] at h
  have e1 := Int.eq_of_mul_eq_mul_right (by omega) h
  exact Prod.ext e1 e
theorem icast_ne {b : Int} (h : b ≠ 0) : (b : Rat) ≠ 0 := fun z => h (Rat.intCast_inj.mp (z.trans Rat.intCast_zero.symm))
theorem rat_nd (r : Rat) : (r.num : Rat) = r * ((r.den : Int) : Rat) := by
  have e : r = Rat.divInt r.num r.den := (Rat.num_divInt_den r).symm
  have hd : ((r.den : Int) : Rat) ≠ 0 := icast_ne (by have := r.den_pos; omega)
  rw [Rat.divInt_eq_div] at e
  have : r * ((r.den : Int) : Rat) = ((r.num : Rat) / ((r.den : Int) : Rat)) * ((r.den : Int) : Rat) := by rw [← e]
  grind
theorem den_ne (r : Rat) : ((r.den : Int) : Rat) ≠ 0 := icast_ne (by have := r.den_pos; omega)
theorem nrm_rat {t b : Int} (h : b ≠ 0) : nrm t b = ofR ((t : Rat) / (b : Rat)) := by
  refine fr_uniq (nrm_fr h) (ofR_fr _) ?_
  obtain ⟨e1, e2⟩ := nrm_mul t b
  have hs := sg_ne (t := t) h
  have h1 := rat_nd ((t : Rat) / (b : Rat))
  have h2 := icast_ne h
  have h3 : (((t : Rat) / (b : Rat)).num : Rat) * (b : Rat) = (t : Rat) * ((((t : Rat) / (b : Rat)).den : Int) : Rat) := by grind
  have h4 : ((t : Rat) / (b : Rat)).num * b = t * (((t : Rat) / (b : Rat)).den : Int) := by
    rw [← Rat.intCast_mul, ← Rat.intCast_mul] at h3
    exact Rat.intCast_inj.mp h3
  show (nrm t b).1 * (((t : Rat) / (b : Rat)).den : Int) = ((t : Rat) / (b : Rat)).num * (nrm t b).2
  have h5 : (nrm t b).1 * (((t : Rat) / (b : Rat)).den : Int) * sg t b = ((t : Rat) / (b : Rat)).num * (nrm t b).2 * sg t b := by grind
  exact Int.eq_of_mul_eq_mul_right hs h5
/-- so many bits at most in each part -/
def Rz (n : Nat) (r : Rat) : Prop := Bd n r.num ∧ Bd n (r.den : Int)
theorem Rz.mono {n m : Nat} {r : Rat} (h : Rz n r) (hm : n ≤ m) : Rz m r := ⟨h.1.mono hm, h.2.mono hm⟩
theorem rz_nrm {n : Nat} {t b : Int} (h : b ≠ 0) (h1 : Bd n t) (h2 : Bd n b) : Rz n ((t : Rat) / (b : Rat)) := by
  have e := nrm_rat (t := t) h
  have q := nrm_b h h1 h2
  rw [e] at q
  exact ⟨q.top, q.bot⟩
theorem den_int_ne (r : Rat) : (r.den : Int) ≠ 0 := by have := r.den_pos; omega
theorem mul_ne {a b : Int} (h : a ≠ 0) (g : b ≠ 0) : a * b ≠ 0 := fun z => (Int.mul_eq_zero.mp z).elim h g
theorem rat_sub (r s : Rat) : (((r.num * s.den - s.num * r.den : Int)) : Rat) / (((r.den : Int) * (s.den : Int) : Int) : Rat) = r - s := by
  have h1 := rat_nd r; have h2 := rat_nd s; have h3 := den_ne r; have h4 := den_ne s
  rw [Rat.intCast_sub, Rat.intCast_mul, Rat.intCast_mul, Rat.intCast_mul]
  grind
theorem rat_mul (r s : Rat) : (((r.num * s.num : Int)) : Rat) / (((r.den : Int) * (s.den : Int) : Int) : Rat) = r * s := by
  have h1 := rat_nd r; have h2 := rat_nd s; have h3 := den_ne r; have h4 := den_ne s
  rw [Rat.intCast_mul, Rat.intCast_mul]
  grind
theorem Rz.sub {n m : Nat} {r s : Rat} (h : Rz n r) (g : Rz m s) : Rz (n + m + 1) (r - s) := by
  have := rz_nrm (n := n + m + 1) (t := r.num * s.den - s.num * r.den) (mul_ne (den_int_ne r) (den_int_ne s)) ((h.1.mul g.2).sub ((g.1.mul h.2).mono (by omega))) ((h.2.mul g.2).mono (by omega))
  rwa [rat_sub] at this
theorem Rz.mul {n m : Nat} {r s : Rat} (h : Rz n r) (g : Rz m s) : Rz (n + m) (r * s) := by
  have := rz_nrm (n := n + m) (t := r.num * s.num) (mul_ne (den_int_ne r) (den_int_ne s)) (h.1.mul g.1) (h.2.mul g.2)
  rwa [rat_mul] at this
/-- the same turn again and again -/
def it {α : Type} (f : α → α) : Nat → α → α
  | 0, s => s
  | i + 1, s => f (it f i s)
end A3
namespace A3
open PySem PySem.Spec PyProof.Rows L2
/-! ### texts, by their signs -/
abbrev sD (l : List Nat) : PyData := .str ⟨l.toArray⟩
section
variable {X : Cx} {a b c e : Expr} {es : List Expr} {body rest : List Stmt} {cf : Cf} {D : D3} {fs f1 f2 f3 : Fm} {d d1 d2 d3 : PyData} {ds ds2 : List PyData} {r r1 r2 : Res} {pos p2 apos : Pos} {T : Addr → Bool} {σ : L2.St} {H : Hp} {i j k : Int} {l m : List Nat}
theorem ae_txt (l : List Nat) {x : Str} {k} (h : x = ⟨l.toArray⟩ := by decide +kernel) : AE X (.Constant (.str x) k pos) fs fs (.val (sD l)) := by subst h; exact ae_str
theorem ae_addX (ha : AE X a fs f1 (.val (sD l))) (hb : AE X b f1 f2 (.val (sD m))) (hz : l.length + m.length ≤ 1000000) : AE X (.BinOp a .Add b pos) fs f2 (.val (sD (l ++ m))) :=
  ae_rule2 op_add_str ha hb fun S H2 x y Q _ rx ry q => ⟨_, _, rx.str_inv, ry.str_inv, by rw [SX.S_len, SX.S_len, sizeLine_eq]; omega, by rw [SX.S_cat]; exact q _ fun _ => .str _⟩
theorem c_ninX {c : Nat} (hm : behindInMarks .NotIn b = false := by rfl) : CmpA X .NotIn b f2 (sD [c]) (.val (sD l)) (!decide (c ∈ l)) :=
  ⟨_, op_notIn_sign, hm, fun T σ H1 H2 x y Q rx p q => by rw [rx.str_inv, p.2.str_inv]; exact ⟨c, _, rfl, rfl, q⟩⟩
theorem s_eq : decide ((⟨l.toArray⟩ : Str) = ⟨m.toArray⟩) = decide (l = m) := by
  by_cases h : l = m
  · subst h; simp
  · have : (⟨l.toArray⟩ : Str) ≠ ⟨m.toArray⟩ := fun z => h (SX.S_inj z)
    simp [h, this]
theorem c_eqX : CmpA X .Eq b f2 (sD l) (.val (sD m)) (decide (l = m)) := by rw [← s_eq]; exact c_eqS
theorem ae_lenX {p : Pos} (ha : AE X a fs f1 (.val (sD l))) (hz : l.length ≤ 1000000) (hg : Gl X "len") (hm : X.mg "len" = none) (he : starEach [a] X.env = (false, eval a X.env) :: starEach [] X.env := by rfl) :
    AE X (.Call (.Name "len" p) [a] [] pos) fs f1 (.val (.int l.length)) :=
  ae_len ha (n := l.length) rfl (decide_eq_true (show (⟨l.toArray⟩ : Str).length ≤ 1000000 by rw [SX.S_len]; exact hz)) hg hm he
theorem ae_ixX {ch : Nat} (ha : AE X a fs f1 (.val (sD l))) (hb : AE X b f1 f2 (.val (.int i))) (hz : l.length ≤ 1000) (h : atI l i = some ch) (hs : PlainIx b := by intro _ _; rfl) : AE X (.Subscript a b pos) fs f2 (.val (sD [ch])) :=
  ae_ixS ha hb (by rw [SX.S_len]; exact hz) h hs
theorem rpStrs {K : PySem.W.Frag} {S : Hp} : ∀ (ls : List (List Nat)), RpAll K S ((ls.map SX.S).map V.str) (ls.map sD)
  | [] => .nil
  | x :: r => .cons (.str _) (rpStrs r)
theorem rpBls_inv {K : PySem.W.Frag} {S : Hp} : ∀ {bs : List Bool} {vs : List V}, RpAll K S vs (bs.map .bool) → vs = bs.map V.bl
  | [], _, .nil => rfl
  | x :: r, _, .cons a b => by rw [a.bl_inv, rpBls_inv b]; rfl
/-- s.split(sep) -/
theorem ae_split {s : List Nat} (ha : AE X a fs f1 (.val (sD l))) (hb : AE X b f1 f2 (.val (sD s))) (hz : l.length ≤ 1000000) (h1 : s ≠ [] := by decide) (h2 : s.all (· < 256) = true := by decide) (hs : starEach [b] X.env = [(false, eval b X.env)] := by rfl)
    (hbase : attributeBase a "split" X.env (eval a X.env) = eval a X.env := by rfl) (hline : (apos.endLine == pos.line) = true := by rfl) : AE X (.Call (.Attribute a "split" apos) [b] [] pos) fs f2 (.new (.list ((TL.spl s 0 [] l).map sD))) := by
  refine ⟨hb.ow.trans ha.ow, fun T σ H Q E q => bE_of (pe_split best best hs hbase hline) (ha.run T σ H _ E fun x H1 k1 p1 => ⟨⟨_, p1.2.str_inv⟩, hb.run T σ H1 _ p1.er fun y H2 k2 p2 => ?_⟩)⟩
  have k2' : Kp H1 H2 (ownL fs) := by rw [ha.ow] at k2; exact k2
  refine ⟨_, _, p1.2.str_inv, by rw [p2.2.str_inv], ?_, ?_, fun p n => ?_⟩
  · rw [SX.S_len]
    cases s with
    | nil => exact absurd rfl h1
    | cons x y => rfl
  · rw [SX.S_len, sizeLine_eq]; omega
  · rw [SX.split_S h1 h2]
    exact q _ _ ((k1.trans k2').trans (Kp.of (same_upd n))) (po_lst p2.1 (k1.trans k2') (hb.ow.trans ha.ow) n (rpStrs _))
/-- all(xs), any(xs) of a list of bools -/
theorem ae_all {p : Pos} {bs : List Bool} (hc : X.calm = true) (ha : AE X a fs f1 r) (e : r.d = .list (bs.map .bool)) (hg : Gl X "all") (hm : X.mg "all" = none) (he : starEach [a] X.env = (false, eval a X.env) :: starEach [] X.env := by rfl) : AE X (.Call (.Name "all" p) [a] [] pos) fs f1 (.val (.bool (bs.all id))) := by
  refine ⟨ha.ow, fun T σ H Q E q => bE_of (pe_callB (cr_all hc) hg hm (by decide +kernel) (pa_cons best pa_nil he) (he := he)) (ha.run T σ H _ E fun x H1 k1 p1 => ?_)⟩
  obtain ⟨g, vs, ex, sq, qv⟩ := p1.list e
  have ev := rpBls_inv qv
  subst ev
  exact ⟨g, bs, by rw [ex], sq, q _ H1 k1 ⟨p1.er, .bl _⟩⟩
/-- a <= b <= c and the like, of whole numbers -/
theorem ae_chain {o1 o2 : CmpOp} {g1 g2 : Int → Int → Bool} (h1 : OpR X (compareOp o1) (rI0 fun i j => .bl (g1 i j))) (h2 : OpR X (compareOp o2) (rI0 fun i j => .bl (g2 i j))) (ha : AE X a fs f1 (.val (.int i))) (hb : AE X b f1 f2 (.val (.int j))) (hc : AE X c f2 f2 (.val (.int k)))
    (hm : lastMarks [o1, o2] [b, c] = false := by with_unfolding_all rfl) : AE X (.Compare a [o1, o2] [b, c] pos) fs f2 (.val (.bool (g1 i j && g2 j k))) := by
  refine ⟨hb.ow.trans ha.ow, fun T σ H Q E q => bE_of (pe_chain h1 h2 best best best hm) (ha.run T σ H _ E fun x H1 k1 p1 => hb.run T σ H1 _ p1.er fun y H2 k2 p2 => ?_)⟩
  have k2' : Kp H1 H2 (ownL fs) := by rw [ha.ow] at k2; exact k2
  refine ⟨i, j, p1.2.int_inv, p2.2.int_inv, g1 i j, rfl, ?_⟩
  cases hg : g1 i j with
  | false => exact q _ H2 (k1.trans k2') ⟨p2.1, by rw [hg]; exact .bl false⟩
  | true =>
    refine hc.run T σ H2 _ p2.er fun z H3 k3 p3 => ⟨j, k, p2.2.int_inv, p3.2.int_inv, ?_⟩
    have k3' : Kp H2 H3 (ownL fs) := by rw [hb.ow.trans ha.ow] at k3; exact k3
    exact q _ H3 ((k1.trans k2').trans k3') ⟨p3.1, by rw [hg, Bool.true_and]; exact .bl (g2 j k)⟩
/-- for sign in text -/
theorem as_forX {tg : Expr} (hp : PassesOwn (model X.prog X.w) X.A X.env X.xe) (P : Nat → Fm → Prop) (he : AE X e fs f1 (.val (sD l))) (h0 : P 0 f1) (hs : Turn3 X tg body rest cf D (l.map fun c => sD [c]) P) (hd : ∀ f, P l.length f → AS X rest cf f D) (hc : X.calm = true := by rfl)
    (hf : ∀ x, foldedSetIterable e X.env x = pure x := by intro _; rfl) : AS X (.For tg e body [] pos :: rest) cf fs D := by
  refine fun σ H S => bSs_of (pss_cons (ps_for hp hc (pi_str best) bestG bestSs hf) bestSs) (he.run cf.T σ H _ S.er fun v H1 k1 p1 => ?_)
  refine ⟨_, p1.2.str_inv, for_core (ds := l.map fun c => sD [c]) (S.step k1 p1.1 he.ow) h0 (fun G g k lt => ?_) (fun G g => ?_) (fun G g k v G' lt y => ?_) hs (by rw [List.length_map]; exact hd)⟩
  · rw [List.length_map] at lt
    show k < l.toArray.size
    simpa using lt
  · show l.toArray.size ≤ _
    simp
  · obtain ⟨rfl, c, hc, rfl⟩ := y
    refine ⟨fun _ _ h => h, sD [c], ?_, fun T σ f E dis et => .str _⟩
    have : l[k]? = some c := by simpa using hc
    simp [this]
theorem mapD_inv {k : Nat} {d : PyData} (h : (l.map fun c => sD [c])[k]? = some d) : ∃ c, l[k]? = some c ∧ d = sD [c] := by
  rw [List.getElem?_map] at h
  obtain ⟨c, h1, h2⟩ := Option.map_eq_some_iff.mp h
  exact ⟨c, h1, h2.symm⟩
theorem madeC_some (f : Nat → PyData) (n : Nat) : madeC (fun i => some (f i)) n = (List.range n).map f := by simp [madeC]
theorem atI_getD {α : Type} {xs : List α} {k : Int} (d : α) (h0 : 0 ≤ k) (h : k < xs.length) : atI xs k = some (xs.getD k.toNat d) := by
  obtain ⟨n, rfl⟩ : ∃ n : Nat, k = n := ⟨k.toNat, by omega⟩
  have hn : n < xs.length := by omega
  exact atI_nat (by simp [hn])
/-! a slot is forgotten -/
/-! names of the module that are texts -/
theorem konT_txt {K : PySem.W.Frag} {h : Heap} {mg : Str → Option Value} (X : K.In h) (G : h.Ns mainGlobals mg) {x z : Str} (l : List Nat) (c : (He.Fa.str x z).ok K = true) (e : z = ⟨l.toArray⟩ := by decide +kernel) : KonT K mg x (sD l) := by
  subst e; exact konT_str X G c
end
end A3
namespace A3
open PySem PySem.Spec PyProof.Rows L2
/-! ### posts -/
def LET : List Nat := [97, 98, 99, 100, 101, 102, 103, 104, 105, 106, 107, 108, 109, 110, 111, 112, 113, 114, 115, 116, 117, 118, 119, 120, 121, 122]
def isLt (c : Nat) : Bool := decide (c ∈ LET)
theorem lt_iff {c : Nat} : isLt c = true ↔ 97 ≤ c ∧ c ≤ 122 := by
  unfold isLt LET
  simp only [decide_eq_true_eq, List.mem_cons, List.not_mem_nil, or_false]
  omega
def partB (p : List Nat) : Bool := p.all isLt && (decide (1 ≤ p.length) && decide (p.length ≤ 8))
def postB (l : List Nat) : Bool := decide ((TL.spl [46] 0 [] l).length ≤ 4) && (TL.spl [46] 0 [] l).all partB
def okP : List Nat → Nat → Nat → Bool
  | [], _, n => decide (1 ≤ n)
  | c :: r, k, n => if c = 46 then decide (1 ≤ n) && (decide (0 < k) && okP r (k - 1) 0) else isLt c && (decide (n < 8) && okP r k (n + 1))
theorem spl46 (acc r : List Nat) (c : Nat) : TL.spl [46] 0 acc (c :: r) = if c = 46 then acc :: TL.spl [46] 0 [] r else TL.spl [46] 0 (acc ++ [c]) r := by
  show (if TL.pre [46] (c :: r) = true then acc :: TL.spl [46] 0 [] r else TL.spl [46] 0 (acc ++ [c]) r) = _
  have : TL.pre [46] (c :: r) = decide (c = 46) := by
    unfold TL.pre
    by_cases h : c = 46 <;> simp [h]
  rw [this]
  by_cases h : c = 46 <;> simp [h]
theorem spl_pos : ∀ (l acc : List Nat), 1 ≤ (TL.spl [46] 0 acc l).length
  | [], acc => by simp [TL.spl_nil]
  | c :: r, acc => by
    rw [spl46]
    split
    · simp
    · exact spl_pos r _
theorem splB : ∀ (l : List Nat) (k : Nat) (acc : List Nat), (decide ((TL.spl [46] 0 acc l).length ≤ k + 1) && (TL.spl [46] 0 acc l).all partB) = (acc.all isLt && (decide (acc.length ≤ 8) && okP l k acc.length))
  | [], k, acc => by
    rw [TL.spl_nil]
    simp only [List.length_singleton, List.all_cons, List.all_nil, partB, okP, Bool.and_true]
    have : decide (1 ≤ k + 1) = true := by simp
    rw [this, Bool.true_and, Bool.and_comm (decide (1 ≤ acc.length))]
  | c :: r, k, acc => by
    rw [spl46]
    by_cases h : c = 46
    · rw [if_pos h]
      cases k with
      | zero =>
        have := spl_pos r []
        have e : decide ((acc :: TL.spl [46] 0 [] r).length ≤ 0 + 1) = false := by
          rw [decide_eq_false_iff_not, List.length_cons]; omega
        rw [e]
        simp [okP, h]
      | succ k =>
        have ih := splB r k []
        have e : decide ((acc :: TL.spl [46] 0 [] r).length ≤ k + 1 + 1) = decide ((TL.spl [46] 0 [] r).length ≤ k + 1) := by
          rw [decide_eq_decide, List.length_cons]; omega
        rw [e, List.all_cons]
        simp only [List.all_nil, List.length_nil, Bool.true_and] at ih
        have e8 : decide (0 ≤ 8) = true := rfl
        rw [e8, Bool.true_and] at ih
        simp only [okP, h, if_true, partB]
        have e3 : decide (0 < k + 1) = true := by simp
        rw [e3, Bool.true_and, Nat.add_sub_cancel, ← ih]
        generalize decide ((TL.spl [46] 0 [] r).length ≤ k + 1) = x1
        generalize (TL.spl [46] 0 [] r).all (fun p => p.all isLt && (decide (1 ≤ p.length) && decide (p.length ≤ 8))) = x2
        generalize acc.all isLt = x3
        generalize decide (1 ≤ acc.length) = x4
        generalize decide (acc.length ≤ 8) = x5
        generalize (TL.spl [46] 0 [] r).all partB = x6
        revert x1 x2 x3 x4 x5 x6
        decide
    · rw [if_neg h, splB r k (acc ++ [c])]
      simp only [okP, h, if_false, List.all_append, List.all_cons, List.all_nil, Bool.and_true, List.length_append, List.length_singleton]
      have e : decide (acc.length + 1 ≤ 8) = (decide (acc.length ≤ 8) && decide (acc.length < 8)) := by
        rw [Bool.eq_iff_iff]; simp; omega
      rw [e]
      generalize acc.all isLt = x1
      generalize isLt c = x2
      generalize decide (acc.length ≤ 8) = x3
      generalize decide (acc.length < 8) = x4
      generalize okP r k (acc.length + 1) = x5
      revert x1 x2 x3 x4 x5
      decide
theorem postB_ok (l : List Nat) : postB l = okP l 3 0 := by
  have h := splB l 3 []
  simpa [postB] using h
structure PartOk (p : List Nat) : Prop where
  pos : 1 ≤ p.length
  le : p.length ≤ 8
  lets : p.all isLt = true
/-- which things are posts -/
def isPostD : PyData → Bool
  | .str x => postB (TL.tl x)
  | _ => false
theorem isPost_s (l : List Nat) : isPostD (sD l) = postB l := rfl
def TxB : PyData → Prop
  | .str x => x.length ≤ 1000
  | _ => True
theorem txB_s {l : List Nat} (h : l.length ≤ 1000) : TxB (sD l) := by show (⟨l.toArray⟩ : Str).length ≤ 1000; rw [SX.S_len]; exact h
theorem post_cases (d : PyData) : (isS d = false ∧ isPostD d = false) ∨ ∃ l, d = sD l := by
  cases d with
  | str x => exact .inr ⟨TL.tl x, congrArg PyData.str (TL.mk_tl x).symm⟩
  | _ => exact .inl ⟨rfl, rfl⟩
/-! ### drawn names -/
theorem let_at {v : Int} (h0 : 0 ≤ v) (h : v < 26) : atI LET v = some (97 + v.toNat) := by
  obtain ⟨n, rfl⟩ : ∃ n : Nat, v = n := ⟨v.toNat, by omega⟩
  have hn : n < 26 := by omega
  refine atI_nat ?_
  have : ∀ n < 26, LET[n]? = some (97 + n) := by decide
  rw [this n hn]; simp
def dr (m : Int) (s : Sd) : Sd := drawS s m
def partN (s : Sd) : Nat := (1 + drawV s 8).toNat
def partS (s : Sd) : Sd := it (dr 26) (partN s) (drawS s 8)
def nameN (s : Sd) : Nat := (1 + drawV s 4).toNat
def nameS (s : Sd) : Sd := it partS (nameN s) (drawS s 4)
theorem partN_b (s : Sd) : 1 ≤ partN s ∧ partN s ≤ 8 := by have := drawV_b s (m := 8) (by decide); unfold partN; omega
theorem nameN_b (s : Sd) : 1 ≤ nameN s ∧ nameN s ≤ 4 := by have := drawV_b s (m := 4) (by decide); unfold nameN; omega
theorem Bs.drs {n m : Int} : ∀ {i : Nat} {s : Sd}, Bs n s → (i : Int) ≤ n → Bs (n - i) (it (dr m) i s)
  | 0, s, h, _ => by simpa [it] using h
  | i + 1, s, h, hi => by
    have ih := Bs.drs (m := m) (i := i) h (by omega)
    have := ih.draw (m := m) (by omega)
    show Bs _ (drawS (it (dr m) i s) m)
    rw [show n - ((i + 1 : Nat) : Int) = n - (i : Int) - 1 by omega]
    exact this
theorem Bs.part {n : Int} {s : Sd} (h : Bs n s) (hn : 9 ≤ n) : Bs (n - 9) (partS s) := by
  have h2 := partN_b s
  have := (h.draw (m := 8) (by omega)).drs (m := 26) (i := partN s) (by omega)
  exact this.le (by omega)
theorem Bs.parts {n : Int} : ∀ {i : Nat} {s : Sd}, Bs n s → 9 * (i : Int) ≤ n → Bs (n - 9 * i) (it partS i s)
  | 0, s, h, _ => by simpa [it] using h
  | i + 1, s, h, hi => by
    have ih := Bs.parts (i := i) h (by omega)
    have := ih.part (by omega)
    show Bs _ (partS (it partS i s))
    exact this.le (by omega)
theorem Bs.name {n : Int} {s : Sd} (h : Bs n s) (hn : 37 ≤ n) : Bs (n - 37) (nameS s) := by
  have h2 := nameN_b s
  have := (h.draw (m := 4) (by omega)).parts (i := nameN s) (by omega)
  exact this.le (by omega)
/-! ### runs -/
def TxR : PyData → Prop
  | .tuple [a, b, c] => TxB a ∧ TxB b ∧ isPtB c = false
  | d => isPtB d = false
theorem TxR.np {d : PyData} (h : TxR d) : isPtB d = false := by
  cases d with
  | tuple ds => rfl
  | _ => exact h
theorem isFrB_fr {p : Fr} (h : IsFr p) : isFrB (frD p) = true := by
  show (decide (0 < p.2) && decide ((Int.gcd p.1 p.2 : Int) = 1)) = true
  have h1 := h.pos
  have h2 := h.cop
  simp [h1, h2]
theorem eqv_s (l m : List Nat) : PyData.eqv (sD l) (sD m) = decide (l = m) := by
  show decide ((⟨l.toArray⟩ : Str) = ⟨m.toArray⟩) = _
  exact s_eq
theorem mapL_inv {ls : List (List Nat)} {k : Nat} {d : PyData} (h : (ls.map sD)[k]? = some d) : ∃ p, ls[k]? = some p ∧ d = sD p := by
  rw [List.getElem?_map] at h
  obtain ⟨c, h1, h2⟩ := Option.map_eq_some_iff.mp h
  exact ⟨c, h1, h2.symm⟩
theorem getD_of {α : Type} {ls : List α} {k : Nat} {p x : α} (h : ls[k]? = some p) : ls.getD k x = p := by
  rw [List.getD_eq_getElem?_getD, h]; rfl
theorem getD_map_range {α : Type} (ls : List α) (x : α) : (List.range ls.length).map (fun i => ls.getD i x) = ls := by
  apply List.ext_getElem?
  intro i
  rw [List.getElem?_map]
  by_cases h : i < ls.length
  · rw [List.getElem?_range h]
    simp [h]
  · rw [List.getElem?_eq_none (by simpa using h), List.getElem?_eq_none (by simpa using h)]; rfl
theorem made_parts (l : List Nat) : madeC (fun i => some (PyData.bool (partB ((TL.spl [46] 0 [] l).getD i [])))) ((TL.spl [46] 0 [] l).map sD).length = ((TL.spl [46] 0 [] l).map partB).map .bool := by
  rw [madeC_some (fun i => PyData.bool (partB ((TL.spl [46] 0 [] l).getD i []))), List.length_map, List.map_map]
  have := getD_map_range (TL.spl [46] 0 [] l) []
  conv => rhs; rw [← this]
  rw [List.map_map]; rfl
theorem spl_bd : ∀ (l acc : List Nat), (TL.spl [46] 0 acc l).length ≤ l.length + 1 ∧ ∀ p ∈ TL.spl [46] 0 acc l, p.length ≤ acc.length + l.length
  | [], acc => by simp [TL.spl_nil]
  | c :: r, acc => by
    rw [spl46]
    split
    · have ih := spl_bd r []
      refine ⟨by simp; omega, fun p hp => ?_⟩
      rcases List.mem_cons.mp hp with rfl | hp
      · simp
      · have := ih.2 p hp
        simp at this ⊢; omega
    · have ih := spl_bd r (acc ++ [c])
      refine ⟨by have := ih.1; simp; omega, fun p hp => ?_⟩
      have := ih.2 p hp
      simp at this ⊢; omega
theorem spl_b (l : List Nat) : (TL.spl [46] 0 [] l).length ≤ l.length + 1 ∧ ∀ p ∈ TL.spl [46] 0 [] l, p.length ≤ l.length := by
  have h := spl_bd l []
  simpa using h
theorem postSum (l : List Nat) : postB l = (decide ((TL.spl [46] 0 [] l).length ≤ 4) && ((TL.spl [46] 0 [] l).map partB).all id) := by
  unfold postB; rw [List.all_map]; rfl
end A3
namespace A3
open PySem PySem.Spec PyProof.Rows L2
/-! ### errors -/
/-- an own class of errors, by its name -/
structure ExN (K : PySem.W.Frag) (mg : Str → Option Value) (x : Str) : Prop where
  at_ : mg x = some (.ref (He.ga K x))
  ex : PySem.W.excIn K (He.ga K x) He.veBase "ValueError.__new__" = true
  kp : PySem.W.keepIn K (.ref (He.ga K x)) = true
  sb : PySem.W.subIn K (.ref (He.ga K x)) (.type "BaseException") = some true
  ty : PySem.W.typeIn K (.ref (He.ga K x)) = some (.type "type")
theorem ExN.of {K : PySem.W.Frag} {h : Heap} {mg : Str → Option Value} (X : K.In h) (G : h.Ns mainGlobals mg) {x : Str} (c1 : (He.Fa.glo x).ok K = true) (c2 : (He.Fa.exc x).ok K = true) : ExN K mg x := by
  obtain ⟨a, b, c, d⟩ := He.exc_ok c2
  exact ⟨He.glo_ok X G c1, a, b, c, d⟩
def never : D3 := ⟨fun _ => False, fun _ _ => False, fun _ => False, fun _ => False, fun _ _ => False⟩
section
variable {X : Cx} {a b e : Expr} {es : List Expr} {sts rest body suite : List Stmt} {c : Cf} {D : D3} {fs f1 f2 f3 : Fm} {d d1 d2 d3 : PyData} {ds dd : List PyData} {r r1 r2 : Res} {pos pos' p p2 apos np : Pos} {T : Addr → Bool} {σ : L2.St} {H : Hp} {W : WX} {x n m : Str} {C E0 : Addr}
/-- an expression that raises -/
def RE (X : Cx) (e : Expr) (c : Cf) (fs : Fm) : Prop := ∀ σ H Q, S3 X.K c σ H fs → bE X e σ H Q
theorem as_exprE (h : RE X e c fs) (hs : swapsWith e none pos.line X.env = pure false := by rfl) : AS X (.Expr e pos :: rest) c fs D := fun σ H S => bSs_of (pss_cons (ps_expr best hs) bestSs) (h σ H _ S)
theorem as_setE (n : Nat) (h : RE X e c fs) (hN : X.N.Nodup) (hi : X.N[n]? = some x := by rfl) (hx : Loc X.env.scope x := by first | exact .inl rfl | exact .inr rfl)
    (hs : swapsWith e (some (.Name x pos')) pos.line X.env = pure false := by rfl) (hf : X.fn x = true ∨ X.env.scope.names.lookup x = some .local := by first | exact .inl rfl | exact .inr rfl) : AS X (.Assign [.Name x pos'] e pos :: rest) c fs D :=
  fun σ H S => bSs_of (pss_cons (ps_set hN hi hx best hs hf) bestSs) (h σ H _ S)
/-- a call that raises: with defaults, the wish by the frame's slots -/
theorem pe_raises {CXT' : CXT} {k : Nat} {f : Addr} {fd : FuncData} {ps : List Str} {sp : Sp} {dvs : List V} {dvals : List Value} {t : TA} (F : FnOk X.prog X.w X.K X.mg X.base CXT' k f fd ps sp) (hr : Room k X.A) (hg : Gl X x) (hm : X.mg x = some (.ref f)) (hk : PySem.W.keepIn X.K (.ref f) = true)
    (hb : Binds X.K fd ps dvals) (hd : Vals dvs dvals) {Ew : L2.St → XK} (hx : ∀ σ, PassesAt CXT' X σ (Ew σ))
    (ha : PA X (a :: es) t) (hdb : (x == ("__debug__" : Str)) = false := by decide) (he : starEach (a :: es) X.env = (false, eval a X.env) :: starEach es X.env := by rfl) (hpl : (backTo pos (starEach es X.env)).any (·.1) = false := by rfl) :
    PE X (.Call (.Name x p) (a :: es) [] pos) (fun σ H Q => t σ H fun vs H1 => sp (vs ++ dvs) H1 Q (Ew σ)) := by
  refine ⟨fun pins s σ H Q I h => wpAny_Call_Name_kw (ld_glob I hg hm ?_ hdb)⟩
  refine PySem.W.callWith_K (h₀ := X.base) I.ok.mod.kin hk (thn (ha.run pos pins s σ H _ I h) fun us s1 hh => ?_) he hpl
  obtain ⟨vs, H1, I1, rv, q⟩ := hh
  refine ⟨I1.kIn, ?_⟩
  have lens := F.len _ _ _ _ q
  have all := rv.append hd
  have lenu : (us ++ dvals).length = ps.length := all.length.symm.trans lens
  have bnd := hb s1 us I1.kIn lenu
  refine wpAny_call (codeAny_mono (F.run X.A X.stack s1 H1 ⟨us, []⟩ (us ++ dvals) (vs ++ dvs) Q (Ew σ) hr I1.env0 bnd all q) fun out s2 hq => ?_)
  cases out with
  | error ev => exact hx σ pins H1 s1 ev s2 I1 hq
  | ok fl =>
    cases fl with
    | ret u => exact I1.after hq
    | next => exact hq.elim
    | brk => exact hq.elim
    | cont => exact hq.elim
/-- a def that may raise, called where it does not -/
theorem passN {X : Cx} : Passes (L2N.CX X.prog X.w) X (fun _ _ _ => False) := fun _ _ _ _ _ _ _ h => by
  obtain ⟨_, _, _, _, _, _, _, _, _, _, _, _, z⟩ := h
  exact z.elim
theorem S3.exc {K : PySem.W.Frag} {q : Nat} {l : Addr} (S : S3 K c σ H fs) : S3 K c (σ.set q (some (.ref l))) H (fs.set q (.ref l)) :=
  S.less (S.er.setS (s := .ref l) (ov := some (.ref l)) rfl rfl) fun b h => by
    rcases ownL_set h with z | z
    · exact z
    · cases z
theorem S3.gone {K : PySem.W.Frag} {q : Nat} (S : S3 K c σ H fs) : S3 K c (σ.set q none) H (fs.set q .no) :=
  S.less (er_no S.er) fun b h => by
    rcases ownL_set h with z | z
    · exact z
    · cases z
end
/-! ### isinstance of an error that is in hand -/
section
variable {X : Cx} {fs : Fm} {pos p px pe : Pos} {l C : Addr} {oe : Obj} {x n : Str} {ok : Bool}
theorem pe_ref {q : Nat} (hs : fs[q]? = some (.ref l)) (hN : X.N[q]? = some n := by rfl) (hv : Vis X.env.scope n := by first | exact .inl rfl | exact .inr (.inl rfl) | exact .inr (.inr rfl)) (hd : (n == ("__debug__" : Str)) = false := by decide) (hcd : (n == ("__classdict__" : Str)) = false := by decide)
    {T : Addr → Bool} {σ : L2.St} {H : Hp} {Q : VK} (E : ER X.K T σ H fs) (h : Q (.ref l) H) : bE X (.Name n p) σ H Q := by
  refine bE_inv fun L => ?_
  obtain ⟨ov, h1, h2⟩ := E.sl q _ hs
  cases ov with
  | none => exact h2.elim
  | some v =>
    have e : v = .ref l := h2
    subst e
    exact bE_of (pe_var hN hv hd hcd) ⟨_, h1 (by rw [L]; exact (List.getElem?_eq_some_iff.mp hN).1), h⟩
end
/-- the head's word of an error's class -/
theorem excC_of {K : PySem.W.Frag} {x : Str} (c : konB K (.isx x) = true) : ExcC K (He.ga K x) := by
  have c' := c
  simp only [konB, Bool.and_eq_true, decide_eq_true_eq] at c'
  obtain ⟨h1, h2, h3, h4, h5, h6, h7, h8⟩ := c'
  exact ⟨h1, h2, h3, h4, h5, h6, h7, h8⟩
end A3
namespace A3
open PySem PySem.Spec PyProof.Rows L2
/-! ### where an error is handled: a comprehension over a range, calls -/
structure Held (X : Cx) (z : Addr × Obj) : Prop where
  hand : L2H.Hot1 X.A z
  pinned : z ∈ X.pn
end A3
namespace A3
open PySem PySem.Spec PyProof.Rows L2
section
variable {X : Cx} {fs f1 f2 : Fm} {pos p p0 p1 pe pc : Pos} {l C : Addr} {oe : Obj} {x n : Str} {ok : Bool} {i : Int} {a elt tg : Expr} {ifs : List Expr} {scope : Scope}
theorem Held.of {l : Addr} {oe : Obj} {pn : List (Addr × Obj)} (hz : L2N.Zn (.ref C) none oe) (hf : ∃ vs, oe.data = .fields vs) : Held (X.suite l ((l, oe) :: pn)) (l, oe) := by
  obtain ⟨vs, h⟩ := hf
  exact ⟨⟨rfl, vs, h, hz.2.2 vs h⟩, List.mem_cons_self⟩
end
end A3
namespace A3
open PySem PySem.Spec PyProof.Rows L2
/-- a def of the text that may raise -/
def FnTX (K : PySem.W.Frag) (mg : Str → Option Value) (P : Program) (w : World) (base : Heap) (k : Nat) (x : Str) (ps : List Str) (ct : Ct) (cx : Cex) (dfl : List He.Dv) : Prop :=
  ∃ f fd, FnOk P w K mg base (L2N.CX P w) k f fd ps (Sp3 K ct cx) ∧ mg x = some (.ref f) ∧ PySem.W.keepIn K (.ref f) = true ∧ (∃ dvals, Binds K fd ps dvals ∧ Vals (dfl.map (He.Dv.v K)) dvals) ∧ dfl.all dvS = true
section
variable {X : Cx} {P : Program} {w : World} {K : PySem.W.Frag} {mg : Str → Option Value} {base : Heap} {k : Nat} {x : Str} {ps : List Str} {ct : Ct} {cx : Cex} {dfl : List He.Dv} {f : Addr} {fd : FuncData}
theorem FnTX.fn (h : FnTX K mg P w base k x ps ct cx dfl) (h1 : X.prog = P) (h2 : X.w = w) (h3 : X.K = K) (h4 : X.mg = mg) (h5 : X.base = base) : ∃ f fd, Fn X (L2N.CX X.prog X.w) k x f fd ps ct cx (dfl.map (He.Dv.v K)) (dfl.map dvD) := by
  obtain ⟨f, fd, a, b, c, d, e⟩ := h
  subst h1 h2 h3 h4 h5
  exact ⟨f, fd, a, b, c, d, fun S => dvs_rp e⟩
theorem FnTX.mk0 (a : FnOk P w K mg base (L2N.CX P w) k f fd ps (Sp3 K ct cx)) (b : mg x = some (.ref f)) (c : PySem.W.keepIn K (.ref f) = true) (d : Binds K fd ps []) : FnTX K mg P w base k x ps ct cx [] := ⟨f, fd, a, b, c, ⟨[], d, .nil⟩, rfl⟩
theorem FnTX.mkD {dl : List He.Dv} (a : FnOk P w K mg base (L2N.CX P w) k f fd ps (Sp3 K ct cx)) (b : mg x = some (.ref f)) (c : PySem.W.keepIn K (.ref f) = true) (d : ∃ ds, Vals (dl.map (He.Dv.v K)) ds ∧ Binds K fd ps ds) (h : dl.all dvS = true) : FnTX K mg P w base k x ps ct cx dl := by
  obtain ⟨ds, h1, h2⟩ := d
  exact ⟨f, fd, a, b, c, ⟨ds, h2, h1⟩, h⟩
theorem Fn.tr {CXT' : CXT} {k : Nat} {x : Str} {f : Addr} {fd : FuncData} {ps : List Str} {ct : Ct} {cx : Cex} {dvs : List V} {dd : List PyData} {pn : List (Addr × Obj)} {xe : Value → Shared → Prop} (h : Fn X CXT' k x f fd ps ct cx dvs dd) : Fn (X.tr pn xe) CXT' k x f fd ps ct cx dvs dd := ⟨h.ok, h.mg, h.kp, h.bd, h.df⟩
theorem as_frame {sts : List Stmt} {c : Cf} {fs f1 : Fm} {D : D3} (e : fs = f1) (h : AS X sts c f1 D) : AS X sts c fs D := by rw [e]; exact h
end
end A3
namespace A3
open PySem PySem.Spec PyProof.Rows L2
/-! ### data that may be compared -/
def Flat (n : Nat) (d : PyData) : Prop := d.canLay0 = true ∧ d.depth ≤ n
theorem Flat.up {n m : Nat} {d : PyData} (h : Flat n d) (hm : n ≤ m) : Flat m d := ⟨h.1, Nat.le_trans h.2 hm⟩
theorem flat_all {n : Nat} : ∀ {ds : List PyData}, (∀ d ∈ ds, Flat n d) → PyData.canLayAll0 ds = true ∧ PyData.depthAll ds ≤ n
  | [], _ => ⟨by simp [PyData.canLayAll0], by simp [PyData.depthAll]⟩
  | d :: ds, h => by
    obtain ⟨h1, h2⟩ := h d List.mem_cons_self
    obtain ⟨i1, i2⟩ := flat_all (ds := ds) fun x hx => h x (List.mem_cons_of_mem _ hx)
    refine ⟨by simp [PyData.canLayAll0, h1, i1], ?_⟩
    simp only [PyData.depthAll]
    omega
theorem Flat.list {n : Nat} {ds : List PyData} (h : ∀ d ∈ ds, Flat n d) : Flat (n + 1) (.list ds) := by
  obtain ⟨a, b⟩ := flat_all h
  exact ⟨by simpa only [PyData.canLay0] using a, by simp only [PyData.depth]; omega⟩
theorem Flat.tuple {n : Nat} {ds : List PyData} (h : ∀ d ∈ ds, Flat n d) : Flat (n + 1) (.tuple ds) := by
  obtain ⟨a, b⟩ := flat_all h
  exact ⟨by simpa only [PyData.canLay0] using a, by simp only [PyData.depth]; omega⟩
theorem Flat.int {n : Nat} {i : Int} : Flat n (.int i) := ⟨rfl, Nat.zero_le _⟩
theorem strOk_of {l : List Nat} (h : ∀ c ∈ l, c < 1000) : PyData.strOk (⟨l.toArray⟩ : Str) = true := by
  unfold PyData.strOk
  rw [← Array.all_toList, List.all_eq_true]
  intro c hc
  have := h c hc
  exact decide_eq_true (by omega)
theorem Flat.str {n : Nat} {l : List Nat} (h : ∀ c ∈ l, c < 1000) : Flat n (sD l) := ⟨by simp only [PyData.canLay0]; exact strOk_of h, Nat.zero_le _⟩
theorem Flat.non {n : Nat} : Flat n .none := ⟨rfl, Nat.zero_le _⟩
theorem Flat.bl {n : Nat} {b : Bool} : Flat n (.bool b) := ⟨rfl, Nat.zero_le _⟩
theorem Flat.fr {n : Nat} {p : Fr} : Flat (n + 1) (frD p) := Flat.tuple fun d hd => by
  simp only [List.mem_cons, List.not_mem_nil, or_false] at hd
  rcases hd with rfl | rfl <;> exact Flat.int
theorem Flat.shaped {n : Nat} {d : PyData} (h : Flat n d) (hn : n ≤ 64 := by decide) : SeqAt.shaped d = true := by
  unfold SeqAt.shaped
  rw [h.1, Bool.true_and]
  exact decide_eq_true (Nat.le_trans h.2 hn)
theorem Flat.refl {n : Nat} {d : PyData} (h : Flat n d) : PyData.eqv d d = true := SeqAt.eqv_refl d h.1
section
variable {X : Cx} {a b c e elt tg : Expr} {es ifs : List Expr} {body rest : List Stmt} {cf : Cf} {D : D3} {fs f1 f2 f3 : Fm} {d d1 d2 d3 : PyData} {ds ds2 : List PyData} {r r1 r2 : Res} {pos p p0 p2 apos : Pos} {T : Addr → Bool} {σ : L2.St} {H : Hp} {i j k lo hi : Int} {l m : List Nat} {scope : Scope}
/-! ### in, not in: texts, whole numbers -/
/-! ### for i, x in enumerate(xs) -/
def enumD (ds : List PyData) : List PyData := (List.range ds.length).map fun (i : Nat) => PyData.tuple [.int (i : Int), ds.getD i .none]
theorem enumD_len (ds : List PyData) : (enumD ds).length = ds.length := by simp [enumD]
theorem enumD_get {q : Nat} (h : q < ds.length) : (enumD ds)[q]? = some (.tuple [.int (q : Int), ds.getD q .none]) := by
  unfold enumD
  rw [List.getElem?_map, List.getElem?_range h]; rfl
theorem enumD_inv {q : Nat} (h : (enumD ds)[q]? = some d) : q < ds.length ∧ ∃ x, ds[q]? = some x ∧ d = .tuple [.int (q : Int), x] := by
  have lt : q < ds.length := by
    have := (List.getElem?_eq_some_iff.mp h).1
    rw [enumD_len] at this; exact this
  rw [enumD_get lt] at h
  refine ⟨lt, ds[q], List.getElem?_eq_getElem lt, (Option.some.inj h).symm.trans ?_⟩
  rw [List.getD_eq_getElem?_getD, List.getElem?_eq_getElem lt]; rfl
theorem as_forE {elts : List Expr} {kk : Nat} {tpos : Pos} (hp : PassesOwn (model X.prog X.w) X.A X.env X.xe) (P : Nat → Fm → Prop) (he : AE X e fs f1 (.val (.list ds))) (h0 : P 0 f1) (hs : Turn3 X (.Tuple elts kk tpos) body rest cf D (enumD ds) P) (hd : ∀ f, P ds.length f → AS X rest cf f D)
    (hm : X.mg "enumerate" = none) (hg : Gl X "enumerate" := by rfl) (hc : X.calm = true := by rfl) (hst : starEach [e] X.env = [(false, eval e X.env)] := by rfl)
    (hf : ∀ x, foldedSetIterable (.Call (.Name "enumerate" p) [e] [] p2) X.env x = pure x := by intro _; rfl) : AS X (.For (.Tuple elts kk tpos) (.Call (.Name "enumerate" p) [e] [] p2) body [] pos :: rest) cf fs D := by
  refine fun σ H S => bSs_of (pss_cons (ps_for hp hc (pi_enum hg hm (pa_cons best pa_nil hst) hst) bestG bestSs hf) bestSs) (he.run cf.T σ H _ S.er fun v H1 k1 p1 => ?_)
  obtain ⟨E1, rl⟩ := p1
  obtain ⟨g, vs, rfl, s, qv⟩ := rl.lst_inv
  have up : Same (cut H1 (tt cf.T (ownL f1))) (cut H1 fun b => decide (b ∈ ownL f1)) := cut_same fun b o e z => ⟨decide_eq_false (tt_false.mp e).2, z⟩
  have s1 : SqL X.K (cut H1 fun b => decide (b ∈ ownL f1)) g vs := sqL_same up s
  refine ⟨g, vs, rfl, sqL_same (cut_all _ _) s, for_core (ds := enumD ds) (S.step k1 E1 he.ow) h0 (fun G g' q lt => ?_) (fun G g' => ?_) (fun G g' q v G' lt y => ?_) hs (by rw [enumD_len]; exact hd)⟩
  · rw [enumD_len] at lt
    have := qv.length
    exact ⟨vs, vs[q]'(by omega), sqL_same g' s1, by simp⟩
  · exact ⟨vs, sqL_same g' s1, by rw [qv.length, enumD_len]; exact Nat.le_refl _⟩
  · rw [enumD_len] at lt
    obtain ⟨N, x, rfl, nN, rfl, hx⟩ := y
    have hv := hx vs (sqL_same g' s1)
    obtain ⟨dx, hdx, rd⟩ := qv.get2 hv
    refine ⟨same_upd nN, _, enumD_get lt, fun T σ f E dis et => ?_⟩
    have fN := E.free nN
    have gx : ds.getD q .none = dx := by rw [List.getD_eq_getElem?_getD, hdx]; rfl
    rw [gx]
    refine .tup (xs := [.int (q : Nat), x]) (.inl (.inl (cut_of fN upd_same))) (.cons (.int _) (.cons ?_ .nil))
    refine rd.mono fun b o h => ?_
    obtain ⟨e1, e2⟩ := cut_some h
    obtain ⟨e3, e4⟩ := tt_false.mp e1
    have gb := g' b o (cut_of (decide_eq_false e4) e2)
    have bN : b ≠ N := fun z => by rw [z, nN] at gb; cases gb
    refine cut_of (tt_false.mpr ⟨by rw [et]; exact e3, fun z => ?_⟩) (by rw [upd_ne bN]; exact gb)
    have := dis b z
    rw [cut_of (decide_eq_false e4) e2] at this; cases this
/-! ### [.. for x in range(a, b)] -/
theorem compR_range2 {vs : List Nat} {F : Nat → Fm} {y : Nat → Option PyData} (ha : AD X [a, b] fs f1 [.int lo, .int hi]) (hn : hi - lo ≤ 100000) (F0 : F 0 = wipeF f1 vs) (Fo : ∀ i, ownL (F i) = ownL f1) (hs : ∀ i, i < (hi - lo).toNat → TurnC X scope vs tg ifs elt (.int (lo + (i : Int))) (F i) (F (i + 1)) (y i)) (bk : BackR f1 (F (hi - lo).toNat) f2) (h1 : -1000000000000 ≤ lo) (h2 : lo ≤ 1000000000000) (h3 : -1000000000000 ≤ hi) (h4 : hi ≤ 1000000000000) :
    CompR X fs f2 (.list (madeC y (hi - lo).toNat)) (tLc (iRng2 (bA X [a, b])) (gB X scope tg) (iB X scope ifs) (eB X scope elt) vs) := by
  refine ⟨bk.own.trans ha.ow, fun T σ H Q E q => ha.run T σ H _ E fun ws H1 k1 E1 p1 => ?_⟩
  obtain ⟨v, w, rfl, rv, rw'⟩ := p1.two_inv
  refine ⟨lo, hi, by rw [rv.int_inv, rw'.int_inv], ⟨by omega, by omega, by omega, by omega⟩, fun N nN => ?_⟩
  refine comp_core (ds := rngD lo (hi - lo).toNat) (F := F) (y := y) E1 nN (by rw [rngD_len]; omega) F0 Fo (fun G g k lt => by rw [rngD_len] at lt; exact lt) (fun G g => by show (hi - lo).toNat ≤ _; rw [rngD_len]; exact Nat.le_refl _) (fun G g k w G' lt y => ?_) (fun i d hd => ?_) (fun H' k E2 z => ?_)
  · obtain ⟨rfl, rfl⟩ := y
    rw [rngD_len] at lt
    exact ⟨fun _ _ h => h, _, rngD_get lt, fun _ _ _ _ _ _ => .int _⟩
  · obtain ⟨lt, rfl⟩ := rngD_inv hd
    exact hs i lt
  · rw [rngD_len] at E2 z
    obtain ⟨r1, r2⟩ := comp_end E1 k1 ha.ow nN k E2 (Fo _) bk z
    exact q _ _ r1 r2
theorem as_lcR2D {x : Str} {py spos : Pos} {F : Nat → Fm} (n : Nat) (own : List (Str × Nat)) (y : Nat → Option PyData) (hN : X.N.Nodup) (ha : AD X [a, b] fs f1 [.int lo, .int hi]) (F0 : F 0 = wipeF f1 (own.map (·.2))) (Fo : ∀ i, ownL (F i) = ownL f1) (hs : ∀ i, i < (hi - lo).toNat → TurnC X scope (own.map (·.2)) tg ifs elt (.int (lo + (i : Int))) (F i) (F (i + 1)) (y i)) (bk : BackL f1 (F (hi - lo).toNat) f2)
    (hk : AS X rest cf (f2.set n (.dat (.list (madeC y (hi - lo).toNat)))) D) (hm : X.mg "range" = none) (hz : hi - lo ≤ 100000 ∧ -1000000000000 ≤ lo ∧ lo ≤ 1000000000000 ∧ -1000000000000 ≤ hi ∧ hi ≤ 1000000000000 := by first | omega | (refine ⟨?_, ?_, ?_, ?_, ?_⟩ <;> (repeat' split) <;> omega)) (hy : X.N[n]? = some x := by rfl) (hyl : X.env.scope.names.lookup x = some .local := by rfl) (hg : Gl X "range" := by rfl) (hc : X.calm = true := by rfl)
    (hst : starEach [a, b] X.env = [(false, eval a X.env), (false, eval b X.env)] := by rfl) (hst2 : starEach [b] X.env = [(false, eval b X.env)] := by rfl) (ok : blkC X.N X.env.scope scope own = true := by first | decide +kernel | rfl)
    (hsw : swapsWith (.ListComp elt [⟨tg, .Call (.Name "range" p) [a, b] [] p0, ifs, 0⟩] scope pos) (some (.Name x py)) spos.line X.env = pure true := by exact sw_true rfl rfl rfl (by decide +kernel)) (hf : ∀ x, foldedSetIterable (.Call (.Name "range" p) [a, b] [] p0) X.env x = pure x := by intro _; rfl) :
    AS X (.Assign [.Name x py] (.ListComp elt [⟨tg, .Call (.Name "range" p) [a, b] [] p0, ifs, 0⟩] scope pos) spos :: rest) cf fs D :=
  as_compD n (compR_range2 (X := X) (scope := scope) (tg := tg) (ifs := ifs) (elt := elt) ha hz.1 F0 Fo hs bk.back hz.2.1 hz.2.2.1 hz.2.2.2.1 hz.2.2.2.2) (ps_setLc (i := n) hc hN hy hyl hsw (pi_range2 hg hm bestA hst hst2) (blkOk_by ok) gB_ok iB_ok eB_ok hf) hk
/-! ### an owned list that is walked, compared -/
end
end A3
namespace A3
open PySem PySem.Spec PyProof.Rows L2
section
variable {X : Cx} {a b c e elt tg : Expr} {es ifs : List Expr} {body rest : List Stmt} {cf : Cf} {D : D3} {fs f1 f2 f3 : Fm} {d d1 d2 d3 : PyData} {ds ds2 : List PyData} {r r1 r2 : Res} {pos pos' p p0 p1 p2 p3 apos : Pos} {T : Addr → Bool} {σ : L2.St} {H : Hp} {i j k lo hi : Int} {l m : List Nat} {scope : Scope}
/-! ### in, not in: whole numbers -/
/-! ### for target in range(a, b) -/
theorem as_forR2 {tg : Expr} (hp : PassesOwn (model X.prog X.w) X.A X.env X.xe) (P : Nat → Fm → Prop) (ha : AD X [a, b] fs f1 [.int lo, .int hi]) (h0 : P 0 f1) (hs : Turn3 X tg body rest cf D (rngD lo (hi - lo).toNat) P) (hd : ∀ f, P (hi - lo).toNat f → AS X rest cf f D)
    (hm : X.mg "range" = none) (hz : -1000000000000 ≤ lo ∧ lo ≤ 1000000000000 ∧ -1000000000000 ≤ hi ∧ hi ≤ 1000000000000 := by omega) (hg : Gl X "range" := by rfl) (hc : X.calm = true := by rfl)
    (hst : starEach [a, b] X.env = [(false, eval a X.env), (false, eval b X.env)] := by rfl) (hst2 : starEach [b] X.env = [(false, eval b X.env)] := by rfl)
    (hf : ∀ x, foldedSetIterable (.Call (.Name "range" p) [a, b] [] pos') X.env x = pure x := by intro _; rfl) : AS X (.For tg (.Call (.Name "range" p) [a, b] [] pos') body [] pos :: rest) cf fs D := by
  obtain ⟨z1, z2, z3, z4⟩ := hz
  refine fun σ H S => bSs_of (pss_cons (ps_for hp hc (pi_range2 hg hm bestA hst hst2) bestG bestSs hf) bestSs) (ha.run cf.T σ H _ S.er fun vs H1 k1 E1 q1 => ?_)
  obtain ⟨v, w, rfl, rv, rw'⟩ := q1.two_inv
  refine ⟨lo, hi, by rw [rv.int_inv, rw'.int_inv], ⟨by omega, by omega, by omega, by omega⟩, for_core (ds := rngD lo (hi - lo).toNat) (S.step k1 E1 ha.ow) h0 (fun G g k lt => ?_) (fun G g => ?_) (fun G g k v G' lt y => ?_) hs (by rw [rngD_len]; exact hd)⟩
  · rw [rngD_len] at lt; exact lt
  · show (hi - lo).toNat ≤ _; rw [rngD_len]; exact Nat.le_refl _
  · obtain ⟨rfl, rfl⟩ := y
    rw [rngD_len] at lt
    exact ⟨fun _ _ h => h, _, rngD_get lt, fun T σ f E dis et => .int _⟩
/-! ### xs[::-1], xs * n -/
end
end A3
namespace A3
open PySem PySem.Spec PyProof.Rows L2 PySem.Froz

/-! ### texts in order, each once -/
/-! ### the set's object -/
def SetX (P : Program) (w : World) (h : Heap) (a : Addr) (l : List Str) : Prop :=
  ∃ es ep t, h.get? a = some (sObj "set" (es, ep, t)) ∧ TxOk P w (es, ep, t) l ∧ l.Nodup ∧ Ris t.place.toList ∧ (w.params.followText "set-order" = true ∨ t.led = true)
section
variable {P : Program} {w : World} {A : Around} {E : Value → Shared → Prop} {s : Shared} {a : Addr} {l : List Str} {k : Str} {u : Tok}
theorem SetX.at {h h' : Heap} (R : SetX P w h a l) (e : ∀ o, h.get? a = some o → h'.get? a = some o) : SetX P w h' a l := by
  obtain ⟨es, ep, t, ho, q⟩ := R
  exact ⟨es, ep, t, e _ ho, q⟩
end

/-! ### set(xs) -/
section
variable {prog : Program} {w : World} {A : Around} {R : Result → Shared → Prop} {I : Addr} {fp wr : List Addr} {G : Array GenState → Array GenState → Prop} {n : Nat} {P : Nat → Value → Prop} {St : Nat → Shared → Prop}
end
section
variable {P : Program} {w : World} {A : Around} {E : Value → Shared → Prop} {s : Shared}
end

/-! ### sorted(set(e)) -/
section
variable {X : Cx}
end
section
variable {X : Cx} {a : Expr} {fs f1 : Fm} {r : Res} {pos p p2 q2 : Pos}
end
end A3
namespace A3
open PySem PySem.Spec PyProof.Rows L2
section
variable {X : Cx} {a b c e : Expr} {es : List Expr} {rest : List Stmt} {cf : Cf} {D : D3} {fs f1 f2 f3 : Fm} {d d1 d2 : PyData} {ds : List PyData} {r : Res} {pos p apos : Pos} {T : Addr → Bool} {σ : L2.St} {H : Hp} {i j k : Int} {q : Addr} {l m : List Nat} {v : V}
/-! ### the only owned object, lent to what doesn't change it -/
/-! ### f(..).append(x), the list being nobody's -/
/-- tuple(xs), xs a list -/
theorem ae_tupOf (ha : AE X a fs f1 r) (e : r.d = .list ds) (hg : Gl X "tuple") (hm : X.mg "tuple" = none) (he : starEach [a] X.env = (false, eval a X.env) :: starEach [] X.env := by rfl) : AE X (.Call (.Name "tuple" p) [a] [] pos) fs f1 (.val (.tuple ds)) := by
  refine ⟨ha.ow, fun T σ H Q E q => bE_of (pe_callTy call_tuple_of hg hm (by decide +kernel) (pa_cons best pa_nil he) (he := he)) (ha.run T σ H _ E fun x H1 k1 p1 => ?_)⟩
  obtain ⟨g, vs, ex, sq, qv⟩ := p1.list e
  exact ⟨g, vs, by rw [ex], .inl ⟨sq, fun p n => q _ _ (k1.trans (Kp.of (same_upd n))) (po_tup (H := H) p1.er n qv)⟩⟩
/-! ### text.endswith("..") -/
end
end A3
namespace A3
open PySem PySem.Spec PyProof.Rows L2

/-! ### tables of data -/
abbrev Tb := List (Key × PyData)
def dE (t : Tb) : List (PyData × PyData) := t.map fun p => (kD p.1, p.2)
def dD (t : Tb) : PyData := .dict (dE t)
def gV : Tb → Key → Option PyData
  | [], _ => none
  | p :: r, k => if p.1 = k then some p.2 else gV r k
def gKs (t : Tb) : List Key := t.map (·.1)
def gP (t : Tb) (k : Key) (d : PyData) : Tb := if (gV t k).isSome = true then t.map (fun p => if p.1 = k then (p.1, d) else p) else t ++ [(k, d)]
def gX (t : Tb) (k : Key) : Tb := t.filter fun p => decide (p.1 ≠ k)
theorem kD_inj {a b : Key} (h : kD a = kD b) : a = b := by
  cases a with
  | inl i => cases b with
    | inl j => injection h with h; rw [h]
    | inr y => cases h
  | inr x => cases b with
    | inl j => cases h
    | inr y => injection h with h; rw [h]
/-- a table of values stands for one of data -/
inductive RK (K : PySem.W.Frag) (H : Hp) : List (Key × V) → Tb → Prop
  | nil : RK K H [] []
  | cons {k : Key} {v : V} {d : PyData} {kvs : List (Key × V)} {t : Tb} : Rp K H v d → RK K H kvs t → RK K H ((k, v) :: kvs) ((k, d) :: t)
section
variable {K : PySem.W.Frag} {H H' : Hp} {kvs : List (Key × V)} {t : Tb} {v : V} {d : PyData} {k : Key}
theorem rk_of : ∀ {t : Tb} {kvs : List (Key × V)}, RpKV K H kvs (dE t) → RK K H kvs t
  | [], _, .nil => .nil
  | (k, d) :: t, _, h => by
    unfold dE at h
    rw [List.map_cons] at h
    generalize e : (kD (k, d).1, (k, d).2) = x at h
    cases h with
    | @cons k2 v d2 kvs es r rr =>
      injection e with e1 e2
      have e3 : k = k2 := kD_inj e1
      subst e3
      cases e2
      exact .cons r (rk_of rr)
theorem RK.kv (h : RK K H kvs t) : RpKV K H kvs (dE t) := by
  induction h with
  | nil => exact .nil
  | cons r _ ih => exact .cons r ih
theorem RK.lk (e : LkR H H') (h : RK K H kvs t) : RK K H' kvs t := rk_of (h.kv.lk e)
theorem RK.mono (e : Same H H') (h : RK K H kvs t) : RK K H' kvs t := h.lk (same_lk e)
theorem RK.len (h : RK K H kvs t) : kvs.length = t.length := by
  induction h with
  | nil => rfl
  | cons _ _ ih => exact congrArg (· + 1) ih
theorem RK.val (h : RK K H kvs t) (k : Key) : (valV kvs k = none ∧ gV t k = none) ∨ ∃ v d, valV kvs k = some v ∧ gV t k = some d ∧ Rp K H v d := by
  induction h with
  | nil => exact .inl ⟨rfl, rfl⟩
  | @cons k2 v d kvs t r _ ih =>
    by_cases e : k2 = k
    · exact .inr ⟨v, d, valV_pos e, by simp [gV, e], r⟩
    · rw [valV_neg (p := (k2, v)) e]
      have : gV ((k2, d) :: t) k = gV t k := by simp [gV, e]
      rw [this]; exact ih
theorem RK.some (h : RK K H kvs t) (e : gV t k = Option.some d) : ∃ v, valV kvs k = Option.some v ∧ Rp K H v d := by
  rcases h.val k with ⟨_, h2⟩ | ⟨v, d2, h1, h2, r⟩
  · rw [h2] at e; cases e
  · rw [h2] at e; cases e; exact ⟨v, h1, r⟩
theorem RK.none (h : RK K H kvs t) (e : gV t k = Option.none) : valV kvs k = Option.none := by
  rcases h.val k with ⟨h1, _⟩ | ⟨v, d2, _, h2, _⟩
  · exact h1
  · rw [h2] at e; cases e
theorem RK.isSome (h : RK K H kvs t) : (valV kvs k).isSome = (gV t k).isSome := by
  rcases h.val k with ⟨h1, h2⟩ | ⟨v, d2, h1, h2, _⟩ <;> rw [h1, h2] <;> rfl
theorem rk_map (h : RK K H kvs t) (r : Rp K H v d) (k : Key) : RK K H (kvs.map fun kv => if kv.1 = k then (kv.1, v) else kv) (t.map fun p => if p.1 = k then (p.1, d) else p) := by
  induction h with
  | nil => exact .nil
  | @cons k2 v2 d2 kvs t r2 _ ih =>
    rw [List.map_cons, List.map_cons]
    by_cases e : k2 = k
    · rw [if_pos e, if_pos e]; exact .cons r ih
    · rw [if_neg e, if_neg e]; exact .cons r2 ih
theorem rk_app (h : RK K H kvs t) (r : Rp K H v d) (k : Key) : RK K H (kvs ++ [(k, v)]) (t ++ [(k, d)]) := by
  induction h with
  | nil => exact .cons r .nil
  | cons r2 _ ih => exact .cons r2 ih
theorem RK.put (h : RK K H kvs t) (r : Rp K H v d) (k : Key) : RK K H (putK kvs k v) (gP t k d) := by
  have e : (kvs.any fun kv => decide (kv.1 = k)) = (gV t k).isSome := by rw [valV_any, h.isSome]
  unfold putK gP
  rw [e]
  by_cases m : (gV t k).isSome = true
  · rw [if_pos m, if_pos m]; exact rk_map h r k
  · rw [if_neg m, if_neg m]; exact rk_app h r k
theorem RK.drop (h : RK K H kvs t) (k : Key) : RK K H (dropK kvs k) (gX t k) := by
  unfold dropK gX
  induction h with
  | nil => exact .nil
  | @cons k2 v2 d2 kvs t r2 _ ih =>
    by_cases e : k2 = k
    · rw [List.filter_cons_of_neg (by simp [e]), List.filter_cons_of_neg (by simp [e])]; exact ih
    · rw [List.filter_cons_of_pos (by simp [e]), List.filter_cons_of_pos (by simp [e])]; exact .cons r2 ih
theorem RK.keys (h : RK K H kvs t) : kvs.map (·.1) = gKs t := by
  induction h with
  | nil => rfl
  | cons _ _ ih => exact congrArg (_ :: ·) ih
theorem RK.get (h : RK K H kvs t) : ∀ {i : Nat} {k : Key} {v : V}, kvs[i]? = Option.some (k, v) → ∃ d, t[i]? = Option.some (k, d) ∧ Rp K H v d := by
  induction h with
  | nil => intro i k v e; simp at e
  | @cons k2 v2 d2 kvs t r2 _ ih =>
    intro i k v e
    cases i with
    | zero => cases Option.some.inj e; exact ⟨d2, rfl, r2⟩
    | succ i => exact ih (by simpa using e)
theorem rp_key (h : Rp K H v (kD k)) : v = kV k := by
  cases k with
  | inl i => exact h.int_inv
  | inr x => exact h.str_inv
theorem Rp.dct_inv (h : Rp K H v (dD t)) : ∃ a kvs, v = .ref a ∧ Rd H a (.dK kvs) ∧ RK K H kvs t := by
  unfold dD at h
  generalize e : PyData.dict (dE t) = x at h
  cases h with
  | @dct a kvs es s q =>
    injection e with e
    subst e
    exact ⟨a, kvs, rfl, s, rk_of q⟩
  | ptp _ _ _ =>
    injection e with e
    cases t with
    | nil => cases e
    | cons p r =>
      obtain ⟨k0, d0⟩ := p
      have e1 : (kD k0, d0) = (PyData.none, _) := (List.cons.inj e).1
      have e2 := (Prod.mk.inj e1).1
      cases k0 <;> cases e2
  | _ => cases e
theorem ow_dct {S : Hp} {a : Addr} (h : Ow K S H a (dD t)) : ∃ kvs, H a = Option.some (.dK kvs) ∧ RK K S kvs t := by
  obtain ⟨kvs, h1, h2⟩ := h
  exact ⟨kvs, h1, rk_of h2⟩
theorem ow_of {S : Hp} {a : Addr} (h : H a = Option.some (.dK kvs)) (r : RK K S kvs t) : Ow K S H a (dD t) := ⟨kvs, h, r.kv⟩
/-- a dict, however it lies, a little later -/
theorem Po.dct {T : Addr → Bool} {σ : L2.St} {H0 : Hp} {fs : Fm} {r : Res} (p : Po K T σ H0 H fs v r) (E : ER K T σ H' fs) (k : Kp H H' (ownL fs)) (e : r.d = dD t) : ∃ a kvs, v = .ref a ∧ Rd H' a (.dK kvs) ∧ RK K (cut H' (tt T (ownL fs))) kvs t := by
  have val : ∀ {d : PyData}, d = dD t → Rp K (cut H (tt T (ownL fs))) v d → ∃ a kvs, v = .ref a ∧ Rd H' a (.dK kvs) ∧ RK K (cut H' (tt T (ownL fs))) kvs t := fun e q => by
    rw [e] at q
    obtain ⟨a, kvs, e1, s, q⟩ := (q.mono (k.up rfl)).dct_inv
    exact ⟨a, kvs, e1, rd_same (cut_all _ _) s, q⟩
  cases r with
  | val d => exact val e p.2
  | new d => exact val e (Po.toVal p).2
  | two d e' => cases e
  | tw d e' => cases e
  | «at» a d =>
    obtain ⟨_, rfl, i, hi⟩ := p
    cases (show d = dD t from e)
    obtain ⟨kvs, h1, h2⟩ := ow_dct (E.own hi).2
    exact ⟨a, kvs, rfl, .inl h1, h2⟩
end

/-! ### rules: {}, [], in, get, pop, store, != {} -/
section
variable {X : Cx} {a b c e e2 o ie tg : Expr} {rest body : List Stmt} {cf : Cf} {D : D3} {fs f1 f2 f3 : Fm} {d d1 d2 : PyData} {ds : List PyData} {r r1 r2 : Res} {pos pos' apos p : Pos} {T : Addr → Bool} {σ : L2.St} {H : Hp} {l : Addr} {t t2 : Tb} {k : Key} {x : Str}
theorem po_dct {K : PySem.W.Frag} {H1 : Hp} {p : Addr} {kvs : List (Key × V)} (E : ER K T σ H1 f1) (k : Kp H H1 (ownL fs)) (e : ownL f1 = ownL fs) (n : H1 p = none) (q : RK K (cut H1 (tt T (ownL f1))) kvs t) : Po K T σ H (upd H1 p (.dK kvs)) f1 (.ref p) (.new (dD t)) := by
  have sm : Same H1 (hide (upd H1 p (.dK kvs)) p) := same_hide (same_upd n) n
  exact ⟨p, rfl, none_back E k e n, E.keep sm, ow_of upd_same (q.mono (cut_same fun b o e z => ⟨e, sm b o z⟩))⟩
theorem ae_dnew : AE X (.Dict [] [] pos) fs fs (.new (dD [])) :=
  ⟨rfl, fun T σ H Q E q => bE_of pe_dnewK fun p n => q _ _ (Kp.of (same_upd n)) (po_dct (fs := fs) E (Kp.refl _ _) rfl n .nil)⟩
end
end A3
namespace A3
open PySem PySem.Spec PyProof.Rows L2

/-! ### all that is owned, lent to what doesn't change it -/
mutual
def immut : PyData → Bool
  | .tuple ds => immutL ds
  | .list _ => false
  | .dict _ => false
  | .none => true
  | .bool _ => true
  | .int _ => true
  | .str _ => true
def immutL : List PyData → Bool
  | [] => true
  | d :: ds => immut d && immutL ds
end
section
variable {X : Cx} {a b c e o ie tg : Expr} {es : List Expr} {rest body : List Stmt} {cf : Cf} {D : D3} {fs f1 f2 f3 : Fm} {d d1 d2 : PyData} {ds : List PyData} {r r1 r2 : Res} {pos pos' apos p : Pos} {T : Addr → Bool} {σ : L2.St} {H H1 : Hp} {l : Addr} {t t2 : Tb} {k : Key} {x : Str}
/-! ### a walk over a dict, which is locked meanwhile -/
end
end A3
namespace A3
open PySem PySem.Spec PyProof.Rows L2
section
variable {X : Cx} {a b c e o ie tg : Expr} {es : List Expr} {rest body : List Stmt} {cf : Cf} {D : D3} {fs f1 f2 f3 : Fm} {d d1 d2 : PyData} {ds : List PyData} {r r1 r2 : Res} {pos pos' apos p : Pos} {T : Addr → Bool} {σ : L2.St} {H H1 : Hp} {l : Addr} {t t2 : Tb} {k : Key} {x : Str}
/-- what a walk over the locked dict at g yields -/
structure DWalk (K : PySem.W.Frag) (Jt : Addr → Obj → List (Key × V) → It) (F : Key → PyData → PyData) : Prop where
  go : ∀ {g od kvs G k}, G g = some (.frz od (.dK kvs)) → k < kvs.length → (Jt g od kvs).go k G
  stop : ∀ {g od kvs G}, G g = some (.frz od (.dK kvs)) → (Jt g od kvs).stop kvs.length G
  yld : ∀ {g od kvs G k v G'}, (Jt g od kvs).yld k G v G' → Same G G' ∧ ∃ key w, kvs[k]? = some (key, w) ∧ ∀ {S' : Hp} {d : PyData}, (∀ b o, G b = none → G' b = some o → S' b = some o) → Rp K S' w d → Rp K S' v (F key d)
/-! ### sorted(d), dict(pairs), x or [] -/
end
end A3
namespace A3
open PySem PySem.Spec PyProof.Rows L2
/-! ### a dict of lists that are written: the dict raw, its lists ghosts -/
abbrev GL := List (Key × Addr × List PyData)
section
variable {X : Cx} {a b c e o ie tg : Expr} {es : List Expr} {rest body sts : List Stmt} {cf : Cf} {D : D3} {fs f1 f2 f3 nm : Fm} {d d1 d2 : PyData} {ds : List PyData} {r r1 r2 : Res} {pos pos' apos p px py cpos : Pos} {T : Addr → Bool} {σ : L2.St} {H H1 H' : Hp} {l g : Addr} {t t2 : Tb} {k : Key} {x y : Str} {L : GL}
theorem ownL_push (s : Slot) : ownL (fs ++ [s]) = ownL fs ++ (adr s).toList := by rw [ownL_app]; cases s <;> rfl
theorem er_push {K : PySem.W.Frag} (E : ER K T σ (hide H g) fs) (w : Ow K (cut (hide H g) (tt T (ownL fs))) H g d) (hl : σ.length ≤ fs.length) : ER K T σ H (fs ++ [.own g d]) := by
  have f : tt T (ownL fs) g = false := E.free (hide_self H g)
  obtain ⟨f1, f2⟩ := tt_false.mp f
  have eo : ownL (fs ++ [.own g d]) = ownL fs ++ [g] := ownL_push _
  have up : Same (cut (hide H g) (tt T (ownL fs))) (cut H (tt T (ownL (fs ++ [.own g d])))) := cut_same fun b o e q => by
    have n : b ≠ g := fun z => by rw [z, hide_self] at q; cases q
    rw [hide_ne n] at q
    obtain ⟨e1, e2⟩ := tt_false.mp e
    exact ⟨tt_false.mpr ⟨e1, by rw [eo]; simp [e2, n]⟩, q⟩
  refine ⟨by rw [List.length_append]; exact Nat.le_trans hl (Nat.le_add_right _ _), fun j u h => ?_, ?_, fun b h => ?_, fun b h => ?_⟩
  · by_cases lt : j < fs.length
    · rw [List.getElem?_append_left lt] at h
      obtain ⟨ov, h1, h2⟩ := E.sl j u h
      exact ⟨ov, h1, h2.mono up fun b q => (hide_ne (fun z => f2 (mem_ownL.mpr ⟨j, u, h, by rw [← z]; exact q⟩))).symm⟩
    · have e : j = fs.length := by
        have := (List.getElem?_eq_some_iff.mp h).1
        rw [List.length_append] at this; simp at this; omega
      subst e
      rw [List.getElem?_append_right (Nat.le_refl _), Nat.sub_self] at h
      cases Option.some.inj h
      exact ⟨some (.ref g), fun z => absurd z (by omega), rfl, w.mono up rfl⟩
  · rw [eo]
    exact List.nodup_append.mpr ⟨E.nd, List.nodup_cons.mpr ⟨by simp, List.nodup_nil⟩, fun a ha b hb z => by
      rw [List.mem_singleton] at hb
      exact f2 (by rw [← hb, ← z]; exact ha)⟩
  · rw [eo] at h
    rcases List.mem_append.mp h with z | z
    · exact E.out b z
    · rw [List.mem_singleton.mp z]; exact f1
  · have z := E.dom b h
    by_cases n : b = g
    · rw [n] at z; exact absurd (hide_self H g) z
    · rw [hide_ne n] at z; exact z
theorem S3.push {K : PySem.W.Frag} (S : S3 K cf σ H fs) (k : Kp H H' (ownL fs)) (o : ownL f1 = ownL fs) (na : H l = none) (E : ER K cf.T σ (hide H' l) f1) (w : Ow K (cut (hide H' l) (tt cf.T (ownL f1))) H' l d) (hl : σ.length ≤ f1.length) : S3 K cf σ H' (f1 ++ [.own l d]) where
  er := er_push E w hl
  kp := S.keeps k
  dm := (S.step k (E.keep (hide_same H' l)) o).dm
  ow := fun a h => by
    rw [ownL_push] at h
    rcases List.mem_append.mp h with z | z
    · exact S.ow a (by rw [← o]; exact z)
    · have e : a = l := by simpa [adr] using z
      subst e
      refine .inr ?_
      cases hh : cf.H0 a with
      | none => rfl
      | some u => exact absurd na (S.dm a (by rw [hh]; exact fun z => by cases z))
  wd := S.wd
  gs := (S.step k (E.keep (hide_same H' l)) o).gs
  gd := fun a h => by
    rw [ownL_push] at h
    rcases List.mem_append.mp h with z | z
    · exact S.gd a (by rw [← o]; exact z)
    · have e : a = l := by simpa [adr] using z
      subst e
      cases hh : cf.G a with
      | none => rfl
      | some u => rw [S.gs a u hh] at na; cases na
end
end A3
namespace A3
open PySem PySem.Spec PyProof.Rows L2
/-! ### a sign's place among the letters -/
section
variable {X : Cx} {a b c e : Expr} {es : List Expr} {fs f1 f2 : Fm} {d d2 : PyData} {ds : List PyData} {r : Res} {pos p apos : Pos} {T : Addr → Bool} {σ : L2.St} {H H' : Hp} {x : Str} {s : Slot}
/-! ### f(.., ..), the first argument a new object that is lent, and then nobody's -/
variable {CX : CXT} {k : Nat} {f : Addr} {fd : FuncData} {ps : List Str} {ct : Ct} {cx : Cex} {dvs : List V} {W : XK} {ss2 : List Slot} {dd : List PyData}
/-! ### a dict as it is written -/
structure APs (X : Cx) (pos : Pos) (keys : List (Option Expr)) (vals : List Expr) (fs : Fm) (ps : List (Key × PyData)) : Prop where
  run : ∃ trs, PPs X pos keys vals trs ∧ ∀ (T : Addr → Bool) (σ : L2.St) (H : Hp) (Q : List (V × V) → Hp → Prop), ER X.K T σ H fs → (∀ kvs H', Kp H H' (ownL fs) → ER X.K T σ H' fs → RK X.K (cut H' (tt T (ownL fs))) kvs ps → Q (kvs.map fun kv => (kV kv.1, kv.2)) H') → tPairs trs σ H Q
end
end A3
namespace A3
open PySem PySem.Spec PyProof.Rows L2
/-! ### f(.., k = v): the last parameters told by name -/
structure FnK (X : Cx) (CX : CXT) (k : Nat) (x : Str) (f : Addr) (fd : FuncData) (ps : List Str) (ct : Ct) (cx : Cex) (n : Nat) (ks : List Str) : Prop where
  ok : FnOk X.prog X.w X.K X.mg X.base CX k f fd ps (Sp3 X.K ct cx)
  mg : X.mg x = some (.ref f)
  kp : PySem.W.keepIn X.K (.ref f) = true
  kb : KBn X.K fd ps n ks (fun us ws => us ++ ws) (fun vs zs => vs ++ zs)
theorem FnK.blk {X : Cx} {CX : CXT} {k : Nat} {x : Str} {f : Addr} {fd : FuncData} {ps : List Str} {ct : Ct} {cx : Cex} {n : Nat} {ks : List Str} {s : Shared} {H : Hp} {C : Addr} {cl : List (Str × Addr)} {fp : List Addr} (h : FnK X CX k x f fd ps ct cx n ks) : FnK (BX X scope s H C cl fp) CX k x f fd ps ct cx n ks := ⟨h.ok, h.mg, h.kp, h.kb⟩
def FnKT (K : PySem.W.Frag) (mg : Str → Option Value) (P : Program) (w : World) (base : Heap) (k : Nat) (x : Str) (ps : List Str) (ct : Ct) (cx : Cex) (n : Nat) (ks : List Str) : Prop :=
  ∃ f fd, FnOk P w K mg base CX0 k f fd ps (Sp3 K ct cx) ∧ mg x = some (.ref f) ∧ PySem.W.keepIn K (.ref f) = true ∧ KBn K fd ps n ks (fun us ws => us ++ ws) (fun vs zs => vs ++ zs)
theorem FnKT.fn {X : Cx} {P : Program} {w : World} {K : PySem.W.Frag} {mg : Str → Option Value} {base : Heap} {k : Nat} {x : Str} {ps : List Str} {ct : Ct} {cx : Cex} {n : Nat} {ks : List Str} (h : FnKT K mg P w base k x ps ct cx n ks)
    (h1 : X.prog = P) (h2 : X.w = w) (h3 : X.K = K) (h4 : X.mg = mg) (h5 : X.base = base) : ∃ f fd, FnK X CX0 k x f fd ps ct cx n ks := by
  obtain ⟨f, fd, a, b, c, d⟩ := h
  subst h1 h2 h3 h4 h5
  exact ⟨f, fd, a, b, c, d⟩
section
variable {X : Cx} {a b c e : Expr} {es : List Expr} {fs f1 f2 : Fm} {d d2 : PyData} {ds : List PyData} {r : Res} {pos p apos kpos : Pos} {T : Addr → Bool} {σ : L2.St} {H H' : Hp} {x nm : Str} {s : Slot} {CX : CXT} {k n : Nat} {f : Addr} {fd : FuncData} {ps ks : List Str} {ct : Ct} {cx : Cex} {W : XK} {ss2 : List Slot}
/-! ### max of a tuple of two whole numbers -/
/-! ### list + list, both data -/
section
open PySem.AutoSeq1
theorem add_gen (l : Addr) (items : Array Value) (n : Nat) (b : Addr) (items2 : Array Value) (n2 : Nat) (s1 s2 : Array (Option Value)) (hc0 : items.size + items2.size ≤ sizeLine) :
    Meets (Builtin.«list.__add__» ⟨[.ref l, .ref b], []⟩) (fun _ R s => s.heap.get? l = some { cls := .type "list", dict := none, data := .seq items n, slots := s1 } ∧ s.heap.get? b = some { cls := .type "list", dict := none, data := .seq items2 n2, slots := s2 } ∧ R (.ok (.ret (Value.ref s.heap.objs.size))) { s with heap := s.heap.push { cls := Value.type "list", data := Data.seq (items ++ items2) }, toks := s.toks }) :=
  .of_wp fun prog w A R s h => by obtain ⟨hp, g, d, tk, os⟩ := s; obtain ⟨hl, hb, h⟩ := h; have f1 := PySem.AutoSeq1.idx_int; have f2 := PySem.AutoSeq1.sub_tuple_tuple; have f3 := PySem.AutoSeq1.sub_list_list; have f4 := PySem.AutoSeq1.sub_tuple_list; have f5 := PySem.AutoSeq1.sub_list_tuple; wp_walk using PySem.AutoSeq1.wpAny_loadPart' hl, PySem.AutoSeq1.wpAny_loadPart' hb; exact ⟨_, rfl, h⟩
end
def rCatV (K : PySem.W.Frag) : R2 := fun x y H Q => ∃ l b xs zs, x = .ref l ∧ y = .ref b ∧ SqL K H l xs ∧ SqL K H b zs ∧ xs.length + zs.length ≤ sizeLine ∧ ∀ p, H p = none → Q (.ref p) (upd H p (.lst (xs ++ zs)))
theorem op_catV : OpR X (binaryOp .Add) (rCatV X.K) := by
  intro pins s σ H x y v u Q I rx ry h
  obtain ⟨l, b, xs, zs, rfl, rfl, hH, hB, hz, q⟩ := h
  cases rx
  cases ry
  obtain ⟨its, r, ⟨o, n, e, c1, c2, c3⟩, _⟩ := I.list hH
  obtain ⟨its2, r2, ⟨o2, n2, e2, d1, d2, d3⟩, _⟩ := I.list hB
  obtain ⟨oc, od, ox, os⟩ := o
  obtain ⟨pc, pd, px, ps⟩ := o2
  cases (show oc = .type "list" from c1)
  cases (show od = none from c2)
  cases (show ox = .seq its.toArray n from c3)
  cases (show pc = .type "list" from d1)
  cases (show pd = none from d2)
  cases (show px = .seq its2.toArray n2 from d3)
  refine PySem.concat_meets ⟨_, e, rfl⟩ ⟨_, e2, rfl⟩ noFill_list_add seq_list_add PySem.F.slot_list_add PySem.F.entry_list_add (PySem.F.args_list_add_2 _ _) (add_gen l its.toArray n b its2.toArray n2 os ps (by rw [List.size_toArray, List.size_toArray, ← r.length, ← r2.length]; exact hz)) ⟨e, e2, ?_⟩
  have ea : its.toArray ++ its2.toArray = (its ++ its2).toArray := by simp
  rw [ea]
  exact ⟨.ref _, _, I.lnew (t' := s.toks) (r.append r2) (by rw [List.length_append]; omega), rfl, q _ I.fresh⟩
theorem ae_addV {ds2 : List PyData} (ha : AE X a fs f1 (.val (.list ds))) (hb : AE X b f1 f2 (.val (.list ds2))) (hz : ds.length + ds2.length ≤ 100000 := by first | exact Nat.le_of_ble_eq_true rfl | omega | (simp; omega)) : AE X (.BinOp a .Add b pos) fs f2 (.new (.list (ds ++ ds2))) := by
  refine ⟨hb.ow.trans ha.ow, fun T σ H Q E q => bE_of (pe_op op_catV best best) (two ha hb E fun x y H1 H2 k k1 rx p => ?_)⟩
  obtain ⟨l, vs, rfl, s1, q1⟩ := rx.lst_inv
  obtain ⟨m, ws, rfl, s2, q2⟩ := p.2.lst_inv
  refine ⟨l, m, vs, ws, rfl, rfl, sqL_same (cut_all _ _) s1, sqL_same (cut_all _ _) s2, by rw [q1.length, q2.length]; exact Nat.le_trans hz (by rw [sizeLine_eq]; decide), fun g n => ?_⟩
  exact q _ _ (k.trans (Kp.of (same_upd n))) (po_lst p.1 k (hb.ow.trans ha.ow) n (q1.app q2))
/-! ### x = a display of constants (the elaborator would run the statement: the step stands behind a structure) -/
structure Imp (P Q : Prop) : Prop where
  run : P → Q
end
end A3
namespace A3
open PySem PySem.Spec PyProof.Rows L2
/-! ### in, for a list of any data -/
section
variable {X : Cx}
theorem room_inD {A : Around} {ds : List PyData} {d : PyData} (h : d.depth ≤ 60) (hu : A.units + 64 < cLine) : A.units + 1 + min (PyData.depthAll ds) d.depth < cLine := by
  have h2 : min (PyData.depthAll ds) d.depth ≤ d.depth := Nat.min_le_right _ _
  omega
variable {a b : Expr} {f2 : Fm} {d1 : PyData} {r2 : Res} {ds : List PyData}
end
end A3
namespace A3
open PySem PySem.Spec PyProof.Rows L2
/-! ### lists: insert, remove, pop(i); ranges from the end; list(range(n)) -/
section
variable {X : Cx} {a b e o tg : Expr} {fs f1 f2 : Fm} {d : PyData} {ds : List PyData} {pos pos' apos cpos : Pos} {l : Addr} {rest body : List Stmt} {c : Cf} {D : D3}
/-- what an owned list in the slot n comes to -/
theorem own_upd {K : PySem.W.Frag} {T : Addr → Bool} {σ : L2.St} {H : Hp} {n : Nat} {vs : List V} {ds es : List PyData} (E2 : ER K T σ H f1) (hn : f1[n]? = some (.own l (.list ds))) (q : RpAll K (cut H (tt T (ownL f1))) vs es) : ER K T σ (upd H l (.lst vs)) (f1.set n (.own l (.list es))) := by
  have il : l ∈ ownL f1 := mem_own hn
  have up : Same (cut H (tt T (ownL f1))) (cut (upd H l (.lst vs)) (tt T (ownL f1))) := cut_same fun b o e z => ⟨e, by rw [upd_ne (fun q => (tt_false.mp e).2 (by rw [q]; exact il))]; exact z⟩
  exact E2.put hn (fun b o nb h => by rw [upd_ne nb]; exact h) ⟨_, upd_same, q.mono up⟩
def rIns : V → List V → Hp → VK → Prop := fun x vs H Q => ∃ (l : Addr) (xs : List V) (i : Int) (y : V), x = .ref l ∧ vs = [.int i, y] ∧ H l = some (.lst xs) ∧ xs.length < sizeLine ∧ 0 ≤ i ∧ i < 2 ^ 63 ∧
    Q .non (upd H l (.lst (xs.take i.toNat ++ [y] ++ xs.drop i.toNat)))
/-- l.insert(i, e) -/
theorem as_ins {i : Int} (n : Nat) (ho : AE X o fs fs (.at l (.list ds))) (ha : AD X [a, e] fs f1 [.int i, d]) (hz : ds.length ≤ 100000) (h0 : 0 ≤ i) (h9 : i < 1000000000) (hk : AS X rest c (f1.set n (.own l (.list (ds.take i.toNat ++ [d] ++ ds.drop i.toNat)))) D) (hn : f1[n]? = some (.own l (.list ds)) := by rfl)
    (hpe : ∀ {to : TE} {t : TA}, PE X o to → PA X [a, e] t → PE X (.Call (.Attribute o "insert" apos) [a, e] [] cpos) (tBM X.K "list" rIns to t) := by exact fun h1 h2 => pe_bm PySem.F.plainAttrs_list PySem.F.slot_list_insert PySem.F.type_list_insert mt_insert h1 h2)
    (hs : swapsWith (.Call (.Attribute o "insert" apos) [a, e] [] cpos) none pos.line X.env = pure false := by rfl) : AS X (.Expr (.Call (.Attribute o "insert" apos) [a, e] [] cpos) pos :: rest) c fs D :=
  fun σ H S => bSs_of (pss_cons (ps_expr (hpe best bestA) hs) bestSs) (ho.run c.T σ H _ S.er fun ov H1 k1 p1 => by
    obtain ⟨E1, rfl, i1, hi⟩ := p1
    refine ⟨?_, ha.run c.T σ H1 _ E1 fun vs H2 k2 E2 p2 => ?_⟩
    · obtain ⟨vs, hl, _⟩ := (E1.own hi).2
      exact .inl ⟨rfl, _, SqL.of hl⟩
    · obtain ⟨vi, v, rfl, ri, rv⟩ := p2.two_inv
      obtain ⟨vs, hl, qv⟩ := (E2.own hn).2
      have S2 := S.step (k1.trans k2) E2 ha.ow
      refine ⟨l, vs, i, v, rfl, by rw [ri.int_inv], hl, by rw [qv.length]; exact Nat.lt_of_le_of_lt hz (by rw [sizeLine_eq]; decide), h0, by omega, hk _ _ ?_⟩
      have il : l ∈ ownL f1 := mem_own hn
      exact S2.step (fun b o nb h => by rw [upd_ne (fun z => nb (by rw [z]; exact il))]; exact h) (own_upd E2 hn (((qv.take i.toNat).snoc rv).app (qv.drop i.toNat))) (ownL_put hn))
/-! ranges with a step of -1 -/
end
/-! ### [.. for x in l], l an owned list -/
section
variable {X : Cx} {a b e elt tg iter : Expr} {es ifs : List Expr} {sts rest : List Stmt} {c : Cf} {D3' : D3} {fs f1 f2 f3 g1 g2 : Fm} {d d1 d2 : PyData} {ds : List PyData} {r : Res} {pos pos' spos : Pos} {T : Addr → Bool} {σ : L2.St} {H : Hp} {x : Str} {v : V} {scope : Scope} {own : List (Str × Nat)}
end
end A3
namespace A3
open PySem PySem.Spec PyProof.Rows L2
/-! ### [.. for x in t], t a tuple -/
section
variable {X : Cx} {a b e elt tg iter : Expr} {es ifs : List Expr} {sts rest : List Stmt} {c : Cf} {D3' : D3} {fs f1 f2 f3 g1 g2 : Fm} {d d1 d2 : PyData} {ds : List PyData} {r : Res} {pos pos' spos : Pos} {T : Addr → Bool} {σ : L2.St} {H : Hp} {x : Str} {v : V} {scope : Scope} {own : List (Str × Nat)}
end
end A3
namespace A3
open PySem PySem.Spec PyProof.Rows L2
/-! ### == and != of two dicts of like data -/
section
variable {X : Cx} {a b : Expr} {fs f1 f2 : Fm} {pos : Pos} {r1 r2 : Res} {t : Tb}
/-- flat enough, and known each once -/
structure DcOk (t : Tb) : Prop where
  nd : (gKs t).Nodup
  sh : ∀ p ∈ t, p.2.canLay0 = true ∧ p.2.depth ≤ 60
end
end A3
/-! ### list(reversed(xs)) -/
namespace RT
open PySem PySem.Spec PyProof.Rows
section
variable {prog : Program} {w : World} {A : Around} {E : Value → Shared → Prop} {s : Shared}
end
end RT
namespace A3
open PySem PySem.Spec PyProof.Rows L2
section
variable {X : Cx}
variable {a e : Expr} {fs f1 : Fm} {ds : List PyData} {r : Res} {pos p p2 pos2 : Pos}
end
end A3
namespace A3
open PySem PySem.Spec PyProof.Rows L2
/-! ### a new pair whose second part is new, kept, asked, and written at last -/
section
variable {X : Cx} {a b e ie o : Expr} {rest : List Stmt} {c : Cf} {D : D3} {fs f1 f2 F : Fm} {d d1 d2 : PyData} {ds : List PyData} {pos pos' p px apos cpos : Pos} {T : Addr → Bool} {σ σ' : L2.St} {H H' : Hp} {l g : Addr} {v1 : V} {x : Str} {bb : Bool}
theorem S3.pair {K : PySem.W.Frag} (S : S3 K c σ H fs) (k : Kp H H' (ownL fs)) (ow : ownL f1 = ownL fs) (na : H l = none) (ng : H g = none) (E1 : ER K c.T σ H' f1) (E : ER K c.T σ' H' F) (sub : ∀ z ∈ ownL F, z ∈ ownL f1 ∨ z = l ∨ z = g) : S3 K c σ' H' F where
  er := E
  kp := S.keeps k
  dm := (S.step k E1 ow).dm
  ow := fun z h => by
    have nn : ∀ y, H y = none → c.H0 y = none := fun y n => by
      cases hh : c.H0 y with
      | none => rfl
      | some u => exact absurd n (S.dm y (by rw [hh]; exact fun z => by cases z))
    rcases sub z h with q | q | q
    · exact S.ow z (by rw [← ow]; exact q)
    · rw [q]; exact .inr (nn l na)
    · rw [q]; exact .inr (nn g ng)
  wd := S.wd
  gs := (S.step k E1 ow).gs
  gd := fun z h => by
    have nn : ∀ y, H y = none → c.G y = none := fun y n => by
      cases hh : c.G y with
      | none => rfl
      | some u => rw [S.gs y u hh] at n; cases n
    rcases sub z h with q | q | q
    · exact S.gd z (by rw [← ow]; exact q)
    · rw [q]; exact nn l na
    · rw [q]; exact nn g ng
end
end A3
namespace A3
open PySem PySem.Spec PyProof.Rows L2
/-! ### d.setdefault(k, e) of an owned dict -/
section
variable {X : Cx} {a b c : Expr} {fs : Fm} {d : PyData} {pos apos : Pos} {l : Addr} {t : Tb} {k : Key}
end
/-! ### return (a, x), x a local's own -/
section
variable {X : Cx} {a b : Expr} {rest : List Stmt} {c : Cf} {D : D3} {fs f1 : Fm} {d1 d2 : PyData} {pos pos' : Pos} {l : Addr}
end
/-! ### len of a dict -/
section
variable {X : Cx} {a : Expr} {fs f1 : Fm} {pos : Pos} {r : Res} {t : Tb}
end
/-! ### l.clear() -/
section
variable {X : Cx} {o : Expr} {fs : Fm} {ds : List PyData} {pos apos cpos : Pos} {l : Addr} {rest : List Stmt} {c : Cf} {D : D3}
end
end A3
namespace A3
open PySem PySem.Spec PyProof.Rows L2
/-! ### list(d), sorted(texts) -/
section
variable {X : Cx} {a : Expr} {fs f1 : Fm} {r : Res} {t : Tb} {pos p : Pos}
end
/-! ### [elt for k in d if ..], d a dict that isn't owned -/
section
variable {X : Cx} {elt tg : Expr} {ifs : List Expr} {fs f2 : Fm} {t : Tb} {pos p : Pos} {x : Str} {scope : Scope}
end
/-! ### for over a tuple -/
section
variable {X : Cx} {e : Expr} {body rest : List Stmt} {c : Cf} {D : D3} {fs f1 : Fm} {ds : List PyData} {pos : Pos}
end
end A3
namespace A3
open PySem PySem.Spec PyProof.Rows L2
/-! ### for k in t[i], a dict within a tuple -/
section
variable {X : Cx} {a b c e o ie tg : Expr} {es : List Expr} {rest body : List Stmt} {cf : Cf} {D : D3} {fs f1 f2 f3 : Fm} {d d1 d2 : PyData} {ds : List PyData} {r r1 r2 : Res} {pos pos' apos p px : Pos} {T : Addr → Bool} {σ : L2.St} {H H1 : Hp} {l : Addr} {t t2 : Tb} {k : Key} {x : Str}
end
/-! ### t + u, list(range(a, b, c)) -/
section
variable {X : Cx} {a b c : Expr} {fs f1 f2 : Fm} {ds es : List PyData} {pos p p2 pos2 : Pos}
end
end A3
namespace A3
open PySem PySem.Spec PyProof.Rows L2
/-! ### lists of whole numbers: min with a default, max, sorted, index -/
section
variable {X : Cx} {a b o : Expr} {fs f1 f2 : Fm} {r : Res} {ns ms : List Int} {pos p apos kp p1 : Pos} {k m : Int} {j : Nat}
end
end A3
namespace A3
open PySem PySem.Spec PyProof.Rows L2
/-! ### (text, dict) == (text, dict); dict(d) -/
section
variable {X : Cx} {a b : Expr} {fs f1 f2 : Fm} {pos p : Pos} {r r1 r2 : Res} {t : Tb}
end
end A3
namespace A3
open PySem PySem.Spec PyProof.Rows L2
/-! ### for k in x[1], x a told pair whose second part is an owned dict -/
section
variable {X : Cx} {a b c e o ie tg : Expr} {es : List Expr} {rest body : List Stmt} {cf : Cf} {D : D3} {fs F f1 f2 f3 : Fm} {d d1 d2 dm : PyData} {ds : List PyData} {r r1 r2 : Res} {pos pos' apos p px : Pos} {T : Addr → Bool} {σ : L2.St} {H H1 : Hp} {l g : Addr} {t t2 : Tb} {k : Key} {x : Str} {v v1 : V}
end
end A3
namespace A3
open PySem PySem.Spec PyProof.Rows L2
/-! ### a dict of which some values are lists that are written: the dict raw, its values ghosts -/
/-- what a dict is told to hold: data, or a new empty list -/
inductive Mk : List (Key × Option PyData) → List (Key × V) → Fm → Prop
  | nil : Mk [] [] []
  | dat {k : Key} {d : PyData} {v : V} {sp : List (Key × Option PyData)} {kvs : List (Key × V)} {gs : Fm} : Mk sp kvs gs → Mk ((k, some d) :: sp) ((k, v) :: kvs) (.isv v d :: gs)
  | new {k : Key} {g : Addr} {sp : List (Key × Option PyData)} {kvs : List (Key × V)} {gs : Fm} : Mk sp kvs gs → Mk ((k, none) :: sp) ((k, .ref g) :: kvs) (.own g (.list []) :: gs)
theorem Mk.len {sp : List (Key × Option PyData)} {kvs : List (Key × V)} {gs : Fm} (h : Mk sp kvs gs) : kvs.length = sp.length := by
  induction h with
  | nil => rfl
  | dat _ ih => rw [List.length_cons, List.length_cons, ih]
  | new _ ih => rw [List.length_cons, List.length_cons, ih]
theorem Mk.keys {sp : List (Key × Option PyData)} {kvs : List (Key × V)} {gs : Fm} (h : Mk sp kvs gs) : kvs.map (·.1) = sp.map (·.1) := by
  induction h with
  | nil => rfl
  | dat _ ih => rw [List.map_cons, List.map_cons, ih]
  | new _ ih => rw [List.map_cons, List.map_cons, ih]
section
variable {X : Cx} {a b c e o ie tg : Expr} {es : List Expr} {rest body sts : List Stmt} {cf : Cf} {D : D3} {fs F f1 f2 f3 nm : Fm} {d d1 d2 : PyData} {ds : List PyData} {r r1 r2 : Res} {pos pos' apos p px py cpos : Pos} {T : Addr → Bool} {σ σ' : L2.St} {H H1 H' : Hp} {l g : Addr} {t t2 : Tb} {k : Key} {x y : Str}
theorem S3.many {K : PySem.W.Frag} (S : S3 K cf σ H fs) (k : Kp H H' (ownL fs)) (ow : ownL f1 = ownL fs) (E1 : ER K cf.T σ H' f1) (E : ER K cf.T σ' H' F) (sub : ∀ z ∈ ownL F, z ∈ ownL f1 ∨ H z = none) : S3 K cf σ' H' F where
  er := E
  kp := S.keeps k
  dm := (S.step k E1 ow).dm
  ow := fun z h => by
    rcases sub z h with q | q
    · exact S.ow z (by rw [← ow]; exact q)
    · refine .inr ?_
      cases hh : cf.H0 z with
      | none => rfl
      | some u => exact absurd q (S.dm z (by rw [hh]; exact fun z => by cases z))
  wd := S.wd
  gs := (S.step k E1 ow).gs
  gd := fun z h => by
    rcases sub z h with q | q
    · exact S.gd z (by rw [← ow]; exact q)
    · cases hh : cf.G z with
      | none => rfl
      | some u => rw [S.gs z u hh] at q; cases q
structure APm (X : Cx) (pos : Pos) (keys : List (Option Expr)) (vals : List Expr) (sp : List (Key × Option PyData)) (fs : Fm) : Prop where
  run : ∃ trs, PPs X pos keys vals trs ∧ ∀ (T : Addr → Bool) (σ : L2.St) (H : Hp) (g0 : Fm) (Q : List (V × V) → Hp → Prop), ER X.K T σ H (fs ++ g0) → σ.length ≤ fs.length →
    (∀ kvs gs H', Kp H H' (ownL (fs ++ g0)) → ER X.K T σ H' (fs ++ g0 ++ gs) → Mk sp kvs gs → (∀ a ∈ ownL gs, H a = none) → Q (kvs.map fun kv => (kV kv.1, kv.2)) H') → tPairs trs σ H Q
/-- the ghosts as the dict's data -/
inductive Mg : Fm → Nat → List (Key × V) → Tb → Prop
  | nil {F : Fm} {i : Nat} : Mg F i [] []
  | dat {F : Fm} {i : Nat} {k : Key} {d : PyData} {v : V} {kvs : List (Key × V)} {t : Tb} : F[i]? = some (.isv v d) → Mg F (i + 1) kvs t → Mg F i ((k, v) :: kvs) ((k, d) :: t)
  | own {F : Fm} {i : Nat} {k : Key} {g : Addr} {ds : List PyData} {kvs : List (Key × V)} {t : Tb} : F[i]? = some (.own g (.list ds)) → Mg F (i + 1) kvs t → Mg F i ((k, .ref g) :: kvs) ((k, .list ds) :: t)
end
end A3
namespace A3
open PySem PySem.Spec PyProof.Rows L2
/-! ### a dict that holds a list which a name holds too; defs to which such a dict is lent -/
section
variable {X : Cx} {a b c e o ie tg : Expr} {es : List Expr} {rest body sts : List Stmt} {cf : Cf} {D : D3} {fs F f1 f2 f3 nm : Fm} {d d1 d2 : PyData} {ds : List PyData} {r r1 r2 : Res} {pos pos' apos p px py cpos : Pos} {T : Addr → Bool} {σ σ' : L2.St} {H H1 H' : Hp} {l g : Addr} {t t2 : Tb} {k : Key} {x y : Str}
structure APc (X : Cx) (pos : Pos) (keys : List (Option Expr)) (vals : List Expr) (C : List (Key × V) → Fm → Prop) (fs : Fm) : Prop where
  run : ∃ trs, PPs X pos keys vals trs ∧ ∀ (T : Addr → Bool) (σ : L2.St) (H : Hp) (g0 : Fm) (Q : List (V × V) → Hp → Prop), ER X.K T σ H (fs ++ g0) → σ.length ≤ fs.length →
    (∀ kvs gs H', Kp H H' (ownL (fs ++ g0)) → ER X.K T σ H' (fs ++ g0 ++ gs) → C kvs gs → (∀ a ∈ ownL gs, H a = none) → Q (kvs.map fun kv => (kV kv.1, kv.2)) H') → tPairs trs σ H Q
end
end A3
namespace A3
open PySem PySem.Spec PyProof.Rows L2 RZ
/-! ### for x, y in zip(a, b): two tuples, two lists of one length; isinstance(a, (S, T)) -/
section
variable {X : Cx} {a b : Expr} {rest body : List Stmt} {cf : Cf} {D : D3} {fs f1 f2 : Fm} {d : PyData} {ds ss : List PyData} {r : Res} {pos p p2 tpos : Pos} {elts : List Expr} {kk : Nat}
end
end A3
namespace A3
open PySem PySem.Spec PyProof.Rows L2
/-! ### sorted(d), d a dict by numbers, any number of them -/
section
variable {X : Cx}
variable {a : Expr} {fs f1 : Fm} {r : Res} {t : Tb} {pos p : Pos}
end
end A3
namespace A3
open PySem PySem.Spec PyProof.Rows L2
/-! ### an error that a name keeps behind the suite: its object stands in the context -/
abbrev pinX (X : Cx) (p : Addr × Obj) : Cx := { X with pn := p :: X.pn }
section
variable {X : Cx} {pins : List (Addr × Obj)} {σ : L2.St} {H : Hp} {s : Shared} {p : Addr × Obj}
def PinAt (X : Cx) (H : Hp) (s : Shared) (p : Addr × Obj) : Prop := s.heap.get? p.1 = some p.2 ∧ H p.1 = none ∧ p.1 ≠ X.env.locals ∧ p.1 ∉ X.fs ∧ ∀ v, p.2.data ≠ .cell v
theorem ok_pn {Y : Cx} (ok : X.Ok) (e : Y = { X with pn := Y.pn }) : Y.Ok := by
  rw [e]; exact ⟨ok.mod, ok.kind, ok.glob, ok.blt, ok.above, ok.inj, ok.has, ok.cab, ok.hd, ok.frames, ok.stk, ok.exf, ok.bs, ok.bsz, ok.noex, ok.exfs, ok.funs, ok.frf⟩
theorem pin_in (I : Inv X pins σ H s) (h : PinAt X H s p) : Inv (pinX X p) pins σ H s where
  ok := ok_pn I.ok rfl
  os := I.os
  bare := I.bare
  base := I.base
  loc := I.loc
  cell := I.cell
  free := I.free
  freeC := I.freeC
  pin := fun q hq => by
    rcases List.mem_cons.mp (show q ∈ p :: (X.pn ++ pins) from hq) with e | z
    · rw [e]; exact h
    · exact I.pin q z
  hok := I.hok
  len := I.len
theorem pin_out (I : Inv (pinX X p) pins σ H s) : Inv X pins σ H s where
  ok := ok_pn (X := pinX X p) I.ok rfl
  os := I.os
  bare := I.bare
  base := I.base
  loc := I.loc
  cell := I.cell
  free := I.free
  freeC := I.freeC
  pin := fun q hq => I.pin q (List.mem_cons_of_mem p hq)
  hok := I.hok
  len := I.len
theorem bSs_pin {sts : List Stmt} {D : Ends} (h : bSs (pinX X p) sts D σ H) (I : Inv X pins σ H s) (hp : PinAt X H s p) : wpAny (model X.prog X.w) X.A (execs sts X.env) (SP X pins D) X.xe s :=
  thn (h pins s (pin_in I hp)) fun fl s' q => by
    cases fl with
    | next => obtain ⟨a, b, J, z⟩ := q; exact ⟨a, b, pin_out J, z⟩
    | brk => obtain ⟨a, b, J, z⟩ := q; exact ⟨a, b, pin_out J, z⟩
    | cont => obtain ⟨a, b, J, z⟩ := q; exact ⟨a, b, pin_out J, z⟩
    | ret u => obtain ⟨v, a, b, J, z⟩ := q; exact ⟨v, a, b, pin_out J, z⟩
theorem Fn.pin {CXT' : CXT} {k : Nat} {x : Str} {f : Addr} {fd : FuncData} {ps : List Str} {ct : Ct} {cx : Cex} {dvs : List V} {dd : List PyData} (h : Fn X CXT' k x f fd ps ct cx dvs dd) : Fn (pinX X p) CXT' k x f fd ps ct cx dvs dd := ⟨h.ok, h.mg, h.kp, h.bd, h.df⟩
end
section
variable {X : Cx} {rest body suite : List Stmt} {c : Cf} {D : D3} {fs : Fm} {pos pos' np : Pos} {x n : Str} {C E0 : Addr}
end
end A3
namespace A3
open PySem PySem.Spec PyProof.Rows L2 RZ
/-! ### l.extend(..) of a new list; l.pop(i) asked for; l.insert(i, l.pop(j)); text * n; text.count; [.. for x, y in zip(t, u)] -/
section
variable {X : Cx} {a b e o elt : Expr} {es ifs : List Expr} {rest : List Stmt} {c : Cf} {D : D3} {fs f1 f2 : Fm} {d d1 d2 : PyData} {ds ss : List PyData} {r : Res} {pos cpos apos p p2 tpos : Pos} {l : Addr} {elts : List Expr} {kk : Nat} {scope : Scope} {i : Int} {k : Nat}
/-! texts -/
/-! [.. for x, y in zip(t, u)], tuples -/
/-- x = e, e the name of an error -/
theorem as_setR {x n : Str} {l : Addr} {np pos' : Pos} (k q : Nat) (hk : AS X rest c (fs.set k (.ref l)) D) (hN : X.N.Nodup) (hs : fs[q]? = some (.ref l) := by rfl) (hq : X.N[q]? = some n := by rfl) (hv : Vis X.env.scope n := by first | exact .inl rfl | exact .inr (.inl rfl) | exact .inr (.inr rfl)) (hd : (n == ("__debug__" : Str)) = false := by decide) (hcd : (n == ("__classdict__" : Str)) = false := by decide)
    (hi : X.N[k]? = some x := by rfl) (hx : Loc X.env.scope x := by first | exact .inl rfl | exact .inr rfl) (hsw : swapsWith (.Name n np) (some (.Name x pos')) pos.line X.env = pure false := by rfl) (hf : X.fn x = true ∨ X.env.scope.names.lookup x = some .local := by first | exact .inl rfl | exact .inr rfl) :
    AS X (.Assign [.Name x pos'] (.Name n np) pos :: rest) c fs D :=
  fun σ H S => bSs_of (pss_cons (ps_set hN hi hx best hsw hf) bestSs) (pe_ref hs hq hv hd hcd S.er (hk _ _ S.exc))
end
end A3
namespace A3
open PySem PySem.Spec PyProof.Rows L2
/-! ### instances: their parts -/
section
variable {K : PySem.W.Frag} {S S' H H' : Hp} {α : Type}
end
section
variable {X : Cx} {a b c e o : Expr} {es : List Expr} {rest body sts : List Stmt} {cf : Cf} {D : D3} {fs F f1 f2 : Fm} {d d1 d2 : PyData} {ds : List PyData} {r : Res} {pos pos' apos p px py tpos : Pos} {T : Addr → Bool} {σ σ' : L2.St} {H H1 H' : Hp} {l g C : Addr} {x y f m : Str} {s s' : Slot} {flds : List (Str × Fld)}
/-! ### an owned object lent, with the ghosts behind it, to a def or a method -/
/-- a method as it is called -/
structure Me (X : Cx) (CX : CXT) (k : Nat) (C : Addr) (m : Str) (f : Addr) (fd : FuncData) (ps : List Str) (ct : Ct) (cx : Cex) : Prop where
  ok : FnOk X.prog X.w X.K X.mg X.base CX k f fd ps (Sp3 X.K ct cx)
  cl : Cls X.K C
  me : Meth X.K C m f
  bd : Binds X.K fd ps []
/-! ### methods and makers, as the head hands them on -/
def MeT (K : PySem.W.Frag) (mg : Str → Option Value) (P : Program) (w : World) (base : Heap) (k : Nat) (C m : Str) (ps : List Str) (ct : Ct) : Prop :=
  ∃ f fd, FnOk P w K mg base CX0 k f fd ps (Sp3 K ct nox) ∧ Cls K (He.ga K C) ∧ Meth K (He.ga K C) m f ∧ Binds K fd ps []
theorem MeT.me {P : Program} {w : World} {K : PySem.W.Frag} {mg : Str → Option Value} {base : Heap} {k : Nat} {C m : Str} {ps : List Str} {ct : Ct} (h : MeT K mg P w base k C m ps ct)
    (h1 : X.prog = P) (h2 : X.w = w) (h3 : X.K = K) (h4 : X.mg = mg) (h5 : X.base = base) : ∃ f fd, Me X CX0 k (He.ga K C) m f fd ps ct nox := by
  obtain ⟨f, fd, a, b, c, d⟩ := h
  subst h1 h2 h3 h4 h5
  exact ⟨f, fd, a, b, c, d⟩
end
end A3
namespace A3
open PySem PySem.Spec PyProof.Rows L2
/-! ### defs that tell nothing but leave their owned arguments and ghosts otherwise, with new owned objects perhaps -/
abbrev Cv := List Slot → (List Slot → Prop) → Prop
def SpV (K : PySem.W.Frag) (ct : Cv) : Sp := fun vs H Q E => ∃ (T : Addr → Bool) (ss : List Slot) (B : List Slot → Prop), ER K T (vs.map some) H ss ∧ nA ss = vs.length ∧ ct ss B ∧
  ∀ ss' H', B ss' → (∀ a ∈ ownL ss', a ∈ ownL ss ∨ H a = none) → Kp H H' (ownL ss) → ER K T (vs.map some) H' ss' → Q .non H'
inductive OutH (fs : Fm) : List Slot → Prop
  | nil : OutH fs []
  | cons {s : Slot} {y : List Slot} (n : Nat) : fs[n]? = some s → OutH fs y → OutH fs (s :: y)
inductive OutN (fs : Fm) : List Slot → List Slot → Prop
  | nil : OutN fs [] []
  | dat {d : PyData} {x y : List Slot} : OutN fs x y → OutN fs (.dat d :: x) (.dat d :: y)
  | own {a : Addr} {d d' : PyData} {x y : List Slot} (n : Nat) : fs[n]? = some (.own a d') → OutN fs x y → OutN fs (.own a d :: x) (.own a d' :: y)
  | mix {a : Addr} {o o' : Mix} {x y : List Slot} (n : Nat) : fs[n]? = some (.mix a o') → OutN fs x y → OutN fs (.mix a o :: x) (.mix a o' :: y)
  | gh {x y : List Slot} : OutH fs y → OutN fs (.no :: x) (.no :: y)
section
variable {X : Cx} {a b c e o : Expr} {es : List Expr} {rest body sts : List Stmt} {cf : Cf} {D : D3} {fs F f1 f2 : Fm} {d d1 d2 : PyData} {ds : List PyData} {r : Res} {pos pos' apos p px py tpos : Pos} {T : Addr → Bool} {σ σ' : L2.St} {H H1 H' : Hp} {l g C : Addr} {x y f m : Str} {s s' : Slot} {flds : List (Str × Fld)} {K : PySem.W.Frag}
theorem OutH.get {y : List Slot} (h : OutH fs y) : ∀ (n : Nat) (s : Slot), y[n]? = some s → ∃ j : Nat, fs[j]? = some s := by
  induction h with
  | nil => intro n s e; simp at e
  | cons m r _ ih =>
    intro n s e
    cases n with
    | zero => cases Option.some.inj e; exact ⟨m, r⟩
    | succ n => exact ih n s e
theorem OutN.get {x y : List Slot} (h : OutN fs x y) : ∀ (n : Nat) (s : Slot), y[n]? = some s → s = .no ∨ (∃ d, s = .dat d ∧ x[n]? = some (.dat d)) ∨ (∃ j : Nat, fs[j]? = some s ∧ nA x ≤ n) ∨ ∃ (a : Addr) (u : Slot) (j : Nat), x[n]? = some u ∧ adr u = some a ∧ adr s = some a ∧ fs[j]? = some s := by
  induction h with
  | nil => intro n s e; simp at e
  | dat _ ih =>
    intro n s e
    cases n with
    | zero => cases Option.some.inj e; exact .inr (.inl ⟨_, rfl, rfl⟩)
    | succ n =>
      rcases ih n s e with h | h | ⟨j, h, l⟩ | h
      · exact .inl h
      · exact .inr (.inl h)
      · exact .inr (.inr (.inl ⟨j, h, Nat.succ_le_succ l⟩))
      · exact .inr (.inr (.inr h))
  | own m r _ ih =>
    intro n s e
    cases n with
    | zero => cases Option.some.inj e; exact .inr (.inr (.inr ⟨_, _, m, rfl, rfl, rfl, r⟩))
    | succ n =>
      rcases ih n s e with h | h | ⟨j, h, l⟩ | h
      · exact .inl h
      · exact .inr (.inl h)
      · exact .inr (.inr (.inl ⟨j, h, Nat.succ_le_succ l⟩))
      · exact .inr (.inr (.inr h))
  | mix m r _ ih =>
    intro n s e
    cases n with
    | zero => cases Option.some.inj e; exact .inr (.inr (.inr ⟨_, _, m, rfl, rfl, rfl, r⟩))
    | succ n =>
      rcases ih n s e with h | h | ⟨j, h, l⟩ | h
      · exact .inl h
      · exact .inr (.inl h)
      · exact .inr (.inr (.inl ⟨j, h, Nat.succ_le_succ l⟩))
      · exact .inr (.inr (.inr h))
  | gh g =>
    intro n s e
    cases n with
    | zero => cases Option.some.inj e; exact .inl rfl
    | succ n =>
      obtain ⟨j, h⟩ := g.get n s e
      exact .inr (.inr (.inl ⟨j, h, Nat.zero_le _⟩))
theorem OutN.nA {x y : List Slot} (h : OutN fs x y) : nA x ≤ y.length := by
  induction h with
  | nil => exact Nat.zero_le _
  | dat _ ih => exact Nat.succ_le_succ ih
  | own _ _ _ ih => exact Nat.succ_le_succ ih
  | mix _ _ _ ih => exact Nat.succ_le_succ ih
  | gh g => exact Nat.zero_le _
/-! ### x = C(e, ..): a new instance, with what its __init__ makes -/
structure Mke (X : Cx) (k : Nat) (C : Addr) (f : Addr) (fd : FuncData) (ps : List Str) (ct : Cv) : Prop where
  ok : FnOk X.prog X.w X.K X.mg X.base CX0 k f fd ps (SpV X.K ct)
  mkr : L2.Mk X.K C f
  bd : Binds X.K fd ps []
def MkT (K : PySem.W.Frag) (mg : Str → Option Value) (P : Program) (w : World) (base : Heap) (k : Nat) (C : Str) (ps : List Str) (ct : Cv) : Prop :=
  ∃ f fd, FnOk P w K mg base CX0 k f fd ps (SpV K ct) ∧ L2.Mk K (He.ga K C) f ∧ Binds K fd ps []
theorem MkT.mk {P : Program} {w : World} {K : PySem.W.Frag} {mg : Str → Option Value} {base : Heap} {k : Nat} {C : Str} {ps : List Str} {ct : Cv} (h : MkT K mg P w base k C ps ct)
    (h1 : X.prog = P) (h2 : X.w = w) (h3 : X.K = K) (h4 : X.mg = mg) (h5 : X.base = base) : ∃ f fd, Mke X k (He.ga K C) f fd ps ct := by
  obtain ⟨f, fd, a, b, c⟩ := h
  subst h1 h2 h3 h4 h5
  exact ⟨f, fd, a, b, c⟩
end
end A3
namespace A3
open PySem PySem.Spec PyProof.Rows L2
/-! ### [.. for i, x in enumerate(xs)] -/
section
variable {X : Cx} {scope : Scope} {a elt : Expr} {ifs elts : List Expr} {rest : List Stmt} {c : Cf} {D3' : D3} {fs f1 f2 : Fm} {ds : List PyData} {pos p p2 tpos spos : Pos} {kk : Nat} {x : Str}
end
end A3
namespace A3
open PySem PySem.Spec PyProof.Rows L2
/-! ### a told pair of two new lists -/
section
variable {X : Cx} {scope : Scope} {a b e ie elt : Expr} {ifs elts : List Expr} {rest : List Stmt} {c : Cf} {D : D3} {D3' : D3} {F fs f1 f2 : Fm} {d1 d2 : PyData} {ds : List PyData} {pos pos' p p2 px tpos spos : Pos} {kk : Nat} {x : Str} {g h l : Addr} {T : Addr → Bool} {σ : L2.St} {H : Hp} {bb : Bool}
end
end A3
namespace A3
open PySem PySem.Spec PyProof.Rows L2
/-! ### sorted(set(xs)), xs rising whole numbers -/
section
variable {P : Program} {w : World} {A : Around} {E : Value → Shared → Prop} {s : Shared}
end
section
variable {X : Cx} {a : Expr} {fs f1 : Fm} {r : Res} {pos p p2 q2 : Pos}
end
end A3
namespace A3
open PySem PySem.Spec PyProof.Rows L2
/-! ### dicts by tuples: a raw slot; the tuples that are its keys are told by ghosts -/
abbrev XsT := List (List Key × Addr × V)
abbrev XsR : XsT → List (List Key × Addr × Value) → Prop := Paired fun p q => p.1 = q.1 ∧ p.2.1 = q.2.1 ∧ RelV p.2.2 q.2.2
def atX (xs : XsT) (k : List Key) : Option V := (xs.find? fun x => decide (x.1 = k)).map (·.2.2)
def putX (xs : XsT) (k : List Key) (b : Addr) (v : V) : XsT := if (atX xs k).isSome = true then xs.map (fun x => if x.1 = k then (x.1, x.2.1, v) else x) else xs ++ [(k, b, v)]
theorem atX_pos {p : List Key × Addr × V} {r : XsT} {k : List Key} (e : p.1 = k) : atX (p :: r) k = some p.2.2 := by simp [atX, List.find?_cons, e]
theorem atX_neg {p : List Key × Addr × V} {r : XsT} {k : List Key} (e : ¬ p.1 = k) : atX (p :: r) k = atX r k := by simp [atX, List.find?_cons, e]
theorem XsR.val {xs : XsT} {ys : List (List Key × Addr × Value)} (r : XsR xs ys) (k : List Key) : RelO (atX xs k) ((atKey ys k).map (·.2)) := by
  induction r with
  | nil => exact True.intro
  | @cons p q ps qs h t ih =>
    obtain ⟨h1, _, h2⟩ := h
    by_cases e : p.1 = k
    · have e' : q.1 = k := h1.symm.trans e
      have b : atKey (q :: qs) k = some q.2 := by simp [atKey, List.find?_cons, e']
      rw [atX_pos e, b]; exact h2
    · have e' : ¬ q.1 = k := fun z => e (h1.trans z)
      have b : atKey (q :: qs) k = atKey qs k := by simp [atKey, List.find?_cons, e']
      rw [atX_neg e, b]; exact ih
theorem XsR.put {xs : XsT} {ys : List (List Key × Addr × Value)} (r : XsR xs ys) (k : List Key) (b : Addr) {v : V} {u : Value} (ru : RelV v u) : XsR (putX xs k b v) (storedH ys k b u) := by
  have e : (atX xs k).isSome = (atKey ys k).isSome := by rw [(r.val k).isSome_eq, Option.isSome_map]
  unfold putX storedH
  rw [e]
  by_cases c : (atKey ys k).isSome = true
  · rw [if_pos c, if_pos c]
    clear c e
    induction r with
    | nil => exact .nil
    | @cons p q ps qs h t ih =>
      rw [List.map_cons, List.map_cons]
      refine .cons ?_ ih
      obtain ⟨h1, h2, h3⟩ := h
      unfold putAt
      by_cases z : p.1 = k
      · rw [if_pos z, if_pos (h1.symm.trans z)]; exact ⟨h1, h2, ru⟩
      · rw [if_neg z, if_neg (fun y => z (h1.trans y))]; exact ⟨h1, h2, h3⟩
  · rw [if_neg c, if_neg c]; exact Paired.snoc r ⟨rfl, rfl, ru⟩
section
variable {X : Cx} {pins : List (Addr × Obj)} {σ : L2.St} {H : Hp} {s : Shared} {a b : Addr} {k : List Key} {v : V} {u r : Value} {xs : XsT} {A : Around} {E : Value → Shared → Prop}
end
section
variable {X : Cx} {o i e a b : Expr} {pos pos' : Pos} {td ty tv : TE}
end
/-! ### the rules over frames -/
theorem rpAll_kD {K : PySem.W.Frag} {S : Hp} : ∀ {vs : List V} {k : List Key}, RpAll K S vs (k.map kD) → vs = k.map kV
  | _, [], h => by cases h; rfl
  | _, _ :: _, h => by
    cases h with
    | cons a b => rw [rp_key a, rpAll_kD b]; rfl
theorem rp_tupK {K : PySem.W.Frag} {S : Hp} {v : V} {k : List Key} (h : Rp K S v (.tuple (k.map kD))) : ∃ b, v = .ref b ∧ SqT K S b (k.map kV) := by
  obtain ⟨b, vs, rfl, s, q⟩ := h.tup_inv
  rw [rpAll_kD q] at s
  exact ⟨b, rfl, s⟩
/-- the keys of such a dict stand among the ghosts -/
def KeysIn (xs : XsT) (fs : Fm) : Prop := ∀ z ∈ xs, Slot.isv (.ref z.2.1) (.tuple (z.1.map kD)) ∈ fs
theorem KeysIn.sq {K : PySem.W.Frag} {T : Addr → Bool} {σ : L2.St} {H : Hp} {fs : Fm} {xs : XsT} (h : KeysIn xs fs) (E : ER K T σ H fs) : ∀ z ∈ xs, SqT K H z.2.1 (z.1.map kV) := fun z hz => by
  obtain ⟨i, hi⟩ := List.mem_iff_getElem?.mp (h z hz)
  obtain ⟨_, r⟩ := E.isv hi
  obtain ⟨b, e, s⟩ := rp_tupK r
  cases e
  exact sqT_same (cut_all _ _) s
section
variable {X : Cx} {a b c e o ie tg : Expr} {es : List Expr} {rest body sts : List Stmt} {cf : Cf} {D : D3} {fs F f1 f2 : Fm} {d : PyData} {pos pos' p px py : Pos} {l : Addr} {k : List Key} {x : Str} {i : Int} {xs : XsT}
end
end A3
/-! A3zw: != of lists and tuples that hold dicts; list(d.values()); a told pair returned by its name -/
namespace PySem.SeqAt
open AutoSeq1 (wpAny_loadPart')
open MeetsSeq MeetsSeq2 MeetsSeq3 SeqRoads2
section
variable {P0 : Program} {w0 : World}
variable {A : Around} {s : Shared} {E : Value → Shared → Prop} {Q : Value → Shared → Prop}
end
end PySem.SeqAt
namespace A3
open PySem PySem.Spec PyProof.Rows L2
/-- data that may be asked whether it is alike: flat, or lists, tuples, dicts of such -/
inductive EqOk : Nat → PyData → Prop
  | flat {n : Nat} {d : PyData} : 60 ≤ n → d.canLay0 = true → d.depth ≤ 60 → EqOk n d
  | tup {n : Nat} {ds : List PyData} : (∀ d ∈ ds, EqOk n d) → EqOk (n + 1) (.tuple ds)
  | lst {n : Nat} {ds : List PyData} : (∀ d ∈ ds, EqOk n d) → EqOk (n + 1) (.list ds)
  | dct {n : Nat} {t : Tb} : (gKs t).Nodup → (∀ p ∈ t, EqOk n p.2) → EqOk (n + 1) (dD t)
theorem EqOk.fl {n m : Nat} {d : PyData} (h : Flat m d) (hn : 60 ≤ n := by decide) (hm : m ≤ 60 := by decide) : EqOk n d := .flat hn h.1 (Nat.le_trans h.2 hm)
section
variable {X : Cx} {pins : List (Addr × Obj)} {σ : L2.St} {H : Hp} {s : Shared}
end
section
variable {X : Cx} {a b c e o ie : Expr} {rest : List Stmt} {cf : Cf} {D : D3} {fs f1 f2 : Fm} {ds : List PyData} {r1 r2 r : Res} {pos pos' p px apos mpos : Pos} {t : Tb} {l g h : Addr} {d1 d2 : PyData} {x : Str}
/-! ### list(d.values()) -/
/-! ### a told pair, by its name -/
/-! ### more that raises -/
/-- a def that may raise, called with a name -/
def FnKTX (K : PySem.W.Frag) (mg : Str → Option Value) (P : Program) (w : World) (base : Heap) (k : Nat) (x : Str) (ps : List Str) (ct : Ct) (cx : Cex) (n : Nat) (ks : List Str) : Prop :=
  ∃ f fd, FnOk P w K mg base (L2N.CX P w) k f fd ps (Sp3 K ct cx) ∧ mg x = some (.ref f) ∧ PySem.W.keepIn K (.ref f) = true ∧ KBn K fd ps n ks (fun us ws => us ++ ws) (fun vs zs => vs ++ zs)
theorem FnKTX.fn {P : Program} {w : World} {K : PySem.W.Frag} {mg : Str → Option Value} {base : Heap} {k : Nat} {ps : List Str} {ct : Ct} {cx : Cex} {n : Nat} {ks : List Str} (h : FnKTX K mg P w base k x ps ct cx n ks)
    (h1 : X.prog = P) (h2 : X.w = w) (h3 : X.K = K) (h4 : X.mg = mg) (h5 : X.base = base) : ∃ f fd, FnK X (L2N.CX X.prog X.w) k x f fd ps ct cx n ks := by
  obtain ⟨f, fd, a, b, c, d⟩ := h
  subst h1 h2 h3 h4 h5
  exact ⟨f, fd, a, b, c, d⟩
end
/-! ### sorted(set(xs)), xs any whole numbers -/
section
variable {X : Cx} {a : Expr} {fs f1 : Fm} {r : Res} {pos p p2 q2 : Pos}
end
end A3
namespace A3
open PySem PySem.Spec PyProof.Rows L2
/-! ### [.. for sign in text], list(text) -/
section
variable {X : Cx} {a elt tg iter : Expr} {ifs : List Expr} {fs f1 f2 : Fm} {d : PyData} {l : List Nat} {pos p : Pos} {T : Addr → Bool} {σ : L2.St} {H : Hp} {scope : Scope}
end
end A3
namespace A3
open PySem PySem.Spec PyProof.Rows L2
/-! ### several objects lent at once: names first to last, and ghosts -/
inductive Arg where
  | nm (n : Nat)
  | dt (d : PyData)
section
variable {F : Fm} {as : List Arg} {js : List Nat} {P : List (Option Nat)}
theorem own_adr : ∀ (L : Fm), ownL L = (L.map adr).filterMap id
  | [] => rfl
  | x :: r => by
    rw [ownL_cons, own_adr r, List.map_cons]
    cases e : adr x <;> simp
theorem own_of_adr {L M : Fm} (h : L.map adr = M.map adr) : ownL L = ownL M := by rw [own_adr, own_adr, h]
end
/-- the value that stands at a place: a name's, or a ghost's address -/
def VAt (σ : L2.St) (F : Fm) (n : Nat) (v : V) : Prop := (n < σ.length ∧ σ[n]? = some (some v)) ∨ ∃ s a, F[n]? = some s ∧ adr s = some a ∧ v = .ref a ∧ (n < σ.length → σ[n]? = some (some v))
inductive ArgsV (K : PySem.W.Frag) (S : Hp) (σ : L2.St) (F : Fm) : List V → List Arg → Prop
  | nil : ArgsV K S σ F [] []
  | nm {n : Nat} {v : V} {vs : List V} {as : List Arg} : VAt σ F n v → ArgsV K S σ F vs as → ArgsV K S σ F (v :: vs) (.nm n :: as)
  | dt {d : PyData} {v : V} {vs : List V} {as : List Arg} : Rp K S v d → ArgsV K S σ F vs as → ArgsV K S σ F (v :: vs) (.dt d :: as)
section
variable {K : PySem.W.Frag} {S S' : Hp} {σ : L2.St} {vs : List V} {as : List Arg} {js : List Nat} {F : Fm} {T : Addr → Bool} {H H' : Hp}
theorem ArgsV.len (h : ArgsV K S σ F vs as) : vs.length = as.length := by
  induction h with
  | nil => rfl
  | nm _ _ ih => exact congrArg (· + 1) ih
  | dt _ _ ih => exact congrArg (· + 1) ih
theorem ArgsV.mono (e : Same S S') (h : ArgsV K S σ F vs as) : ArgsV K S' σ F vs as := by
  induction h with
  | nil => exact .nil
  | nm a _ ih => exact .nm a ih
  | dt a _ ih => exact .dt (a.mono e) ih
theorem ArgsV.get (h : ArgsV K S σ F vs as) : ∀ (i : Nat) (a : Arg), as[i]? = some a → ∃ v, vs[i]? = some v ∧ ((∃ n, a = .nm n ∧ VAt σ F n v) ∨ ∃ d, a = .dt d ∧ Rp K S v d) := by
  induction h with
  | nil => intro i a e; simp at e
  | nm r _ ih =>
    intro i a e
    cases i with
    | zero => cases Option.some.inj e; exact ⟨_, rfl, .inl ⟨_, rfl, r⟩⟩
    | succ i => exact ih i a e
  | dt r _ ih =>
    intro i a e
    cases i with
    | zero => cases Option.some.inj e; exact ⟨_, rfl, .inr ⟨_, rfl, r⟩⟩
    | succ i => exact ih i a e
end
/-- arguments, some of them lent -/
structure AL (X : Cx) (es : List Expr) (fs : Fm) (as : List Arg) : Prop where
  run : ∀ (T : Addr → Bool) (σ : L2.St) (H : Hp) (Q : List V → Hp → Prop), ER X.K T σ H fs → σ.length = X.N.length → (∀ vs H', Kp H H' (ownL fs) → ER X.K T σ H' fs → ArgsV X.K (cut H' (tt T (ownL fs))) σ fs vs as → Q vs H') → bA X es σ H Q
section
variable {X : Cx} {a b c e o : Expr} {es : List Expr} {rest body sts : List Stmt} {cf : Cf} {D : D3} {fs F f1 f2 : Fm} {d d1 d2 : PyData} {ds : List PyData} {r : Res} {pos pos' apos p px py tpos : Pos} {T : Addr → Bool} {σ σ' : L2.St} {H H1 H' : Hp} {l g C : Addr} {x y f m : Str} {s s' : Slot} {as : List Arg} {js : List Nat} {ss' : Fm}
/-- a method's promise where it may raise: what is lent stands then as it was -/
def Sp4 (K : PySem.W.Frag) (ct : Ct) (cx : Cex) : Sp := fun vs H Q E => ∃ (T : Addr → Bool) (ss : List Slot), ER K T (vs.map some) H ss ∧ nA ss = vs.length ∧
  ((∃ ss' r, ct ss ss' r ∧ ss'.map adr = ss.map adr ∧ ∀ v H', Kp H H' (ownL ss) → Po K T (vs.map some) H H' ss' v r → Q v H') ∨
   (∃ C, cx ss C ∧ ∀ H', Kp H H' (ownL ss) → ER K T (vs.map some) H' ss → E (.ref C) none H'))
end
end A3
namespace A3
open PySem PySem.Spec PyProof.Rows L2
/-! ### expressions that name an owned object -/
structure AR (X : Cx) (o : Expr) (fs : Fm) (a : Addr) : Prop where
  run : ∀ (T : Addr → Bool) (σ : L2.St) (H : Hp) (Q : VK), ER X.K T σ H fs → σ.length = X.N.length → (∀ H', Kp H H' (ownL fs) → ER X.K T σ H' fs → Q (.ref a) H') → bE X o σ H Q
section
variable {X : Cx} {a b c e o ie : Expr} {es : List Expr} {rest body sts : List Stmt} {cf : Cf} {D : D3} {fs F f1 f2 : Fm} {d d1 d2 : PyData} {ds : List PyData} {r : Res} {pos pos' apos p px py tpos : Pos} {T : Addr → Bool} {σ σ' : L2.St} {H H1 H' : Hp} {l g C : Addr} {x y f m : Str} {s s' : Slot} {as : List Arg} {js : List Nat} {ss' : Fm} {flds : List (Key × Fld)} {ffs : List (Str × Fld)} {k : Key} {K : PySem.W.Frag}
/-! ### dicts told by their parts -/
/-! ### calls to which owned objects are lent as they stand: nothing is changed -/
/-- a dict told by parts, as data -/
inductive MgD (F : Fm) : List (Key × Fld) → Tb → Prop
  | nil : MgD F [] []
  | dat {k : Key} {d : PyData} {fl : List (Key × Fld)} {t : Tb} : MgD F fl t → MgD F ((k, .dat d) :: fl) ((k, d) :: t)
  | own {k : Key} {g : Addr} {d : PyData} {fl : List (Key × Fld)} {t : Tb} (j : Nat) : F[j]? = some (.own g d) → MgD F fl t → MgD F ((k, .at g) :: fl) ((k, d) :: t)
/-- what is told of a slot, as data -/
inductive FzS (F : Fm) : Slot → PyData → Prop
  | own {a : Addr} {d : PyData} : FzS F (.own a d) d
  | mix {a : Addr} {fl : List (Key × Fld)} {t : Tb} : MgD F fl t → FzS F (.mix a (.dct fl)) (dD t)
def FzV (K : PySem.W.Frag) (S : Hp) (F : Fm) (v : V) (d : PyData) : Prop := Rp K S v d ∨ ∃ (n : Nat) (s : Slot) (a : Addr), F[n]? = some s ∧ adr s = some a ∧ v = .ref a ∧ FzS F s d
theorem ow_rp {S : Hp} {a : Addr} (E : ER K T σ H F) {n : Nat} (hn : F[n]? = some (.own a d)) : Rp K (cut H T) (.ref a) d := by
  obtain ⟨_, w⟩ := E.own hn
  obtain ⟨u, hu⟩ := w.there
  have up : Same (cut H (tt T (ownL F))) (cut H T) := cut_same fun b o e z => ⟨(tt_false.mp e).1, z⟩
  exact Ow.rp (S := cut H (tt T (ownL F))) up (w.mono (fun _ _ z => z) (by rw [hu]; exact cut_of (E.out a (mem_own hn)) hu))
theorem mgd_rk {vs : List (Key × V)} {fl : List (Key × Fld)} {t : Tb} (E : ER K T σ H F) (m : MgD F fl t) : FrK K (cut H (tt T (ownL F))) vs fl → RK K (cut H T) vs t := by
  induction m generalizing vs with
  | nil => intro h; cases h; exact .nil
  | dat _ ih =>
    intro h
    cases h with
    | cons a b => exact .cons (Rp.mono (cut_same fun b o e z => ⟨(tt_false.mp e).1, z⟩) a) (ih b)
  | own j hj _ ih =>
    intro h
    cases h with
    | cons a b =>
      cases (show _ = V.ref _ from a)
      exact .cons (ow_rp (S := H) E hj) (ih b)
theorem fz_rp {v : V} (E : ER K T σ H F) (h : FzV K (cut H (tt T (ownL F))) F v d) : Rp K (cut H T) v d := by
  rcases h with h | ⟨n, s, a, hn, ea, rfl, fz⟩
  · exact h.mono (cut_same fun b o e z => ⟨(tt_false.mp e).1, z⟩)
  · cases fz with
    | own => cases ea; exact ow_rp (S := H) E hn
    | mix m =>
      cases ea
      obtain ⟨_, vs, hh, fr⟩ := E.mix hn
      exact .dct (.inl (cut_of (E.out _ (mem_mix hn)) hh)) (mgd_rk E m fr).kv
inductive FzA (K : PySem.W.Frag) (S : Hp) (F : Fm) : List V → List PyData → Prop
  | nil : FzA K S F [] []
  | cons {v : V} {d : PyData} {vs : List V} {ds : List PyData} : FzV K S F v d → FzA K S F vs ds → FzA K S F (v :: vs) (d :: ds)
theorem FzV.mono {S S' : Hp} {v : V} (e : Same S S') (h : FzV K S F v d) : FzV K S' F v d := h.imp (fun r => r.mono e) id
theorem FzA.rp {vs : List V} (E : ER K T σ H F) (h : FzA K (cut H (tt T (ownL F))) F vs ds) : RpAll K (cut H T) vs ds := by
  induction h with
  | nil => exact .nil
  | cons a _ ih => exact .cons (fz_rp E a) ih
structure AF (X : Cx) (es : List Expr) (fs : Fm) (ds : List PyData) : Prop where
  run : ∀ (T : Addr → Bool) (σ : L2.St) (H : Hp) (Q : List V → Hp → Prop), ER X.K T σ H fs → σ.length = X.N.length → (∀ vs H', Kp H H' (ownL fs) → ER X.K T σ H' fs → FzA X.K (cut H' (tt T (ownL fs))) fs vs ds → Q vs H') → bA X es σ H Q
end
end A3
namespace A3
open PySem PySem.Spec PyProof.Rows L2
/-! ### defs that tell an object by its parts, or change what they are lent and make new objects -/
abbrev Cm := List Slot → (V → List Slot → Prop) → Prop
def SpM (K : PySem.W.Frag) (ct : Cm) : Sp := fun vs H Q E => ∃ (T : Addr → Bool) (ss : List Slot) (B : V → List Slot → Prop), ER K T (vs.map some) H ss ∧ nA ss = vs.length ∧ ct ss B ∧
  ∀ v ss' H', B v ss' → (∀ a ∈ ownL ss', a ∈ ownL ss ∨ H a = none) → Kp H H' (ownL ss) → ER K T (vs.map some) H' ss' → Q v H'
section
variable {X : Cx} {a b c e o ie : Expr} {es : List Expr} {rest body sts : List Stmt} {cf : Cf} {D : D3} {fs F f1 f2 : Fm} {d d1 d2 : PyData} {ds : List PyData} {r : Res} {pos pos' apos p px py tpos : Pos} {T : Addr → Bool} {σ σ' : L2.St} {H H1 H' : Hp} {l g C : Addr} {x y f m : Str} {s s' : Slot} {as : List Arg} {js : List Nat} {ss' : Fm} {flds : List (Key × Fld)} {ffs : List (Str × Fld)} {k : Key} {K : PySem.W.Frag}
structure FnM (X : Cx) (CX : CXT) (k : Nat) (x : Str) (f : Addr) (fd : FuncData) (ps : List Str) (ct : Cm) : Prop where
  ok : FnOk X.prog X.w X.K X.mg X.base CX k f fd ps (SpM X.K ct)
  mg : X.mg x = some (.ref f)
  kp : PySem.W.keepIn X.K (.ref f) = true
  bd : Binds X.K fd ps []
def FnMT (K : PySem.W.Frag) (mg : Str → Option Value) (P : Program) (w : World) (base : Heap) (k : Nat) (x : Str) (ps : List Str) (ct : Cm) : Prop :=
  ∃ f fd, FnOk P w K mg base CX0 k f fd ps (SpM K ct) ∧ mg x = some (.ref f) ∧ PySem.W.keepIn K (.ref f) = true ∧ Binds K fd ps []
theorem FnMT.fn {P : Program} {w : World} {K : PySem.W.Frag} {mg : Str → Option Value} {base : Heap} {k : Nat} {x : Str} {ps : List Str} {ct : Cm} (h : FnMT K mg P w base k x ps ct)
    (h1 : X.prog = P) (h2 : X.w = w) (h3 : X.K = K) (h4 : X.mg = mg) (h5 : X.base = base) : ∃ f fd, FnM X CX0 k x f fd ps ct := by
  obtain ⟨f, fd, a, b, c, d⟩ := h
  subst h1 h2 h3 h4 h5
  exact ⟨f, fd, a, b, c, d⟩
end
end A3
namespace A3
open PySem PySem.Spec PyProof.Rows L2
/-! ### methods: several objects lent, and what they raise -/
section
variable {X : Cx} {a b c e o ie : Expr} {es : List Expr} {rest body sts : List Stmt} {cf : Cf} {D : D3} {fs F f1 f2 : Fm} {d d1 d2 : PyData} {ds : List PyData} {r : Res} {pos pos' apos p px py tpos : Pos} {T : Addr → Bool} {σ σ' : L2.St} {H H1 H' : Hp} {l g C : Addr} {x y f m : Str} {s s' : Slot} {as : List Arg} {js : List Nat} {ss' : Fm} {flds : List (Key × Fld)} {ffs : List (Str × Fld)} {k : Key} {K : PySem.W.Frag}
/-- a promise under which a call may go on so -/
def Says (K : PySem.W.Frag) (sp : Sp) (ct : Ct) : Prop := ∀ (vs : List V) (H : Hp) (Q : VK) (E : XK) (T : Addr → Bool) (ss ss' : List Slot) (r : Res), ER K T (vs.map some) H ss → nA ss = vs.length → ct ss ss' r → ss'.map adr = ss.map adr → (∀ v H', Kp H H' (ownL ss) → Po K T (vs.map some) H H' ss' v r → Q v H') → sp vs H Q E
theorem says3 {ct : Ct} {cx : Cex} : Says K (Sp3 K ct cx) ct := fun vs H Q E T ss ss' r h1 h2 h3 h4 h5 => ⟨T, ss, h1, h2, .inl ⟨ss', r, h3, own_of_adr h4, h5⟩⟩
theorem says4 {ct : Ct} {cx : Cex} : Says K (Sp4 K ct cx) ct := fun vs H Q E T ss ss' r h1 h2 h3 h4 h5 => ⟨T, ss, h1, h2, .inl ⟨ss', r, h3, h4, h5⟩⟩
/-- a method as it is called, by any promise -/
structure Mez (X : Cx) (CX : CXT) (k : Nat) (C : Addr) (m : Str) (f : Addr) (fd : FuncData) (ps : List Str) (sp : Sp) (ct : Ct) : Prop where
  ok : FnOk X.prog X.w X.K X.mg X.base CX k f fd ps sp
  cl : Cls X.K C
  me : Meth X.K C m f
  bd : Binds X.K fd ps []
  sy : Says X.K sp ct
theorem Me.z {CX : CXT} {k : Nat} {q : Addr} {fd : FuncData} {ps : List Str} {ct : Ct} {cx : Cex} (G : Me X CX k C m q fd ps ct cx) : Mez X CX k C m q fd ps (Sp3 X.K ct cx) ct := ⟨G.ok, G.cl, G.me, G.bd, says3⟩
/-- a method that may raise -/
structure MeX (X : Cx) (k : Nat) (C : Addr) (m : Str) (f : Addr) (fd : FuncData) (ps : List Str) (ct : Ct) (cx : Cex) : Prop where
  ok : FnOk X.prog X.w X.K X.mg X.base (L2N.CX X.prog X.w) k f fd ps (Sp4 X.K ct cx)
  cl : Cls X.K C
  me : Meth X.K C m f
  bd : Binds X.K fd ps []
theorem MeX.z {k : Nat} {q : Addr} {fd : FuncData} {ps : List Str} {ct : Ct} {cx : Cex} (G : MeX X k C m q fd ps ct cx) : Mez X (L2N.CX X.prog X.w) k C m q fd ps (Sp4 X.K ct cx) ct := ⟨G.ok, G.cl, G.me, G.bd, says4⟩
/-- a test that raises -/
def RT (X : Cx) (e : Expr) (c : Cf) (fs : Fm) : Prop := ∀ σ H Q, S3 X.K c σ H fs → bT X e σ H Q
end
def MeXT (K : PySem.W.Frag) (mg : Str → Option Value) (P : Program) (w : World) (base : Heap) (k : Nat) (C m : Str) (ps : List Str) (ct : Ct) (cx : Cex) : Prop :=
  ∃ f fd, FnOk P w K mg base (L2N.CX P w) k f fd ps (Sp4 K ct cx) ∧ Cls K (He.ga K C) ∧ Meth K (He.ga K C) m f ∧ Binds K fd ps []
theorem MeXT.me {X : Cx} {P : Program} {w : World} {K : PySem.W.Frag} {mg : Str → Option Value} {base : Heap} {k : Nat} {C m : Str} {ps : List Str} {ct : Ct} {cx : Cex} (h : MeXT K mg P w base k C m ps ct cx)
    (h1 : X.prog = P) (h2 : X.w = w) (h3 : X.K = K) (h4 : X.mg = mg) (h5 : X.base = base) : ∃ f fd, MeX X k (He.ga K C) m f fd ps ct cx := by
  obtain ⟨f, fd, a, b, c, d⟩ := h
  subst h1 h2 h3 h4 h5
  exact ⟨f, fd, a, b, c, d⟩
end A3
namespace A3
open PySem PySem.Spec PyProof.Rows L2
/-! ### t < u, tuples of whole numbers and texts of one length -/
inductive LtV : List V → List V → Bool → Prop
  | nil : LtV [] [] false
  | intN {x y : Int} {r s : List V} : x ≠ y → r.length = s.length → LtV (.int x :: r) (.int y :: s) (decide (x < y))
  | strN {x y : Str} {r s : List V} : (x == y) = false → r.length = s.length → LtV (.str x :: r) (.str y :: s) (decide (x.cps.toList < y.cps.toList))
  | intE {x : Int} {r s : List V} {b : Bool} : LtV r s b → LtV (.int x :: r) (.int x :: s) b
  | strE {x : Str} {r s : List V} {b : Bool} : LtV r s b → LtV (.str x :: r) (.str x :: s) b
theorem LtV.len {xs ys : List V} {b : Bool} (h : LtV xs ys b) : xs.length = ys.length := by
  induction h with
  | nil => rfl
  | intN _ h => exact congrArg (· + 1) h
  | strN _ h => exact congrArg (· + 1) h
  | intE _ ih => exact congrArg (· + 1) ih
  | strE _ ih => exact congrArg (· + 1) ih
section
open PySem.SeqAt
open PySem.AutoSeq1 (wpAny_loadPart')
open PySem.MeetsSeq PySem.MeetsSeq2 PySem.MeetsSeq3
end
/-- .. as data -/
inductive LtD : List PyData → List PyData → Bool → Prop
  | nil : LtD [] [] false
  | intN {x y : Int} {r s : List PyData} : x ≠ y → r.length = s.length → LtD (.int x :: r) (.int y :: s) (decide (x < y))
  | strN {x y : List Nat} {r s : List PyData} : x ≠ y → r.length = s.length → LtD (sD x :: r) (sD y :: s) (decide ((SX.S x).cps.toList < (SX.S y).cps.toList))
  | intE {x : Int} {r s : List PyData} {b : Bool} : LtD r s b → LtD (.int x :: r) (.int x :: s) b
  | strE {x : List Nat} {r s : List PyData} {b : Bool} : LtD r s b → LtD (sD x :: r) (sD x :: s) b
theorem LtD.v {K : PySem.W.Frag} {S S' : Hp} {ds es : List PyData} {b : Bool} (h : LtD ds es b) : ∀ {xs ys : List V}, RpAll K S xs ds → RpAll K S' ys es → LtV xs ys b := by
  induction h with
  | nil => intro xs ys h1 h2; cases h1; cases h2; exact .nil
  | intN ne hl =>
    intro xs ys h1 h2
    cases h1 with
    | cons a h1 => cases h2 with
      | cons b h2 =>
        cases a.int_inv; cases b.int_inv
        exact .intN ne (by rw [h1.length, h2.length]; exact hl)
  | strN ne hl =>
    intro xs ys h1 h2
    cases h1 with
    | cons a h1 => cases h2 with
      | cons b h2 =>
        cases a.str_inv; cases b.str_inv
        exact .strN (by rw [SX.S_beq_eq]; exact decide_eq_false ne) (by rw [h1.length, h2.length]; exact hl)
  | intE _ ih =>
    intro xs ys h1 h2
    cases h1 with
    | cons a h1 => cases h2 with
      | cons b h2 =>
        cases a.int_inv; cases b.int_inv
        exact .intE (ih h1 h2)
  | strE _ ih =>
    intro xs ys h1 h2
    cases h1 with
    | cons a h1 => cases h2 with
      | cons b h2 =>
        cases a.str_inv; cases b.str_inv
        exact .strE (ih h1 h2)
section
variable {X : Cx} {a b e : Expr} {fs f1 f2 : Fm} {ds ds2 : List PyData} {bb : Bool} {r : Res}
/-- a call that leaves the frame as it was -/
theorem AE.same (h : AE X e fs f1 r) (q : f1 = fs := by rfl) : AE X e fs fs r := by rw [q] at h; exact h
end
end A3
namespace A3
open PySem PySem.Spec PyProof.Rows L2
section
variable {X : Cx} {CX : CXT} {k : Nat} {C f : Addr} {m x : Str} {fd : FuncData} {ps : List Str} {sp : Sp} {ct : Ct} {cx : Cex} {cm : Cm} {scope : Scope} {s : Shared} {H : Hp} {C' : Addr} {cl : List (Str × Addr)} {fp : List Addr} {pn : List (Addr × Obj)} {xe : Value → Shared → Prop}
theorem Mez.blk (h : Mez X CX k C m f fd ps sp ct) : Mez (BX X scope s H C' cl fp) CX k C m f fd ps sp ct := ⟨h.ok, h.cl, h.me, h.bd, h.sy⟩
theorem Mez.tr (h : Mez X CX k C m f fd ps sp ct) : Mez (X.tr pn xe) CX k C m f fd ps sp ct := ⟨h.ok, h.cl, h.me, h.bd, h.sy⟩
theorem MeX.tr (h : MeX X k C m f fd ps ct cx) : MeX (X.tr pn xe) k C m f fd ps ct cx := ⟨h.ok, h.cl, h.me, h.bd⟩
theorem FnM.tr (h : FnM X CX k x f fd ps cm) : FnM (X.tr pn xe) CX k x f fd ps cm := ⟨h.ok, h.mg, h.kp, h.bd⟩
end
end A3
namespace A3
open PySem PySem.Spec PyProof.Rows L2
/-! ### what a def of an error alone tells: a new list of truths -/
section
variable {X : Cx} {fs f1 f2 : Fm} {pos p p0 p1 pe pc : Pos} {l C : Addr} {oe : Obj} {x n : Str} {bs : List Bool}
end
/-! ### == and != of two dicts of like data, told in other orders -/
section
variable {X : Cx} {a b : Expr} {fs f1 f2 : Fm} {pos : Pos} {r1 r2 : Res} {t t' : Tb}
end
end A3
namespace A3
open PySem PySem.Spec PyProof.Rows L2
/-! ### new objects within expressions; lists of objects -/
section
variable {X : Cx} {a b c e o ie : Expr} {es : List Expr} {rest body sts : List Stmt} {cf : Cf} {D : D3} {fs F f1 f2 : Fm} {d d1 d2 : PyData} {ds : List PyData} {r : Res} {pos pos' apos p px py tpos : Pos} {T : Addr → Bool} {σ σ' : L2.St} {H H1 H' : Hp} {l g C : Addr} {x y f m : Str} {s s' : Slot} {as : List Arg} {js : List Nat} {K : PySem.W.Frag}
/-- an expression that makes a new object: its slot and its ghosts are pushed -/
structure AN (X : Cx) (e : Expr) (fs : Fm) (B : Addr → Fm → Prop) : Prop where
  run : ∀ (T : Addr → Bool) (σ : L2.St) (H : Hp) (Q : VK), ER X.K T σ H fs → σ.length = X.N.length → (∀ l Gs H', B l Gs → Kp H H' (ownL fs) → ER X.K T σ H' (fs ++ Gs) → (∀ a ∈ ownL Gs, H a = none) → Q (.ref l) H') → bE X e σ H Q
structure ANs (X : Cx) (es : List Expr) (fs : Fm) (B : List Addr → Fm → Prop) : Prop where
  run : ∀ (T : Addr → Bool) (σ : L2.St) (H : Hp) (Q : List V → Hp → Prop), ER X.K T σ H fs → σ.length = X.N.length → (∀ ls Gs H', B ls Gs → Kp H H' (ownL fs) → ER X.K T σ H' (fs ++ Gs) → (∀ a ∈ ownL Gs, H a = none) → Q (ls.map .ref) H') → bA X es σ H Q
end
end A3
namespace A3
open PySem PySem.Spec PyProof.Rows L2
/-! ### texts cut, numbers written and read -/
section
variable {X : Cx} {a b c e o ie : Expr} {es : List Expr} {rest body sts : List Stmt} {cf : Cf} {D : D3} {fs F f1 f2 : Fm} {d d1 d2 : PyData} {ds : List PyData} {r : Res} {pos pos' apos p p2 q2 px py tpos : Pos} {T : Addr → Bool} {σ σ' : L2.St} {H H1 H' : Hp} {l g C : Addr} {x y f m : Str} {s s' : Slot} {as : List Arg} {js : List Nat} {K : PySem.W.Frag}
/-! ### statements that push ghosts -/
end
end A3
namespace A3
open PySem PySem.Spec PyProof.Rows L2
/-! ### list displays of data and of new lists; objects in dicts; a list told by its parts, unpacked -/
section
variable {X : Cx} {a b c e o ie : Expr} {es : List Expr} {rest body sts : List Stmt} {cf : Cf} {D : D3} {fs F f1 f2 : Fm} {d d1 d2 : PyData} {ds : List PyData} {r : Res} {pos pos' apos p p2 q2 px py tpos : Pos} {T : Addr → Bool} {σ σ' : L2.St} {H H1 H' : Hp} {l g C : Addr} {x y z f m : Str} {s s' : Slot} {as : List Arg} {js : List Nat} {K : PySem.W.Frag} {flds : List (Key × Fld)} {k : Key}
structure AMs (X : Cx) (es : List Expr) (fs : Fm) (B : List Fld → Fm → Prop) : Prop where
  run : ∀ (T : Addr → Bool) (σ : L2.St) (H : Hp) (Q : List V → Hp → Prop), ER X.K T σ H fs → σ.length = X.N.length → (∀ vs fl Gs H', B fl Gs → Kp H H' (ownL fs) → ER X.K T σ H' (fs ++ Gs) → (∀ a ∈ ownL Gs, H a = none) → FrS X.K (cut H' (tt T (ownL (fs ++ Gs)))) vs fl → Q vs H') → bA X es σ H Q
end
end A3
namespace A3
open PySem PySem.Spec PyProof.Rows L2
/-! ### f(.., e): the last argument is a new object, lent for the call and forgotten -/
section
variable {X : Cx} {a b c e o ie : Expr} {es : List Expr} {rest body sts : List Stmt} {cf : Cf} {D : D3} {fs F f1 f2 : Fm} {d d1 d2 : PyData} {ds : List PyData} {r : Res} {pos pos' apos p p2 q2 px py tpos : Pos} {T : Addr → Bool} {σ σ' : L2.St} {H H1 H' : Hp} {l g C : Addr} {x y z f m : Str} {s s' : Slot} {as : List Arg} {js : List Nat} {K : PySem.W.Frag} {flds : List (Key × Fld)} {k : Key}
structure ALn (X : Cx) (es : List Expr) (fs : Fm) (as : List Arg) (d : PyData) : Prop where
  run : ∀ (T : Addr → Bool) (σ : L2.St) (H : Hp) (Q : List V → Hp → Prop), ER X.K T σ H fs → σ.length = X.N.length → (∀ vs g H', Kp H H' (ownL fs) → H g = none → ER X.K T σ H' fs → ER X.K T σ H' (fs ++ [.own g d]) → ArgsV X.K (cut H' (tt T (ownL (fs ++ [.own g d])))) σ (fs ++ [.own g d]) vs as → Q vs H') → bA X es σ H Q
end
end A3
namespace A3
open PySem PySem.Spec PyProof.Rows L2
/-! ### a dict of the module: texts to whole numbers -/
abbrev Kd := List (List Nat × Int)
section
variable {X : Cx} {a b c e o ie : Expr} {es : List Expr} {fs F f1 f2 : Fm} {d d1 d2 : PyData} {pos pos' apos p p2 q2 px py tpos : Pos} {x y z f m : Str} {t : Kd} {l : List Nat} {v : Int}
end
/-! the head's fact -/
/-! the hook, with such dicts -/
abbrev AlK : Type := AlC × List (Option (List (Option (Str × Int))) × Bool)
def obsK (fa : List He.Fa) (fn : List He.DefD) (ko : List Ko) (ts : List (Str × Kd)) (K : PySem.W.Frag) : AlK := (obsC fa fn ko K, ts.map fun t => (He.dicW K (He.ga K t.1), He.eqO (PySem.W.nsIn K mainGlobals t.1) (some (some (.ref (He.ga K t.1)))) && He.valsB K (He.ga K t.1) (t.2.map fun p => (SX.S p.1, .int p.2))))
def valK (fn : List He.DefD) (ts : List (Str × Kd)) (w : World) : AlK := (valC fn, ts.map fun t => (some (He.keysIn w.params (t.2.map fun p => SX.S p.1)), true))
def SaysK (fa : List He.Fa) (fn : List He.DefD) (ko : List Ko) (ts : List (Str × Kd)) (w : World) (K : PySem.W.Frag) : Prop := obsK fa fn ko ts K = valK fn ts w
section
variable {fa : List He.Fa} {fn : List He.DefD} {ko : List Ko} {ts : List (Str × Kd)} {K : PySem.W.Frag} {h : Heap} {mg : Str → Option Value} {w : World}
theorem SaysK.c (c : SaysK fa fn ko ts w K) : SaysC fa fn ko K := congrArg (fun z : AlK => z.1) c
theorem SaysK.d (c : SaysK fa fn ko ts w K) : He.SaysD fa fn K := c.c.d
theorem SaysK.tup (c : SaysK fa fn ko ts w K) (i : Nat) {q : Ko} (h : ko[i]? = some q := by rfl) : konB K q = true := c.c.tup i h
end
/-! the top's run, where a hash is asked: by the one text that the world may follow or not -/
end A3
namespace A3
open PySem PySem.Spec PyProof.Rows L2
/-! ### C(..).m(): a method of a new object, which is forgotten -/
section
variable {X : Cx} {a b c e o ie : Expr} {es : List Expr} {rest body sts : List Stmt} {cf : Cf} {D : D3} {fs F f1 f2 : Fm} {d d1 d2 : PyData} {ds : List PyData} {r : Res} {pos pos' apos p p2 q2 px py tpos : Pos} {T : Addr → Bool} {σ σ' : L2.St} {H H1 H' : Hp} {l g C : Addr} {x y z f m : Str} {s s' : Slot} {as : List Arg} {js : List Nat} {K : PySem.W.Frag} {ss' : Fm} {flds : List (Key × Fld)} {k : Key}
end
/-! ### len(set(texts)) -/
section
variable {X : Cx}
end
section
variable {X : Cx} {a : Expr} {fs f1 : Fm} {r : Res} {pos p p2 q2 : Pos}
end
end A3
namespace A3
open PySem PySem.Spec PyProof.Rows L2
/-! ### plain tuples: tuples of which it is known that they have no dict of their own -/
abbrev ptD (ds : List PyData) : PyData := .dict [(.none, .tuple ds)]
theorem Rp.pt_inv {K : PySem.W.Frag} {H : Hp} {v : V} {ds : List PyData} (h : Rp K H v (ptD ds)) : ∃ a ob xs, v = .ref a ∧ H a = some (.frz ob (.tup xs)) ∧ ob.dict = none ∧ RpAll K H xs ds := by
  unfold ptD at h
  generalize e : PyData.dict [(PyData.none, PyData.tuple ds)] = x at h
  cases h with
  | ptp s n q =>
    injection e with e
    injection e with e1 _
    injection e1 with _ e2
    injection e2 with e3
    subst e3
    exact ⟨_, _, _, rfl, s, n, q⟩
  | dct s q =>
    injection e with e
    subst e
    exfalso
    generalize e2 : ([(PyData.none, PyData.tuple ds)] : List (PyData × PyData)) = es at q
    cases q with
    | nil => cases e2
    | @cons k v d kvs es _ _ =>
      have e3 := (Prod.mk.inj (List.cons.inj e2).1).1
      cases k <;> cases e3
  | _ => cases e
theorem Rp.pt {K : PySem.W.Frag} {H : Hp} {v : V} {ds : List PyData} (h : Rp K H v (ptD ds)) : Rp K H v (.tuple ds) := by
  obtain ⟨a, ob, xs, rfl, s, _, q⟩ := h.pt_inv
  exact .tup (.inl (.inr ⟨ob, s⟩)) q
section
variable {X : Cx} {a b c e o ie : Expr} {es : List Expr} {rest body sts : List Stmt} {cf : Cf} {D : D3} {fs F f1 f2 : Fm} {d d1 d2 d' : PyData} {ds : List PyData} {r : Res} {pos pos' apos p p2 q2 px py tpos : Pos} {T : Addr → Bool} {σ σ' : L2.St} {H H1 H' : Hp} {l g C : Addr} {x y z f m : Str} {s s' : Slot} {K : PySem.W.Frag}
/-- told otherwise -/
theorem AE.fg (hf : ∀ (S : Hp) (v : V), Rp X.K S v d → Rp X.K S v d') (ha : AE X e fs f1 (.val d)) : AE X e fs f1 (.val d') :=
  ⟨ha.ow, fun T σ H Q E q => ha.run T σ H Q E fun v H1 k p => q v H1 k ⟨p.1, hf _ _ p.2⟩⟩
theorem AE.pt (ha : AE X e fs f1 (.val (ptD ds))) : AE X e fs f1 (.val (.tuple ds)) := AE.fg (fun _ _ h => h.pt) ha
end
end A3
namespace A3
open PySem PySem.Spec PyProof.Rows L2
section
variable {X : Cx} {a b c e o ie : Expr} {es : List Expr} {rest body sts : List Stmt} {cf : Cf} {D : D3} {fs F f1 f2 : Fm} {d d1 d2 d' : PyData} {ds : List PyData} {r : Res} {pos pos' apos p p2 q2 px py tpos : Pos} {T : Addr → Bool} {σ σ' : L2.St} {H H1 H' : Hp} {l g C : Addr} {x y z f m : Str} {s s' : Slot} {K : PySem.W.Frag}
end
end A3
namespace A3
open PySem PySem.Spec PyProof.Rows L2
section
variable {X : Cx} {a b c e o ie : Expr} {es : List Expr} {fs F f1 f2 : Fm} {d d1 d2 d' : PyData} {ds : List PyData} {t : TA} {pos : Pos}
end
end A3
namespace A3
open PySem PySem.Spec PyProof.Rows L2
/-! ### a class of errors whose __init__ keeps a field -/
structure ExI (K : PySem.W.Frag) (C : Addr) (f : Str) : Prop where
  T : OexC K C
  no : PySem.W.findIn K (.ref C) f = some none
  xf : XfC K C
structure TiI (K : PySem.W.Frag) (Y : Addr) : Prop where
  sp : PySem.W.specialIn K (.ref Y) "__getattribute__" = some (some (.builtin "type.__getattribute__"))
  rd : PySem.W.readsIn K Y (.type "type") = true
  fc : PySem.W.findCls K (.ref Y) (.type "type") "__init__" = some (.val (.builtin "ValueError.__init__"))
theorem oexB_ok {K : PySem.W.Frag} {C : Addr} (h : oexB K C = true) : ∃ nm q N bs bm sn sub ab col dd k0 k1 k2 k3 k5, K.lookup C = some (excClassObj nm q C N bs bm true sn sub ab col dd k0 k1 k2 k3 k5 "ValueError.__new__") ∧ PySem.HandSPX.refsVE bm = true := by
  unfold oexB at h
  split at h
  rotate_left
  · cases h
  rename_i t0 dd cd sl hl
  simp only [Bool.and_eq_true, decide_eq_true_eq, Bool.not_eq_true'] at h
  obtain ⟨h1, h2, h3, h4, h5⟩ := h
  subst h1
  split at h2
  rotate_left
  · cases h2
  rename_i k0 k1 k2 k3 n k5 hs
  have h2 := of_decide_eq_true h2
  subst h2
  split at h3
  rotate_left
  · cases h3
  rename_i D r hm
  rw [Bool.and_eq_true] at h3
  have hD := of_decide_eq_true h3.1
  subst hD
  have es : sl = #[k0, k1, k2, k3, some (.builtin "ValueError.__new__"), k5] := by
    apply Array.ext'
    rw [hs]
  obtain ⟨nm, bs, mro, ns, qn, hd, sn, sb, ab, col, del⟩ := cd
  dsimp only at h4 h5 hm
  subst h4 h5 hm es
  exact ⟨nm, qn, ns, bs, r, sn, sb, ab, col, dd, k0, k1, k2, k3, k5, hl, h3.2⟩
theorem exI_of {K : PySem.W.Frag} {x f : Str} (c : konB K (.oex x f) = true) : ExI K (He.ga K x) f := by
  have c' := c
  simp only [konB, Bool.and_eq_true, decide_eq_true_eq] at c'
  obtain ⟨h1, h2, h3, h4, h5, h6, h7⟩ := c'
  exact ⟨⟨oexB_ok h1, h2, h3, h4, h5⟩, h6, xfB_ok h7⟩
theorem tiI_of {K : PySem.W.Frag} {y : Str} (c : konB K (.tin y) = true) : TiI K (He.ga K y) := by
  have c' := c
  simp only [konB, Bool.and_eq_true, decide_eq_true_eq] at c'
  obtain ⟨h1, h2, h3⟩ := c'
  refine ⟨h1, h2, ?_⟩
  unfold isValB at h3
  split at h3
  · rename_i n s e
    rw [of_decide_eq_true h3] at e
    exact e
  · cases h3
/-- Y.__init__(self, ..), Y an own class that has ValueError's -/
theorem pe_tinit {X : Cx} {Y : Addr} {y : Str} {e : Expr} {es : List Expr} {ta : TA} {p1 p2 pos : Pos} {pl : Sem Bool} (T : TiI X.K Y) (hm : X.mg y = some (.ref Y)) (ha : PA X (e :: es) ta) (hg : Gl X y := by rfl) (hdb : (y == ("__debug__" : Str)) = false := by decide)
    (hc : eval (.Call (.Attribute (.Name y p1) "__init__" p2) (e :: es) [] pos) X.env = (do
      let u ← eval (.Name y p1) X.env
      standAt p2.atName
      let (g, us) ← holding [u] (getMethod u "__init__" pl)
      callWith pos g us (backTo pos (starEach (e :: es) X.env)) (backToKw pos (keywordEach [] X.env))) := by rfl)
    (he : starEach (e :: es) X.env = (false, eval e X.env) :: starEach es X.env := by rfl) (hpl : (backTo pos (starEach es X.env)).any (·.1) = false := by rfl) :
    PE X (.Call (.Attribute (.Name y p1) "__init__" p2) (e :: es) [] pos) (tVeI X.K ta) := by
  constructor
  intro pins s σ H Q I h
  refine PySem.W.methodCall_KW (ld_glob I hg hm (PySem.W.method_cls I.kIn T.sp (PySem.W.cls_value I.kIn T.rd T.fc rfl ?_)) hdb) hc
  show wpAny _ _ (callWith pos (.builtin "ValueError.__init__") [] _ []) _ _ _
  refine PyProof.Rows.callWith_method1 (thn (ha.run pos pins _ σ H _ (I.tok _) h) fun us s1 hh => ?_) he hpl
  obtain ⟨vs, H1, I1, r1, a, C, ws, rfl, hl, T1, ea, q⟩ := hh
  match us, r1 with
  | _ :: ur, .cons ra rw' =>
    cases ra
    have hz : ur.length ≤ sizeLine := by rw [← Paired.length rw', sizeLine_eq]; omega
    exact oinit_ok T1 I1 ea hz fun s' J => ⟨.non, H1, J, rfl, q⟩
/-- what such an __init__(self, v) keeps -/
def spI (C : Addr) (f : Str) : Sp := fun vs H Q _ => ∃ (a : Addr) (v : V), vs = [.ref a, v] ∧ H a = some (exo a C none) ∧ ∀ d, H d = none → d ≠ a → Q .non (upd (upd H d (exd d [(f, v)])) a (exo a C (some d)))
/-- X(e), X's own __init__ walked: an error in the making -/
theorem pmkI {X : Cx} {CXc : CXT} {C fI : Addr} {k : Nat} {fd : FuncData} {ps : List Str} {sp : Sp} {x : Str} {e : Expr} {es : List Expr} {ta : TA} {p pos : Pos} (T : OexC X.K C) (iC : PySem.W.findIn X.K (.ref C) "__init__" = some (some (.ref fI))) (tI : PySem.W.typeIn X.K (.ref fI) = some (.type "function"))
    (F1 : FnOk X.prog X.w X.K X.mg X.base CXc k fI fd ps sp) (hr : Room (k + 1) X.A) (hb : Binds X.K fd ps []) (hx : Passes CXc X (fun _ _ _ => False)) (hg : Gl X x) (hm : X.mg x = some (.ref C)) (ha : PA X (e :: es) ta) (hdb : (x == ("__debug__" : Str)) = false := by decide)
    (he : starEach (e :: es) X.env = (false, eval e X.env) :: starEach es X.env := by rfl) (hpl : (backTo pos (starEach es X.env)).any (·.1) = false := by rfl) : L2N.PMk X (.Call (.Name x p) (e :: es) [] pos) (tMkO C sp [] ta) := fun pins s σ H Q I h => by
  obtain ⟨nm, q, N, bs, bm, sn, sub, ab, col, dd, k0, k1, k2, k3, k5, hC, hbm⟩ := T.cls
  refine wpAny_Call_Name_kw (ld_glob I hg hm (PySem.W.callWith_K (h₀ := X.base) I.ok.mod.kin T.kC (thn (ha.run pos pins s σ H _ I h) fun us s1 hh => ?_) he hpl) hdb)
  obtain ⟨vs, H1, I1, r1, hz, q1⟩ := hh
  refine ⟨I1.kIn, ?_⟩
  obtain ⟨hp, g, dr, tk, os⟩ := s1
  obtain ⟨a, ea⟩ : ∃ a, a = hp.objs.size + 1 := ⟨_, rfl⟩
  have asz : hp.objs.size ≤ a := by rw [ea]; exact Nat.le_succ _
  have hn : H1 a = none := I1.hok.fresh asz
  have hq := q1 a hn
  have kk : ∀ b o, hp.get? b = some o → ((hp.push (PySem.W.kdv_tup us)).push (PySem.HandSPX.excO C hp.objs.size)).get? b = some o := fun b o z => Heap.get?_push_of_some _ (Heap.get?_push_of_some _ z)
  have ga : ((hp.push (PySem.W.kdv_tup us)).push (PySem.HandSPX.excO C hp.objs.size)).get? a = some (PySem.HandSPX.excO C hp.objs.size) := by rw [ea]; heap_get
  have I2 := I1.laid (t' := tk) (o := exo a C none) kk asz (exo_ok ga)
  have r2 : Vals (V.ref a :: (vs ++ [])) (Value.ref a :: (us ++ [])) := .cons rfl (r1.append .nil)
  have hl : (Value.ref a :: us ++ []).length = ps.length := by
    have z := r2.length
    rw [F1.len _ _ _ _ hq] at z
    exact z.symm
  have ul : us.length ≤ sizeLine := by rw [← Paired.length r1, sizeLine_eq]; omega
  have bnd := hb _ (Value.ref a :: us) I2.kIn hl
  rw [List.cons_append] at bnd
  have run := F1.run _ X.stack _ _ ⟨Value.ref a :: us, []⟩ (Value.ref a :: (us ++ [])) _ _ (fun _ _ _ => False) (hr.make C us []) (I2.env0.make C us []) bnd r2 hq
  rw [ea] at run
  refine wpAny_call (PySem.HandSPX.call_own F.excBase_ValueError (fun Y => PySem.HandSPX.refsVE_contains Y bm hbm) (I1.kIn _ _ hC) (PySem.W.looks_findIn I1.kIn iC) (fun self => PySem.W.bind_fn I1.kIn self tI) ul (codeAny_mono run fun r s' z => ?_))
  rw [← ea] at z ⊢
  match r, z with
  | .error er, z => exact hx pins σ _ _ er s' I2 z
  | .ok (.ret u), z =>
    obtain ⟨v, H2, os2, bare2, un2, hok2, rv, rfl, d, fs, e1, e2, e3, q2⟩ := z
    obtain ⟨h2, g2, d2, t2, os'⟩ := s'
    obtain ⟨t0, G, J, kG, ge, hoe, na⟩ := mk_end0 (d2 := d2) (t2 := t2) I1 asz kk un2 hok2 os2 bare2 e1 e2 e3
    exact ⟨rv, a, _, _, ⟨G, g2, d2, t2, os'⟩, _, .ref C, some d, rfl, J, kG, ge, hoe, ⟨rfl, rfl, fun vs z => by cases z; rfl⟩, rfl, rfl, na, rfl, bare2, raises_own T.exC T.tyC, q2⟩
  | .ok .next, z => exact z.elim
  | .ok .brk, z => exact z.elim
  | .ok .cont, z => exact z.elim
end A3
namespace A3
open PySem PySem.Spec PyProof.Rows L2
/-! ### isinstance of an error that has a dict -/
section
open PySem.W PySem.Calls
theorem class_excD {prog : Program} {w : World} {A : Around} {E : Value → Shared → Prop} {s : Shared} {K : PySem.W.Frag} {x D : Addr} {ox : Obj} {od : Option Obj} {Q : Option Value → Shared → Prop} (xc : ExcC K D) (X : K.In s.heap) (I : PySem.W.InstAt s.heap x ox D od) (h : Q (some (.ref D)) { s with toks := s.toks + 1 }) :
    wpAny (model prog w) A (getAttr? (.ref x) "__class__") Q E s := by
  have hf : PySem.W.findObj K D od "__class__" = some (.bind (.builtin "getset_descriptor.__get__") (.builtin "object.__class__")) := by
    obtain ⟨cd, hc, _⟩ := PySem.W.any_some xc.hd
    unfold PySem.W.findObj
    rw [hc, Option.bind_some, xc.ha, Option.bind_some]
    simp [xc.hn, xc.ht]
  obtain ⟨hp, g, d, t, os⟩ := s
  have T0 := I.type (M := model prog w)
  have sub : PySem.W.Looks (model prog w) hp (isInstance (.ref x) (.type "BaseException")) true := T0.andThen (PySem.W.looks_subIn X xc.hs)
  have n2 : (Value.builtin "BaseException.__getattribute__" == Value.builtin "object.__getattribute__") = false := by decide +kernel
  unfold getAttr? getAttrBy? getAttrBy
  refine wpAny_bind (wpAny_mkText (wpAny_bind (wpAny_attempt (wpAny_holding (wpAny_bind (T0.at (wpAny_bind ((PySem.W.looks_findIn X xc.hg).at ?_))))))))
  show wpAny _ _ (if (onTheHeap (Value.ref D) && _ == Value.builtin "object.__getattribute__") = true then _ else _) _ _ _
  rw [n2, Bool.and_false, if_neg Bool.false_ne_true]
  unfold getAttrByItsOwn hookBefore
  refine wpAny_bind ?_
  rw [if_pos (show onTheHeap (Value.ref D) = true from rfl)]
  refine (PySem.W.looks_findIn X xc.hk).at (wpAny_bind (wpAny_attempt (wpAny_holding ?_)))
  unfold callGetattribute
  rw [show (false && onTheHeap (Value.builtin "BaseException.__getattribute__")) = false from rfl, if_neg Bool.false_ne_true]
  unfold boundAndCalled
  rw [PySem.F.excAttr_ValueError.ga.bind (.ref x)]
  refine wpAny_bind (wpAny_pure ?_)
  show wpAny _ _ (call (.builtin "BaseException.__getattribute__") _) _ _ _
  refine wpAny_call (codeAny_call_builtin PySem.F.excAttr_ValueError.ga.plain PySem.F.entry_bexc_ga (@PySem.W.check_slot (model prog w) _ _ ⟨hp, g, d, t + 1, os⟩ "BaseException.__getattribute__" "BaseException" "__getattribute__" (.ref x) [.str "__class__" t] [] _ (by decide +kernel) (by decide +kernel) sub (PySem.F.args_bexc_ga _ _) ?_))
  unfold Builtin.«object.__getattribute__»
  refine wpAny_bind (wpAny_of_eq (a := ((Value.ref x : Value), [Value.str "__class__" t])) (by first | rfl | (simp only [slotArgs]; rfl)) (wpAny_bind (wpAny_pure (wpAny_bind (T0.at (wpAny_bind ((PySem.W.looks_find X I hf).at ?_)))))))
  show wpAny _ _ (holding [_] (call (.builtin "getset_descriptor.__get__") [_, .ref x, .ref D]) >>= ret) _ _ _
  refine wpAny_bind (wpAny_holding (wpAny_call (PySem.W.class_get (s := ⟨hp, g, d, t + 1, os⟩) (ox := ox) (od := od) X I xc.hm (wpAny_pure ?_))))
  show wpAny _ _ (handedOut (.ref D)) _ _ _
  rw [handedOut_of (v := .ref D) rfl]
  first
    | exact wpAny_pure (wpAny_pure h)
    | exact wpAny_pure h
    | exact wpAny_pure (wpAny_bind (wpAny_pure (wpAny_pure h)))
theorem kitD {K : PySem.W.Frag} {x D : Addr} (xc : ExcC K D) : PySem.W.KitX K (.ref x) (.ref D) (fun h => ∃ ox od, PySem.W.InstAt h x ox D od) := by
  have there : ∀ h : Heap, K.In h → ∃ c d q s, h.get? D = some ⟨c, d, .cls q, s⟩ := fun h X => by
    obtain ⟨cd, hc, _⟩ := PySem.W.any_some xc.hd
    unfold PySem.W.clsIn at hc
    split at hc
    · rename_i ho
      exact ⟨_, _, _, _, X _ _ ho⟩
    · cases hc
  refine ⟨fun _ _ _ ⟨ox, od, I⟩ => I.type, fun M h X _ => ?_, fun h tp dd its n sl X htp => ?_, fun X ⟨ox, od, I⟩ k => class_excD xc X I k⟩
  · obtain ⟨c, d, q, s, e⟩ := there h X
    intro A' Q' E' s' k z
    unfold isType loadHead
    exact wpAny_bind (wpAny_loadPart (k _ _ e) (wpAny_pure z))
  · obtain ⟨c, d, q, s, e⟩ := there h X
    refine Bool.eq_false_iff.mpr fun z => ?_
    have z := Value.ref.inj (beq_iff_eq.mp z)
    subst z
    rw [e] at htp
    cases htp
end
/-- an error in hand, as the heap has it, its dict told by a ghost -/
def HeldD (X : Cx) (l C dx : Addr) : Prop := ∃ oe : Obj, (l, oe) ∈ X.pn ∧ L2N.Zn (.ref C) (some dx) oe ∧ ∃ vs, oe.data = .fields vs
theorem instD {X : Cx} {pins : List (Addr × Obj)} {σ : L2.St} {H : Hp} {s : Shared} {l C dx : Addr} {fs : List (Str × V)} (hd : HeldD X l C dx) (I : Inv X pins σ H s) (h : H dx = some (.xd fs)) : ∃ (oe od : Obj) (mA : Str → Option Value), PySem.W.InstAt s.heap l oe C (some od) ∧ (∀ f, RelO (fs.lookup f) (mA f)) ∧ ∀ n, PySem.W.lookIn n od = some (mA n) := by
  obtain ⟨oe, hp, hz, vs, hv⟩ := hd
  obtain ⟨there, _⟩ := I.pin (l, oe) (List.mem_append_left _ hp)
  obtain ⟨mA, hns, hr⟩ : ObjOk X.prog X.w H s.heap dx (.xd fs) := I.hok dx _ h
  obtain ⟨od, ho, hl⟩ := lookIn_ns hns
  refine ⟨oe, od, mA, ⟨there, hz.1, by unfold PySem.W.notCls; rw [hv] <;> rfl, by rw [hz.2.1]; exact ho⟩, hr, fun n => hl n⟩
section
variable {X : Cx} {a b e : Expr} {es : List Expr} {sts rest body suite : List Stmt} {c : Cf} {D : D3} {fs f1 f2 f3 : Fm} {d d1 d2 d3 : PyData} {ds dd : List PyData} {r r1 r2 : Res} {pos pos' p px pe p2 apos np : Pos} {T : Addr → Bool} {σ : L2.St} {H : Hp} {W : WX} {x n m f : Str} {C E0 l dx : Addr}
theorem call_isD (xc : ExcC X.K C) (hd : HeldD X l C dx) : CallR X (.builtin "isinstance") (fun xs H Q => ∃ (cv : V) (u : Value) (ok : Bool) (gs : List (Str × V)), xs = [.ref l, cv] ∧ (∀ w, RelV cv w → w = u) ∧ PySem.W.kitOne X.K (.ref C) u = some ok ∧ H dx = some (.xd gs) ∧ Q (.bl ok) H) := by
  intro pins s σ H xs us Q I rv h
  obtain ⟨cv, u, ok, gs, rfl, hu, hk, hx, q⟩ := h
  match us, rv with
  | [_, w], .cons r1 (.cons r2 .nil) =>
    obtain rfl := hu _ r2
    cases r1
    obtain ⟨oe, od, mA, inst, _⟩ := instD hd I hx
    exact PySem.W.kia_one (kitD xc) I.kIn ⟨oe, some od, inst⟩ hk (by intro z; cases z) fun tok => ⟨.bl ok, H, I.kept (t' := tok) (fun _ _ g => g), rfl, q⟩
theorem ae_isD (q g : Nat) {gs : List (Str × V)} {ok : Bool} (xc : ExcC X.K C) (hd : HeldD X l C dx) (hx : ∃ D, X.mg x = some (.ref D) ∧ PySem.W.kitOne X.K (.ref C) (.ref D) = some ok) (hm : X.mg "isinstance" = none) (hs : fs[q]? = some (.ref l) := by rfl) (hgh : fs[g]? = some (.raw dx (.xd gs)) := by rfl)
    (hN : X.N[q]? = some n := by rfl) (hv : Vis X.env.scope n := by first | exact .inl rfl | exact .inr (.inl rfl) | exact .inr (.inr rfl)) (hdn : (n == ("__debug__" : Str)) = false := by decide) (hcd : (n == ("__classdict__" : Str)) = false := by decide)
    (hg : Gl X "isinstance" := by rfl) (hgx : Gl X x := by rfl) (hdx : (x == ("__debug__" : Str)) = false := by decide)
    (he : starEach [.Name n pe, .Name x px] X.env = (false, eval (.Name n pe) X.env) :: starEach [.Name x px] X.env := by rfl) (he2 : starEach [.Name x px] X.env = (false, eval (.Name x px) X.env) :: starEach [] X.env := by rfl) (hpl : (backTo pos (starEach [.Name x px] X.env)).any (·.1) = false := by rfl) :
    AE X (.Call (.Name "isinstance" p) [.Name n pe, .Name x px] [] pos) fs fs (.val (.bool ok)) := by
  obtain ⟨Dd, hD, hk⟩ := hx
  refine ⟨rfl, fun T σ H Q E q' => bE_of (pe_callB (call_isD xc hd) hg hm (by decide +kernel) (pa_cons best (pa_cons (pe_glob hgx hD (v := .ref Dd) rfl hdx) pa_nil he2) he) (he := he) (hpl := hpl)) (pe_ref hs hN hv hdn hcd E ?_)⟩
  exact ⟨.ref Dd, .ref Dd, ok, gs, rfl, fun u hu => hu, hk, (E.raw hgh).2, q' _ H (Kp.refl _ _) ⟨E, .bl _⟩⟩
theorem ae_isDb (q g : Nat) {tn : String} {gs : List (Str × V)} {ok : Bool} (xc : ExcC X.K C) (hd : HeldD X l C dx) (hk : PySem.W.kitOne X.K (.ref C) (.type tn) = some ok) (hm : X.mg "isinstance" = none) (hmx : X.mg x = none) (hbx : bootBuiltins x = some (.type tn) := by decide +kernel) (hs : fs[q]? = some (.ref l) := by rfl) (hgh : fs[g]? = some (.raw dx (.xd gs)) := by rfl)
    (hN : X.N[q]? = some n := by rfl) (hv : Vis X.env.scope n := by first | exact .inl rfl | exact .inr (.inl rfl) | exact .inr (.inr rfl)) (hdn : (n == ("__debug__" : Str)) = false := by decide) (hcd : (n == ("__classdict__" : Str)) = false := by decide)
    (hg : Gl X "isinstance" := by rfl) (hgx : Gl X x := by rfl) (hdx : (x == ("__debug__" : Str)) = false := by decide) (hnn : x ≠ "__name__" := by decide)
    (he : starEach [.Name n pe, .Name x px] X.env = (false, eval (.Name n pe) X.env) :: starEach [.Name x px] X.env := by rfl) (he2 : starEach [.Name x px] X.env = (false, eval (.Name x px) X.env) :: starEach [] X.env := by rfl) (hpl : (backTo pos (starEach [.Name x px] X.env)).any (·.1) = false := by rfl) :
    AE X (.Call (.Name "isinstance" p) [.Name n pe, .Name x px] [] pos) fs fs (.val (.bool ok)) := by
  refine ⟨rfl, fun T σ H Q E q' => bE_of (pe_callB (call_isD xc hd) hg hm (by decide +kernel) (pa_cons best (pa_cons (pe_bltn (v := .ty tn) hgx hmx hbx rfl hnn hdx) pa_nil he2) he) (he := he) (hpl := hpl)) (pe_ref hs hN hv hdn hcd E ?_)⟩
  exact ⟨.ty tn, .type tn, ok, gs, rfl, fun u hu => hu, hk, (E.raw hgh).2, q' _ H (Kp.refl _ _) ⟨E, .bl _⟩⟩
/-- e.f of an error that a name keeps -/
theorem ae_xat (q g : Nat) {v : V} (T : ExI X.K C f) (hd : HeldD X l C dx) (hr : ∀ S, Rp X.K S v d) (hs : fs[q]? = some (.ref l) := by rfl) (hgh : fs[g]? = some (.raw dx (.xd [(f, v)])) := by rfl)
    (hN : X.N[q]? = some n := by rfl) (hv : Vis X.env.scope n := by first | exact .inl rfl | exact .inr (.inl rfl) | exact .inr (.inr rfl)) (hdn : (n == ("__debug__" : Str)) = false := by decide) (hcd : (n == ("__classdict__" : Str)) = false := by decide)
    (hb : attributeBase (.Name n pe) f X.env (eval (.Name n pe) X.env) = eval (.Name n pe) X.env := by rfl) : AE X (.Attribute (.Name n pe) f pos) fs fs (.val d) := by
  refine ⟨rfl, fun T0 σ H Q E q' => ?_⟩
  intro pins s I
  have hx := (E.raw hgh).2
  have ln : q < X.N.length := (List.getElem?_eq_some_iff.mp hN).1
  have step := pe_ref (X := X) (n := n) (p := pe) (Q := fun v H1 => v = .ref l ∧ H1 = H) hs hN hv hdn hcd E ⟨rfl, rfl⟩
  refine attr_of hb (thn (step pins s I) fun u s1 hh => ?_)
  obtain ⟨v1, H1, I1, rv, rfl, rfl⟩ := hh
  cases rv
  obtain ⟨oe, od, mA, inst, hr1, hl⟩ := instD hd I1 hx
  obtain ⟨u, hu, ru⟩ := RelO.some_of (v := v) (o := mA f) (by have z := hr1 f; rw [show ([(f, v)] : List (Str × V)).lookup f = some v by simp [List.lookup]] at z; exact z)
  exact HandSPX.exc_get I1.kIn inst T.xf.ga T.xf.gg T.xf.exC (PySem.W.findObj_own T.xf.hdC T.no rfl (by rw [hl, hu])) (handed_of ru) ⟨v, H1, I1.tok _, ru, q' _ H1 (Kp.refl _ _) ⟨E, hr _⟩⟩
end
end A3
namespace A3
open PySem PySem.Spec PyProof.Rows L2
/-! ### errors that keep a field: frames -/
def scV : PyData → V
  | .int i => .int i
  | _ => .non
inductive Sca : PyData → Prop
  | non : Sca .none
  | int (i : Int) : Sca (.int i)
theorem Sca.eq {K : PySem.W.Frag} {S : Hp} {v : V} {d : PyData} (h : Sca d) (r : Rp K S v d) : v = scV d := by
  cases h with
  | non => exact r.non_inv
  | int i => exact r.int_inv
theorem Sca.rp {K : PySem.W.Frag} {d : PyData} (h : Sca d) (S : Hp) : Rp K S (scV d) d := by
  cases h with
  | non => exact .non
  | int i => exact .int i
abbrev xdO (f : Str) (d : PyData) : HO := .xd [(f, scV d)]
/-- the maker of such an error -/
def MkI (X : Cx) (C : Addr) (f : Str) (k : Nat) : Prop := ExI X.K C f ∧ ∃ (fI : Addr) (fd : FuncData) (ps : List Str), FnOk X.prog X.w X.K X.mg X.base CX0 k fI fd ps (spI C f) ∧ PySem.W.findIn X.K (.ref C) "__init__" = some (some (.ref fI)) ∧ PySem.W.typeIn X.K (.ref fI) = some (.type "function") ∧ Binds X.K fd ps []
def MkIT (K : PySem.W.Frag) (mg : Str → Option Value) (P : Program) (w : World) (base : Heap) (k : Nat) (x f : Str) : Prop :=
  mg x = some (.ref (He.ga K x)) ∧ ExI K (He.ga K x) f ∧ ∃ (fI : Addr) (fd : FuncData) (ps : List Str), FnOk P w K mg base CX0 k fI fd ps (spI (He.ga K x) f) ∧ PySem.W.findIn K (.ref (He.ga K x)) "__init__" = some (some (.ref fI)) ∧ PySem.W.typeIn K (.ref fI) = some (.type "function") ∧ Binds K fd ps []
theorem MkIT.mk {X : Cx} {P : Program} {w : World} {K : PySem.W.Frag} {mg : Str → Option Value} {base : Heap} {k : Nat} {x f : Str} (h : MkIT K mg P w base k x f) (h1 : X.prog = P) (h2 : X.w = w) (h3 : X.K = K) (h4 : X.mg = mg) (h5 : X.base = base) : X.mg x = some (.ref (He.ga X.K x)) ∧ MkI X (He.ga X.K x) f k := by
  subst h1 h2 h3 h4 h5
  exact ⟨h.1, h.2⟩
abbrev Cxi := List Slot → Addr → PyData → Prop
def Sp5 (K : PySem.W.Frag) (ct : Ct) (fl : Str) (cx : Cxi) : Sp := fun vs H Q E => ∃ (T : Addr → Bool) (ss : List Slot), ER K T (vs.map some) H ss ∧ nA ss = vs.length ∧
  ((∃ ss' r, ct ss ss' r ∧ ownL ss' = ownL ss ∧ ∀ v H', Kp H H' (ownL ss) → Po K T (vs.map some) H H' ss' v r → Q v H') ∨
   (∃ C d, cx ss C d ∧ ownL ss = [] ∧ ∀ H' l, Same H H' → H l = none → H' l = some (xdO fl d) → E (.ref C) (some l) H'))
theorem sp5_3 {K : PySem.W.Frag} {ct : Ct} {fl : Str} {cx : Cxi} (vs : List V) (H : Hp) (Q : VK) (E : XK) (h : Sp3 K ct nox vs H Q E) : Sp5 K ct fl cx vs H Q E := by
  obtain ⟨T, ss, E0, hA, h⟩ := h
  rcases h with h | ⟨C, h, _⟩
  · exact ⟨T, ss, E0, hA, .inl h⟩
  · exact h.elim
def FnTXI (K : PySem.W.Frag) (mg : Str → Option Value) (P : Program) (w : World) (base : Heap) (k : Nat) (x : Str) (ps : List Str) (ct : Ct) (fl : Str) (cx : Cxi) : Prop :=
  ∃ f fd, FnOk P w K mg base (L2N.CX P w) k f fd ps (Sp5 K ct fl cx) ∧ mg x = some (.ref f) ∧ PySem.W.keepIn K (.ref f) = true ∧ Binds K fd ps []
structure Fn5 (X : Cx) (k : Nat) (x : Str) (f : Addr) (fd : FuncData) (ps : List Str) (ct : Ct) (fl : Str) (cx : Cxi) : Prop where
  ok : FnOk X.prog X.w X.K X.mg X.base (L2N.CX X.prog X.w) k f fd ps (Sp5 X.K ct fl cx)
  mg : X.mg x = some (.ref f)
  kp : PySem.W.keepIn X.K (.ref f) = true
  bd : Binds X.K fd ps []
section
variable {X : Cx} {P : Program} {w : World} {K : PySem.W.Frag} {mg : Str → Option Value} {base : Heap} {k : Nat} {x fl : Str} {ps : List Str} {ct : Ct} {cx : Cxi} {f : Addr} {fd : FuncData}
theorem FnTXI.fn (h : FnTXI K mg P w base k x ps ct fl cx) (h1 : X.prog = P) (h2 : X.w = w) (h3 : X.K = K) (h4 : X.mg = mg) (h5 : X.base = base) : ∃ f fd, Fn X (L2N.CX X.prog X.w) k x f fd ps ct nox [] [] := by
  obtain ⟨f, fd, a, b, c, d⟩ := h
  subst h1 h2 h3 h4 h5
  exact ⟨f, fd, a.imp sp5_3, b, c, ⟨[], d, .nil⟩, fun S => .nil⟩
theorem FnTXI.fi (h : FnTXI K mg P w base k x ps ct fl cx) (h1 : X.prog = P) (h2 : X.w = w) (h3 : X.K = K) (h4 : X.mg = mg) (h5 : X.base = base) : ∃ f fd, Fn5 X k x f fd ps ct fl cx := by
  obtain ⟨f, fd, a, b, c, d⟩ := h
  subst h1 h2 h3 h4 h5
  exact ⟨f, fd, a, b, c, d⟩
theorem Fn5.tr {pn : List (Addr × Obj)} {xe : Value → Shared → Prop} (h : Fn5 X k x f fd ps ct fl cx) : Fn5 (X.tr pn xe) k x f fd ps ct fl cx := ⟨h.ok, h.mg, h.kp, h.bd⟩
end
section
variable {X : Cx} {a b e : Expr} {es : List Expr} {sts rest body suite : List Stmt} {c : Cf} {D : D3} {fs f1 f2 f3 : Fm} {d d1 d2 d3 : PyData} {ds dd : List PyData} {r r1 r2 : Res} {pos pos' p p2 apos np : Pos} {T : Addr → Bool} {σ : L2.St} {H H' : Hp} {W : WX} {x n m fl : Str} {C E0 l : Addr}
/-- the wish about an error that keeps d -/
def WI (K : PySem.W.Frag) (W : WX) (c : Cf) (fs : Fm) (C : Addr) (fl : Str) (d : PyData) : Prop := ∀ σ H H' l, S3 K c σ H fs → Same H H' → H l = none → H' l = some (xdO fl d) → W (.ref C) (some l) σ H'
theorem end_made {H1 : Hp} {a l C : Addr} {o1 o2 o3 : HO} {gs : List (Str × V)} (hn : H1 a = none) (ne : l ≠ a) : upd (del (upd (upd (upd H1 a o1) l o2) a o3) a) l (.xd gs) = upd H1 l (.xd gs) := by
  funext z
  by_cases h : z = l
  · subst h; rw [upd_same, upd_same]
  · rw [upd_ne h, upd_ne h]
    by_cases g : z = a
    · subst g; rw [del_same, hn]
    · rw [del_ne g, upd_ne g, upd_ne h, upd_ne g]
/-- raise X(e), X's own __init__ keeping e as a field -/
theorem as_raiseI {k : Nat} (tk : L2N.Takes X W) (M : X.mg x = some (.ref (He.ga X.K x)) ∧ MkI X (He.ga X.K x) fl k) (hr : Room (k + 1) X.A) (hx : Passes CX0 X (fun _ _ _ => False)) (ha : AE X e fs f1 (.val d)) (hs : Sca d) (hW : WI X.K W c f1 (He.ga X.K x) fl d)
    (hc : X.calm = true := by rfl) (hg : Gl X x := by rfl) (hdb : (x == ("__debug__" : Str)) = false := by decide) (he : starEach [e] X.env = (false, eval e X.env) :: starEach [] X.env := by rfl) (hpl : (backTo pos' (starEach [] X.env)).any (·.1) = false := by rfl) :
    AS X (.Raise (some (.Call (.Name x p) [e] [] pos')) none pos :: rest) c fs D := by
  obtain ⟨hm, xi, fI, fd, ps, F1, iC, tI, hb⟩ := M
  refine fun σ H S => bSs_of (pss_cons (L2N.ps_raise hc tk (pmkI xi.T iC tI F1 hr hb hx hg hm (pa_cons best pa_nil he) hdb he hpl)) bestSs) (ha.run c.T σ H _ S.er fun v H1 k1 p1 => ?_)
  have ev := hs.eq p1.2
  subst ev
  refine ⟨by show 1 ≤ 1000; decide, fun a hn => ⟨a, scV d, rfl, upd_same, fun l hl ne => ?_⟩⟩
  have hl1 : H1 l = none := by rw [upd_ne ne] at hl; exact hl
  refine ⟨rfl, l, _, upd_same, by rw [upd_ne ne, upd_same], hl1, ?_⟩
  rw [end_made (C := He.ga X.K x) hn ne]
  exact hW σ H1 _ l (S.step k1 p1.1 ha.ow) (same_upd hl1) hl1 upd_same
theorem re_callI {k : Nat} {f : Addr} {fd : FuncData} {ps : List Str} {ct : Ct} {cx : Cxi} (tk : L2N.Takes X W) (G : Fn5 X k x f fd ps ct fl cx) (hr : Room k X.A) (ha : AD X (a :: es) fs f1 ds) (hc : cx (ds.map .dat) C d) (hW : WI X.K W c f1 C fl d) (hg : Gl X x := by rfl)
    (hdb : (x == ("__debug__" : Str)) = false := by decide) (he : starEach (a :: es) X.env = (false, eval a X.env) :: starEach es X.env := by rfl) (hpl : (backTo pos (starEach es X.env)).any (·.1) = false := by rfl) : RE X (.Call (.Name x p) (a :: es) [] pos) c fs := by
  refine fun σ H Q S => bE_of (pe_raises G.ok hr hg G.mg G.kp G.bd .nil (Ew := WE W) (fun σ => L2N.passAt tk σ) bestA hdb he hpl) (ha.run c.T σ H _ S.er fun vs H1 k1 E1 p1 => ?_)
  have g := argR_all (fs := f1) p1
  have e0 : ownL (ds.map Slot.dat) = [] := ownL_dats
  have E2 := er_args E1 g (by rw [e0]; exact List.nodup_nil)
  rw [List.append_nil]
  exact ⟨_, _, E2, g.nA, .inr ⟨C, d, hc, e0, fun H' l sm hn hx => hW σ H1 H' l (S.step k1 E1 ha.ow) sm hn hx⟩⟩
/-- a ghost tells what has come new -/
theorem S3.ghost {K : PySem.W.Frag} {o : HO} (S : S3 K c σ H fs) (sm : Same H H') (hn : H l = none) (ho : H' l = some o) : S3 K c σ H' (fs ++ [.raw l o]) := by
  have E := S.er
  have own : ∀ b, b ∈ ownL (fs ++ [.raw l o]) ↔ b ∈ ownL fs ∨ b = l := fun b => by rw [ownL_app, List.mem_append]; simp [ownL]
  have nl : l ∉ ownL fs := fun z => by obtain ⟨u, hu⟩ := E.thereL z; rw [hn] at hu; cases hu
  have h0 : c.H0 l = none := by
    cases z : c.H0 l with
    | none => rfl
    | some u => exact absurd hn (S.dm l (by rw [z]; exact fun y => by cases y))
  refine ⟨⟨?_, fun i s hs => ?_, ?_, fun b hb => ?_, fun b hb => ?_⟩, S.kp.trans (Kp.of sm), fun b hb => ?_, fun b hb => ?_, S.wd, fun b u hb => sm b u (S.gs b u hb), fun b hb => ?_⟩
  · rw [List.length_append]; exact Nat.le_add_right_of_le E.len
  · rcases Nat.lt_or_ge i fs.length with hi | hi
    · rw [List.getElem?_append_left hi] at hs
      obtain ⟨ov, h1, h2⟩ := E.sl i s hs
      refine ⟨ov, h1, h2.mono (cut_same fun b u e q => ?_) fun b e => ?_⟩
      · obtain ⟨e1, e2⟩ := tt_false.mp e
        refine ⟨tt_false.mpr ⟨e1, fun z => ?_⟩, sm b u q⟩
        rcases (own b).mp z with z | z
        · exact e2 z
        · rw [z, hn] at q; cases q
      · obtain ⟨u, hu⟩ := (h2.adr e).2
        rw [hu, sm _ _ hu]
    · rw [List.getElem?_append_right hi] at hs
      have e : i = fs.length := by
        have z := (List.getElem?_eq_some_iff.mp hs).1
        have z : i - fs.length < 1 := z
        omega
      subst e
      rw [Nat.sub_self] at hs
      cases Option.some.inj hs
      exact ⟨some (.ref l), fun z => absurd z (by have := E.len; omega), rfl, ho⟩
  · rw [ownL_app]
    refine List.nodup_append.mpr ⟨E.nd, by simp [ownL], fun x hx y hy e => ?_⟩
    have : y = l := by simpa [ownL] using hy
    rw [e, this] at hx
    exact nl hx
  · rcases (own b).mp hb with z | z
    · exact E.out b z
    · subst z
      cases q : c.T b with
      | false => rfl
      | true => exact absurd hn (E.dom b q)
  · have := E.dom b hb
    cases q : H b with
    | none => exact absurd q this
    | some u => rw [sm b u q]; exact fun y => by cases y
  · have := S.dm b hb
    cases q : H b with
    | none => exact absurd q this
    | some u => rw [sm b u q]; exact fun y => by cases y
  · rcases (own b).mp hb with z | z
    · exact S.ow b z
    · rw [z]; exact .inr h0
  · rcases (own b).mp hb with z | z
    · exact S.gd b z
    · rw [z]
      cases q : c.G l with
      | none => rfl
      | some u => have y := S.gs l u q; rw [hn] at y; cases y
/-- try: body except x as n: suite; the body raises C with a field, the clause takes it, a name may keep it -/
theorem as_tryKI {b0 : Stmt} (q : Nat) (gC : X.mg x = some (.ref E0)) (hm : PySem.W.exmOne X.K (.ref C) (.ref E0) = some true)
    (hb : ∀ (W : WX) (pn : List (Addr × Obj)) (xe : Value → Shared → Prop), L2N.Takes (X.tr pn xe) W → WI X.K W c fs C fl d → AS (X.tr pn xe) body c fs never)
    (hsu : ∀ (l : Addr) (oe : Obj) (pn : List (Addr × Obj)) (dx : Addr), L2N.Zn (.ref C) (some dx) oe → (∃ vs, oe.data = .fields vs) → AS (X.suite l ((l, oe) :: pn)) (b0 :: suite) c ((fs ++ [Slot.raw dx (xdO fl d)]).set q (.ref l)) { nx := fun f => AS (pinX X (l, oe)) rest c (f.set q .no) D, rt := D.rt })
    (hN : X.N.Nodup) (hi : X.N[q]? = some n := by rfl) (hs : X.stack = X.env :: X.outer := by rfl) (hf : X.env.frame = some X.env.locals := by rfl) (hln : X.env.kindOf n = some .local := by rfl) (hg : Gl X x := by rfl) (hdb : (x == ("__debug__" : Str)) = false := by decide) :
    AS X (.Try body [.ExceptHandler (some (.Name x np)) (some n) (b0 :: suite) pos'] [] [] pos :: rest) c fs D := by
  intro σ H S pins s I
  have ok := I.ok
  have frames : X.A.frames = some (X.env :: X.outer) := by rw [← hs]; exact ok.frames
  refine wpAny_execs_cons (wpAny_Try_except ?_)
  have run : ∀ (EE : Value → Shared → Prop) (QQ : Flow → Shared → Prop), L2N.Takes (X.tr (X.pn ++ pins) EE) (fun cls dd σ1 H1 => ∃ (l : Addr) (H0 : Hp), cls = .ref C ∧ dd = some l ∧ S3 X.K c σ1 H0 fs ∧ Same H0 H1 ∧ H0 l = none ∧ H1 l = some (xdO fl d)) → wpAny (model X.prog X.w) X.A (execs body X.env) QQ EE s := fun EE QQ tk =>
    wpAny_mono (hb _ (X.pn ++ pins) EE tk (fun σ1 H0 H1 l S1 sm hn hx => ⟨l, H0, rfl, rfl, S1, sm, hn, hx⟩) σ H S [] s (I.toTry _)) (fun fl s1 z => by
      cases fl with
      | next => obtain ⟨_, _, _, _, _, z⟩ := z; exact z.elim
      | brk => obtain ⟨_, _, _, _, _, z⟩ := z; exact z.elim
      | cont => obtain ⟨_, _, _, _, _, z⟩ := z; exact z.elim
      | ret u => obtain ⟨_, _, _, _, _, ⟨_, _, _, _, _, z⟩ | ⟨_, _, _, z⟩⟩ := z <;> exact z.elim) (fun _ _ z => z)
  refine run _ _ fun u s1 air => ?_
  obtain ⟨l, B, sI, ps2, σ1, H1, cls, dd, rfl, J0, nb, up, sky, nl, os, ag, dx, H0, rfl, rfl, S0, sm0, hn0, hx0⟩ := air
  have S1 := S0.ghost sm0 hn0 hx0
  have J : Inv X pins σ1 H1 sI := J0.ofTry ok
  have sky1 : L2.Sky B (X.env :: X.outer) l (L2N.Zn (.ref C) (some dx)) X.env.locals s1.heap := by rw [← hs]; exact sky
  show wpAny (model X.prog X.w) X.A (noteFrame (.ref l) X.env) _ _ s1
  refine L2N.Sky.land L2N.Zn.steady frames hf sky1 fun g fl up1 => ?_
  have Jg : Inv X pins σ1 H1 { s1 with heap := g } := J.landed nb fl.1 (up.trans up1) os ag
  obtain ⟨og, vg, eg, zg, dg⟩ := fl.there
  have far : l ∉ frs (X.env :: X.outer) := fun m => by
    obtain ⟨_, o2, e2, nd⟩ := (fl.2.2.1).mem m
    rw [eg] at e2; cases e2; exact nd _ dg
  have nL : l ≠ X.env.locals := fun z => far (List.mem_filterMap.mpr ⟨X.env, List.mem_cons_self, by rw [z]; exact hf⟩)
  have nF : l ∉ X.fs := fun m => by
    obtain ⟨e, m1, m2⟩ := List.mem_filterMap.mp m
    exact far (List.mem_filterMap.mpr ⟨e, List.mem_cons_of_mem _ m1, m2⟩)
  refine wpAny_handleBy_cons (codeAny_handlers_test ?_) (by intro z; cases z)
  have looks : PySem.W.Looks (model X.prog X.w) g (typeOf (.ref l)) (.ref C) := fun _ _ _ _ k2 q2 => wpAny_typeOf_ref (k2 _ _ eg) (by rw [zg.1]; exact q2)
  have takes_ := PySem.W.exm_one (M := model X.prog X.w) Jg.kIn looks hm
  refine ld_glob (X := X.suite l ((l, og) :: (X.pn ++ pins))) (Jg.suite eg dg nl nL nF) hg gC (takes_.here ?_) hdb
  refine codeAny_handlers_suite_as (HandSPX.lands_againZ fl fun g2 fl2 up2 => ?_)
  have J2 : Inv X pins σ1 H1 { s1 with heap := g2 } := J.landed nb fl2.1 ((up.trans up1).trans up2) os ag
  obtain ⟨oe, ve, ee, ze, de⟩ := fl2.there
  refine store_ok (X := X.suite l ((l, oe) :: (X.pn ++ pins))) (v := .ref l) (J2.suite ee de nl nL nF) hN hi (.inl hln) rfl (fun s5 T5 => ?_) (.inr hln)
  refine wpAny_mono (hsu l oe (X.pn ++ pins) dx ze ⟨_, de⟩ (σ1.set q (some (.ref l))) H1 S1.exc [] s5 T5) (fun f6 s6 r => ?_) (fun _ _ z => z.elim)
  have back : ∀ {σ6 : L2.St} {H6 : Hp}, Inv (X.suite l ((l, oe) :: (X.pn ++ pins))) [] σ6 H6 s6 → Inv X ((l, oe) :: pins) σ6 H6 s6 := fun {σ6 H6} T => ⟨ok, T.os, T.bare, T.base, T.loc, T.cell, T.free, T.freeC, fun p m => T.pin p (by
    rcases List.mem_append.mp m with m | m
    · exact List.mem_append_left _ (List.mem_cons_of_mem _ (List.mem_append_left _ m))
    · rcases List.mem_cons.mp m with e | m
      · rw [e]; exact List.mem_append_left _ List.mem_cons_self
      · exact List.mem_append_left _ (List.mem_cons_of_mem _ (List.mem_append_right _ m))), T.hok, T.len⟩
  have less : ∀ {σ6 : L2.St} {H6 : Hp} {s7 : Shared}, Inv X ((l, oe) :: pins) σ6 H6 s7 → Inv X pins σ6 H6 s7 := fun {σ6 H6 s7} T => ⟨ok, T.os, T.bare, T.base, T.loc, T.cell, T.free, T.freeC, fun p m => T.pin p (by
    rcases List.mem_append.mp m with m | m
    · exact List.mem_append_left _ m
    · exact List.mem_append_right _ (List.mem_cons_of_mem _ m)), T.hok, T.len⟩
  cases f6 with
  | next =>
    obtain ⟨σ6, H6, T6, f, S6, z⟩ := r
    refine gone_ok (back T6) hN hi hln fun s7 J7 => ?_
    exact bSs_pin (z _ H6 S6.gone) (less J7) (J7.pin (l, oe) (List.mem_append_right _ List.mem_cons_self))
  | ret u =>
    obtain ⟨v, σ6, H6, T6, rv, z | ⟨_, _, _, z⟩⟩ := r
    rotate_left
    · exact z.elim
    exact gone_ok (back T6) hN hi hln fun s7 J7 => ⟨v, _, _, less J7, rv, .inl z⟩
  | brk => obtain ⟨_, _, _, _, _, z⟩ := r; exact z.elim
  | cont => obtain ⟨_, _, _, _, _, z⟩ := r; exact z.elim
end
/-- THE RULE for a def that may raise an error with a field -/
theorem fn5X {P : Program} {w : World} {K : PySem.W.Frag} {mg : Str → Option Value} {base : Heap} {x' qual : Str} {params : Arguments} {bd : List Stmt} {scope : Scope} {dvs : List V} {kws : List (Str × V)} {f : Addr} {fd : FuncData} {N ps : List Str} {k : Nat} {ct : Ct} {fl : Str} {cx : Cxi}
    (F : FunD K x' qual params bd scope dvs kws f fd) (S : FnScope N ps scope) (len : ∀ ss ss' r, ct ss ss' r → nA ss = ps.length) (lenx : ∀ ss C d, cx ss C d → nA ss = ps.length)
    (hb : ∀ (cdv : Value) (A : Around) (outer : List Env) (s : Shared) (H : Hp) (E : XK) (c : Cf) (ss ss' : List Slot) (r : Res), Room k (A.deeper (envOfC qual scope s.heap.objs.size f cdv)) → ct ss ss' r → ownL ss = c.ws →
      AS (cxOf (L2N.CX P w) P w K mg base N qual scope f cdv A outer s H E).nox bd c (bodyF N.length ss) (goal3 ss ss' r))
    (hx : ∀ (cdv : Value) (A : Around) (outer : List Env) (s : Shared) (H : Hp) (E : XK) (c : Cf) (ss : List Slot) (C : Addr) (d : PyData), Room k (A.deeper (envOfC qual scope s.heap.objs.size f cdv)) → cx ss C d → ownL ss = c.ws →
      L2N.Takes (cxOf (L2N.CX P w) P w K mg base N qual scope f cdv A outer s H E) (fun cls d _ H' => E cls d H') → (∀ G fs, WI K (fun cls d _ H' => E cls d H') ⟨c.T, c.H0, c.ws, G⟩ fs C fl d) →
      AS (cxOf (L2N.CX P w) P w K mg base N qual scope f cdv A outer s H E) bd c (bodyF N.length ss) never) (hN : ps.length ≤ N.length := by decide) : FnOk P w K mg base (L2N.CX P w) (k + 1) f fd ps (Sp5 K ct fl cx) := by
  refine F.ok S (fun vs H Q E h => ?_) (fun cdv A outer s H vs Q E hr h => ?_)
  · obtain ⟨T, ss, E0, hA, h⟩ := h
    rcases h with ⟨ss', r, hc, _⟩ | ⟨C, d, hc, _⟩
    · rw [← hA]; exact len _ _ _ hc
    · rw [← hA]; exact lenx _ _ _ hc
  · obtain ⟨T, ss, E0, hA, h⟩ := h
    have hvN : vs.length ≤ N.length := by
      rcases h with ⟨ss', r, hc, _⟩ | ⟨C, d, hc, _⟩
      · rw [← hA, len _ _ _ hc]; exact hN
      · rw [← hA, lenx _ _ _ hc]; exact hN
    have hA' : nA ss = (vs.map some).length := by rw [hA]; simp
    have St : S3 K ⟨T, H, ownL ss, fun _ => none⟩ (L2.start N vs) H (bodyF N.length ss) := by
      refine ⟨start_er E0 hA hvN, Kp.refl _ _, fun b h => h, fun a h => .inl (by rw [bodyF_own] at h; exact h), fun a h => ?_, fun b o h => (by cases h), fun a h => rfl⟩
      obtain ⟨o, ho⟩ := E0.thereL h
      show H a ≠ none
      rw [ho]; exact fun z => by cases z
    rcases h with ⟨ss', r, hc, ho, hq⟩ | ⟨C, d, hc, ho, hq⟩
    · refine ⟨_, PSs.nox bestSs, fun pins s' I => ?_⟩
      have bdy := hb cdv A outer s H E ⟨T, H, ownL ss, fun _ => none⟩ ss ss' r hr hc rfl _ _ St
      refine thn (bdy pins s' I) fun fl s2 q => ?_
      cases fl with
      | next =>
        obtain ⟨σ', H', I', f', S', rfl, o⟩ := q
        exact ⟨σ', H', I', hq _ H' S'.kp (po_out E0 hA' (Hm := H') (r := .val .none) ⟨S'.er, .non⟩ S'.kp S'.dm o rfl)⟩
      | ret u =>
        obtain ⟨v', σ', H', I', rv, ⟨σ4, f4, r4, Hm, R, rfl, o⟩ | ⟨_, _, _, zz⟩⟩ := q
        · exact ⟨v', σ', H', I', rv, hq _ H' R.kp (po_out E0 hA' R.po R.kp R.dm o R.na)⟩
        · exact zz.elim
      | brk => obtain ⟨_, _, _, _, _, q⟩ := q; exact q.elim
      | cont => obtain ⟨_, _, _, _, _, q⟩ := q; exact q.elim
    · refine ⟨_, bestSs, fun pins s' I => ?_⟩
      have bdy := hx cdv A outer s H E ⟨T, H, ownL ss, fun _ => none⟩ ss C d hr hc rfl (L2N.takes_of rfl rfl rfl rfl) (fun G fs σ H1 H' l S' sm hn hx => hq H' l (fun b o hb => sm b o (S'.kp b o (by rw [ho]; simp) hb)) (by
        cases z : H l with
        | none => rfl
        | some u => exact absurd hn (S'.dm l (by show H l ≠ none; rw [z]; exact fun y => by cases y))) hx) _ _ St
      refine thn (bdy pins s' I) fun fl s2 q => ?_
      cases fl with
      | next => obtain ⟨_, _, _, _, _, q⟩ := q; exact q.elim
      | ret u => obtain ⟨_, _, _, _, _, ⟨_, _, _, _, _, q⟩ | ⟨_, _, _, q⟩⟩ := q <;> exact q.elim
      | brk => obtain ⟨_, _, _, _, _, q⟩ := q; exact q.elim
      | cont => obtain ⟨_, _, _, _, _, q⟩ := q; exact q.elim
end A3
namespace A3
open PySem PySem.Spec PyProof.Rows L2
/-! ### isinstance(e, (C, D, ..)) of an error, own classes, none of which it is -/
inductive ClsE (X : Cx) (C : Addr) : List Expr → List Addr → Prop
  | nil : ClsE X C [] []
  | cons {x : Str} {p : Pos} {D : Addr} {es : List Expr} {Ds : List Addr} (h : ∃ E, X.mg x = some (.ref E) ∧ PySem.W.kitOne X.K (.ref C) (.ref E) = some false ∧ E = D) (t : ClsE X C es Ds) (hg : Gl X x) (hd : (x == ("__debug__" : Str)) = false)
      (he : starEach (.Name x p :: es) X.env = (false, eval (.Name x p) X.env) :: starEach es X.env) : ClsE X C (.Name x p :: es) (D :: Ds)
theorem ClsE.ba {X : Cx} {C : Addr} {es : List Expr} {Ds : List Addr} (h : ClsE X C es Ds) : ∀ {σ : L2.St} {H : Hp} {Q : List V → Hp → Prop}, Q (Ds.map V.ref) H → bA X es σ H Q := by
  induction h with
  | nil => intro σ H Q q; exact bA_of pa_nil q
  | cons h t hg hd he ih =>
    intro σ H Q q
    obtain ⟨E, hm, _, rfl⟩ := h
    exact bA_of (pa_cons (pe_glob hg hm (v := .ref E) rfl hd) bestA he) (ih q)
theorem ClsE.any {X : Cx} {C : Addr} {es : List Expr} {Ds : List Addr} (h : ClsE X C es Ds) : PySem.W.kitAny X.K (.ref C) (Ds.map Value.ref) = some false := by
  induction h with
  | nil => rfl
  | cons h t hg hd he ih =>
    obtain ⟨E, _, hk, rfl⟩ := h
    show (match PySem.W.kitOne X.K (.ref C) (.ref E) with | some true => some true | some false => _ | none => none) = some false
    rw [hk]; exact ih
theorem vals_refs : ∀ {Ds : List Addr} {us : List Value}, Vals (Ds.map V.ref) us → us = Ds.map Value.ref
  | [], _, .nil => rfl
  | D :: Ds, u :: us, .cons a b => by
    cases a
    rw [vals_refs b]; rfl
theorem clsE_nil {X : Cx} {C : Addr} : ∃ Ds, ClsE X C [] Ds ∧ Ds.length ≤ 0 := ⟨[], .nil, Nat.le_refl _⟩
theorem clsE_cons {X : Cx} {C : Addr} {x : Str} {p : Pos} {es : List Expr} {n : Nat} (i : ∃ D, X.mg x = some (.ref D) ∧ PySem.W.kitOne X.K (.ref C) (.ref D) = some false) (t : ∃ Ds, ClsE X C es Ds ∧ Ds.length ≤ n) (hg : Gl X x := by rfl) (hd : (x == ("__debug__" : Str)) = false := by decide)
    (he : starEach (.Name x p :: es) X.env = (false, eval (.Name x p) X.env) :: starEach es X.env := by rfl) : ∃ Ds, ClsE X C (.Name x p :: es) Ds ∧ Ds.length ≤ n + 1 := by
  obtain ⟨D, h1, h2⟩ := i
  obtain ⟨Ds, h3, h4⟩ := t
  exact ⟨D :: Ds, .cons ⟨D, h1, h2, rfl⟩ h3 hg hd he, Nat.succ_le_succ h4⟩
section
variable {X : Cx} {es : List Expr} {fs : Fm} {pos p pe : Pos} {l C dx : Addr} {n : Str}
theorem call_isTup (xc : ExcC X.K C) {R : Hp → Prop} (hI : ∀ pins σ H s, Inv X pins σ H s → R H → ∃ ox od, PySem.W.InstAt s.heap l ox C od) : CallR X (.builtin "isinstance") (fun xs H Q => ∃ (t : Addr) (Ds : List Addr), xs = [.ref l, .ref t] ∧ SqT X.K H t (Ds.map V.ref) ∧ PySem.W.kitAny X.K (.ref C) (Ds.map Value.ref) = some false ∧ R H ∧ Q (.bl false) H) := by
  intro pins s σ H xs us Q I rv h
  obtain ⟨t, Ds, rfl, st, hk, hR, q⟩ := h
  match us, rv with
  | [_, _], .cons r1 (.cons r2 .nil) =>
    cases r1
    cases r2
    obtain ⟨its, vi, ⟨o, ho, hc, m, hd⟩, _⟩ := I.tuple st
    have e := vals_refs vi
    subst e
    obtain ⟨oc, od, oda, sl⟩ := o
    have hc : oc = .type "tuple" := hc
    have hd : oda = .seq (Ds.map Value.ref).toArray m := hd
    subst hc hd
    exact PySem.W.kia_tup (kitD xc) I.kIn (hI _ _ _ _ I hR) ho hk (by intro z; cases z) fun tok => ⟨.bl false, H, I.kept (t' := tok) (fun _ _ g => g), rfl, q⟩
theorem ae_isTup (q : Nat) (xc : ExcC X.K C) {R : Hp → Prop} (hI : ∀ pins σ H s, Inv X pins σ H s → R H → ∃ ox od, PySem.W.InstAt s.heap l ox C od) (hR : ∀ (T : Addr → Bool) (σ : L2.St) (H : Hp), ER X.K T σ H fs → R H) {cn : Nat} (hc : ∃ Ds, ClsE X C es Ds ∧ Ds.length ≤ cn) (hm : X.mg "isinstance" = none) {k} (hz : cn ≤ 1000 := by exact Nat.le_of_ble_eq_true rfl) (hs : fs[q]? = some (.ref l) := by rfl)
    (hN : X.N[q]? = some n := by rfl) (hv : Vis X.env.scope n := by first | exact .inl rfl | exact .inr (.inl rfl) | exact .inr (.inr rfl)) (hdn : (n == ("__debug__" : Str)) = false := by decide) (hcd : (n == ("__classdict__" : Str)) = false := by decide) (hg : Gl X "isinstance" := by rfl) {pt : Pos}
    (he : starEach [.Name n pe, .Tuple es k pt] X.env = (false, eval (.Name n pe) X.env) :: starEach [.Tuple es k pt] X.env := by rfl) (he2 : starEach [.Tuple es k pt] X.env = (false, eval (.Tuple es k pt) X.env) :: starEach [] X.env := by rfl) (hpl : (backTo pos (starEach [.Tuple es k pt] X.env)).any (·.1) = false := by rfl) :
    AE X (.Call (.Name "isinstance" p) [.Name n pe, .Tuple es k pt] [] pos) fs fs (.val (.bool false)) := by
  obtain ⟨Ds, hc, hl⟩ := hc
  refine ⟨rfl, fun T σ H Q E q' => bE_of (pe_callB (call_isTup xc hI) hg hm (by decide +kernel) (pa_cons best (pa_cons (pe_tup bestA) pa_nil he2) he) (he := he) (hpl := hpl)) (pe_ref hs hN hv hdn hcd E (hc.ba ?_))⟩
  refine ⟨by rw [List.length_map]; exact Nat.le_of_lt (small1000 (Nat.le_trans hl hz)), fun t nt => ?_⟩
  have E2 : ER X.K T σ (upd H t (.tup (Ds.map V.ref))) fs := E.keep (same_upd nt)
  exact ⟨t, Ds, rfl, .inl (.inl upd_same), hc.any, hR _ _ _ E2, q' _ _ (Kp.of (same_upd nt)) ⟨E2, .bl _⟩⟩
/-- .. of an error with a dict -/
theorem ae_isDt (q g : Nat) {gs : List (Str × V)} (xc : ExcC X.K C) (hd : HeldD X l C dx) {cn : Nat} (hc : ∃ Ds, ClsE X C es Ds ∧ Ds.length ≤ cn) (hm : X.mg "isinstance" = none) {k} (hz : cn ≤ 1000 := by exact Nat.le_of_ble_eq_true rfl) (hs : fs[q]? = some (.ref l) := by rfl) (hgh : fs[g]? = some (.raw dx (.xd gs)) := by rfl)
    (hN : X.N[q]? = some n := by rfl) (hv : Vis X.env.scope n := by first | exact .inl rfl | exact .inr (.inl rfl) | exact .inr (.inr rfl)) (hdn : (n == ("__debug__" : Str)) = false := by decide) (hcd : (n == ("__classdict__" : Str)) = false := by decide) (hg : Gl X "isinstance" := by rfl) {pt : Pos}
    (he : starEach [.Name n pe, .Tuple es k pt] X.env = (false, eval (.Name n pe) X.env) :: starEach [.Tuple es k pt] X.env := by rfl) (he2 : starEach [.Tuple es k pt] X.env = (false, eval (.Tuple es k pt) X.env) :: starEach [] X.env := by rfl) (hpl : (backTo pos (starEach [.Tuple es k pt] X.env)).any (·.1) = false := by rfl) :
    AE X (.Call (.Name "isinstance" p) [.Name n pe, .Tuple es k pt] [] pos) fs fs (.val (.bool false)) :=
  ae_isTup q xc (R := fun H => H dx = some (.xd gs)) (fun pins σ H s I h => by obtain ⟨oe, od, mA, i, _⟩ := instD hd I h; exact ⟨oe, some od, i⟩) (fun T σ H E => (E.raw hgh).2) hc hm hz hs hN hv hdn hcd hg he he2 hpl
end
/-- the body: Y.__init__(self, '..'); self.at = at -/
theorem oini_walk {P : Program} {w : World} {K : PySem.W.Frag} {mg : Str → Option Value} {base : Heap} {qual : Str} {scope : Scope} {fI : Addr} {cdv : Value} {A : Around} {outer : List Env} {s : Shared} {H : Hp} {E : XK} {a C Y : Addr} {v : V} {y m : Str} {j : Nat} {p1 p2 p3 p4 p5 p6 p7 p8 p9 p0 : Pos} {Q : VK}
    (T : TiI K Y) (hm : mg y = some (.ref Y)) (x : ExI K C "at") (ha : H a = some (exo a C none)) (hq : ∀ d, H d = none → d ≠ a → Q .non (upd (upd H d (exd d [("at", v)])) a (exo a C (some d))))
    (hg : Gl (cxOf CX0 P w K mg base ["self", "at"] qual scope fI cdv A outer s H E) y := by rfl) (hdb : (y == ("__debug__" : Str)) = false := by decide) (v1 : Vis scope "self" := by exact .inl rfl) (v2 : Vis scope "at" := by exact .inl rfl)
    {pl : Sem Bool} (hc : eval (.Call (.Attribute (.Name y p1) "__init__" p2) [.Name "self" p3, .Constant (.str m) j p4] [] p5) (cxOf CX0 P w K mg base ["self", "at"] qual scope fI cdv A outer s H E).env = (do
      let u ← eval (.Name y p1) (cxOf CX0 P w K mg base ["self", "at"] qual scope fI cdv A outer s H E).env
      standAt p2.atName
      let (g, us) ← holding [u] (getMethod u "__init__" pl)
      callWith p5 g us (backTo p5 (starEach [.Name "self" p3, .Constant (.str m) j p4] (cxOf CX0 P w K mg base ["self", "at"] qual scope fI cdv A outer s H E).env)) (backToKw p5 (keywordEach [] (cxOf CX0 P w K mg base ["self", "at"] qual scope fI cdv A outer s H E).env))) := by rfl)
    (h1 : swapsWith (.Call (.Attribute (.Name y p1) "__init__" p2) [.Name "self" p3, .Constant (.str m) j p4] [] p5) none p6.line (cxOf CX0 P w K mg base ["self", "at"] qual scope fI cdv A outer s H E).env = pure false := by rfl)
    (h2 : swapsWith (.Name "at" p9) (some (.Attribute (.Name "self" p7) "at" p8)) p0.line (cxOf CX0 P w K mg base ["self", "at"] qual scope fI cdv A outer s H E).env = pure false := by rfl) :
    ∃ t, PSs (cxOf CX0 P w K mg base ["self", "at"] qual scope fI cdv A outer s H E) [.Expr (.Call (.Attribute (.Name y p1) "__init__" p2) [.Name "self" p3, .Constant (.str m) j p4] [] p5) p6, .Assign [.Attribute (.Name "self" p7) "at" p8] (.Name "at" p9) p0] t ∧ t { nx := fun _ H' => Q .non H', rt := Q } (L2.start ["self", "at"] [.ref a, v]) H := by
  have V1 : ∀ p, PE (cxOf CX0 P w K mg base ["self", "at"] qual scope fI cdv A outer s H E) (.Name "self" p) _ := fun p => pe_var (i := 0) rfl v1
  have V2 : ∀ p, PE (cxOf CX0 P w K mg base ["self", "at"] qual scope fI cdv A outer s H E) (.Name "at" p) _ := fun p => pe_var (i := 1) rfl v2
  refine ⟨_, pss_cons (ps_expr (pe_tinit T hm (pa_cons (V1 p3) (pa_cons pe_str pa_nil)) hg hdb (pl := pl) hc) h1) (pss_cons (ps_ost (V1 p7) (V2 p9) h2) pss_nil), ?_⟩
  refine ⟨.ref a, rfl, a, C, [.str m], rfl, by show 1 ≤ 1000; decide, x.T, ha, v, rfl, .ref a, rfl, a, C, rfl, x.T, x.no, .inl ⟨ha, fun dx hd ne => hq dx hd ne⟩⟩
/-! ### in, for a tuple of plain data -/
def rInDt (K : PySem.W.Frag) : R2 := fun x y H Q => ∃ d ds, Dp K H x d ∧ Dp K H y (.tuple ds) ∧ PyData.plainAll ds = true ∧ d.plain = true ∧ d.depth ≤ 60 ∧ Q (.bl (ds.any fun z => PyData.eqv z d)) H
theorem op_inDt {X : Cx} (hu : X.A.units + 64 < cLine) : OpR X (compareOp .In) (rInDt X.K) := by
  intro pins s σ H x y v u Q I rx ry h
  obtain ⟨d, ds, hd, he, cd, ce, dp, q⟩ := h
  obtain ⟨as, r1⟩ := Dp.reads I d x v hd rx
  obtain ⟨bs, r2⟩ := Dp.reads I _ y u he ry
  exact PySem.SeqAt.in_tuple_data r2 r1 cd ce (room_inD dp hu) ⟨.bl _, H, I, rfl, q⟩
theorem c_inDt {X : Cx} {b : Expr} {f2 : Fm} {d1 : PyData} {ds : List PyData} (hu : X.A.units + 64 < cLine) (h1 : SeqAt.shaped d1 = true) (p1 : d1.plain = true) (h2 : SeqAt.shaped (.tuple ds) = true) (p2 : PyData.plainAll ds = true := by rfl) (hz : d1.depth ≤ 60 := by exact Nat.le_of_ble_eq_true rfl) (hm : behindInMarks .In b = false := by rfl) :
    CmpA X .In b f2 d1 (.val (.tuple ds)) (ds.any fun z => PyData.eqv z d1) :=
  ⟨_, op_inDt hu, hm, fun T σ H1 H2 x y Q rx p q => ⟨d1, ds, Rp.dp _ _ (rx.mono (cut_all _ _)) (SeqAt.canLay_of_shaped h1), Rp.dp _ _ p.rp (SeqAt.canLay_of_shaped h2), p2, p1, hz, q⟩⟩
end A3
namespace A3
open PySem PySem.Spec PyProof.Rows L2
/-! ### wishes, steps -/
inductive Wi where
  | after (a b : List Nat) (x : Fr)
  | within (a b : List Nat) (x : Fr)
  | wth (a b : List Nat)
  | frm (a : List Nat) (x : Fr)
def wD : Wi → PyData
  | .after a b x => .tuple [sD [97, 102, 116, 101, 114], sD a, sD b, frD x]
  | .within a b x => .tuple [sD [119, 105, 116, 104, 105, 110], sD a, sD b, frD x]
  | .wth a b => .tuple [sD [119, 105, 116, 104], sD a, sD b]
  | .frm a x => .tuple [sD [102, 114, 111, 109], sD a, frD x]
structure PostOk (a : List Nat) : Prop where
  ok : postB a = true
  len : a.length ≤ 40
  sm : ∀ c ∈ a, c < 1000
def WiOk : Wi → Prop
  | .after a b x => PostOk a ∧ PostOk b ∧ a ≠ b ∧ IsFr x ∧ FrB 200 x
  | .within a b x => PostOk a ∧ PostOk b ∧ a ≠ b ∧ IsFr x ∧ FrB 200 x
  | .wth a b => PostOk a ∧ PostOk b ∧ a ≠ b
  | .frm a x => PostOk a ∧ IsFr x ∧ FrB 200 x ∧ 0 ≤ x.1
theorem PostOk.tx {a : List Nat} (h : PostOk a) : TxB (sD a) := txB_s (by have := h.len; omega)
def stepAt (i : Int) : Wi → List PyData
  | .after a b x => [.tuple [sD a, sD b, frD x, .int i]]
  | .within a b x => [.tuple [sD b, sD a, frD (0 - x.1, x.2), .int i]]
  | .wth a b => [.tuple [sD a, sD b, .tuple [.int 0, .int 1], .int i], .tuple [sD b, sD a, .tuple [.int 0, .int 1], .int i]]
  | .frm _ _ => []
def stepsK (ws : List Wi) : Nat → List PyData
  | 0 => []
  | k + 1 => stepsK ws k ++ (match ws[k]? with | some w => stepAt (k : Int) w | none => [])
theorem stepsK_s {ws : List Wi} {k : Nat} {w : Wi} (h : ws[k]? = some w) : stepsK ws (k + 1) = stepsK ws k ++ stepAt (k : Int) w := by
  simp [stepsK, h]
theorem stepAt_len (i : Int) (w : Wi) : (stepAt i w).length ≤ 2 := by cases w <;> simp [stepAt]
theorem stepsK_len (ws : List Wi) : ∀ k, (stepsK ws k).length ≤ 2 * k
  | 0 => by simp [stepsK]
  | k + 1 => by
    have ih := stepsK_len ws k
    unfold stepsK
    rw [List.length_append]
    cases h : ws[k]? with
    | none => simp; omega
    | some w =>
      have := stepAt_len (k : Int) w
      simp only
      omega
theorem mapW_inv {ws : List Wi} {k : Nat} {d : PyData} (h : (ws.map wD)[k]? = some d) : ∃ w, ws[k]? = some w ∧ d = wD w := by
  rw [List.getElem?_map] at h
  obtain ⟨c, h1, h2⟩ := Option.map_eq_some_iff.mp h
  exact ⟨c, h1, h2.symm⟩
theorem nrm_fix {p : Fr} (h : IsFr p) : nrm p.1 p.2 = p := by
  have hp := h.pos
  have hs : sg p.1 p.2 = 1 := by
    have h2 := h.cop
    have : ¬ p.2 < 0 := by omega
    simp [sg, this, h2]
  obtain ⟨a, b⟩ := nrm_mul p.1 p.2
  rw [hs] at a b
  exact Prod.ext (by omega) (by omega)
theorem neg_fr {x : Fr} (h : IsFr x) : IsFr (0 - x.1, x.2) := ⟨h.pos, by
  have h2 := h.cop
  show Int.gcd (0 - x.1) x.2 = 1
  rw [Int.zero_sub, Int.neg_gcd]; exact h2⟩
theorem nrm_neg {x : Fr} (h : IsFr x) : nrm (0 * x.2 - x.1 * 1) (1 * x.2) = (0 - x.1, x.2) := by
  have e := nrm_fix (neg_fr h)
  rw [Int.zero_mul, Int.mul_one, Int.one_mul]; exact e
theorem abs_fr {x : Fr} (h : IsFr x) : IsFr ((if x.1 < 0 then -x.1 else x.1), x.2) := ⟨h.pos, by
  have h2 := h.cop
  show Int.gcd (if x.1 < 0 then -x.1 else x.1) x.2 = 1
  split
  · rw [Int.neg_gcd]; exact h2
  · exact h2⟩
/-! bells -/
def befL : List (List Nat) := [[], [97, 98], [97, 98, 99, 46, 100], [120, 46, 121, 46, 122]]
def behL : List (List Nat) := [[], [113], [46, 114], [113, 113, 113, 113]]
def bellV (n k : Int) : List Nat := befL.getD (n % 4).toNat [] ++ [97 + ((n / 16 % 26 + k / 26) % 26).toNat] ++ [97 + ((n / 416 % 26 + k) % 26).toNat] ++ behL.getD (n / 4 % 4).toNat []
theorem getD_mem {α : Type} {xs : List α} {v : Int} {d : α} (h0 : 0 ≤ v) (h : v < xs.length) : xs.getD v.toNat d ∈ xs := by
  have : v.toNat < xs.length := by omega
  rw [List.getD_eq_getElem?_getD, List.getElem?_eq_getElem this]
  exact List.getElem_mem this
theorem bell_ok {B E : List Nat} (hB : B ∈ befL) (hE : E ∈ behL) {c d : Nat} (hc : 97 ≤ c ∧ c ≤ 122) (hd : 97 ≤ d ∧ d ≤ 122) : PostOk (B ++ [c] ++ [d] ++ E) := by
  have c46 : ¬ c = 46 := by omega
  have d46 : ¬ d = 46 := by omega
  have lc : isLt c = true := lt_iff.mpr hc
  have ld : isLt d = true := lt_iff.mpr hd
  simp only [befL, List.mem_cons, List.not_mem_nil, or_false] at hB
  simp only [behL, List.mem_cons, List.not_mem_nil, or_false] at hE
  have l1 : isLt 97 = true := by decide
  have l2 : isLt 98 = true := by decide
  have l3 : isLt 99 = true := by decide
  have l4 : isLt 100 = true := by decide
  have l5 : isLt 120 = true := by decide
  have l6 : isLt 121 = true := by decide
  have l7 : isLt 122 = true := by decide
  have l8 : isLt 113 = true := by decide
  have l9 : isLt 114 = true := by decide
  rcases hB with rfl | rfl | rfl | rfl <;> rcases hE with rfl | rfl | rfl | rfl <;>
    exact ⟨by rw [postB_ok]; simp [okP, c46, d46, lc, ld, l1, l2, l3, l4, l5, l6, l7, l8, l9], by simp, by simp; omega⟩
theorem bellV_ok (n k : Int) : PostOk (bellV n k) :=
  bell_ok (getD_mem (by omega) (show n % 4 < (4 : Int) by omega)) (getD_mem (by omega) (show n / 4 % 4 < (4 : Int) by omega)) (by omega) (by omega)
theorem bellV_inj {n k j : Int} (h : bellV n k = bellV n j) (hk : 0 ≤ k ∧ k < 60) (hj : 0 ≤ j ∧ j < 60) : k = j := by
  have h1 := List.append_cancel_right h
  rw [List.append_assoc, List.append_assoc] at h1
  have h2 := List.append_cancel_left h1
  simp only [List.cons_append, List.nil_append, List.cons.injEq, and_true] at h2
  omega
def bellN (n : Int) : Int := 8 + n / 10816 % (60 - 7)
/-! numbers -/
def oneK (ns : List Int) (k : Int) : Int := (cellV ns k % 2147483647 + 7919 * k * k + 11) * 69621 % 2147483629
def twoK (ns : List Int) (k : Int) : Int := oneK ns k * (oneK ns k % 65521 + 48271) % 2147483587
def hereK (ns : List Int) (k : Int) : Int := (oneK ns k * 2147483587 + twoK ns k) * 2147483543 + (twoK ns k + 40692 * k * k) * (oneK ns k % 7919 + 39373) % 2147483543
def numK (ns : List Int) (k : Int) : Int := if (decide (cellV ns 0 % 2 = 0) && decide (10 ^ (18 : Int).toNat ≤ cellV ns k)) = true then cellV ns k else if decide (cellV ns 0 % 2 = 0) = true then hereK ns k * 10 ^ (18 : Int).toNat + cellV ns k % 10 ^ (18 : Int).toNat else hereK ns k
abbrev T30 : Int := 10 ^ (30 : Int).toNat
def shrV (n : Int) : Fr := if decide (n / 492 % 4 = 3) = true then nrm (n / 1968 % (2 * T30 + 1) - T30) (1 + n / 1968 / (2 * T30 + 1) % T30) else nrm (n % 41 - 20) (1 + n / 41 % 12)
theorem T30_eq : T30 = 1000000000000000000000000000000 := by decide
theorem shrV_ok (n : Int) : IsFr (shrV n) ∧ FrB 110 (shrV n) := by
  have e := T30_eq
  unfold shrV
  split
  · generalize T30 = t at *
    subst e
    exact ⟨nrm_fr (by omega), nrm_b (by omega) (bd_le (k := 1000000000000000000000000000000) (by omega) (by decide)) (bd_le (k := 1000000000000000000000000000000) (by omega) (by decide))⟩
  · exact ⟨nrm_fr (by omega), nrm_b (by omega) (bd_le (k := 100) (by omega) (by decide)) (bd_le (k := 100) (by omega) (by decide))⟩
def othV (m n : Int) : Int := (n / 4 % m + [1, m - 1, 1 + n / 4 / m / 3 % (m - 1)].getD (n / 4 / m % 3).toNat 0) % m
def wishV (bl : Nat → List Nat) (m n : Int) : Wi :=
  if n % 4 = 0 then .after (bl (n / 4 % m).toNat) (bl (othV m n).toNat) (shrV (n / 4 / m / 3 / (m - 1)))
  else if n % 4 = 1 then .within (bl (n / 4 % m).toNat) (bl (othV m n).toNat) (shrV (n / 4 / m / 3 / (m - 1)))
  else if n % 4 = 2 then .wth (bl (n / 4 % m).toNat) (bl (othV m n).toNat)
  else .frm (bl (n / 4 % m).toNat) ((if (shrV (n / 4 / m / 3 / (m - 1))).1 < 0 then -(shrV (n / 4 / m / 3 / (m - 1))).1 else (shrV (n / 4 / m / 3 / (m - 1))).1), (shrV (n / 4 / m / 3 / (m - 1))).2)
theorem other_ne {a p m : Int} (h0 : 0 ≤ a) (ha : a < m) (h1 : 1 ≤ p) (hp : p < m) : 0 ≤ (a + p) % m ∧ (a + p) % m < m ∧ (a + p) % m ≠ a := by
  refine ⟨Int.emod_nonneg _ (by omega), Int.emod_lt_of_pos _ (by omega), fun z => ?_⟩
  have d : m ∣ p := by
    have q := Int.mul_ediv_add_emod (a + p) m
    rw [z] at q
    exact ⟨(a + p) / m, by omega⟩
  have := Int.le_of_dvd (by omega) d
  omega
theorem oth_ok {m n : Int} (hm : 8 ≤ m) : 0 ≤ othV m n ∧ othV m n < m ∧ othV m n ≠ n / 4 % m := by
  have a0 := Int.emod_nonneg (n / 4) (show m ≠ 0 by omega)
  have a1 := Int.emod_lt_of_pos (n / 4) (show 0 < m by omega)
  have b0 := Int.emod_nonneg (n / 4 / m / 3) (show m - 1 ≠ 0 by omega)
  have b1 := Int.emod_lt_of_pos (n / 4 / m / 3) (show 0 < m - 1 by omega)
  unfold othV
  generalize n / 4 / m / 3 % (m - 1) = u at *
  have h3 : n / 4 / m % 3 = 0 ∨ n / 4 / m % 3 = 1 ∨ n / 4 / m % 3 = 2 := by omega
  rcases h3 with e | e | e <;> rw [e]
  · exact other_ne a0 a1 (show (1 : Int) ≤ 1 by omega) (show (1 : Int) < m by omega)
  · exact other_ne a0 a1 (show (1 : Int) ≤ m - 1 by omega) (show m - 1 < m by omega)
  · exact other_ne a0 a1 (show (1 : Int) ≤ 1 + u by omega) (show 1 + u < m by omega)
theorem wish_ok {N m n : Int} (hm : 8 ≤ m) (hm2 : m ≤ 60) : WiOk (wishV (fun k => bellV N k) m n) := by
  have a0 := Int.emod_nonneg (n / 4) (show m ≠ 0 by omega)
  have a1 := Int.emod_lt_of_pos (n / 4) (show 0 < m by omega)
  obtain ⟨o0, o1, o2⟩ := oth_ok (n := n) hm
  have ne : bellV N ((n / 4 % m).toNat : Int) ≠ bellV N ((othV m n).toNat : Int) := fun z => by
    have := bellV_inj z (by omega) (by omega)
    omega
  obtain ⟨f1, f2⟩ := shrV_ok (n / 4 / m / 3 / (m - 1))
  have f3 : FrB 200 (shrV (n / 4 / m / 3 / (m - 1))) := ⟨f2.top.mono (by decide), f2.bot.mono (by decide)⟩
  unfold wishV
  split
  · exact ⟨bellV_ok _ _, bellV_ok _ _, ne, f1, f3⟩
  · split
    · exact ⟨bellV_ok _ _, bellV_ok _ _, ne, f1, f3⟩
    · split
      · exact ⟨bellV_ok _ _, bellV_ok _ _, ne⟩
      · refine ⟨bellV_ok _ _, abs_fr f1, ⟨?_, f3.bot⟩, ?_⟩
        · have := f3.top
          unfold Bd at *
          generalize shrV (n / 4 / m / 3 / (m - 1)) = s at *
          show Int.natAbs (if s.1 < 0 then -s.1 else s.1) < _
          rw [show Int.natAbs (if s.1 < 0 then -s.1 else s.1) = Int.natAbs s.1 by split <;> omega]
          exact this
        · generalize shrV (n / 4 / m / 3 / (m - 1)) = s at *
          show (0 : Int) ≤ (if s.1 < 0 then -s.1 else s.1)
          split <;> omega
theorem at_bells {f : Nat → List Nat} {m v : Int} (h0 : 0 ≤ v) (h : v < m) : atI ((List.range m.toNat).map fun k => sD (f k)) v = some (sD (f v.toNat)) := by
  have hv : v.toNat < m.toNat := by omega
  have e := at_map (fun k : Nat => sD (f k)) (List.range m.toNat) v 0 h0 (by rw [List.length_range]; omega)
  rw [e, List.getD_eq_getElem?_getD, List.getElem?_range hv]; rfl
/-! comparable -/
theorem wD_flat {w : Wi} (h : WiOk w) : Flat 3 (wD w) := by
  have fs : ∀ {l : List Nat}, (∀ c ∈ l, c < 1000) → Flat 2 (sD l) := fun h => Flat.str h
  cases w with
  | after a b x =>
    refine Flat.tuple fun d hd => ?_
    simp only [List.mem_cons, List.not_mem_nil, or_false] at hd
    rcases hd with rfl | rfl | rfl | rfl
    · exact fs (by decide)
    · exact fs h.1.sm
    · exact fs h.2.1.sm
    · exact Flat.fr
  | within a b x =>
    refine Flat.tuple fun d hd => ?_
    simp only [List.mem_cons, List.not_mem_nil, or_false] at hd
    rcases hd with rfl | rfl | rfl | rfl
    · exact fs (by decide)
    · exact fs h.1.sm
    · exact fs h.2.1.sm
    · exact Flat.fr
  | wth a b =>
    refine Flat.tuple fun d hd => ?_
    simp only [List.mem_cons, List.not_mem_nil, or_false] at hd
    rcases hd with rfl | rfl | rfl
    · exact fs (by decide)
    · exact fs h.1.sm
    · exact fs h.2.1.sm
  | frm a x =>
    refine Flat.tuple fun d hd => ?_
    simp only [List.mem_cons, List.not_mem_nil, or_false] at hd
    rcases hd with rfl | rfl | rfl
    · exact fs (by decide)
    · exact fs h.1.sm
    · exact Flat.fr
theorem mem_steps {ws : List Wi} (hw : ∀ w ∈ ws, WiOk w) : ∀ (k : Nat) (d : PyData), d ∈ stepsK ws k → ∃ a b p i, d = .tuple [sD a, sD b, frD p, .int i] ∧ PostOk a ∧ PostOk b
  | 0, d, h => by simp [stepsK] at h
  | k + 1, d, h => by
    unfold stepsK at h
    rcases List.mem_append.mp h with h | h
    · exact mem_steps hw k d h
    · cases e : ws[k]? with
      | none => rw [e] at h; simp at h
      | some w =>
        rw [e] at h
        have ok := hw w (List.mem_of_getElem? e)
        cases w with
        | after a b x =>
          simp only [stepAt, List.mem_singleton] at h
          exact ⟨a, b, x, k, h, ok.1, ok.2.1⟩
        | within a b x =>
          simp only [stepAt, List.mem_singleton] at h
          exact ⟨b, a, _, k, h, ok.2.1, ok.1⟩
        | wth a b =>
          simp only [stepAt, List.mem_cons, List.not_mem_nil, or_false] at h
          rcases h with h | h
          · exact ⟨a, b, (0, 1), k, h, ok.1, ok.2.1⟩
          · exact ⟨b, a, (0, 1), k, h, ok.2.1, ok.1⟩
        | frm a x => simp [stepAt] at h
theorem steps_flat {ws : List Wi} (hw : ∀ w ∈ ws, WiOk w) (k : Nat) : Flat 4 (.list (stepsK ws k)) := Flat.list fun d hd => by
  obtain ⟨a, b, p, i, rfl, ha, hb⟩ := mem_steps hw k d hd
  refine Flat.tuple fun d hd => ?_
  simp only [List.mem_cons, List.not_mem_nil, or_false] at hd
  rcases hd with rfl | rfl | rfl | rfl
  · exact Flat.str ha.sm
  · exact Flat.str hb.sm
  · exact Flat.fr
  · exact Flat.int
theorem wishes_flat {ws : List Wi} (hw : ∀ w ∈ ws, WiOk w) : Flat 4 (.list (ws.map wD)) := Flat.list fun d hd => by
  obtain ⟨w, hm, rfl⟩ := List.mem_map.mp hd
  exact wD_flat (hw w hm)
theorem gcd_abs1 (t b : Int) : Int.gcd (if t < 0 then -t else t) b = Int.gcd t b := by split <;> simp [Int.gcd]
theorem t30_pos (a : Int) : 0 < 1 + a % T30 := by rw [T30_eq]; omega
theorem t30_bd (a : Int) : Bd 8000 (1 + a % T30) := bd_le (k := 1000000000000000000000000000000) (by rw [T30_eq]; omega) (by decide)
theorem bef_len : ∀ v : Nat, (befL.getD v []).length ≤ 5
  | 0 => by decide
  | 1 => by decide
  | 2 => by decide
  | 3 => by decide
  | n + 4 => by simp [befL]
theorem beh_len : ∀ v : Nat, (behL.getD v []).length ≤ 5
  | 0 => by decide
  | 1 => by decide
  | 2 => by decide
  | 3 => by decide
  | n + 4 => by simp [behL]
def blV (N : Int) (k : Nat) : List Nat := bellV N (0 + (k : Int))
theorem blV_eq (N : Int) : blV N = fun k : Nat => bellV N (k : Int) := funext fun k => by unfold blV; rw [Int.zero_add]
def wsV (ns : List Int) (N : Int) (n : Nat) : List Wi := (List.range n).map fun (i : Nat) => wishV (blV N) (bellN N) (numK ns (2 + (i : Int)))
theorem wsV_made (ns : List Int) (N : Int) (n : Nat) : madeC (fun i => some (wD (wishV (blV N) (bellN N) (numK ns (2 + (i : Int)))))) n = (wsV ns N n).map wD := by
  rw [madeC_some (fun i => wD (wishV (blV N) (bellN N) (numK ns (2 + (i : Int))))), wsV, List.map_map]; rfl
theorem bellN_b (N : Int) : 8 ≤ bellN N ∧ bellN N ≤ 60 := by unfold bellN; omega
theorem wsV_ok (ns : List Int) (N : Int) (n : Nat) : ∀ w ∈ wsV ns N n, WiOk w := fun w hw => by
  obtain ⟨i, _, rfl⟩ := List.mem_map.mp hw
  rw [blV_eq]
  exact wish_ok (bellN_b N).1 (bellN_b N).2
theorem wsV_len (ns : List Int) (N : Int) (n : Nat) : (wsV ns N n).length = n := by simp [wsV]
/-! ### what is no wish -/
def FROM : PyData := sD [102, 114, 111, 109]
def WITH : PyData := sD [119, 105, 116, 104]
def AFW : List PyData := [sD [97, 102, 116, 101, 114], sD [119, 105, 116, 104, 105, 110]]
def ltZ : PyData → Bool
  | .tuple [.int a, .int b] => decide (a * 1 < 0 * b)
  | _ => false
def isWiD : PyData → Bool
  | .tuple (x0 :: x1 :: x2 :: r) => isPostD x1 && (if PyData.eqv x0 FROM = true then decide (((r.length + 3 : Nat) : Int) = 3) && (isFrB x2 && !ltZ x2) else (!(!isPostD x2 || PyData.eqv x1 x2)) &&
      (if PyData.eqv x0 WITH = true then decide (((r.length + 3 : Nat) : Int) = 3) else (AFW.any fun z => PyData.eqv z x0) && (match r with
        | [x3] => isFrB x3
        | _ => false)))
  | _ => false
inductive OdW : PyData → Prop
  | other {d : PyData} (h : kitB (tyD d) "tuple" = some false) (hp : isPtB d = false) : OdW d
  | short {ds : List PyData} (h : ds.length < 3) : OdW (.tuple ds)
  | long {x0 x1 x2 : PyData} {r : List PyData} (s0 : SeqAt.shaped x0 = true) (p0 : x0.plain = true) (z0 : x0.depth ≤ 60) (s1 : SeqAt.shaped x1 = true) (s2 : SeqAt.shaped x2 = true) (t1 : TxB x1) (t2 : TxB x2) (p2 : isPtB x2 = false) (pr : ∀ x ∈ r, isPtB x = false) (hl : r.length ≤ 10) (hm : ∀ a b, x2 = .tuple [.int a, .int b] → Bd 1000 a ∧ Bd 1000 b) : OdW (.tuple (x0 :: x1 :: x2 :: r))
theorem isFrB_inv {d : PyData} (h : isFrB d = true) : ∃ p : Fr, d = frD p := by
  rcases fr_cases d with ⟨_, e⟩ | ⟨_, _, _, e⟩ | ⟨_, _, _, _, e⟩ | ⟨_, _, _, _, e⟩ | ⟨a, b, e⟩
  · rw [e] at h; cases h
  · rw [e] at h; cases h
  · rw [e] at h; cases h
  · rw [e] at h; cases h
  · exact ⟨(a, b), e⟩
theorem other_no {d : PyData} (h : kitB (tyD d) "tuple" = some false) : isWiD d = false := by
  cases d with
  | tuple ds => cases h
  | _ => rfl
theorem short_no {ds : List PyData} (h : ds.length < 3) : isWiD (.tuple ds) = false := by
  match ds with
  | [] => rfl
  | [_] => rfl
  | [_, _] => rfl
  | _ :: _ :: _ :: r => exact absurd h (by simp)
/-- good wishes are such things -/
theorem wD_od {w : Wi} (h : WiOk w) : OdW (wD w) := by
  have txt : ∀ {l : List Nat}, (∀ c ∈ l, c < 1000) → SeqAt.shaped (sD l) = true := fun h => Flat.shaped (n := 2) (Flat.str h)
  have fr : ∀ x : Fr, SeqAt.shaped (frD x) = true := fun x => Flat.shaped (n := 2) Flat.fr
  cases w with
  | after a b x => exact .long (txt (by decide)) rfl (by decide) (txt h.1.sm) (txt h.2.1.sm) h.1.tx h.2.1.tx rfl (fun y hy => by cases List.mem_singleton.mp hy; rfl) (by simp) (fun a b e => by cases e)
  | within a b x => exact .long (txt (by decide)) rfl (by decide) (txt h.1.sm) (txt h.2.1.sm) h.1.tx h.2.1.tx rfl (fun y hy => by cases List.mem_singleton.mp hy; rfl) (by simp) (fun a b e => by cases e)
  | wth a b => exact .long (txt (by decide)) rfl (by decide) (txt h.1.sm) (txt h.2.1.sm) h.1.tx h.2.1.tx rfl (fun y hy => by cases hy) (by simp) (fun a b e => by cases e)
  | frm a x => exact .long (txt (by decide)) rfl (by decide) (txt h.1.sm) (fr x) h.1.tx trivial rfl (fun y hy => by cases hy) (by simp) (fun a b e => by cases e; exact ⟨h.2.2.1.top.mono (by decide), h.2.2.1.bot.mono (by decide)⟩)
theorem wD_is {w : Wi} (h : WiOk w) : isWiD (wD w) = true := by
  cases w with
  | after a b x =>
    obtain ⟨h1, h2, h3, h4, h5⟩ := h
    show (isPostD (sD a) && (if PyData.eqv (sD _) FROM = true then _ else (!(!isPostD (sD b) || PyData.eqv (sD a) (sD b))) && (if PyData.eqv (sD _) WITH = true then _ else _ && isFrB (frD x)))) = true
    rw [show PyData.eqv (sD [97, 102, 116, 101, 114]) FROM = false from (eqv_s _ _).trans (by decide), show PyData.eqv (sD [97, 102, 116, 101, 114]) WITH = false from (eqv_s _ _).trans (by decide), if_neg Bool.false_ne_true, if_neg Bool.false_ne_true, isPost_s, isPost_s, h1.ok, h2.ok, eqv_s, decide_eq_false h3, isFrB_fr h4]
    show (true && ((!(!true || false)) && ((PyData.eqv (sD [97, 102, 116, 101, 114]) (sD [97, 102, 116, 101, 114]) || (PyData.eqv (sD [119, 105, 116, 104, 105, 110]) (sD [97, 102, 116, 101, 114]) || false)) && true))) = true
    rw [eqv_s, eqv_s]; decide
  | within a b x =>
    obtain ⟨h1, h2, h3, h4, h5⟩ := h
    show (isPostD (sD a) && (if PyData.eqv (sD _) FROM = true then _ else (!(!isPostD (sD b) || PyData.eqv (sD a) (sD b))) && (if PyData.eqv (sD _) WITH = true then _ else _ && isFrB (frD x)))) = true
    rw [show PyData.eqv (sD [119, 105, 116, 104, 105, 110]) FROM = false from (eqv_s _ _).trans (by decide), show PyData.eqv (sD [119, 105, 116, 104, 105, 110]) WITH = false from (eqv_s _ _).trans (by decide), if_neg Bool.false_ne_true, if_neg Bool.false_ne_true, isPost_s, isPost_s, h1.ok, h2.ok, eqv_s, decide_eq_false h3, isFrB_fr h4]
    show (true && ((!(!true || false)) && ((PyData.eqv (sD [97, 102, 116, 101, 114]) (sD [119, 105, 116, 104, 105, 110]) || (PyData.eqv (sD [119, 105, 116, 104, 105, 110]) (sD [119, 105, 116, 104, 105, 110]) || false)) && true))) = true
    rw [eqv_s, eqv_s]; decide
  | wth a b =>
    obtain ⟨h1, h2, h3⟩ := h
    show (isPostD (sD a) && (if PyData.eqv (sD _) FROM = true then _ else (!(!isPostD (sD b) || PyData.eqv (sD a) (sD b))) && (if PyData.eqv (sD _) WITH = true then true else _))) = true
    rw [show PyData.eqv (sD [119, 105, 116, 104]) FROM = false from (eqv_s _ _).trans (by decide), show PyData.eqv (sD [119, 105, 116, 104]) WITH = true from (eqv_s _ _).trans (by decide), if_neg Bool.false_ne_true, if_pos rfl, isPost_s, isPost_s, h1.ok, h2.ok, eqv_s, decide_eq_false h3]
    rfl
  | frm a x =>
    obtain ⟨h1, h2, h3, h4⟩ := h
    show (isPostD (sD a) && (if PyData.eqv (sD _) FROM = true then true && (isFrB (frD x) && !decide (x.1 * 1 < 0 * x.2)) else _)) = true
    rw [show PyData.eqv (sD [102, 114, 111, 109]) FROM = true from (eqv_s _ _).trans (by decide), if_pos rfl, isPost_s, h1.ok, isFrB_fr h2, decide_eq_false (by omega)]
    rfl
/-! ### refused, and at what -/
inductive RfW : PyData → PyData → Prop
  | other {d : PyData} (h : kitB (tyD d) "list" = some false) : RfW d .none
  | bad {ds : List PyData} {k : Nat} (hk : k < ds.length) (hb : ∀ t, ds[k]? = some t → isWiD t = false) (hg : ∀ j, j < k → ∀ t, ds[j]? = some t → isWiD t = true) (ok : ∀ t ∈ ds, OdW t) (hl : ds.length ≤ 1000) : RfW (.list ds) (.int (k : Int))
theorem RfW.sca {d e : PyData} (h : RfW d e) : Sca e := by cases h <;> constructor
/-! ### the law's odd things -/
def oddL (a b : List Nat) : List PyData :=
  [.none, .tuple [], .tuple [sD [97, 102, 116, 101, 114], sD a, sD b], .tuple [sD [97, 102, 116, 101, 114], sD a, sD a, .tuple [.int 1, .int 2]], .tuple [sD [97, 102, 116, 101, 114], sD a, sD b, .tuple [.int 2, .int 4]], .tuple [sD [97, 102, 116, 101, 114], sD a, sD b, .int 1],
   .tuple [sD [97, 102, 116, 101, 114], sD [65], sD b, .tuple [.int 1, .int 1]], .tuple [sD [119, 105, 116, 104, 105, 110], sD a, sD b, .tuple [.int 1, .int 0]], .tuple [sD [119, 105, 116, 104], sD a], .tuple [sD [119, 105, 116, 104], sD a, sD b, .tuple [.int 0, .int 1]],
   .tuple [sD [119, 105, 116, 104], sD a, sD a], .tuple [sD [102, 114, 111, 109], sD a, .tuple [.int (-1), .int 2]], .tuple [sD [102, 114, 111, 109], sD a, .int 1], .tuple [sD [102, 114, 111, 109], sD [97, 46, 46, 98], .tuple [.int 0, .int 1]], .tuple [sD [102, 114, 111, 109], sD a],
   .list [sD [119, 105, 116, 104], sD a, sD b], sD [119, 105, 116, 104], .tuple [sD [116, 104, 101, 110], sD a, sD b], .tuple [sD [102, 114, 111, 109], sD a, .tuple [.bool true, .int 1]], .tuple [sD [97, 102, 116, 101, 114], sD a, sD b, .tuple [.int 1, .int (-1)]],
   .tuple [sD [119, 105, 116, 104], sD a, .int 5], .tuple [.int 5, sD a, sD b], .tuple [sD [119, 105, 116, 104], sD [97, 46, 98, 46, 99, 46, 100, 46, 101], sD b], .tuple [sD [102, 114, 111, 109], sD a, .tuple [.int 0, .int 1], .tuple [.int 0, .int 1]], .tuple [sD [119, 105, 116, 104], .list [sD a], sD b],
   .tuple [sD [119, 105, 116, 104, 105, 110], sD a, sD b, .tuple [.int 0, .int 2]], .tuple [sD [97, 102, 116, 101, 114], sD a, sD [97, 98, 99, 100, 101, 102, 103, 104, 105], .tuple [.int 1, .int 1]], .tuple [sD [102, 114, 111, 109], sD a, .none], .tuple [sD [119, 105, 116, 104], sD [97, 49], sD b],
   .tuple [sD [97, 102, 116, 101, 114], sD a, sD [97, 32, 98], .tuple [.int 1, .int 1]], .tuple [sD [102, 114, 111, 109], sD [97, 46], .tuple [.int 0, .int 1]], .tuple [sD [102, 114, 111, 109], sD [], .tuple [.int 0, .int 1]]]
def oddD (a b : List Nat) (n : Int) : PyData := (oddL a b).getD (n % 32).toNat .none
theorem odd_at (a b : List Nat) (n : Int) : atI (oddL a b) (n % 32) = some (oddD a b n) := atI_getD PyData.none (by omega) (by show n % 32 < 32; omega)
theorem odd_mem (a b : List Nat) (n : Int) : oddD a b n ∈ oddL a b := getD_mem (xs := oddL a b) (v := n % 32) (d := PyData.none) (by omega) (by show n % 32 < 32; omega)
theorem odd_ow {a b : List Nat} (ha : PostOk a) (hb : PostOk b) : ∀ d ∈ oddL a b, OdW d := by
  have txt : ∀ {l : List Nat}, (∀ c ∈ l, c < 1000) → SeqAt.shaped (sD l) = true := fun h => Flat.shaped (n := 2) (Flat.str h)
  intro d hd
  simp only [oddL, List.mem_cons, List.not_mem_nil, or_false] at hd
  rcases hd with rfl | rfl | rfl | rfl | rfl | rfl | rfl | rfl | rfl | rfl | rfl | rfl | rfl | rfl | rfl | rfl | rfl | rfl | rfl | rfl | rfl | rfl | rfl | rfl | rfl | rfl | rfl | rfl | rfl | rfl | rfl | rfl
  all_goals first
    | exact .other rfl rfl
    | exact .short (Nat.le_of_ble_eq_true rfl)
    | (refine .long ?_ rfl (by decide) ?_ ?_ ?_ ?_ rfl ?_ (by simp) ?_
       · first | rfl | exact txt (by decide)
       · first | exact txt ha.sm | exact txt hb.sm | rfl | exact txt (by decide) | exact Flat.shaped (n := 3) (Flat.list (List.forall_mem_cons.mpr ⟨Flat.str ha.sm, fun _ h => absurd h List.not_mem_nil⟩))
       · first | exact txt ha.sm | exact txt hb.sm | rfl | exact txt (by decide)
       · first | exact ha.tx | exact hb.tx | trivial | exact txB_s (by decide)
       · first | exact ha.tx | exact hb.tx | trivial | exact txB_s (by decide)
       · first | exact fun _ h => absurd h List.not_mem_nil | (intro x hx; simp only [List.mem_cons, List.not_mem_nil, or_false] at hx; subst hx; rfl)
       · first | exact fun _ _ e => PyData.noConfusion e | (intro c d e; cases e; exact ⟨bd_le (k := 100) (by decide) (by decide), bd_le (k := 100) (by decide) (by decide)⟩) | (intro c d e; cases e))
theorem odd_is {a b : List Nat} (ha : PostOk a) (hb : PostOk b) : ∀ d ∈ oddL a b, isWiD d = false := by
  have a1 := ha.ok
  have b1 := hb.ok
  have p1 : postB [65] = false := by decide
  have p2 : postB [97, 46, 46, 98] = false := by decide
  have p3 : postB [97, 46, 98, 46, 99, 46, 100, 46, 101] = false := by decide
  have p4 : postB [97, 98, 99, 100, 101, 102, 103, 104, 105] = false := by decide
  have p5 : postB [97, 49] = false := by decide
  have p6 : postB [97, 32, 98] = false := by decide
  have p7 : postB [97, 46] = false := by decide
  have p8 : postB [] = false := by decide
  have g1 : Int.gcd 2 4 = 2 := by decide
  have g2 : Int.gcd 0 2 = 2 := by decide
  have ne : ∀ (i : Int) (x : List Nat), PyData.eqv (.int i) (sD x) = false := fun _ _ => rfl
  have en : ∀ (i : Int) (x : List Nat), PyData.eqv (sD x) (.int i) = false := fun _ _ => rfl
  intro d hd
  simp only [oddL, List.mem_cons, List.not_mem_nil, or_false] at hd
  rcases hd with rfl | rfl | rfl | rfl | rfl | rfl | rfl | rfl | rfl | rfl | rfl | rfl | rfl | rfl | rfl | rfl | rfl | rfl | rfl | rfl | rfl | rfl | rfl | rfl | rfl | rfl | rfl | rfl | rfl | rfl | rfl | rfl
  all_goals first
    | rfl
    | (simp [isWiD, FROM, WITH, AFW, eqv_s, isPost_s, a1, b1, p1, p2, p3, p4, p5, p6, p7, p8, g1, g2, isFrB, ltZ, ne, en, isPostD]; done)
theorem odd_fl {a b : List Nat} (ha : PostOk a) (hb : PostOk b) : ∀ d ∈ oddL a b, Flat 5 d := by
  intro d hd
  simp only [oddL, List.mem_cons, List.not_mem_nil, or_false] at hd
  rcases hd with rfl | rfl | rfl | rfl | rfl | rfl | rfl | rfl | rfl | rfl | rfl | rfl | rfl | rfl | rfl | rfl | rfl | rfl | rfl | rfl | rfl | rfl | rfl | rfl | rfl | rfl | rfl | rfl | rfl | rfl | rfl | rfl
  all_goals repeat' (first | exact Flat.int | exact Flat.bl | exact Flat.non | exact Flat.str ha.sm | exact Flat.str hb.sm | exact Flat.str (by decide) | refine Flat.tuple ?_ | refine Flat.list ?_ | refine List.forall_mem_cons.mpr ⟨?_, ?_⟩ | exact fun _ h => absurd h List.not_mem_nil)
theorem odd_no {a b : List Nat} (ha : PostOk a) (hb : PostOk b) : ∀ d ∈ oddL a b, OdW d ∧ isWiD d = false ∧ Flat 5 d := fun d hd => ⟨odd_ow ha hb d hd, odd_is ha hb d hd, odd_fl ha hb d hd⟩
structure LongW (x0 x1 x2 : PyData) (r : List PyData) : Prop where
  s0 : SeqAt.shaped x0 = true
  p0 : x0.plain = true
  z0 : x0.depth ≤ 60
  s1 : SeqAt.shaped x1 = true
  s2 : SeqAt.shaped x2 = true
  t1 : TxB x1
  t2 : TxB x2
  p2 : isPtB x2 = false
  pr : ∀ x ∈ r, isPtB x = false
  hl : r.length ≤ 10
  hm : ∀ a b, x2 = .tuple [.int a, .int b] → Bd 1000 a ∧ Bd 1000 b
theorem wi_split {d : PyData} (h : OdW d) : (kitB (tyD d) "tuple" = some false ∧ isPtB d = false ∧ isWiD d = false) ∨ (∃ ds, d = .tuple ds ∧ ds.length < 3 ∧ isWiD d = false) ∨
    (∃ x0 x1 x2 r, d = .tuple (x0 :: x1 :: x2 :: r) ∧ LongW x0 x1 x2 r ∧ isPostD x1 = false ∧ isWiD d = false) ∨
    (∃ x0 x1 x2 r, d = .tuple (x0 :: x1 :: x2 :: r) ∧ LongW x0 x1 x2 r ∧ isPostD x1 = true ∧ PyData.eqv x0 FROM = true ∧ isFrB x2 = false ∧ isWiD d = false) ∨
    (∃ x0 x1 r, ∃ p : Fr, d = .tuple (x0 :: x1 :: frD p :: r) ∧ LongW x0 x1 (frD p) r ∧ isPostD x1 = true ∧ PyData.eqv x0 FROM = true ∧ isFrB (frD p) = true ∧ isWiD d = (decide (((r.length + 3 : Nat) : Int) = 3) && (isFrB (frD p) && !decide (p.1 * 1 < 0 * p.2)))) ∨
    (∃ x0 x1 x2 x3, d = .tuple [x0, x1, x2, x3] ∧ LongW x0 x1 x2 [x3] ∧ isPostD x1 = true ∧ PyData.eqv x0 FROM = false ∧ isWiD d = ((!(!isPostD x2 || PyData.eqv x1 x2)) && (if PyData.eqv x0 WITH = true then false else (AFW.any fun z => PyData.eqv z x0) && isFrB x3))) ∨
    (∃ x0 x1 x2 r, d = .tuple (x0 :: x1 :: x2 :: r) ∧ LongW x0 x1 x2 r ∧ isPostD x1 = true ∧ PyData.eqv x0 FROM = false ∧ r.length ≠ 1 ∧ isWiD d = ((!(!isPostD x2 || PyData.eqv x1 x2)) && (if PyData.eqv x0 WITH = true then decide (((r.length + 3 : Nat) : Int) = 3) else false))) := by
  rcases h with ⟨h, hpt⟩ | h | ⟨s0, p0, z0, s1, s2, t1, t2, p2, pr, hl, hm⟩
  · exact .inl ⟨h, hpt, other_no h⟩
  · exact .inr (.inl ⟨_, rfl, h, short_no h⟩)
  · rename_i x0 x1 x2 r
    have L : LongW x0 x1 x2 r := ⟨s0, p0, z0, s1, s2, t1, t2, p2, pr, hl, hm⟩
    cases hp : isPostD x1 with
    | false => exact .inr (.inr (.inl ⟨x0, x1, x2, r, rfl, L, hp, by simp [isWiD, hp]⟩))
    | true =>
      cases hf : PyData.eqv x0 FROM with
      | true =>
        cases hr : isFrB x2 with
        | false => exact .inr (.inr (.inr (.inl ⟨x0, x1, x2, r, rfl, L, hp, hf, hr, by simp [isWiD, hp, hf, hr]⟩)))
        | true =>
          obtain ⟨p, rfl⟩ := isFrB_inv hr
          exact .inr (.inr (.inr (.inr (.inl ⟨x0, x1, r, p, rfl, L, hp, hf, hr, by simp only [isWiD, hp, hf, Bool.true_and, if_pos]; rfl⟩))))
      | false =>
        match r, L with
        | [x3], L => exact .inr (.inr (.inr (.inr (.inr (.inl ⟨x0, x1, x2, x3, rfl, L, hp, hf, by simp [isWiD, hp, hf]⟩)))))
        | [], L => exact .inr (.inr (.inr (.inr (.inr (.inr ⟨x0, x1, x2, [], rfl, L, hp, hf, by simp, by simp [isWiD, hp, hf]⟩)))))
        | _ :: _ :: r, L => exact .inr (.inr (.inr (.inr (.inr (.inr ⟨x0, x1, x2, _, rfl, L, hp, hf, by simp, by simp [isWiD, hp, hf]⟩)))))
theorem atc0 (x : PyData) (r : List PyData) : atI (x :: r) 0 = some x := (atI_nat (rfl : (_ : List PyData)[0]? = _))
theorem atc1 (x y : PyData) (r : List PyData) : atI (x :: y :: r) 1 = some y := (atI_nat (rfl : (_ : List PyData)[1]? = _))
theorem atc2 (x y z : PyData) (r : List PyData) : atI (x :: y :: z :: r) 2 = some z := (atI_nat (rfl : (_ : List PyData)[2]? = _))
theorem atc3 (x y z u : PyData) (r : List PyData) : atI (x :: y :: z :: u :: r) 3 = some u := (atI_nat (rfl : (_ : List PyData)[3]? = _))
theorem afw_sh : SeqAt.shaped (.tuple AFW) = true := Flat.shaped (n := 2) (Flat.tuple (List.forall_mem_cons.mpr ⟨Flat.str (by decide), List.forall_mem_cons.mpr ⟨Flat.str (by decide), fun _ h => by cases h⟩⟩))
theorem from_sh : SeqAt.shaped FROM = true := Flat.shaped (n := 2) (Flat.str (by decide))
theorem with_sh : SeqAt.shaped WITH = true := Flat.shaped (n := 2) (Flat.str (by decide))
/-! wishes with odd things among them -/
theorem good_W {ws : List Wi} (hw : ∀ w ∈ ws, WiOk w) : ∀ t ∈ ws.map wD, isWiD t = true ∧ OdW t := fun t ht => by
  obtain ⟨w, hm, rfl⟩ := List.mem_map.mp ht
  exact ⟨wD_is (hw w hm), wD_od (hw w hm)⟩
def spW (ws : List PyData) (k : Nat) (o1 : PyData) : List PyData := ws.take k ++ [o1] ++ ws.drop k
theorem spW_len (ws : List PyData) (k : Nat) (o1 : PyData) : (spW ws k o1).length = ws.length + 1 := by
  unfold spW
  simp only [List.length_append, List.length_take, List.length_drop, List.length_singleton]; omega
theorem spW_at {ws : List PyData} {k : Nat} (o1 : PyData) (hk : k ≤ ws.length) : (spW ws k o1)[k]? = some o1 := by
  unfold spW
  rw [List.append_assoc, List.getElem?_append_right (by rw [List.length_take]; omega), List.length_take, Nat.min_eq_left hk, Nat.sub_self]; rfl
theorem spW_lt {ws : List PyData} {k j : Nat} (o1 : PyData) (hk : k ≤ ws.length) (hj : j < k) : (spW ws k o1)[j]? = ws[j]? := by
  unfold spW
  rw [List.append_assoc, List.getElem?_append_left (by rw [List.length_take]; omega), List.getElem?_take, if_pos hj]
theorem spW_mem {ws : List PyData} {k : Nat} {o1 t : PyData} (h : t ∈ spW ws k o1) : t ∈ ws ∨ t = o1 := by
  unfold spW at h
  rcases List.mem_append.mp h with h | h
  · rcases List.mem_append.mp h with h | h
    · exact .inl (List.mem_of_mem_take h)
    · exact .inr (List.mem_singleton.mp h)
  · exact .inl (List.mem_of_mem_drop h)
/-- put in behind the first one -/
def insW (xs : List PyData) (i : Nat) (o2 : PyData) : List PyData := xs.take i ++ [o2] ++ xs.drop i
theorem insW_lt {xs : List PyData} {i j : Nat} (o2 : PyData) (hi : i ≤ xs.length) (hj : j < i) : (insW xs i o2)[j]? = xs[j]? := spW_lt o2 hi hj
/-- what is handed in, and at what it is refused -/
structure SpO (ws : List Wi) (k : Nat) (L : List PyData) : Prop where
  at_ : ∃ o, L[k]? = some o ∧ isWiD o = false
  lt : ∀ j, j < k → L[j]? = (ws.map wD)[j]?
  mem : ∀ t ∈ L, OdW t ∧ Flat 5 t
  len : L.length ≤ 100
theorem SpO.rf {ws : List Wi} {k : Nat} {L : List PyData} (h : SpO ws k L) (hw : ∀ w ∈ ws, WiOk w) (hl : ws.length ≤ 60) : RfW (.list L) (.int (k : Int)) := by
  obtain ⟨o, h1, h2⟩ := h.at_
  refine .bad (List.getElem?_eq_some_iff.mp h1).1 (fun t ht => ?_) (fun j hj t ht => ?_) (fun t ht => (h.mem t ht).1) (by have := h.len; omega)
  · rw [h1] at ht; cases ht; exact h2
  · rw [h.lt j hj] at ht
    exact (good_W hw t (List.mem_of_getElem? ht)).1
theorem SpO.flat {ws : List Wi} {k : Nat} {L : List PyData} (h : SpO ws k L) : Flat 6 (.list L) := Flat.list fun t ht => (h.mem t ht).2
theorem spO_one {ws : List Wi} {k : Nat} {o : PyData} (hw : ∀ w ∈ ws, WiOk w) (hk : k ≤ ws.length) (hl : ws.length ≤ 60) (h1 : OdW o) (h2 : isWiD o = false) (h3 : Flat 5 o) : SpO ws k (spW (ws.map wD) k o) := by
  have hk' : k ≤ (ws.map wD).length := by rw [List.length_map]; exact hk
  refine ⟨⟨o, spW_at o hk', h2⟩, fun j hj => spW_lt o hk' hj, fun t ht => ?_, by rw [spW_len, List.length_map]; omega⟩
  rcases spW_mem ht with z | z
  · obtain ⟨w, hm, rfl⟩ := List.mem_map.mp z
    exact ⟨wD_od (hw w hm), (wD_flat (hw w hm)).up (by decide)⟩
  · rw [z]; exact ⟨h1, h3⟩
theorem spO_two {ws : List Wi} {k i : Nat} {L : List PyData} {o : PyData} (h : SpO ws k L) (hi : k < i) (hi2 : i ≤ L.length) (hl : L.length ≤ 70) (h1 : OdW o) (h3 : Flat 5 o) : SpO ws k (insW L i o) := by
  obtain ⟨o1, g1, g2⟩ := h.at_
  refine ⟨⟨o1, (insW_lt o hi2 hi).trans g1, g2⟩, fun j hj => (insW_lt o hi2 (by omega)).trans (h.lt j hj), fun t ht => ?_, by have := spW_len L i o; show (spW L i o).length ≤ 100; omega⟩
  rcases spW_mem (ws := L) ht with z | z
  · exact h.mem t z
  · rw [z]; exact ⟨h1, h3⟩
/-! ### spoilt -/
theorem cutTo {xs : List PyData} {k : Nat} (h : k ≤ xs.length) : cutD xs none (some (k : Int)) = xs.take k := by
  unfold cutD
  rw [show HT.sIx xs.length 0 none = 0 from rfl, show HT.sIx xs.length xs.length (some (k : Int)) = k by simp only [HT.sIx]; repeat' split <;> omega]
  rfl
theorem cutFr {xs : List PyData} {k : Nat} (h : k ≤ xs.length) : cutD xs (some (k : Int)) none = xs.drop k := by
  unfold cutD
  rw [show HT.sIx xs.length 0 (some (k : Int)) = k by simp only [HT.sIx]; repeat' split <;> omega, show HT.sIx xs.length xs.length none = xs.length from rfl, List.take_of_length_le (by rw [List.length_drop]; omega)]
theorem cutSp {xs : List PyData} {k : Nat} (h : k ≤ xs.length) (o : PyData) : cutD xs none (some (k : Int)) ++ [o] ++ cutD xs (some (k : Int)) none = spW xs k o := by rw [cutTo h, cutFr h]; rfl
def atV (ws : List Wi) (n : Int) : Nat := (n % (((ws.map wD).length : Nat) + 1 : Int)).toNat
theorem atV_int (ws : List Wi) (n : Int) : n % (((ws.map wD).length : Nat) + 1 : Int) = ((atV ws n : Nat) : Int) := by
  have := Int.emod_nonneg n (show (((ws.map wD).length : Nat) + 1 : Int) ≠ 0 by omega)
  unfold atV; omega
theorem atV_le (ws : List Wi) (n : Int) : atV ws n ≤ (ws.map wD).length := by
  have := Int.emod_lt_of_pos n (show (0 : Int) < (((ws.map wD).length : Nat) + 1 : Int) by omega)
  have := atV_int ws n
  omega
def oneD (bl : Nat → List Nat) (m n : Int) : PyData := oddD (bl (n / 32 % m).toNat) (bl ((n / 32 + 1) % m).toNat) n
def secI (ws : List Wi) (bl : Nat → List Nat) (m n : Int) : Int := ((atV ws n : Nat) : Int) + 1 + n / 1984 % (((spW (ws.map wD) (atV ws n) (oneD bl m (n / 62))).length : Nat) - ((atV ws n : Nat) : Int))
def spoL (ws : List Wi) (bl : Nat → List Nat) (m n : Int) : List PyData :=
  if decide (n / 31 % 2 = 1) = true then insW (spW (ws.map wD) (atV ws n) (oneD bl m (n / 62))) (secI ws bl m n).toNat (oneD bl m (n / 126976)) else spW (ws.map wD) (atV ws n) (oneD bl m (n / 62))
theorem secI_b (ws : List Wi) (bl : Nat → List Nat) (m n : Int) : ((atV ws n : Nat) : Int) < secI ws bl m n ∧ secI ws bl m n ≤ ((ws.map wD).length : Nat) + 1 := by
  have h := atV_le ws n
  have l : (spW (ws.map wD) (atV ws n) (oneD bl m (n / 62))).length = (ws.map wD).length + 1 := spW_len _ _ _
  have h1 := Int.emod_nonneg (n / 1984) (show (((spW (ws.map wD) (atV ws n) (oneD bl m (n / 62))).length : Nat) - ((atV ws n : Nat) : Int) : Int) ≠ 0 by omega)
  have h2 := Int.emod_lt_of_pos (n / 1984) (show (0 : Int) < (((spW (ws.map wD) (atV ws n) (oneD bl m (n / 62))).length : Nat) - ((atV ws n : Nat) : Int) : Int) by omega)
  unfold secI
  omega
theorem oneD_ok {bl : Nat → List Nat} {m : Int} (hm : 8 ≤ m) (hb : ∀ v : Int, 0 ≤ v → v < m → PostOk (bl v.toNat)) (n : Int) : OdW (oneD bl m n) ∧ isWiD (oneD bl m n) = false ∧ Flat 5 (oneD bl m n) :=
  odd_no (hb _ (Int.emod_nonneg _ (by omega)) (Int.emod_lt_of_pos _ (by omega))) (hb _ (Int.emod_nonneg _ (by omega)) (Int.emod_lt_of_pos _ (by omega))) _ (odd_mem _ _ n)
theorem spo_ok {ws : List Wi} {bl : Nat → List Nat} {m : Int} (hw : ∀ w ∈ ws, WiOk w) (hl : ws.length ≤ 60) (hm : 8 ≤ m) (hb : ∀ v : Int, 0 ≤ v → v < m → PostOk (bl v.toNat)) (n : Int) : SpO ws (atV ws n) (spoL ws bl m n) := by
  obtain ⟨a1, a2, a3⟩ := oneD_ok hm hb (n / 62)
  obtain ⟨b1, _, b3⟩ := oneD_ok hm hb (n / 126976)
  have hk := atV_le ws n
  have ll : (ws.map wD).length = ws.length := List.length_map _
  have h1 : SpO ws (atV ws n) (spW (ws.map wD) (atV ws n) (oneD bl m (n / 62))) := spO_one hw (by omega) hl a1 a2 a3
  obtain ⟨s1, s2⟩ := secI_b ws bl m n
  have sl := spW_len (ws.map wD) (atV ws n) (oneD bl m (n / 62))
  unfold spoL
  split
  · exact spO_two h1 (by omega) (by omega) (by omega) b1 b3
  · exact h1
theorem things_rf (ws : List Wi) : ∀ d ∈ [PyData.none, .tuple (ws.map wD), .dict [], sD [97, 102, 116, 101, 114], .int 5], RfW d .none := by
  intro d hd
  simp only [List.mem_cons, List.not_mem_nil, or_false] at hd
  rcases hd with rfl | rfl | rfl | rfl | rfl <;> exact .other rfl
theorem blV_ok (N : Int) (v : Int) : 0 ≤ v → v < bellN N → PostOk (blV N v.toNat) := fun _ _ => by rw [blV_eq]; exact bellV_ok N _
theorem i1r (z : Int) : PyData.eqv (.list [.int z]) (.list [.int z]) = true := (Flat.list (n := 1) (List.forall_mem_cons.mpr ⟨Flat.int, fun _ h => absurd h List.not_mem_nil⟩)).refl

def topS (i : Nat) : Stmt := PySem.Challenge.pw_tilefall_k52_no_wishes.main.body.getD i (.Pass ⟨0, 0, 0, 0⟩)
def metS (i j : Nat) : Stmt := match topS i with
  | .ClassDef _ _ _ b _ _ _ _ _ _ _ => b.getD j (.Pass ⟨0, 0, 0, 0⟩)
  | _ => .Pass ⟨0, 0, 0, 0⟩
section
variable {P : Program} {w : World} {K : PySem.W.Frag} {mg : Str → Option Value} {base : Heap} {f : Addr} {fd : FuncData}
/-! ### NoWish.__init__ -/
abbrev st_NoWish___init__ : Stmt := metS 6 0
theorem sc_NoWish___init__ : FnScope ["self", "at"] ["self", "at"] (defScope st_NoWish___init__) := ⟨rfl, rfl, rfl, by decide +kernel, rfl, by decide +kernel, by decide +kernel⟩
theorem ok_NoWish___init__ (F : FunD K "__init__" "NoWish.__init__" (defArgs st_NoWish___init__) (defBody st_NoWish___init__) (defScope st_NoWish___init__) [] [] f fd) (T : TiI K (He.ga K "TileError")) (hm : mg "TileError" = some (.ref (He.ga K "TileError"))) (x : ExI K (He.ga K "NoWish") "at") : FnOk P w K mg base CX0 1 f fd ["self", "at"] (spI (He.ga K "NoWish") "at") := by
  refine F.ok sc_NoWish___init__ (fun vs H Q E h => by obtain ⟨a, v, rfl, _⟩ := h; rfl) (fun cdv A outer s H vs Q E hr h => ?_)
  obtain ⟨a, v, rfl, ha, hq⟩ := h
  exact oini_walk T hm x ha hq
/-! ### is_whole -/
abbrev st_is_whole : Stmt := topS 8
theorem sc_is_whole : FnScope ["thing"] ["thing"] (defScope st_is_whole) := ⟨rfl, rfl, rfl, by decide +kernel, rfl, by decide +kernel, by decide +kernel⟩
def ct_is_whole : Ct := fun ss ss' r => ∃ (d : PyData), ss = [.dat d] ∧ ss' = ss ∧ r = .val (.bool (isW d))
theorem ok_is_whole (F : FnP K "is_whole" st_is_whole [] f fd) (m_isinstance : mg "isinstance" = none) (m_int : mg "int" = none) (m_bool : mg "bool" = none) : FnOk P w K mg base CX0 1 f fd ["thing"] (Sp3 K ct_is_whole nox) := by
  refine fn3 F sc_is_whole (fun ss ss' r h => ?_) (fun cdv A outer s H E c ss ss' r hr h hw => ?_)
  · obtain ⟨d, rfl, _⟩ := h; rfl
  · obtain ⟨d, rfl, rfl, rfl⟩ := h
    exact as_ret (ae_and (ae_isi (T' := "int") (tn := "int") (ae_dat 0) (by first | rfl | exact kit_int _) (by rfl) m_isinstance (by rfl) m_int (by decide +kernel)) (fun hb0 => (ae_one (ae_not (ae_isi (T' := "bool") (tn := "bool") (ae_dat 0) (by first | rfl | exact kit_bool _) (by rfl) m_isinstance (by rfl) m_bool (by decide +kernel))))) (fun _ => rfl)) ⟨by cases d <;> rfl, (.dat .nil)⟩
/-! ### divisor -/
abbrev st_divisor : Stmt := topS 9
theorem sc_divisor : FnScope ["one", "other"] ["one", "other"] (defScope st_divisor) := ⟨rfl, rfl, rfl, by decide +kernel, rfl, by decide +kernel, by decide +kernel⟩
def ct_divisor : Ct := fun ss ss' r => ∃ (t b : Int), ss = [.dat (.int t), .dat (.int b)] ∧ ss' = ss ∧ r = .val (.int (Int.gcd t b : Int))
theorem ok_divisor (F : FnP K "divisor" st_divisor [] f fd) (m_abs : mg "abs" = none) : FnOk P w K mg base CX0 1 f fd ["one", "other"] (Sp3 K ct_divisor nox) := by
  refine fn3 F sc_divisor (fun ss ss' r h => ?_) (fun cdv A outer s H E c ss ss' r hr h hw => ?_)
  · obtain ⟨t, b, rfl, _⟩ := h; rfl
  · obtain ⟨t, b, rfl, rfl, rfl⟩ := h
    refine as_set 0 (ae_abs (ae_dat 0) (by rfl) m_abs) ?_ sc_divisor.nd
    refine as_set 1 (ae_abs (ae_dat 1) (by rfl) m_abs) ?_ sc_divisor.nd
    refine as_frame (by first | (simp only [List.set_cons_zero, List.set_cons_succ]; rfl) | rfl) ?_
    refine as_while PassesOwn.never (fun m f => ∃ x y : Int, f = [.dat (.int x), .dat (.int y)] ∧ 0 ≤ x ∧ 0 ≤ y ∧ Int.gcd x y = Int.gcd t b ∧ m = y.toNat) (_) ⟨_, _, rfl, abs_nn t, abs_nn b, gcd_abs t b, rfl⟩ (fun m f hp => ?_)
    obtain ⟨x, y, rfl, hx, hy, hg, rfl⟩ := hp
    refine ⟨_, _, (at_cmpA (ae_dat 1) ae_int c_gt), fun hc => ?_, fun hc => ?_⟩
    ·
      have hc := of_decide_eq_true hc
      refine as_par 0 1 (ad_cons (ae_dat 1) (ad_cons (ae_mod (ae_dat 0) (ae_dat 1) (by first | assumption | decide | omega)) ad_nil)) ?_ sc_divisor.nd
      refine as_nil ?_
      exact ⟨(x % y).toNat, by have := Int.emod_lt_of_pos x hc; omega, y, x % y, rfl, hy, Int.emod_nonneg _ (by omega), (gcd_step x y hx hc).trans hg, rfl⟩
    ·
      have hc := of_decide_eq_false hc
      have e := gcd_end hx (show y = 0 by omega)
      rw [hg] at e
      subst e
      exact as_ret (ae_dat 0) ⟨by rfl, (.dat (.dat .nil))⟩
/-! ### is_fraction -/
abbrev st_is_fraction : Stmt := topS 10
theorem sc_is_fraction : FnScope ["thing"] ["thing"] (defScope st_is_fraction) := ⟨rfl, rfl, rfl, by decide +kernel, rfl, by decide +kernel, by decide +kernel⟩
def ct_is_fraction : Ct := fun ss ss' r => ∃ (d : PyData), ss = [.dat d] ∧ isPtB d = false ∧ ss' = ss ∧ r = .val (.bool (isFrB d))
theorem ok_is_fraction (F : FnP K "is_fraction" st_is_fraction [] f fd) (F_is_whole : FnT K mg P w base 1 "is_whole" ["thing"] ct_is_whole nox []) (F_divisor : FnT K mg P w base 1 "divisor" ["one", "other"] ct_divisor nox []) (m_isinstance : mg "isinstance" = none) (m_tuple : mg "tuple" = none) (m_len : mg "len" = none) : FnOk P w K mg base CX0 2 f fd ["thing"] (Sp3 K ct_is_fraction nox) := by
  refine fn3 F sc_is_fraction (fun ss ss' r h => ?_) (fun cdv A outer s H E c ss ss' r hr h hw => ?_)
  · obtain ⟨d, rfl, _⟩ := h; rfl
  · obtain ⟨d, rfl, q0, rfl, rfl⟩ := h
    obtain ⟨_, _, G_is_whole⟩ := F_is_whole.fn (X := (cxOf CX0 P w K mg base ["thing"] "is_fraction" (defScope st_is_fraction) f cdv A outer s H E).nox) rfl rfl rfl rfl rfl
    obtain ⟨_, _, G_divisor⟩ := F_divisor.fn (X := (cxOf CX0 P w K mg base ["thing"] "is_fraction" (defScope st_is_fraction) f cdv A outer s H E).nox) rfl rfl rfl rfl rfl
    rcases fr_cases d with ⟨h1, h2⟩ | ⟨ds, rfl, h1, h2⟩ | ⟨x, y, rfl, h1, h2⟩ | ⟨a, y, rfl, h1, h2⟩ | ⟨a, b, rfl⟩
    ·
      rw [h2]
      refine as_if (AW.at (aw_orT (at_is (at_not (at_val (ae_isi (T' := "tuple") (tn := "tuple") (ae_dat 0) (by first | rfl | exact kit_tuple _) (by rfl) m_isinstance (by rfl) m_tuple (by decide +kernel)))) (by simp [Res.d, h1])))) (fun h => ?_) (fun h => ?_)
      ·
        exact as_ret ae_bl ⟨by rfl, (.dat .nil)⟩
      ·
        cases h
    ·
      rw [h2]
      refine as_if (AW.at (aw_orF (at_is (at_not (at_val (ae_isi (T' := "tuple") (tn := "tuple") (ae_dat 0) (by first | rfl | exact kit_tuple _) (by rfl) m_isinstance (by rfl) m_tuple (by decide +kernel)))) (by rfl)) (aw_orT (at_is (at_cmpA (ae_len (ae_dat 0) (by rfl) (by first | rfl | decide) (by rfl) m_len) ae_int c_neI) (by simp [h1]; try omega))))) (fun h => ?_) (fun h => ?_)
      ·
        exact as_ret ae_bl ⟨by rfl, (.dat .nil)⟩
      ·
        cases h
    ·
      rw [h2]
      refine as_if (AW.at (aw_orF (at_is (at_not (at_val (ae_isi (T' := "tuple") (tn := "tuple") (ae_dat 0) (by first | rfl | exact kit_tuple _) (by rfl) m_isinstance (by rfl) m_tuple (by decide +kernel)))) (by rfl)) (aw_orF (at_is (at_cmpA (ae_len (ae_dat 0) (by rfl) (by first | rfl | decide) (by rfl) m_len) ae_int c_neI) (by rfl)) (aw_orT (at_is (at_not (at_val (ae_call G_is_whole (hr.mono (by decide)) pass0 (ad_cons (ae_ixT (ae_dat 0) ae_int (by rfl)) ad_nil) ⟨_, rfl, rfl, rfl⟩))) (by simp [Res.d, h1])))))) (fun h => ?_) (fun h => ?_)
      ·
        exact as_ret ae_bl ⟨by rfl, (.dat .nil)⟩
      ·
        cases h
    ·
      rw [h2]
      refine as_if (AW.at (aw_orF (at_is (at_not (at_val (ae_isi (T' := "tuple") (tn := "tuple") (ae_dat 0) (by first | rfl | exact kit_tuple _) (by rfl) m_isinstance (by rfl) m_tuple (by decide +kernel)))) (by rfl)) (aw_orF (at_is (at_cmpA (ae_len (ae_dat 0) (by rfl) (by first | rfl | decide) (by rfl) m_len) ae_int c_neI) (by rfl)) (aw_orF (at_is (at_not (at_val (ae_call G_is_whole (hr.mono (by decide)) pass0 (ad_cons (ae_ixT (ae_dat 0) ae_int (by rfl)) ad_nil) ⟨_, rfl, rfl, rfl⟩))) (by rfl)) (aw_or1 (at_not (at_val (ae_call G_is_whole (hr.mono (by decide)) pass0 (ad_cons (ae_ixT (ae_dat 0) ae_int (by rfl)) ad_nil) ⟨_, rfl, rfl, rfl⟩)))))))) (fun h => ?_) (fun h => ?_)
      ·
        exact as_ret ae_bl ⟨by rfl, (.dat .nil)⟩
      ·
        simp [h1] at h
    ·
      refine as_if (AW.at (aw_orF (at_is (at_not (at_val (ae_isi (T' := "tuple") (tn := "tuple") (ae_dat 0) (by first | rfl | exact kit_tuple _) (by rfl) m_isinstance (by rfl) m_tuple (by decide +kernel)))) (by rfl)) (aw_orF (at_is (at_cmpA (ae_len (ae_dat 0) (by rfl) (by first | rfl | decide) (by rfl) m_len) ae_int c_neI) (by rfl)) (aw_orF (at_is (at_not (at_val (ae_call G_is_whole (hr.mono (by decide)) pass0 (ad_cons (ae_ixT (ae_dat 0) ae_int (by rfl)) ad_nil) ⟨_, rfl, rfl, rfl⟩))) (by rfl)) (aw_or1 (at_is (at_not (at_val (ae_call G_is_whole (hr.mono (by decide)) pass0 (ad_cons (ae_ixT (ae_dat 0) ae_int (by rfl)) ad_nil) ⟨_, rfl, rfl, rfl⟩))) (by rfl))))))) (fun h => ?_) (fun h => ?_)
      ·
        cases h
      ·
        refine as_nil ?_
        exact as_ret (ae_and (ae_cmpA (ae_ixT (ae_dat 0) ae_int (by rfl)) ae_int c_gt) (fun hb0 => (ae_one (ae_cmpA (ae_call G_divisor (hr.mono (by decide)) pass0 (ad_cons (ae_ixT (ae_dat 0) ae_int (by rfl)) (ad_cons (ae_ixT (ae_dat 0) ae_int (by rfl)) ad_nil)) ⟨_, _, rfl, rfl, rfl⟩) ae_int c_eqI))) (fun _ => rfl)) ⟨by rfl, (.dat .nil)⟩
/-! ### fraction -/
abbrev st_fraction : Stmt := topS 11
theorem sc_fraction : FnScope ["top", "bottom", "part"] ["top", "bottom"] (defScope st_fraction) := ⟨rfl, rfl, rfl, by decide +kernel, rfl, by decide +kernel, by decide +kernel⟩
def ct_fraction : Ct := fun ss ss' r => ∃ (t b : Int), ss = [.dat (.int t), .dat (.int b)] ∧ b ≠ 0 ∧ Bd 8000 b ∧ ss' = ss ∧ r = .val (frD (nrm t b))
theorem ok_fraction (F : FnP K "fraction" st_fraction [.int 1] f fd) (F_divisor : FnT K mg P w base 1 "divisor" ["one", "other"] ct_divisor nox []) (F_is_whole : FnT K mg P w base 1 "is_whole" ["thing"] ct_is_whole nox []) : FnOk P w K mg base CX0 2 f fd ["top", "bottom"] (Sp3 K ct_fraction nox) := by
  refine fn3 F sc_fraction (fun ss ss' r h => ?_) (fun cdv A outer s H E c ss ss' r hr h hw => ?_)
  · obtain ⟨t, b, rfl, _⟩ := h; rfl
  · obtain ⟨t, b, rfl, q0, q1, rfl, rfl⟩ := h
    obtain ⟨_, _, G_divisor⟩ := F_divisor.fn (X := (cxOf CX0 P w K mg base ["top", "bottom", "part"] "fraction" (defScope st_fraction) f cdv A outer s H E).nox) rfl rfl rfl rfl rfl
    obtain ⟨_, _, G_is_whole⟩ := F_is_whole.fn (X := (cxOf CX0 P w K mg base ["top", "bottom", "part"] "fraction" (defScope st_fraction) f cdv A outer s H E).nox) rfl rfl rfl rfl rfl
    refine as_if (AW.at (aw_orF (at_is (at_not (at_val (ae_call G_is_whole (hr.mono (by decide)) pass0 (ad_cons (ae_dat 0) ad_nil) ⟨_, rfl, rfl, rfl⟩))) (by rfl)) (aw_orF (at_is (at_not (at_val (ae_call G_is_whole (hr.mono (by decide)) pass0 (ad_cons (ae_dat 1) ad_nil) ⟨_, rfl, rfl, rfl⟩))) (by rfl)) (aw_or1 (at_is (at_cmpA (ae_dat 1) ae_int c_eqI) (by exact decide_eq_false q0)))))) (fun h => ?_) (fun h => ?_)
    ·
      cases h
    ·
      refine as_nil ?_
      refine as_set 2 (ae_call G_divisor (hr.mono (by decide)) pass0 (ad_cons (ae_dat 0) (ad_cons (ae_dat 1) ad_nil)) ⟨_, _, rfl, rfl, rfl⟩) ?_ sc_fraction.nd
      refine as_frame (by first | (simp only [List.set_cons_zero, List.set_cons_succ]; rfl) | rfl) ?_
      refine as_if (at_cmpA (ae_dat 1) ae_int c_lt) (fun h => ?_) (fun h => ?_)
      ·
        have h := of_decide_eq_true h
        have es : sg t b = 0 - (Int.gcd t b : Int) := if_pos h
        refine as_set 2 (ae_sub ae_int (ae_dat 2)) ?_ sc_fraction.nd
        refine as_nil ?_
        exact as_ret (ae_tup (ad_cons (ae_fdiv (ae_dat 0) (ae_dat 2) (by rw [← es]; exact sg_ok q0 q1 _)) (ad_cons (ae_fdiv (ae_dat 1) (ae_dat 2) (by rw [← es]; exact sg_ok q0 q1 _)) ad_nil))) ⟨by simp [nrm, frD, es], (.dat (.dat .nil))⟩
      ·
        have h := of_decide_eq_false h
        have es : sg t b = (Int.gcd t b : Int) := if_neg h
        refine as_nil ?_
        exact as_ret (ae_tup (ad_cons (ae_fdiv (ae_dat 0) (ae_dat 2) (by rw [← es]; exact sg_ok q0 q1 _)) (ad_cons (ae_fdiv (ae_dat 1) (ae_dat 2) (by rw [← es]; exact sg_ok q0 q1 _)) ad_nil))) ⟨by simp [nrm, frD, es], (.dat (.dat .nil))⟩
/-! ### lessened -/
abbrev st_lessened : Stmt := topS 13
theorem sc_lessened : FnScope ["one", "other"] ["one", "other"] (defScope st_lessened) := ⟨rfl, rfl, rfl, by decide +kernel, rfl, by decide +kernel, by decide +kernel⟩
def ct_lessened : Ct := fun ss ss' r => ∃ (x : Fr), ss = [.dat (.tuple [.int 0, .int 1]), .dat (frD x)] ∧ IsFr x ∧ FrB 200 x ∧ ss' = ss ∧ r = .val (frD (0 - x.1, x.2))
theorem ok_lessened (F : FnP K "lessened" st_lessened [] f fd) (F_fraction : FnT K mg P w base 2 "fraction" ["top", "bottom"] ct_fraction nox []) : FnOk P w K mg base CX0 3 f fd ["one", "other"] (Sp3 K ct_lessened nox) := by
  refine fn3 F sc_lessened (fun ss ss' r h => ?_) (fun cdv A outer s H E c ss ss' r hr h hw => ?_)
  · obtain ⟨x, rfl, _⟩ := h; rfl
  · obtain ⟨x, rfl, q0, q1, rfl, rfl⟩ := h
    obtain ⟨_, _, G_fraction⟩ := F_fraction.fn (X := (cxOf CX0 P w K mg base ["one", "other"] "lessened" (defScope st_lessened) f cdv A outer s H E).nox) rfl rfl rfl rfl rfl
    exact as_ret (ae_call G_fraction (hr.mono (by decide)) pass0 (ad_cons (ae_sub (ae_mul (ae_ixT (ae_dat 0) ae_int (by rfl)) (ae_ixT (ae_dat 1) ae_int (by rfl)) (by first | exact mulL (by decide) | exact mulR (by decide))) (ae_mul (ae_ixT (ae_dat 1) ae_int (by rfl)) (ae_ixT (ae_dat 0) ae_int (by rfl)) (by first | exact mulL (by decide) | exact mulR (by decide)))) (ad_cons (ae_mul (ae_ixT (ae_dat 0) ae_int (by rfl)) (ae_ixT (ae_dat 1) ae_int (by rfl)) (by first | exact mulL (by decide) | exact mulR (by decide))) ad_nil)) ⟨_, _, rfl, (by have := q0.pos; omega), (by rw [Int.one_mul]; exact q1.bot.mono (by decide)), rfl, rfl⟩) ⟨by exact congrArg (fun z => Res.val (frD z)) (nrm_neg q0), (.dat (.dat .nil))⟩
/-! ### is_less -/
abbrev st_is_less : Stmt := topS 14
theorem sc_is_less : FnScope ["one", "other"] ["one", "other"] (defScope st_is_less) := ⟨rfl, rfl, rfl, by decide +kernel, rfl, by decide +kernel, by decide +kernel⟩
def ct_is_less : Ct := fun ss ss' r => ∃ (p q : Fr), ss = [.dat (frD p), .dat (frD q)] ∧ MulOk p.1 q.2 ∧ MulOk q.1 p.2 ∧ ss' = ss ∧ r = .val (.bool (decide (p.1 * q.2 < q.1 * p.2)))
theorem ok_is_less (F : FnP K "is_less" st_is_less [] f fd) : FnOk P w K mg base CX0 1 f fd ["one", "other"] (Sp3 K ct_is_less nox) := by
  refine fn3 F sc_is_less (fun ss ss' r h => ?_) (fun cdv A outer s H E c ss ss' r hr h hw => ?_)
  · obtain ⟨p, q, rfl, _⟩ := h; rfl
  · obtain ⟨p, q, rfl, q0, q1, rfl, rfl⟩ := h
    exact as_ret (ae_cmpA (ae_mul (ae_ixT (ae_dat 0) ae_int (by rfl)) (ae_ixT (ae_dat 1) ae_int (by rfl)) (by first | assumption | exact mulL (by decide) | exact mulR (by decide) | exact mulL (by omega) | exact mulR (by omega))) (ae_mul (ae_ixT (ae_dat 1) ae_int (by rfl)) (ae_ixT (ae_dat 0) ae_int (by rfl)) (by first | assumption | exact mulL (by decide) | exact mulR (by decide) | exact mulL (by omega) | exact mulR (by omega))) c_lt) ⟨by rfl, (.dat (.dat .nil))⟩
/-! ### is_part -/
abbrev st_is_part : Stmt := topS 19
theorem sc_is_part : FnScope ["text", "sign"] ["text"] (defScope st_is_part) := ⟨rfl, rfl, rfl, by decide +kernel, rfl, by decide +kernel, by decide +kernel⟩
def ct_is_part : Ct := fun ss ss' r => ∃ (p : List Nat), ss = [.dat (sD p)] ∧ p.length ≤ 1000 ∧ ss' = ss ∧ r = .val (.bool (partB p))
theorem ok_is_part (F : FnP K "is_part" st_is_part [] f fd) (m_len : mg "len" = none) (k_LONGEST : KonT K mg "LONGEST" (.int 8)) (k_LETTERS : KonT K mg "LETTERS" (sD [97, 98, 99, 100, 101, 102, 103, 104, 105, 106, 107, 108, 109, 110, 111, 112, 113, 114, 115, 116, 117, 118, 119, 120, 121, 122])) : FnOk P w K mg base CX0 1 f fd ["text"] (Sp3 K ct_is_part nox) := by
  refine fn3 F sc_is_part (fun ss ss' r h => ?_) (fun cdv A outer s H E c ss ss' r hr h hw => ?_)
  · obtain ⟨p, rfl, _⟩ := h; rfl
  · obtain ⟨p, rfl, q0, rfl, rfl⟩ := h
    refine as_forX PassesOwn.never (fun k f => ∃ x, f = [.dat (sD p), x] ∧ ∀ j, j < k → ∀ c, p[j]? = some c → isLt c = true) (ae_dat 0) ⟨_, rfl, fun j h => by omega⟩ (fun G k d f hk hp => ?_) (fun f hp => ?_)
    ·
      obtain ⟨ch, hch, rfl⟩ := mapD_inv hk
      obtain ⟨x, rfl, hp⟩ := hp
      refine ⟨_, (ag_name 1 sc_is_part.nd), ?_⟩
      refine as_if (at_cmpA (ae_dat 1) (ae_kon k_LETTERS) c_ninX) (fun h => ?_) (fun h => ?_)
      ·
        have hl : isLt ch = false := by have h2 : (!isLt ch) = true := h; simpa using h2
        refine as_ret ae_bl ⟨?_, (.dat .nil)⟩
        have hm : ch ∈ p := List.mem_of_getElem? hch
        have : p.all isLt = false := List.all_eq_false.mpr ⟨ch, hm, by simp [hl]⟩
        rw [partB, this]; rfl
      ·
        have hl : isLt ch = true := by have h2 : (!isLt ch) = false := h; simpa using h2
        refine as_nil ?_
        refine as_nil ?_
        exact ⟨_, rfl, fun j hj c hc => by rcases Nat.lt_succ_iff_lt_or_eq.mp hj with z | rfl; exact hp j z c hc; rw [hch] at hc; cases hc; exact hl⟩
    ·
      obtain ⟨x, rfl, hp⟩ := hp
      have ha : p.all isLt = true := List.all_eq_true.mpr fun c hc => by obtain ⟨j, hj, e⟩ := List.mem_iff_getElem.mp hc; exact hp j hj c (by rw [List.getElem?_eq_getElem hj, e])
      exact as_ret (ae_chain op_le op_le ae_int (ae_lenX (ae_dat 0) (by omega) (by rfl) m_len) (ae_kon k_LONGEST)) ⟨by rw [partB, ha]; refine congrArg (fun z => Res.val (.bool z)) ?_; rw [Bool.eq_iff_iff]; simp; omega, (.dat .nil)⟩
/-! ### is_post -/
abbrev st_is_post : Stmt := topS 20
theorem sc_is_post : FnScope ["thing", "parts", "part"] ["thing"] (defScope st_is_post) := ⟨rfl, rfl, rfl, by decide +kernel, rfl, by decide +kernel, by decide +kernel⟩
def ct_is_post : Ct := fun ss ss' r => ∃ (d : PyData), ss = [.dat d] ∧ TxB d ∧ ss' = ss ∧ r = .val (.bool (isPostD d))
theorem ok_is_post (F : FnP K "is_post" st_is_post [] f fd) (F_is_part : FnT K mg P w base 1 "is_part" ["text"] ct_is_part nox []) (m_isinstance : mg "isinstance" = none) (m_str : mg "str" = none) (m_all : mg "all" = none) (m_len : mg "len" = none) (k_MOST_PARTS : KonT K mg "MOST_PARTS" (.int 4)) : FnOk P w K mg base CX0 2 f fd ["thing"] (Sp3 K ct_is_post nox) := by
  refine fn3 F sc_is_post (fun ss ss' r h => ?_) (fun cdv A outer s H E c ss ss' r hr h hw => ?_)
  · obtain ⟨d, rfl, _⟩ := h; rfl
  · obtain ⟨d, rfl, q0, rfl, rfl⟩ := h
    obtain ⟨_, _, G_is_part⟩ := F_is_part.fn (X := (cxOf CX0 P w K mg base ["thing", "parts", "part"] "is_post" (defScope st_is_post) f cdv A outer s H E).nox) rfl rfl rfl rfl rfl
    rcases post_cases d with ⟨h1, h2⟩ | ⟨l, rfl⟩
    ·
      rw [h2]
      refine as_if (at_not (at_val (ae_isi (T' := "str") (tn := "str") (ae_dat 0) (by first | rfl | exact kit_str _) (by rfl) m_isinstance (by rfl) m_str (by decide +kernel)))) (fun h => ?_) (fun h => ?_)
      ·
        exact as_ret ae_bl ⟨by rfl, (.dat .nil)⟩
      ·
        simp [Res.d, h1] at h
    ·
      have q1 : l.length ≤ 1000 := by have := q0; rw [TxB, SX.S_len] at this; exact this
      have q2 := spl_b l
      refine as_if (at_not (at_val (ae_isi (T' := "str") (tn := "str") (ae_dat 0) (by first | rfl | exact kit_str _) (by rfl) m_isinstance (by rfl) m_str (by decide +kernel)))) (fun h => ?_) (fun h => ?_)
      ·
        cases h
      ·
        refine as_nil ?_
        refine as_set 1 (AE.val (ae_split (ae_dat 0) (ae_txt [46]) (by omega))) ?_ sc_is_post.nd
        refine as_frame (by first | (simp only [List.set_cons_zero, List.set_cons_succ]; rfl) | rfl) ?_
        refine as_ret (ae_and (ae_cmpA (ae_len (ae_dat 1) (by rfl) (by first | rfl | decide) (by rfl) m_len) (ae_kon k_MOST_PARTS) c_le) (fun hb0 => (ae_one (ae_all (bs := ((TL.spl [46] 0 [] l).map partB)) (by rfl) (ae_lcL (F := fun i => [.dat (sD l), .dat (.list ((TL.spl [46] 0 [] l).map sD)), .no]) [("part", 2)] (fun i => some (.bool (partB ((TL.spl [46] 0 [] l).getD i [])))) sc_is_post.nd (ae_dat 1) (by rfl) (fun _ => rfl) (fun i d hi => by (obtain ⟨pp, hpp, rfl⟩ := mapL_inv hi; have hlen := q2.2 pp (List.mem_of_getElem? hpp); rw [getD_of hpp]; exact turnC1 (fun _ _ _ _ _ => (agc_name 2 sc_is_post.nd)) (fun _ _ _ _ _ => (ae_call G_is_part.blk (hr.mono (by decide)) pass0 (ad_cons (ae_dat 2) ad_nil) ⟨_, rfl, (by omega), rfl, rfl⟩)) (by rfl))) (by repeat (first | exact BackL.nil | apply BackL.dat | apply BackL.own | apply BackL.no | apply BackL.ref | apply BackL.mix)) (by rw [List.length_map]; omega)) (by exact congrArg PyData.list (made_parts l)) (by rfl) m_all))) (fun _ => rfl)) ⟨?_, (.dat .nil)⟩
        have e : decide ((((TL.spl [46] 0 [] l).map sD).length : Int) ≤ 4) = decide ((TL.spl [46] 0 [] l).length ≤ 4) := by rw [List.length_map, decide_eq_decide]; omega
        rw [isPost_s, postSum, e]
/-! ### is_wish -/
abbrev st_is_wish : Stmt := topS 23
theorem sc_is_wish : FnScope ["thing"] ["thing"] (defScope st_is_wish) := ⟨rfl, rfl, rfl, by decide +kernel, rfl, by decide +kernel, by decide +kernel⟩
def ct_is_wish : Ct := fun ss ss' r => ∃ (d : PyData), ss = [.dat d] ∧ OdW d ∧ ss' = ss ∧ r = .val (.bool (isWiD d))
theorem ok_is_wish (F : FnP K "is_wish" st_is_wish [] f fd) (F_is_fraction : FnT K mg P w base 2 "is_fraction" ["thing"] ct_is_fraction nox []) (F_is_post : FnT K mg P w base 2 "is_post" ["thing"] ct_is_post nox []) (F_is_less : FnT K mg P w base 1 "is_less" ["one", "other"] ct_is_less nox []) (m_isinstance : mg "isinstance" = none) (m_tuple : mg "tuple" = none) (m_len : mg "len" = none) (k_NOUGHT : KonT K mg "NOUGHT" (.tuple [(.int 0), (.int 1)])) : FnOk P w K mg base CX0 3 f fd ["thing"] (Sp3 K ct_is_wish nox) := by
  refine fn3 F sc_is_wish (fun ss ss' r h => ?_) (fun cdv A outer s H E c ss ss' r hr h hw => ?_)
  · obtain ⟨d, rfl, _⟩ := h; rfl
  · obtain ⟨d, rfl, q0, rfl, rfl⟩ := h
    obtain ⟨_, _, G_is_fraction⟩ := F_is_fraction.fn (X := (cxOf CX0 P w K mg base ["thing"] "is_wish" (defScope st_is_wish) f cdv A outer s H E).nox) rfl rfl rfl rfl rfl
    obtain ⟨_, _, G_is_post⟩ := F_is_post.fn (X := (cxOf CX0 P w K mg base ["thing"] "is_wish" (defScope st_is_wish) f cdv A outer s H E).nox) rfl rfl rfl rfl rfl
    obtain ⟨_, _, G_is_less⟩ := F_is_less.fn (X := (cxOf CX0 P w K mg base ["thing"] "is_wish" (defScope st_is_wish) f cdv A outer s H E).nox) rfl rfl rfl rfl rfl
    rcases wi_split q0 with ⟨hk, hpt, hw_⟩ | ⟨ds, rfl, hs, hw_⟩ | ⟨x0, x1, x2, r, rfl, hL, hp, hw_⟩ | ⟨x0, x1, x2, r, rfl, hL, hp, hf, hfr, hw_⟩ | ⟨x0, x1, r, p, rfl, hL, hp, hf, hfr, hw_⟩ | ⟨x0, x1, x2, x3, rfl, hL, hp, hf, hw_⟩ | ⟨x0, x1, x2, r, rfl, hL, hp, hf, hn, hw_⟩
    ·
      rw [hw_]
      refine as_if (AW.at (aw_orT (at_is (at_not (at_val (ae_isi (T' := "tuple") (tn := "tuple") (ae_dat 0) (by first | rfl | exact kit_tuple _) (by rfl) m_isinstance (by rfl) m_tuple (by decide +kernel)))) (by exact congrArg not (Option.some.inj ((kit_tuple _).symm.trans hk)))))) (fun h0 => ?_) (fun h0 => ?_)
      ·
        exact as_ret ae_bl ⟨by rfl, (.dat .nil)⟩
      ·
        cases h0
    ·
      rw [hw_]
      refine as_if (AW.at (aw_orF (at_is (at_not (at_val (ae_isi (T' := "tuple") (tn := "tuple") (ae_dat 0) (by first | rfl | exact kit_tuple _) (by rfl) m_isinstance (by rfl) m_tuple (by decide +kernel)))) (by rfl)) (aw_orT (at_is (at_cmpA (ae_len (ae_dat 0) (by rfl) (by first | rfl | decide) (by rfl) m_len) ae_int c_lt) (by exact decide_eq_true (by omega)))))) (fun h0 => ?_) (fun h0 => ?_)
      ·
        exact as_ret ae_bl ⟨by rfl, (.dat .nil)⟩
      ·
        cases h0
    ·
      obtain ⟨s0, p0, z0, s1, s2, t1, t2, p2, pr, hl, hm⟩ := hL
      rw [hw_]
      refine as_if (AW.at (aw_orF (at_is (at_not (at_val (ae_isi (T' := "tuple") (tn := "tuple") (ae_dat 0) (by first | rfl | exact kit_tuple _) (by rfl) m_isinstance (by rfl) m_tuple (by decide +kernel)))) (by rfl)) (aw_orF (at_is (at_cmpA (ae_len (ae_dat 0) (by rfl) (by first | rfl | decide) (by rfl) m_len) ae_int c_lt) (by exact decide_eq_false (by show ¬ (((_ + 1 + 1 + 1 : Nat) : Int) < 3); omega))) (aw_or1 (at_is (at_not (at_val (ae_call G_is_post (hr.mono (by decide)) pass0 (ad_cons (ae_ixT (ae_dat 0) ae_int (by first | rfl | exact atc0 _ _ | exact atc1 _ _ _ | exact atc2 _ _ _ _ | exact atc3 _ _ _ _ _)) ad_nil) ⟨_, rfl, (by first | exact t1 | exact t2), rfl, rfl⟩))) (by exact congrArg not hp)))))) (fun h0 => ?_) (fun h0 => ?_)
      ·
        exact as_ret ae_bl ⟨by rfl, (.dat .nil)⟩
      ·
        cases h0
    ·
      obtain ⟨s0, p0, z0, s1, s2, t1, t2, p2, pr, hl, hm⟩ := hL
      rw [hw_]
      refine as_if (AW.at (aw_orF (at_is (at_not (at_val (ae_isi (T' := "tuple") (tn := "tuple") (ae_dat 0) (by first | rfl | exact kit_tuple _) (by rfl) m_isinstance (by rfl) m_tuple (by decide +kernel)))) (by rfl)) (aw_orF (at_is (at_cmpA (ae_len (ae_dat 0) (by rfl) (by first | rfl | decide) (by rfl) m_len) ae_int c_lt) (by exact decide_eq_false (by show ¬ (((_ + 1 + 1 + 1 : Nat) : Int) < 3); omega))) (aw_or1 (at_is (at_not (at_val (ae_call G_is_post (hr.mono (by decide)) pass0 (ad_cons (ae_ixT (ae_dat 0) ae_int (by first | rfl | exact atc0 _ _ | exact atc1 _ _ _ | exact atc2 _ _ _ _ | exact atc3 _ _ _ _ _)) ad_nil) ⟨_, rfl, (by first | exact t1 | exact t2), rfl, rfl⟩))) (by exact congrArg not hp)))))) (fun h0 => ?_) (fun h0 => ?_)
      ·
        cases h0
      ·
        refine as_nil ?_
        refine as_if (at_cmpA (ae_ixT (ae_dat 0) ae_int (by first | rfl | exact atc0 _ _ | exact atc1 _ _ _ | exact atc2 _ _ _ _ | exact atc3 _ _ _ _ _)) (ae_txt [102, 114, 111, 109]) (c_eqD hr.units (by first | exact s0 | exact s1 | exact s2 | exact from_sh | exact with_sh) (by first | exact s0 | exact s1 | exact s2 | exact from_sh | exact with_sh))) (fun h2 => ?_) (fun h2 => ?_)
        ·
          exact as_ret (ae_and (ae_cmpA (ae_len (ae_dat 0) (by rfl) (by first | rfl | decide) (by rfl) m_len) ae_int c_eqI) (fun hb0 => (ae_andF (ae_isb (ae_call G_is_fraction (hr.mono (by decide)) pass0 (ad_cons (ae_ixT (ae_dat 0) ae_int (by first | rfl | exact atc0 _ _ | exact atc1 _ _ _ | exact atc2 _ _ _ _ | exact atc3 _ _ _ _ _)) ad_nil) ⟨_, rfl, (by first | exact p2 | exact pr _ (List.mem_singleton.mpr rfl)), rfl, rfl⟩) (by exact hfr)))) (fun _ => rfl)) ⟨by exact congrArg (fun z => Res.val (.bool z)) (Bool.and_false _), (.dat .nil)⟩
        ·
          exact absurd (hf.symm.trans h2) (by decide)
    ·
      obtain ⟨s0, p0, z0, s1, s2, t1, t2, p2, pr, hl, hm⟩ := hL
      rw [hw_]
      obtain ⟨m1, m2⟩ := hm p.1 p.2 rfl
      refine as_if (AW.at (aw_orF (at_is (at_not (at_val (ae_isi (T' := "tuple") (tn := "tuple") (ae_dat 0) (by first | rfl | exact kit_tuple _) (by rfl) m_isinstance (by rfl) m_tuple (by decide +kernel)))) (by rfl)) (aw_orF (at_is (at_cmpA (ae_len (ae_dat 0) (by rfl) (by first | rfl | decide) (by rfl) m_len) ae_int c_lt) (by exact decide_eq_false (by show ¬ (((_ + 1 + 1 + 1 : Nat) : Int) < 3); omega))) (aw_or1 (at_is (at_not (at_val (ae_call G_is_post (hr.mono (by decide)) pass0 (ad_cons (ae_ixT (ae_dat 0) ae_int (by first | rfl | exact atc0 _ _ | exact atc1 _ _ _ | exact atc2 _ _ _ _ | exact atc3 _ _ _ _ _)) ad_nil) ⟨_, rfl, (by first | exact t1 | exact t2), rfl, rfl⟩))) (by exact congrArg not hp)))))) (fun h0 => ?_) (fun h0 => ?_)
      ·
        cases h0
      ·
        refine as_nil ?_
        refine as_if (at_cmpA (ae_ixT (ae_dat 0) ae_int (by first | rfl | exact atc0 _ _ | exact atc1 _ _ _ | exact atc2 _ _ _ _ | exact atc3 _ _ _ _ _)) (ae_txt [102, 114, 111, 109]) (c_eqD hr.units (by first | exact s0 | exact s1 | exact s2 | exact from_sh | exact with_sh) (by first | exact s0 | exact s1 | exact s2 | exact from_sh | exact with_sh))) (fun h2 => ?_) (fun h2 => ?_)
        ·
          exact as_ret (ae_and (ae_cmpA (ae_len (ae_dat 0) (by rfl) (by first | rfl | decide) (by rfl) m_len) ae_int c_eqI) (fun hb0 => (ae_and (ae_call G_is_fraction (hr.mono (by decide)) pass0 (ad_cons (ae_ixT (ae_dat 0) ae_int (by first | rfl | exact atc0 _ _ | exact atc1 _ _ _ | exact atc2 _ _ _ _ | exact atc3 _ _ _ _ _)) ad_nil) ⟨_, rfl, (by first | exact p2 | exact pr _ (List.mem_singleton.mpr rfl)), rfl, rfl⟩) (fun hb1 => (ae_one (ae_not (ae_call G_is_less (hr.mono (by decide)) pass0 (ad_cons (ae_ixT (ae_dat 0) ae_int (by first | rfl | exact atc0 _ _ | exact atc1 _ _ _ | exact atc2 _ _ _ _ | exact atc3 _ _ _ _ _)) (ad_cons (ae_kon k_NOUGHT) ad_nil)) ⟨_, (_, _), rfl, (by exact mulR (by decide)), (by exact mulL (by decide)), rfl, rfl⟩)))) (fun _ => rfl))) (fun _ => rfl)) ⟨by rfl, (.dat .nil)⟩
        ·
          exact absurd (hf.symm.trans h2) (by decide)
    ·
      obtain ⟨s0, p0, z0, s1, s2, t1, t2, p2, pr, hl, hm⟩ := hL
      rw [hw_]
      refine as_if (AW.at (aw_orF (at_is (at_not (at_val (ae_isi (T' := "tuple") (tn := "tuple") (ae_dat 0) (by first | rfl | exact kit_tuple _) (by rfl) m_isinstance (by rfl) m_tuple (by decide +kernel)))) (by rfl)) (aw_orF (at_is (at_cmpA (ae_len (ae_dat 0) (by rfl) (by first | rfl | decide) (by rfl) m_len) ae_int c_lt) (by exact decide_eq_false (by show ¬ (((_ + 1 + 1 + 1 : Nat) : Int) < 3); omega))) (aw_or1 (at_is (at_not (at_val (ae_call G_is_post (hr.mono (by decide)) pass0 (ad_cons (ae_ixT (ae_dat 0) ae_int (by first | rfl | exact atc0 _ _ | exact atc1 _ _ _ | exact atc2 _ _ _ _ | exact atc3 _ _ _ _ _)) ad_nil) ⟨_, rfl, (by first | exact t1 | exact t2), rfl, rfl⟩))) (by exact congrArg not hp)))))) (fun h0 => ?_) (fun h0 => ?_)
      ·
        cases h0
      ·
        refine as_nil ?_
        refine as_if (at_cmpA (ae_ixT (ae_dat 0) ae_int (by first | rfl | exact atc0 _ _ | exact atc1 _ _ _ | exact atc2 _ _ _ _ | exact atc3 _ _ _ _ _)) (ae_txt [102, 114, 111, 109]) (c_eqD hr.units (by first | exact s0 | exact s1 | exact s2 | exact from_sh | exact with_sh) (by first | exact s0 | exact s1 | exact s2 | exact from_sh | exact with_sh))) (fun h2 => ?_) (fun h2 => ?_)
        ·
          exact absurd (hf.symm.trans h2) (by decide)
        ·
          refine as_nil ?_
          refine as_if (AW.at (aw_or (at_not (at_val (ae_call G_is_post (hr.mono (by decide)) pass0 (ad_cons (ae_ixT (ae_dat 0) ae_int (by first | rfl | exact atc0 _ _ | exact atc1 _ _ _ | exact atc2 _ _ _ _ | exact atc3 _ _ _ _ _)) ad_nil) ⟨_, rfl, (by first | exact t1 | exact t2), rfl, rfl⟩))) (fun hb0 => (aw_or1 (at_cmpA (ae_ixT (ae_dat 0) ae_int (by first | rfl | exact atc0 _ _ | exact atc1 _ _ _ | exact atc2 _ _ _ _ | exact atc3 _ _ _ _ _)) (ae_ixT (ae_dat 0) ae_int (by first | rfl | exact atc0 _ _ | exact atc1 _ _ _ | exact atc2 _ _ _ _ | exact atc3 _ _ _ _ _)) (c_eqD hr.units (by first | exact s0 | exact s1 | exact s2 | exact from_sh | exact with_sh) (by first | exact s0 | exact s1 | exact s2 | exact from_sh | exact with_sh))))) (fun _ => rfl))) (fun h4 => ?_) (fun h4 => ?_)
          ·
            have h4 : (!isPostD x2 || PyData.eqv x1 x2) = true := h4
            exact as_ret ae_bl ⟨by rw [h4]; rfl, (.dat .nil)⟩
          ·
            have h4 : (!isPostD x2 || PyData.eqv x1 x2) = false := h4
            refine as_nil ?_
            refine as_if (at_cmpA (ae_ixT (ae_dat 0) ae_int (by first | rfl | exact atc0 _ _ | exact atc1 _ _ _ | exact atc2 _ _ _ _ | exact atc3 _ _ _ _ _)) (ae_txt [119, 105, 116, 104]) (c_eqD hr.units (by first | exact s0 | exact s1 | exact s2 | exact from_sh | exact with_sh) (by first | exact s0 | exact s1 | exact s2 | exact from_sh | exact with_sh))) (fun h6 => ?_) (fun h6 => ?_)
            ·
              have h6 : PyData.eqv x0 WITH = true := h6
              exact as_ret (ae_cmpA (ae_len (ae_dat 0) (by rfl) (by first | rfl | decide) (by rfl) m_len) ae_int c_eqI) ⟨by rw [h4, if_pos h6]; rfl, (.dat .nil)⟩
            ·
              have h6 : PyData.eqv x0 WITH = false := h6
              refine as_nil ?_
              exact as_ret (ae_and (ae_cmpA (ae_ixT (ae_dat 0) ae_int (by first | rfl | exact atc0 _ _ | exact atc1 _ _ _ | exact atc2 _ _ _ _ | exact atc3 _ _ _ _ _)) (ae_tup (ad_cons (ae_txt [97, 102, 116, 101, 114]) (ad_cons (ae_txt [119, 105, 116, 104, 105, 110]) ad_nil))) (by exact c_inDt hr.units s0 p0 afw_sh (hz := z0))) (fun hb0 => (ae_and (ae_cmpA (ae_len (ae_dat 0) (by rfl) (by first | rfl | decide) (by rfl) m_len) ae_int c_eqI) (fun hb1 => (ae_one (ae_call G_is_fraction (hr.mono (by decide)) pass0 (ad_cons (ae_ixT (ae_dat 0) ae_int (by first | rfl | exact atc0 _ _ | exact atc1 _ _ _ | exact atc2 _ _ _ _ | exact atc3 _ _ _ _ _)) ad_nil) ⟨_, rfl, (by first | exact p2 | exact pr _ (List.mem_singleton.mpr rfl)), rfl, rfl⟩))) (fun _ => rfl))) (fun _ => rfl)) ⟨by rw [h4, if_neg (by rw [h6]; exact Bool.false_ne_true)]; rfl, (.dat .nil)⟩
    ·
      obtain ⟨s0, p0, z0, s1, s2, t1, t2, p2, pr, hl, hm⟩ := hL
      rw [hw_]
      refine as_if (AW.at (aw_orF (at_is (at_not (at_val (ae_isi (T' := "tuple") (tn := "tuple") (ae_dat 0) (by first | rfl | exact kit_tuple _) (by rfl) m_isinstance (by rfl) m_tuple (by decide +kernel)))) (by rfl)) (aw_orF (at_is (at_cmpA (ae_len (ae_dat 0) (by rfl) (by first | rfl | decide) (by rfl) m_len) ae_int c_lt) (by exact decide_eq_false (by show ¬ (((_ + 1 + 1 + 1 : Nat) : Int) < 3); omega))) (aw_or1 (at_is (at_not (at_val (ae_call G_is_post (hr.mono (by decide)) pass0 (ad_cons (ae_ixT (ae_dat 0) ae_int (by first | rfl | exact atc0 _ _ | exact atc1 _ _ _ | exact atc2 _ _ _ _ | exact atc3 _ _ _ _ _)) ad_nil) ⟨_, rfl, (by first | exact t1 | exact t2), rfl, rfl⟩))) (by exact congrArg not hp)))))) (fun h0 => ?_) (fun h0 => ?_)
      ·
        cases h0
      ·
        refine as_nil ?_
        refine as_if (at_cmpA (ae_ixT (ae_dat 0) ae_int (by first | rfl | exact atc0 _ _ | exact atc1 _ _ _ | exact atc2 _ _ _ _ | exact atc3 _ _ _ _ _)) (ae_txt [102, 114, 111, 109]) (c_eqD hr.units (by first | exact s0 | exact s1 | exact s2 | exact from_sh | exact with_sh) (by first | exact s0 | exact s1 | exact s2 | exact from_sh | exact with_sh))) (fun h2 => ?_) (fun h2 => ?_)
        ·
          exact absurd (hf.symm.trans h2) (by decide)
        ·
          refine as_nil ?_
          refine as_if (AW.at (aw_or (at_not (at_val (ae_call G_is_post (hr.mono (by decide)) pass0 (ad_cons (ae_ixT (ae_dat 0) ae_int (by first | rfl | exact atc0 _ _ | exact atc1 _ _ _ | exact atc2 _ _ _ _ | exact atc3 _ _ _ _ _)) ad_nil) ⟨_, rfl, (by first | exact t1 | exact t2), rfl, rfl⟩))) (fun hb0 => (aw_or1 (at_cmpA (ae_ixT (ae_dat 0) ae_int (by first | rfl | exact atc0 _ _ | exact atc1 _ _ _ | exact atc2 _ _ _ _ | exact atc3 _ _ _ _ _)) (ae_ixT (ae_dat 0) ae_int (by first | rfl | exact atc0 _ _ | exact atc1 _ _ _ | exact atc2 _ _ _ _ | exact atc3 _ _ _ _ _)) (c_eqD hr.units (by first | exact s0 | exact s1 | exact s2 | exact from_sh | exact with_sh) (by first | exact s0 | exact s1 | exact s2 | exact from_sh | exact with_sh))))) (fun _ => rfl))) (fun h4 => ?_) (fun h4 => ?_)
          ·
            have h4 : (!isPostD x2 || PyData.eqv x1 x2) = true := h4
            exact as_ret ae_bl ⟨by rw [h4]; rfl, (.dat .nil)⟩
          ·
            have h4 : (!isPostD x2 || PyData.eqv x1 x2) = false := h4
            refine as_nil ?_
            refine as_if (at_cmpA (ae_ixT (ae_dat 0) ae_int (by first | rfl | exact atc0 _ _ | exact atc1 _ _ _ | exact atc2 _ _ _ _ | exact atc3 _ _ _ _ _)) (ae_txt [119, 105, 116, 104]) (c_eqD hr.units (by first | exact s0 | exact s1 | exact s2 | exact from_sh | exact with_sh) (by first | exact s0 | exact s1 | exact s2 | exact from_sh | exact with_sh))) (fun h6 => ?_) (fun h6 => ?_)
            ·
              have h6 : PyData.eqv x0 WITH = true := h6
              exact as_ret (ae_cmpA (ae_len (ae_dat 0) (by rfl) (by first | rfl | decide) (by rfl) m_len) ae_int c_eqI) ⟨by rw [h4, if_pos h6]; rfl, (.dat .nil)⟩
            ·
              have h6 : PyData.eqv x0 WITH = false := h6
              refine as_nil ?_
              exact as_ret (ae_and (ae_cmpA (ae_ixT (ae_dat 0) ae_int (by first | rfl | exact atc0 _ _ | exact atc1 _ _ _ | exact atc2 _ _ _ _ | exact atc3 _ _ _ _ _)) (ae_tup (ad_cons (ae_txt [97, 102, 116, 101, 114]) (ad_cons (ae_txt [119, 105, 116, 104, 105, 110]) ad_nil))) (by exact c_inDt hr.units s0 p0 afw_sh (hz := z0))) (fun hb0 => (ae_andF (ae_isb (ae_cmpA (ae_len (ae_dat 0) (by rfl) (by first | rfl | decide) (by rfl) m_len) ae_int c_eqI) (by exact decide_eq_false (by show ¬ (((_ + 1 + 1 + 1 : Nat) : Int) = 4); omega))))) (fun _ => rfl)) ⟨by rw [h4, if_neg (by rw [h6]; exact Bool.false_ne_true)]; exact congrArg (fun z => Res.val (.bool z)) (Bool.and_false _), (.dat .nil)⟩
/-! ### look_at_wishes -/
abbrev st_look_at_wishes : Stmt := topS 24
theorem sc_look_at_wishes : FnScope ["wishes", "at", "thing"] ["wishes"] (defScope st_look_at_wishes) := ⟨rfl, rfl, rfl, by decide +kernel, rfl, by decide +kernel, by decide +kernel⟩
def ct_look_at_wishes : Ct := fun ss ss' r => ∃ (ds : List PyData), ss = [.dat (.list ds)] ∧ (∀ t ∈ ds, isWiD t = true ∧ OdW t) ∧ ss' = ss ∧ r = .val .none
def cx_look_at_wishes (K : PySem.W.Frag) : Cxi := fun ss C d => (C = He.ga K "NoWish" ∧ ∃ (t0 : PyData), ss = [.dat t0] ∧ kitB (tyD t0) "list" = some false ∧ d = .none) ∨ (C = He.ga K "NoWish" ∧ ∃ (ds : List PyData) (k0 : Nat), ss = [.dat (.list ds)] ∧ RfW (.list ds) (.int (k0 : Int)) ∧ d = .int (k0 : Int))
theorem ok_look_at_wishes (F : FnP K "look_at_wishes" st_look_at_wishes [] f fd) (F_is_wish : FnT K mg P w base 3 "is_wish" ["thing"] ct_is_wish nox []) (I_NoWish : MkIT K mg P w base 1 "NoWish" "at") (m_enumerate : mg "enumerate" = none) (m_isinstance : mg "isinstance" = none) (m_list : mg "list" = none) : FnOk P w K mg base (L2N.CX P w) 4 f fd ["wishes"] (Sp5 K ct_look_at_wishes "at" (cx_look_at_wishes K)) := by
  refine fn5X F sc_look_at_wishes (fun ss ss' r h => ?_) (fun ss C d h => ?_) (fun cdv A outer s H E c ss ss' r hr h hw => ?_) (fun cdv A outer s H E c ss C d hr h hw tk hE => ?_)
  · obtain ⟨ds, rfl, _⟩ := h; rfl
  · rcases h with ⟨_, t0, rfl, _⟩ | ⟨_, ds, k0, rfl, _⟩ <;> rfl
  · obtain ⟨ds, rfl, q0, rfl, rfl⟩ := h
    obtain ⟨_, _, G_is_wish⟩ := F_is_wish.fn (X := (cxOf (L2N.CX P w) P w K mg base ["wishes", "at", "thing"] "look_at_wishes" (defScope st_look_at_wishes) f cdv A outer s H E).nox) rfl rfl rfl rfl rfl
    have M_NoWish := I_NoWish.mk (X := (cxOf (L2N.CX P w) P w K mg base ["wishes", "at", "thing"] "look_at_wishes" (defScope st_look_at_wishes) f cdv A outer s H E).nox) rfl rfl rfl rfl rfl
    refine as_if (at_not (at_val (ae_isi (T' := "list") (tn := "list") (ae_dat 0) (by first | rfl | exact kit_list _) (by rfl) m_isinstance (by rfl) m_list (by decide +kernel)))) (fun h => ?_) (fun h => ?_)
    ·
      cases h
    ·
      refine as_nil ?_
      refine as_forE PassesOwn.never (fun k f => ∃ x1 x2, f = [.dat (.list ds), x1, x2]) (ae_dat 0) ⟨_, _, rfl⟩ (fun G k d f hk hp => ?_) (fun f hp => ?_) m_enumerate
      ·
        obtain ⟨hlt, xd, hx, rfl⟩ := enumD_inv hk
        obtain ⟨x1, x2, rfl⟩ := hp
        have hgo := q0 _ (List.mem_of_getElem? hx)
        refine ⟨_, (ag_tup (ags_cons (ag_name 1 sc_look_at_wishes.nd) (ags_cons (ag_name 2 sc_look_at_wishes.nd) ags_nil))), ?_⟩
        refine as_if (at_not (at_val (ae_call G_is_wish (hr.mono (by decide)) pass0 (ad_cons (ae_dat 2) ad_nil) ⟨_, rfl, (by exact hgo.2), rfl, rfl⟩))) (fun h3 => ?_) (fun h3 => ?_)
        ·
          exact absurd h3 (by rw [hgo.1]; decide)
        ·
          refine as_nil ?_
          refine as_nil ?_
          exact ⟨_, _, rfl⟩
      ·
        obtain ⟨x1, x2, rfl⟩ := hp
        refine as_nil ?_
        exact ⟨rfl, (.dat .nil)⟩
  ·
    obtain ⟨_, _, G_is_wish⟩ := F_is_wish.fn (X := (cxOf (L2N.CX P w) P w K mg base ["wishes", "at", "thing"] "look_at_wishes" (defScope st_look_at_wishes) f cdv A outer s H E)) rfl rfl rfl rfl rfl
    have M_NoWish := I_NoWish.mk (X := (cxOf (L2N.CX P w) P w K mg base ["wishes", "at", "thing"] "look_at_wishes" (defScope st_look_at_wishes) f cdv A outer s H E)) rfl rfl rfl rfl rfl
    rcases h with ⟨rfl, t0, rfl, q0, rfl⟩ | ⟨rfl, ds, k0, rfl, q0, rfl⟩
    ·
      refine as_if (at_not (at_val (ae_isi (T' := "list") (tn := "list") (ae_dat 0) (by first | rfl | exact kit_list _) (by rfl) m_isinstance (by rfl) m_list (by decide +kernel)))) (fun h0 => ?_) (fun h0 => ?_)
      ·
        exact as_raiseI tk M_NoWish (hr.mono (by decide)) pass0 ae_non (by first | exact .non | exact .int _) (hE _ _)
      ·
        exact absurd ((show _ = false from h0).symm.trans (congrArg not (Option.some.inj ((kit_list _).symm.trans q0)))) (by decide)
    ·
      generalize hdd : PyData.list ds = dd at q0
      generalize hee : PyData.int (k0 : Int) = ee at q0
      rcases q0 with h | @⟨ds2, k2, hk, hb, hg, ok, hl⟩
      · cases hee
      cases hdd
      cases hee
      refine as_if (at_not (at_val (ae_isi (T' := "list") (tn := "list") (ae_dat 0) (by first | rfl | exact kit_list _) (by rfl) m_isinstance (by rfl) m_list (by decide +kernel)))) (fun h => ?_) (fun h => ?_)
      ·
        cases h
      ·
        refine as_nil ?_
        refine as_forE PassesOwn.leaving (fun k f => k ≤ k0 ∧ ∃ x1 x2, f = [.dat (.list ds), x1, x2]) (ae_dat 0) ⟨Nat.zero_le _, _, _, rfl⟩ (fun G k d f hk hp => ?_) (fun f hp => ?_) m_enumerate
        ·
          obtain ⟨hlt, xd, hx, rfl⟩ := enumD_inv hk
          obtain ⟨hkk, x1, x2, rfl⟩ := hp
          have hod := ok _ (List.mem_of_getElem? hx)
          refine ⟨_, (ag_tup (ags_cons (ag_name 1 sc_look_at_wishes.nd) (ags_cons (ag_name 2 sc_look_at_wishes.nd) ags_nil))), ?_⟩
          refine as_if (at_not (at_val (ae_call G_is_wish (hr.mono (by decide)) pass0 (ad_cons (ae_dat 2) ad_nil) ⟨_, rfl, (by exact hod), rfl, rfl⟩))) (fun h3 => ?_) (fun h3 => ?_)
          ·
            have e : k = k0 := by
              rcases Nat.lt_or_ge k k0 with z | z
              · exact absurd h3 (by rw [hg k z _ hx]; decide)
              · omega
            subst e
            exact as_raiseI tk M_NoWish (hr.mono (by decide)) pass0 (ae_dat 1) (by first | exact .non | exact .int _) (hE _ _)
          ·
            refine as_nil ?_
            refine as_nil ?_
            exact ⟨Nat.lt_of_le_of_ne hkk (fun e => by subst e; exact absurd h3 (by rw [hb _ hx]; decide)), _, _, rfl⟩
        ·
          obtain ⟨hkk, x1, x2, rfl⟩ := hp
          omega
/-! ### steps_of -/
abbrev st_steps_of : Stmt := topS 25
theorem sc_steps_of : FnScope ["wishes", "found", "number", "wish"] ["wishes"] (defScope st_steps_of) := ⟨rfl, rfl, rfl, by decide +kernel, rfl, by decide +kernel, by decide +kernel⟩
def ct_steps_of : Ct := fun ss ss' r => ∃ (ws : List Wi), ss = [.dat (.list (ws.map wD))] ∧ (∀ w ∈ ws, WiOk w) ∧ ws.length ≤ 100 ∧ ss' = ss ∧ r = .new (.list (stepsK ws ws.length))
def cx_steps_of (K : PySem.W.Frag) : Cxi := fun ss C d => (C = He.ga K "NoWish" ∧ ∃ (t0 e0 : PyData), ss = [.dat t0] ∧ RfW t0 e0 ∧ d = e0)
theorem ok_steps_of (F : FnP K "steps_of" st_steps_of [] f fd) (F_look_at_wishes : FnTXI K mg P w base 4 "look_at_wishes" ["wishes"] ct_look_at_wishes "at" (cx_look_at_wishes K)) (F_lessened : FnT K mg P w base 3 "lessened" ["one", "other"] ct_lessened nox []) (m_enumerate : mg "enumerate" = none) (k_NOUGHT : KonT K mg "NOUGHT" (.tuple [(.int 0), (.int 1)])) : FnOk P w K mg base (L2N.CX P w) 5 f fd ["wishes"] (Sp5 K ct_steps_of "at" (cx_steps_of K)) := by
  refine fn5X F sc_steps_of (fun ss ss' r h => ?_) (fun ss C d h => ?_) (fun cdv A outer s H E c ss ss' r hr h hw => ?_) (fun cdv A outer s H E c ss C d hr h hw tk hE => ?_)
  · obtain ⟨ws, rfl, _⟩ := h; rfl
  · rcases h with ⟨_, t0, e0, rfl, _⟩ <;> rfl
  · obtain ⟨ws, rfl, q0, q1, rfl, rfl⟩ := h
    obtain ⟨_, _, G5_look_at_wishes⟩ := F_look_at_wishes.fi (X := (cxOf (L2N.CX P w) P w K mg base ["wishes", "found", "number", "wish"] "steps_of" (defScope st_steps_of) f cdv A outer s H E).nox) rfl rfl rfl rfl rfl
    obtain ⟨_, _, G_look_at_wishes⟩ := F_look_at_wishes.fn (X := (cxOf (L2N.CX P w) P w K mg base ["wishes", "found", "number", "wish"] "steps_of" (defScope st_steps_of) f cdv A outer s H E).nox) rfl rfl rfl rfl rfl
    obtain ⟨_, _, G_lessened⟩ := F_lessened.fn (X := (cxOf (L2N.CX P w) P w K mg base ["wishes", "found", "number", "wish"] "steps_of" (defScope st_steps_of) f cdv A outer s H E).nox) rfl rfl rfl rfl rfl
    refine as_expr (ae_call G_look_at_wishes (hr.mono (by decide)) passN (ad_cons (ae_dat 0) ad_nil) ⟨_, rfl, (by exact good_W q0), rfl, rfl⟩) ?_
    refine as_new 1 (ae_lst ad_nil) (fun l_found hw_found hn_found => ?_) sc_steps_of.nd
    refine as_frame (by first | (simp only [List.set_cons_zero, List.set_cons_succ]; rfl) | rfl) ?_
    refine as_forE PassesOwn.never (fun k f => ∃ x1 x2, f = [.dat (.list (ws.map wD)), .own l_found (.list (stepsK ws k)), x1, x2]) (ae_dat 0) ⟨_, _, rfl⟩ (fun G k d f hk hp => ?_) (fun f hp => ?_) m_enumerate
    ·
      obtain ⟨hlt, xd, hx, rfl⟩ := enumD_inv hk
      obtain ⟨x1, x2, rfl⟩ := hp
      obtain ⟨wi, hwi, rfl⟩ := mapW_inv hx
      have hk2 : k < ws.length := by rw [List.length_map] at hlt; exact hlt
      have hlen := stepsK_len ws k
      have ok := q0 _ (List.mem_of_getElem? hwi)
      refine ⟨_, (ag_tup (ags_cons (ag_name 2 sc_steps_of.nd) (ags_cons (ag_name 3 sc_steps_of.nd) ags_nil))), ?_⟩
      rcases wi with ⟨a, b, x⟩ | ⟨a, b, x⟩ | ⟨a, b⟩ | ⟨a, x⟩
      ·
        refine as_if (at_cmpA (ae_ixT (ae_dat 3) ae_int (by rfl)) (ae_txt [97, 102, 116, 101, 114]) c_eqX) (fun h => ?_) (fun h => ?_)
        ·
          refine as_app 1 (ae_own 1) (ae_tup (ad_cons (ae_ixT (ae_dat 3) ae_int (by rfl)) (ad_cons (ae_ixT (ae_dat 3) ae_int (by rfl)) (ad_cons (ae_ixT (ae_dat 3) ae_int (by rfl)) (ad_cons (ae_dat 2) ad_nil))))) (by first | omega | (simp; omega)) ?_
          refine as_nil ?_
          refine as_nil ?_
          exact ⟨_, _, by rw [stepsK_s hwi]; rfl⟩
        ·
          exact absurd h (by decide)
      ·
        refine as_if (at_cmpA (ae_ixT (ae_dat 3) ae_int (by rfl)) (ae_txt [97, 102, 116, 101, 114]) c_eqX) (fun h => ?_) (fun h => ?_)
        ·
          exact absurd h (by decide)
        ·
          refine as_if (at_cmpA (ae_ixT (ae_dat 3) ae_int (by rfl)) (ae_txt [119, 105, 116, 104, 105, 110]) c_eqX) (fun h => ?_) (fun h => ?_)
          ·
            refine as_app 1 (ae_own 1) (ae_tup (ad_cons (ae_ixT (ae_dat 3) ae_int (by rfl)) (ad_cons (ae_ixT (ae_dat 3) ae_int (by rfl)) (ad_cons (ae_call G_lessened (hr.mono (by decide)) pass0 (ad_cons (ae_kon k_NOUGHT) (ad_cons (ae_ixT (ae_dat 3) ae_int (by rfl)) ad_nil)) ⟨_, rfl, (by exact ok.2.2.2.1), (by exact ok.2.2.2.2), rfl, rfl⟩) (ad_cons (ae_dat 2) ad_nil))))) (by first | omega | (simp; omega)) ?_
            refine as_nil ?_
            refine as_nil ?_
            refine as_nil ?_
            exact ⟨_, _, by rw [stepsK_s hwi]; rfl⟩
          ·
            exact absurd h (by decide)
      ·
        refine as_frame (by first | (simp only [List.set_cons_zero, List.set_cons_succ]; rfl) | rfl) ?_
        refine as_if (at_cmpA (ae_ixT (ae_dat 3) ae_int (by rfl)) (ae_txt [97, 102, 116, 101, 114]) c_eqX) (fun h => ?_) (fun h => ?_)
        ·
          exact absurd h (by decide)
        ·
          refine as_if (at_cmpA (ae_ixT (ae_dat 3) ae_int (by rfl)) (ae_txt [119, 105, 116, 104, 105, 110]) c_eqX) (fun h => ?_) (fun h => ?_)
          ·
            exact absurd h (by decide)
          ·
            refine as_if (at_cmpA (ae_ixT (ae_dat 3) ae_int (by rfl)) (ae_txt [119, 105, 116, 104]) c_eqX) (fun h => ?_) (fun h => ?_)
            ·
              refine as_app 1 (ae_own 1) (ae_tup (ad_cons (ae_ixT (ae_dat 3) ae_int (by rfl)) (ad_cons (ae_ixT (ae_dat 3) ae_int (by rfl)) (ad_cons (ae_kon k_NOUGHT) (ad_cons (ae_dat 2) ad_nil))))) (by first | omega | (simp; omega)) ?_
              refine as_app 1 (ae_own 1) (ae_tup (ad_cons (ae_ixT (ae_dat 3) ae_int (by rfl)) (ad_cons (ae_ixT (ae_dat 3) ae_int (by rfl)) (ad_cons (ae_kon k_NOUGHT) (ad_cons (ae_dat 2) ad_nil))))) (by first | omega | (simp; omega)) ?_
              refine as_nil ?_
              refine as_nil ?_
              refine as_nil ?_
              refine as_nil ?_
              exact ⟨_, _, by rw [stepsK_s hwi, List.append_assoc]; rfl⟩
            ·
              exact absurd h (by decide)
      ·
        refine as_frame (by first | (simp only [List.set_cons_zero, List.set_cons_succ]; rfl) | rfl) ?_
        refine as_if (at_cmpA (ae_ixT (ae_dat 3) ae_int (by rfl)) (ae_txt [97, 102, 116, 101, 114]) c_eqX) (fun h => ?_) (fun h => ?_)
        ·
          exact absurd h (by decide)
        ·
          refine as_if (at_cmpA (ae_ixT (ae_dat 3) ae_int (by rfl)) (ae_txt [119, 105, 116, 104, 105, 110]) c_eqX) (fun h => ?_) (fun h => ?_)
          ·
            exact absurd h (by decide)
          ·
            refine as_if (at_cmpA (ae_ixT (ae_dat 3) ae_int (by rfl)) (ae_txt [119, 105, 116, 104]) c_eqX) (fun h => ?_) (fun h => ?_)
            ·
              exact absurd h (by decide)
            ·
              refine as_nil ?_
              refine as_nil ?_
              refine as_nil ?_
              refine as_nil ?_
              exact ⟨_, _, by rw [stepsK_s hwi, show stepAt (k : Int) (Wi.frm a x) = [] from rfl, List.append_nil]⟩
    ·
      simp only [List.length_map] at hp
      obtain ⟨x1, x2, rfl⟩ := hp
      exact as_retO 1 (ae_own 1) ⟨by rfl, (.dat .nil)⟩ hw_found
  ·
    obtain ⟨_, _, G5_look_at_wishes⟩ := F_look_at_wishes.fi (X := (cxOf (L2N.CX P w) P w K mg base ["wishes", "found", "number", "wish"] "steps_of" (defScope st_steps_of) f cdv A outer s H E)) rfl rfl rfl rfl rfl
    obtain ⟨_, _, G_look_at_wishes⟩ := F_look_at_wishes.fn (X := (cxOf (L2N.CX P w) P w K mg base ["wishes", "found", "number", "wish"] "steps_of" (defScope st_steps_of) f cdv A outer s H E)) rfl rfl rfl rfl rfl
    obtain ⟨_, _, G_lessened⟩ := F_lessened.fn (X := (cxOf (L2N.CX P w) P w K mg base ["wishes", "found", "number", "wish"] "steps_of" (defScope st_steps_of) f cdv A outer s H E)) rfl rfl rfl rfl rfl
    rcases h with ⟨rfl, t0, e0, rfl, q0, rfl⟩
    ·
      exact as_exprE (re_callI tk G5_look_at_wishes (hr.mono (by decide)) (ad_cons (ae_dat 0) ad_nil) (by cases q0 with | other h => exact .inl ⟨rfl, _, rfl, h, rfl⟩ | bad hk hb hg ok hl => exact .inr ⟨rfl, _, _, rfl, .bad hk hb hg ok hl, rfl⟩) (hE _ _))
/-! ### played_at -/
abbrev st_played_at : Stmt := topS 28
theorem sc_played_at : FnScope ["wishes", "steps", "moments", "came", "last", "turn", "step", "moment"] ["wishes"] (defScope st_played_at) := ⟨rfl, rfl, rfl, by decide +kernel, rfl, by decide +kernel, by decide +kernel⟩
def ct_played_at : Ct := fun ss ss' r => ∃ (d : PyData), ss = [.dat d] ∧ False ∧ ss' = ss ∧ r = .val .none
def cx_played_at (K : PySem.W.Frag) : Cxi := fun ss C d => (C = He.ga K "NoWish" ∧ ∃ (t0 e0 : PyData), ss = [.dat t0] ∧ RfW t0 e0 ∧ d = e0)
theorem ok_played_at (F : FnP K "played_at" st_played_at [] f fd) (F_steps_of : FnTXI K mg P w base 5 "steps_of" ["wishes"] ct_steps_of "at" (cx_steps_of K)) (m_range : mg "range" = none) (m_len : mg "len" = none) : FnOk P w K mg base (L2N.CX P w) 6 f fd ["wishes"] (Sp5 K ct_played_at "at" (cx_played_at K)) := by
  refine fn5X F sc_played_at (fun ss ss' r h => ?_) (fun ss C d h => ?_) (fun cdv A outer s H E c ss ss' r hr h hw => ?_) (fun cdv A outer s H E c ss C d hr h hw tk hE => ?_)
  · obtain ⟨d, rfl, _⟩ := h; rfl
  · rcases h with ⟨_, t0, e0, rfl, _⟩ <;> rfl
  · obtain ⟨d, rfl, q0, rfl, rfl⟩ := h
    obtain ⟨_, _, G5_steps_of⟩ := F_steps_of.fi (X := (cxOf (L2N.CX P w) P w K mg base ["wishes", "steps", "moments", "came", "last", "turn", "step", "moment"] "played_at" (defScope st_played_at) f cdv A outer s H E).nox) rfl rfl rfl rfl rfl
    obtain ⟨_, _, G_steps_of⟩ := F_steps_of.fn (X := (cxOf (L2N.CX P w) P w K mg base ["wishes", "steps", "moments", "came", "last", "turn", "step", "moment"] "played_at" (defScope st_played_at) f cdv A outer s H E).nox) rfl rfl rfl rfl rfl
    exact q0.elim
  ·
    obtain ⟨_, _, G5_steps_of⟩ := F_steps_of.fi (X := (cxOf (L2N.CX P w) P w K mg base ["wishes", "steps", "moments", "came", "last", "turn", "step", "moment"] "played_at" (defScope st_played_at) f cdv A outer s H E)) rfl rfl rfl rfl rfl
    obtain ⟨_, _, G_steps_of⟩ := F_steps_of.fn (X := (cxOf (L2N.CX P w) P w K mg base ["wishes", "steps", "moments", "came", "last", "turn", "step", "moment"] "played_at" (defScope st_played_at) f cdv A outer s H E)) rfl rfl rfl rfl rfl
    rcases h with ⟨rfl, t0, e0, rfl, q0, rfl⟩
    ·
      exact as_setE 1 (re_callI tk G5_steps_of (hr.mono (by decide)) (ad_cons (ae_dat 0) ad_nil) ⟨rfl, _, _, rfl, q0, rfl⟩ (hE _ _)) sc_played_at.nd
/-! ### _law_cell_at -/
abbrev st_law_cell_at : Stmt := topS 30
theorem sc_law_cell_at : FnScope ["_law_script", "_law_k"] ["_law_script", "_law_k"] (defScope st_law_cell_at) := ⟨rfl, rfl, rfl, by decide +kernel, rfl, by decide +kernel, by decide +kernel⟩
def ct_law_cell_at : Ct := fun ss ss' r => ∃ (ns : List Int) (k : Int), ss = [.dat (scD ns), .dat (.int k)] ∧ 0 ≤ k ∧ ss' = ss ∧ r = .val (.int (cellV ns k))
theorem ok_law_cell_at (F : FnP K "_law_cell_at" st_law_cell_at [] f fd) (m_len : mg "len" = none) : FnOk P w K mg base CX0 1 f fd ["_law_script", "_law_k"] (Sp3 K ct_law_cell_at nox) := by
  refine fn3 F sc_law_cell_at (fun ss ss' r h => ?_) (fun cdv A outer s H E c ss ss' r hr h hw => ?_)
  · obtain ⟨ns, k, rfl, _⟩ := h; rfl
  · obtain ⟨ns, k, rfl, q0, rfl, rfl⟩ := h
    refine as_frame (by first | (simp only [List.set_cons_zero, List.set_cons_succ]; rfl) | rfl) ?_
    refine as_if (at_cmpA (ae_dat 1) (ae_len (ae_dat 0) (by rfl) (by first | rfl | decide) (by rfl) m_len) c_lt) (fun h => ?_) (fun h => ?_)
    ·
      have hk : k < ns.length := by simpa using h
      exact as_ret (ae_ixL (ae_dat 0) (ae_dat 1) (by exact at_map _ ns k 0 q0 hk)) ⟨by rfl, (.dat (.dat .nil))⟩
    ·
      refine as_nil ?_
      exact as_ret ae_int ⟨by simp only [decide_eq_false_iff_not, List.length_map] at h; simp only [cellV]; simp [List.getD, List.getElem?_eq_none (show ns.length ≤ k.toNat by omega)], (.dat (.dat .nil))⟩
/-! ### _law_number -/
abbrev st_law_number : Stmt := topS 31
theorem sc_law_number : FnScope ["_law_script", "_law_k", "_law_cell", "_law_one", "_law_two", "_law_three", "_law_number_here"] ["_law_script", "_law_k"] (defScope st_law_number) := ⟨rfl, rfl, rfl, by decide +kernel, rfl, by decide +kernel, by decide +kernel⟩
def ct_law_number : Ct := fun ss ss' r => ∃ (ns : List Int) (k : Int), ss = [.dat (scD ns), .dat (.int k)] ∧ 0 ≤ k ∧ k ≤ 100 ∧ ss' = ss ∧ r = .val (.int (numK ns k))
theorem ok_law_number (F : FnP K "_law_number" st_law_number [] f fd) (F_law_cell_at : FnT K mg P w base 1 "_law_cell_at" ["_law_script", "_law_k"] ct_law_cell_at nox []) : FnOk P w K mg base CX0 2 f fd ["_law_script", "_law_k"] (Sp3 K ct_law_number nox) := by
  refine fn3 F sc_law_number (fun ss ss' r h => ?_) (fun cdv A outer s H E c ss ss' r hr h hw => ?_)
  · obtain ⟨ns, k, rfl, _⟩ := h; rfl
  · obtain ⟨ns, k, rfl, q0, q1, rfl, rfl⟩ := h
    obtain ⟨_, _, G_law_cell_at⟩ := F_law_cell_at.fn (X := (cxOf CX0 P w K mg base ["_law_script", "_law_k", "_law_cell", "_law_one", "_law_two", "_law_three", "_law_number_here"] "_law_number" (defScope st_law_number) f cdv A outer s H E).nox) rfl rfl rfl rfl rfl
    refine as_set 2 (ae_call G_law_cell_at (hr.mono (by decide)) pass0 (ad_cons (ae_dat 0) (ad_cons (ae_dat 1) ad_nil)) ⟨_, _, rfl, (by first | assumption | decide), rfl, rfl⟩) ?_ sc_law_number.nd
    refine as_if (AW.at (aw_and (at_cmpA (ae_mod (ae_call G_law_cell_at (hr.mono (by decide)) pass0 (ad_cons (ae_dat 0) (ad_cons ae_int ad_nil)) ⟨_, _, rfl, (by first | assumption | decide), rfl, rfl⟩) ae_int (by first | assumption | decide | omega)) ae_int c_eqI) (fun hb0 => (aw_and1 (at_cmpA (ae_dat 2) (ae_pow ae_int ae_int ⟨by decide, by decide, by decide⟩) c_ge))) (fun _ => rfl))) (fun h => ?_) (fun h => ?_)
    ·
      exact as_ret (ae_dat 2) ⟨by rw [numK, if_pos h], (.dat (.dat .nil))⟩
    ·
      refine as_nil ?_
      refine as_set 3 (ae_mod (ae_mul (ae_add (ae_add (ae_mod (ae_dat 2) ae_int (by first | assumption | decide | omega)) (ae_mul (ae_mul ae_int (ae_dat 1) (by first | exact mulL (by decide) | exact mulR (by decide) | exact mulR (by omega) | exact mulL (by omega))) (ae_dat 1) (by first | exact mulL (by decide) | exact mulR (by decide) | exact mulR (by omega) | exact mulL (by omega)))) ae_int) ae_int (by first | exact mulL (by decide) | exact mulR (by decide) | exact mulR (by omega) | exact mulL (by omega))) ae_int (by first | assumption | decide | omega)) ?_ sc_law_number.nd
      refine as_set 4 (ae_mod (ae_mul (ae_dat 3) (ae_add (ae_mod (ae_dat 3) ae_int (by first | assumption | decide | omega)) ae_int) (by first | exact mulL (by decide) | exact mulR (by decide) | exact mulR (by omega) | exact mulL (by omega))) ae_int (by first | assumption | decide | omega)) ?_ sc_law_number.nd
      refine as_set 5 (ae_mod (ae_mul (ae_add (ae_dat 4) (ae_mul (ae_mul ae_int (ae_dat 1) (by first | exact mulL (by decide) | exact mulR (by decide) | exact mulR (by omega) | exact mulL (by omega))) (ae_dat 1) (by first | exact mulL (by decide) | exact mulR (by decide) | exact mulR (by omega) | exact mulL (by omega)))) (ae_add (ae_mod (ae_dat 3) ae_int (by first | assumption | decide | omega)) ae_int) (by first | exact mulL (by decide) | exact mulR (by decide) | exact mulR (by omega) | exact mulL (by omega))) ae_int (by first | assumption | decide | omega)) ?_ sc_law_number.nd
      refine as_frame (by first | (simp only [List.set_cons_zero, List.set_cons_succ]; rfl) | rfl) ?_
      refine as_set 6 (ae_add (ae_mul (ae_add (ae_mul (ae_dat 3) ae_int (by first | exact mulL (by decide) | exact mulR (by decide) | exact mulR (by omega) | exact mulL (by omega))) (ae_dat 4)) ae_int (by first | exact mulL (by decide) | exact mulR (by decide) | exact mulR (by omega) | exact mulL (by omega))) (ae_dat 5)) ?_ sc_law_number.nd
      refine as_if (at_cmpA (ae_mod (ae_call G_law_cell_at (hr.mono (by decide)) pass0 (ad_cons (ae_dat 0) (ad_cons ae_int ad_nil)) ⟨_, _, rfl, (by first | assumption | decide), rfl, rfl⟩) ae_int (by first | assumption | decide | omega)) ae_int c_eqI) (fun h2 => ?_) (fun h2 => ?_)
      ·
        exact as_ret (ae_add (ae_mul (ae_dat 6) (ae_pow ae_int ae_int ⟨by decide, by decide, by decide⟩) (by first | exact mulL (by decide) | exact mulR (by decide) | exact mulR (by omega) | exact mulL (by omega))) (ae_mod (ae_dat 2) (ae_pow ae_int ae_int ⟨by decide, by decide, by decide⟩) (by first | assumption | decide | omega))) ⟨by rw [numK, if_neg (by rw [h]; exact Bool.false_ne_true), if_pos h2]; rfl, (.dat (.dat .nil))⟩
      ·
        refine as_nil ?_
        exact as_ret (ae_dat 6) ⟨by rw [numK, if_neg (by rw [h]; exact Bool.false_ne_true), if_neg (by rw [h2]; exact Bool.false_ne_true)]; rfl, (.dat (.dat .nil))⟩
/-! ### _law_lowest -/
abbrev st_law_lowest : Stmt := topS 32
theorem sc_law_lowest : FnScope ["_law_top", "_law_bottom", "_law_one", "_law_other"] ["_law_top", "_law_bottom"] (defScope st_law_lowest) := ⟨rfl, rfl, rfl, by decide +kernel, rfl, by decide +kernel, by decide +kernel⟩
def ct_law_lowest : Ct := fun ss ss' r => ∃ (t b : Int), ss = [.dat (.int t), .dat (.int b)] ∧ 0 < b ∧ Bd 8000 b ∧ ss' = ss ∧ r = .val (frD (nrm t b))
theorem ok_law_lowest (F : FnP K "_law_lowest" st_law_lowest [] f fd) (m_abs : mg "abs" = none) : FnOk P w K mg base CX0 1 f fd ["_law_top", "_law_bottom"] (Sp3 K ct_law_lowest nox) := by
  refine fn3 F sc_law_lowest (fun ss ss' r h => ?_) (fun cdv A outer s H E c ss ss' r hr h hw => ?_)
  · obtain ⟨t, b, rfl, _⟩ := h; rfl
  · obtain ⟨t, b, rfl, q0, q1, rfl, rfl⟩ := h
    have es : sg t b = (Int.gcd t b : Int) := if_neg (show ¬ b < 0 by omega)
    refine as_set 2 (ae_abs (ae_dat 0) (by rfl) m_abs) ?_ sc_law_lowest.nd
    refine as_set 3 (ae_dat 1) ?_ sc_law_lowest.nd
    refine as_frame (by first | (simp only [List.set_cons_zero, List.set_cons_succ]; rfl) | rfl) ?_
    refine as_while PassesOwn.never (fun m f => ∃ x y : Int, f = [.dat (.int t), .dat (.int b), .dat (.int x), .dat (.int y)] ∧ 0 ≤ x ∧ 0 ≤ y ∧ Int.gcd x y = Int.gcd t b ∧ m = y.toNat) (_) ⟨_, _, rfl, abs_nn t, by omega, gcd_abs1 t b, rfl⟩ (fun m f hp => ?_)
    obtain ⟨x, y, rfl, hx, hy, hg, rfl⟩ := hp
    refine ⟨_, _, (at_cmpA (ae_dat 3) ae_int c_neI), fun hc => ?_, fun hc => ?_⟩
    ·
      have hc : y ≠ 0 := by simpa using hc
      have hc2 : 0 < y := by omega
      refine as_par 2 3 (ad_cons (ae_dat 3) (ad_cons (ae_mod (ae_dat 2) (ae_dat 3) (by first | assumption | decide | omega)) ad_nil)) ?_ sc_law_lowest.nd
      refine as_nil ?_
      exact ⟨(x % y).toNat, by have := Int.emod_lt_of_pos x hc2; omega, y, x % y, rfl, hy, Int.emod_nonneg _ (by omega), (gcd_step x y hx hc2).trans hg, rfl⟩
    ·
      have hc : y = 0 := by simpa using hc
      have e := gcd_end hx hc
      rw [hg] at e
      subst e
      exact as_ret (ae_tup (ad_cons (ae_fdiv (ae_dat 0) (ae_dat 2) (by rw [← es]; exact sg_ok (by omega) q1 _)) (ad_cons (ae_fdiv (ae_dat 1) (ae_dat 2) (by rw [← es]; exact sg_ok (by omega) q1 _)) ad_nil))) ⟨by simp [nrm, frD, es], (.dat (.dat .nil))⟩
/-! ### _law_share -/
abbrev st_law_share : Stmt := topS 33
theorem sc_law_share : FnScope ["_law_number_here", "_law_top", "_law_bottom"] ["_law_number_here"] (defScope st_law_share) := ⟨rfl, rfl, rfl, by decide +kernel, rfl, by decide +kernel, by decide +kernel⟩
def ct_law_share : Ct := fun ss ss' r => ∃ (n : Int), ss = [.dat (.int n)] ∧ ss' = ss ∧ r = .val (frD (shrV n))
theorem ok_law_share (F : FnP K "_law_share" st_law_share [] f fd) (F_law_lowest : FnT K mg P w base 1 "_law_lowest" ["_law_top", "_law_bottom"] ct_law_lowest nox []) : FnOk P w K mg base CX0 2 f fd ["_law_number_here"] (Sp3 K ct_law_share nox) := by
  refine fn3 F sc_law_share (fun ss ss' r h => ?_) (fun cdv A outer s H E c ss ss' r hr h hw => ?_)
  · obtain ⟨n, rfl, _⟩ := h; rfl
  · obtain ⟨n, rfl, rfl, rfl⟩ := h
    obtain ⟨_, _, G_law_lowest⟩ := F_law_lowest.fn (X := (cxOf CX0 P w K mg base ["_law_number_here", "_law_top", "_law_bottom"] "_law_share" (defScope st_law_share) f cdv A outer s H E).nox) rfl rfl rfl rfl rfl
    refine as_set 1 (ae_sub (ae_mod (ae_dat 0) ae_int (by first | decide | decide +kernel)) ae_int) ?_ sc_law_share.nd
    refine as_set 2 (ae_add ae_int (ae_mod (ae_div (ae_dat 0) ae_int (by first | exact divS (by decide) (by decide) | exact divB (n := 110) (by decide +kernel) (bd_le (k := 3000000000000000000000000000000) (by decide +kernel) (by decide)))) ae_int (by first | decide | decide +kernel))) ?_ sc_law_share.nd
    refine as_frame (by first | (simp only [List.set_cons_zero, List.set_cons_succ]; rfl) | rfl) ?_
    refine as_if (at_cmpA (ae_mod (ae_div (ae_dat 0) ae_int (by first | exact divS (by decide) (by decide) | exact divB (n := 110) (by decide +kernel) (bd_le (k := 3000000000000000000000000000000) (by decide +kernel) (by decide)))) ae_int (by first | decide | decide +kernel)) ae_int c_eqI) (fun h => ?_) (fun h => ?_)
    ·
      refine as_set 1 (ae_sub (ae_mod (ae_div (ae_dat 0) ae_int (by first | exact divS (by decide) (by decide) | exact divB (n := 110) (by decide +kernel) (bd_le (k := 3000000000000000000000000000000) (by decide +kernel) (by decide)))) (ae_add (ae_mul ae_int (ae_pow ae_int ae_int ⟨by decide, by decide, by decide⟩) (by first | exact mulL (by decide) | exact mulR (by decide) | exact mulR (by omega) | exact mulL (by omega))) ae_int) (by first | decide | decide +kernel)) (ae_pow ae_int ae_int ⟨by decide, by decide, by decide⟩)) ?_ sc_law_share.nd
      refine as_set 2 (ae_add ae_int (ae_mod (ae_div (ae_div (ae_dat 0) ae_int (by first | exact divS (by decide) (by decide) | exact divB (n := 110) (by decide +kernel) (bd_le (k := 3000000000000000000000000000000) (by decide +kernel) (by decide)))) (ae_add (ae_mul ae_int (ae_pow ae_int ae_int ⟨by decide, by decide, by decide⟩) (by first | exact mulL (by decide) | exact mulR (by decide) | exact mulR (by omega) | exact mulL (by omega))) ae_int) (by first | exact divS (by decide) (by decide) | exact divB (n := 110) (by decide +kernel) (bd_le (k := 3000000000000000000000000000000) (by decide +kernel) (by decide)))) (ae_pow ae_int ae_int ⟨by decide, by decide, by decide⟩) (by first | decide | decide +kernel))) ?_ sc_law_share.nd
      refine as_nil ?_
      refine as_frame (by first | (simp only [List.set_cons_zero, List.set_cons_succ]; rfl) | rfl) ?_
      exact as_ret (ae_call G_law_lowest (hr.mono (by decide)) pass0 (ad_cons (ae_dat 1) (ad_cons (ae_dat 2) ad_nil)) ⟨_, _, rfl, (by first | exact t30_pos _ | omega), (by first | exact t30_bd _ | exact bd_le (k := 100) (by omega) (by decide)), rfl, rfl⟩) ⟨by first | (rw [shrV, if_pos h]) | (rw [shrV, if_neg (by rw [h]; exact Bool.false_ne_true)]), (.dat .nil)⟩
    ·
      refine as_nil ?_
      exact as_ret (ae_call G_law_lowest (hr.mono (by decide)) pass0 (ad_cons (ae_dat 1) (ad_cons (ae_dat 2) ad_nil)) ⟨_, _, rfl, (by first | exact t30_pos _ | omega), (by first | exact t30_bd _ | exact bd_le (k := 100) (by omega) (by decide)), rfl, rfl⟩) ⟨by first | (rw [shrV, if_pos h]) | (rw [shrV, if_neg (by rw [h]; exact Bool.false_ne_true)]), (.dat .nil)⟩
/-! ### _law_bells -/
abbrev st_law_bells : Stmt := topS 34
theorem sc_law_bells : FnScope ["_law_script", "_law_most", "_law_letters", "_law_number_here", "_law_before", "_law_behind", "_law_one", "_law_other", "_law_found", "_law_k", "_law_name"] ["_law_script", "_law_most"] (defScope st_law_bells) := ⟨rfl, rfl, rfl, by decide +kernel, rfl, by decide +kernel, by decide +kernel⟩
def ct_law_bells : Ct := fun ss ss' r => ∃ (ns : List Int), ss = [.dat (scD ns), .dat (.int 60)] ∧ ss' = ss ∧ r = .new (.list ((List.range (bellN (numK ns 1)).toNat).map fun k => sD (blV (numK ns 1) k)))
theorem ok_law_bells (F : FnP K "_law_bells" st_law_bells [] f fd) (F_law_number : FnT K mg P w base 2 "_law_number" ["_law_script", "_law_k"] ct_law_number nox []) (m_range : mg "range" = none) : FnOk P w K mg base CX0 3 f fd ["_law_script", "_law_most"] (Sp3 K ct_law_bells nox) := by
  refine fn3 F sc_law_bells (fun ss ss' r h => ?_) (fun cdv A outer s H E c ss ss' r hr h hw => ?_)
  · obtain ⟨ns, rfl, _⟩ := h; rfl
  · obtain ⟨ns, rfl, rfl, rfl⟩ := h
    obtain ⟨_, _, G_law_number⟩ := F_law_number.fn (X := (cxOf CX0 P w K mg base ["_law_script", "_law_most", "_law_letters", "_law_number_here", "_law_before", "_law_behind", "_law_one", "_law_other", "_law_found", "_law_k", "_law_name"] "_law_bells" (defScope st_law_bells) f cdv A outer s H E).nox) rfl rfl rfl rfl rfl
    refine as_set 2 (ae_txt [97, 98, 99, 100, 101, 102, 103, 104, 105, 106, 107, 108, 109, 110, 111, 112, 113, 114, 115, 116, 117, 118, 119, 120, 121, 122]) ?_ sc_law_bells.nd
    refine as_set 3 (ae_call G_law_number (hr.mono (by decide)) pass0 (ad_cons (ae_dat 0) (ad_cons ae_int ad_nil)) ⟨_, _, rfl, (by decide), (by decide), rfl, rfl⟩) ?_ sc_law_bells.nd
    generalize numK ns 1 = n at *
    have lb1 := bef_len (n % 4).toNat
    have lb2 := beh_len (n / 4 % 4).toNat
    refine as_set 4 (ae_ixL (AE.val (ae_lst (ad_cons (ae_txt []) (ad_cons (ae_txt [97, 98]) (ad_cons (ae_txt [97, 98, 99, 46, 100]) (ad_cons (ae_txt [120, 46, 121, 46, 122]) ad_nil)))))) (ae_mod (ae_dat 3) ae_int (by first | decide | omega)) (by first | exact at_map sD befL _ [] (by omega) (show _ < (4 : Int) by omega) | exact at_map sD behL _ [] (by omega) (show _ < (4 : Int) by omega) | exact let_at (by omega) (by omega))) ?_ sc_law_bells.nd
    refine as_set 5 (ae_ixL (AE.val (ae_lst (ad_cons (ae_txt []) (ad_cons (ae_txt [113]) (ad_cons (ae_txt [46, 114]) (ad_cons (ae_txt [113, 113, 113, 113]) ad_nil)))))) (ae_mod (ae_div (ae_dat 3) ae_int (by first | assumption | exact divS (by decide) (by decide) | exact divS (by omega) (by omega))) ae_int (by first | decide | omega)) (by first | exact at_map sD befL _ [] (by omega) (show _ < (4 : Int) by omega) | exact at_map sD behL _ [] (by omega) (show _ < (4 : Int) by omega) | exact let_at (by omega) (by omega))) ?_ sc_law_bells.nd
    refine as_frame (by first | (simp only [List.set_cons_zero, List.set_cons_succ]; rfl) | rfl) ?_
    refine as_set 6 (ae_mod (ae_div (ae_dat 3) ae_int (by first | assumption | exact divS (by decide) (by decide) | exact divS (by omega) (by omega))) ae_int (by first | decide | omega)) ?_ sc_law_bells.nd
    refine as_set 7 (ae_mod (ae_div (ae_dat 3) ae_int (by first | assumption | exact divS (by decide) (by decide) | exact divS (by omega) (by omega))) ae_int (by first | decide | omega)) ?_ sc_law_bells.nd
    refine as_new 8 (ae_lst ad_nil) (fun l_law_found hw_law_found hn_law_found => ?_) sc_law_bells.nd
    refine as_frame (by first | (simp only [List.set_cons_zero, List.set_cons_succ]; rfl) | rfl) ?_
    refine as_forR PassesOwn.never (fun k f => ∃ x9 x10, f = [.dat (scD ns), .dat (.int 60), .dat (sD LET), .dat (.int n), .dat (sD (befL.getD (n % 4).toNat [])), .dat (sD (behL.getD (n / 4 % 4).toNat [])), .dat (.int (n / 16 % 26)), .dat (.int (n / 416 % 26)), .own l_law_found (.list ((List.range k).map fun k => sD (blV n k))), x9, x10]) (ad_cons (ae_add ae_int (ae_mod (ae_div (ae_dat 3) ae_int (by first | assumption | exact divS (by decide) (by decide) | exact divS (by omega) (by omega))) (ae_sub (ae_dat 1) ae_int) (by first | decide | omega))) ad_nil) (by first | omega | ((repeat' split) <;> omega)) ⟨_, _, rfl⟩ (fun G k d f hk hp => ?_) (fun f hp => ?_) m_range
    ·
      obtain ⟨hk, rfl⟩ := rngD_inv hk
      obtain ⟨x9, x10, rfl⟩ := hp
      refine ⟨_, (ag_name 9 sc_law_bells.nd), ?_⟩
      refine as_set 10 (ae_addX (ae_dat 4) (ae_ixX (ae_dat 2) (ae_mod (ae_add (ae_dat 6) (ae_div (ae_dat 9) ae_int (by first | assumption | exact divS (by decide) (by decide) | exact divS (by omega) (by omega)))) ae_int (by first | decide | omega)) (by first | decide | (simp; done) | omega) (by first | exact at_map sD befL _ [] (by omega) (show _ < (4 : Int) by omega) | exact at_map sD behL _ [] (by omega) (show _ < (4 : Int) by omega) | exact let_at (by omega) (by omega))) (by simp only [List.length_append, List.length_cons, List.length_nil]; omega)) ?_ sc_law_bells.nd
      refine as_app 8 (ae_own 8) (ae_addX (ae_addX (ae_dat 10) (ae_ixX (ae_dat 2) (ae_mod (ae_add (ae_dat 7) (ae_dat 9)) ae_int (by first | decide | omega)) (by first | decide | (simp; done) | omega) (by first | exact at_map sD befL _ [] (by omega) (show _ < (4 : Int) by omega) | exact at_map sD behL _ [] (by omega) (show _ < (4 : Int) by omega) | exact let_at (by omega) (by omega))) (by simp only [List.length_append, List.length_cons, List.length_nil]; omega)) (ae_dat 5) (by simp only [List.length_append, List.length_cons, List.length_nil]; omega)) (by rw [List.length_map, List.length_range]; omega) ?_
      refine as_nil ?_
      exact ⟨_, _, by rw [List.range_succ, List.map_append]; rfl⟩
    ·
      obtain ⟨x9, x10, rfl⟩ := hp
      refine as_frame (by first | (simp only [List.set_cons_zero, List.set_cons_succ]; rfl) | rfl) ?_
      exact as_retO 8 (ae_own 8) ⟨by rfl, (.dat (.dat .nil))⟩ hw_law_found
/-! ### _law_wish -/
abbrev st_law_wish : Stmt := topS 35
theorem sc_law_wish : FnScope ["_law_number_here", "_law_bells_here", "_law_kind", "_law_many", "_law_one", "_law_other", "_law_x"] ["_law_number_here", "_law_bells_here"] (defScope st_law_wish) := ⟨rfl, rfl, rfl, by decide +kernel, rfl, by decide +kernel, by decide +kernel⟩
def ct_law_wish : Ct := fun ss ss' r => ∃ (bl : Nat → List Nat) (m n : Int), ss = [.dat (.int n), .dat (.list ((List.range m.toNat).map fun k => sD (bl k)))] ∧ 8 ≤ m ∧ m ≤ 60 ∧ ss' = ss ∧ r = .val (wD (wishV bl m n))
theorem ok_law_wish (F : FnP K "_law_wish" st_law_wish [] f fd) (F_law_share : FnT K mg P w base 2 "_law_share" ["_law_number_here"] ct_law_share nox []) (m_len : mg "len" = none) (m_abs : mg "abs" = none) : FnOk P w K mg base CX0 3 f fd ["_law_number_here", "_law_bells_here"] (Sp3 K ct_law_wish nox) := by
  refine fn3 F sc_law_wish (fun ss ss' r h => ?_) (fun cdv A outer s H E c ss ss' r hr h hw => ?_)
  · obtain ⟨bl, m, n, rfl, _⟩ := h; rfl
  · obtain ⟨bl, m, n, rfl, q0, q1, rfl, rfl⟩ := h
    obtain ⟨_, _, G_law_share⟩ := F_law_share.fn (X := (cxOf CX0 P w K mg base ["_law_number_here", "_law_bells_here", "_law_kind", "_law_many", "_law_one", "_law_other", "_law_x"] "_law_wish" (defScope st_law_wish) f cdv A outer s H E).nox) rfl rfl rfl rfl rfl
    have a0 := Int.emod_nonneg (n / 4) (show m ≠ 0 by omega)
    have a1 := Int.emod_lt_of_pos (n / 4) (show 0 < m by omega)
    obtain ⟨o0, o1, _⟩ := oth_ok (n := n) q0
    refine as_set 2 (ae_mod (ae_dat 0) ae_int (by first | decide | omega)) ?_ sc_law_wish.nd
    refine as_set 3 (ae_len (ae_dat 1) (by rfl) (by first | rfl | decide) (by rfl) m_len) ?_ sc_law_wish.nd
    have em : ((((List.range m.toNat).map fun k => sD (bl k)).length : Nat) : Int) = m := by rw [List.length_map, List.length_range]; omega
    rw [em]
    refine as_set 4 (ae_mod (ae_div (ae_dat 0) ae_int (by first | exact divS (by decide) (by decide) | exact divS (by omega) (by omega))) (ae_dat 3) (by first | decide | omega)) ?_ sc_law_wish.nd
    refine as_set 0 (ae_div (ae_div (ae_dat 0) ae_int (by first | exact divS (by decide) (by decide) | exact divS (by omega) (by omega))) (ae_dat 3) (by first | exact divS (by decide) (by decide) | exact divS (by omega) (by omega))) ?_ sc_law_wish.nd
    refine as_frame (by first | (simp only [List.set_cons_zero, List.set_cons_succ]; rfl) | rfl) ?_
    refine as_set 5 (ae_mod (ae_add (ae_dat 4) (ae_ixL (AE.val (ae_lst (ad_cons ae_int (ad_cons (ae_sub (ae_dat 3) ae_int) (ad_cons (ae_add ae_int (ae_mod (ae_div (ae_dat 0) ae_int (by first | exact divS (by decide) (by decide) | exact divS (by omega) (by omega))) (ae_sub (ae_dat 3) ae_int) (by first | decide | omega))) ad_nil))))) (ae_mod (ae_dat 0) ae_int (by first | decide | omega)) (by first | exact at_bells a0 a1 | exact at_bells o0 o1 | exact at_map PyData.int [1, m - 1, 1 + n / 4 / m / 3 % (m - 1)] _ 0 (by omega) (show _ < (3 : Int) by omega)))) (ae_dat 3) (by first | decide | omega)) ?_ sc_law_wish.nd
    refine as_set 6 (ae_call G_law_share (hr.mono (by decide)) pass0 (ad_cons (ae_div (ae_div (ae_dat 0) ae_int (by first | exact divS (by decide) (by decide) | exact divS (by omega) (by omega))) (ae_sub (ae_dat 3) ae_int) (by first | exact divS (by decide) (by decide) | exact divS (by omega) (by omega))) ad_nil) ⟨_, rfl, rfl, rfl⟩) ?_ sc_law_wish.nd
    refine as_frame (by first | (simp only [List.set_cons_zero, List.set_cons_succ]; rfl) | rfl) ?_
    refine as_if (at_cmpA (ae_dat 2) ae_int c_eqI) (fun g0 => ?_) (fun g0 => ?_)
    ·
      exact as_ret (ae_tup (ad_cons (ae_txt [97, 102, 116, 101, 114]) (ad_cons (ae_ixL (ae_dat 1) (ae_dat 4) (by first | exact at_bells a0 a1 | exact at_bells o0 o1 | exact at_map PyData.int [1, m - 1, 1 + n / 4 / m / 3 % (m - 1)] _ 0 (by omega) (show _ < (3 : Int) by omega))) (ad_cons (ae_ixL (ae_dat 1) (ae_dat 5) (by first | exact at_bells a0 a1 | exact at_bells o0 o1 | exact at_map PyData.int [1, m - 1, 1 + n / 4 / m / 3 % (m - 1)] _ 0 (by omega) (show _ < (3 : Int) by omega))) (ad_cons (ae_dat 6) ad_nil))))) ⟨by rw [wishV, if_pos (of_decide_eq_true g0)]; rfl, (.dat (.dat .nil))⟩
    ·
      refine as_nil ?_
      refine as_if (at_cmpA (ae_dat 2) ae_int c_eqI) (fun g1 => ?_) (fun g1 => ?_)
      ·
        exact as_ret (ae_tup (ad_cons (ae_txt [119, 105, 116, 104, 105, 110]) (ad_cons (ae_ixL (ae_dat 1) (ae_dat 4) (by first | exact at_bells a0 a1 | exact at_bells o0 o1 | exact at_map PyData.int [1, m - 1, 1 + n / 4 / m / 3 % (m - 1)] _ 0 (by omega) (show _ < (3 : Int) by omega))) (ad_cons (ae_ixL (ae_dat 1) (ae_dat 5) (by first | exact at_bells a0 a1 | exact at_bells o0 o1 | exact at_map PyData.int [1, m - 1, 1 + n / 4 / m / 3 % (m - 1)] _ 0 (by omega) (show _ < (3 : Int) by omega))) (ad_cons (ae_dat 6) ad_nil))))) ⟨by rw [wishV, if_neg (of_decide_eq_false g0), if_pos (of_decide_eq_true g1)]; rfl, (.dat (.dat .nil))⟩
      ·
        refine as_nil ?_
        refine as_if (at_cmpA (ae_dat 2) ae_int c_eqI) (fun g2 => ?_) (fun g2 => ?_)
        ·
          exact as_ret (ae_tup (ad_cons (ae_txt [119, 105, 116, 104]) (ad_cons (ae_ixL (ae_dat 1) (ae_dat 4) (by first | exact at_bells a0 a1 | exact at_bells o0 o1 | exact at_map PyData.int [1, m - 1, 1 + n / 4 / m / 3 % (m - 1)] _ 0 (by omega) (show _ < (3 : Int) by omega))) (ad_cons (ae_ixL (ae_dat 1) (ae_dat 5) (by first | exact at_bells a0 a1 | exact at_bells o0 o1 | exact at_map PyData.int [1, m - 1, 1 + n / 4 / m / 3 % (m - 1)] _ 0 (by omega) (show _ < (3 : Int) by omega))) ad_nil)))) ⟨by rw [wishV, if_neg (of_decide_eq_false g0), if_neg (of_decide_eq_false g1), if_pos (of_decide_eq_true g2)]; rfl, (.dat (.dat .nil))⟩
        ·
          refine as_nil ?_
          exact as_ret (ae_tup (ad_cons (ae_txt [102, 114, 111, 109]) (ad_cons (ae_ixL (ae_dat 1) (ae_dat 4) (by first | exact at_bells a0 a1 | exact at_bells o0 o1 | exact at_map PyData.int [1, m - 1, 1 + n / 4 / m / 3 % (m - 1)] _ 0 (by omega) (show _ < (3 : Int) by omega))) (ad_cons (ae_tup (ad_cons (ae_abs (ae_ixT (ae_dat 6) ae_int (by rfl)) (by rfl) m_abs) (ad_cons (ae_ixT (ae_dat 6) ae_int (by rfl)) ad_nil))) ad_nil)))) ⟨by rw [wishV, if_neg (of_decide_eq_false g0), if_neg (of_decide_eq_false g1), if_neg (of_decide_eq_false g2)]; rfl, (.dat (.dat .nil))⟩
/-! ### _law_odd -/
abbrev st_law_odd : Stmt := topS 37
theorem sc_law_odd : FnScope ["_law_number_here", "_law_bells_here", "_law_a", "_law_b", "_law_some"] ["_law_number_here", "_law_bells_here"] (defScope st_law_odd) := ⟨rfl, rfl, rfl, by decide +kernel, rfl, by decide +kernel, by decide +kernel⟩
def ct_law_odd : Ct := fun ss ss' r => ∃ (bl : Nat → List Nat) (m n : Int), ss = [.dat (.int n), .dat (.list ((List.range m.toNat).map fun k => sD (bl k)))] ∧ 8 ≤ m ∧ m ≤ 60 ∧ ss' = ss ∧ r = .val (oddD (bl (n / 32 % m).toNat) (bl ((n / 32 + 1) % m).toNat) n)
theorem ok_law_odd (F : FnP K "_law_odd" st_law_odd [] f fd) (m_len : mg "len" = none) : FnOk P w K mg base CX0 1 f fd ["_law_number_here", "_law_bells_here"] (Sp3 K ct_law_odd nox) := by
  refine fn3 F sc_law_odd (fun ss ss' r h => ?_) (fun cdv A outer s H E c ss ss' r hr h hw => ?_)
  · obtain ⟨bl, m, n, rfl, _⟩ := h; rfl
  · obtain ⟨bl, m, n, rfl, q0, q1, rfl, rfl⟩ := h
    have em : ((((List.range m.toNat).map fun k => sD (bl k)).length : Nat) : Int) = m := by rw [List.length_map, List.length_range]; omega
    have a0 := Int.emod_nonneg (n / 32) (show m ≠ 0 by omega)
    have a1 := Int.emod_lt_of_pos (n / 32) (show 0 < m by omega)
    have b0 := Int.emod_nonneg (n / 32 + 1) (show m ≠ 0 by omega)
    have b1 := Int.emod_lt_of_pos (n / 32 + 1) (show 0 < m by omega)
    refine as_set 2 (AE.is (ae_ixL (ae_dat 1) (ae_mod (ae_div (ae_dat 0) ae_int (by first | assumption | exact divS (by decide) (by decide) | exact divS (by omega) (by omega))) (ae_len (ae_dat 1) (by rfl) (by first | rfl | decide) (by rfl) m_len) (by rw [em]; omega)) (by rw [em]; exact at_bells a0 a1)) (show _ = Res.val (sD (bl (n / 32 % m).toNat)) from rfl)) ?_ sc_law_odd.nd
    refine as_set 3 (AE.is (ae_ixL (ae_dat 1) (ae_mod (ae_add (ae_div (ae_dat 0) ae_int (by first | assumption | exact divS (by decide) (by decide) | exact divS (by omega) (by omega))) ae_int) (ae_len (ae_dat 1) (by rfl) (by first | rfl | decide) (by rfl) m_len) (by rw [em]; omega)) (by rw [em]; exact at_bells b0 b1)) (show _ = Res.val (sD (bl ((n / 32 + 1) % m).toNat)) from rfl)) ?_ sc_law_odd.nd
    generalize bl (n / 32 % m).toNat = aa at *
    generalize bl ((n / 32 + 1) % m).toNat = bb at *
    refine as_set 4 (AE.val (ae_lst (ad_cons ae_non (ad_cons (ae_tup ad_nil) (ad_cons (ae_tup (ad_cons (ae_txt [97, 102, 116, 101, 114]) (ad_cons (ae_dat 2) (ad_cons (ae_dat 3) ad_nil)))) (ad_cons (ae_tup (ad_cons (ae_txt [97, 102, 116, 101, 114]) (ad_cons (ae_dat 2) (ad_cons (ae_dat 2) (ad_cons (ae_tup (ad_cons ae_int (ad_cons ae_int ad_nil))) ad_nil))))) (ad_cons (ae_tup (ad_cons (ae_txt [97, 102, 116, 101, 114]) (ad_cons (ae_dat 2) (ad_cons (ae_dat 3) (ad_cons (ae_tup (ad_cons ae_int (ad_cons ae_int ad_nil))) ad_nil))))) (ad_cons (ae_tup (ad_cons (ae_txt [97, 102, 116, 101, 114]) (ad_cons (ae_dat 2) (ad_cons (ae_dat 3) (ad_cons ae_int ad_nil))))) ad_nil)))))))) ?_ sc_law_odd.nd
    refine as_set 4 (AE.val (ae_addV (ae_dat 4) (AE.val (ae_lst (ad_cons (ae_tup (ad_cons (ae_txt [97, 102, 116, 101, 114]) (ad_cons (ae_txt [65]) (ad_cons (ae_dat 3) (ad_cons (ae_tup (ad_cons ae_int (ad_cons ae_int ad_nil))) ad_nil))))) (ad_cons (ae_tup (ad_cons (ae_txt [119, 105, 116, 104, 105, 110]) (ad_cons (ae_dat 2) (ad_cons (ae_dat 3) (ad_cons (ae_tup (ad_cons ae_int (ad_cons ae_int ad_nil))) ad_nil))))) (ad_cons (ae_tup (ad_cons (ae_txt [119, 105, 116, 104]) (ad_cons (ae_dat 2) ad_nil))) (ad_cons (ae_tup (ad_cons (ae_txt [119, 105, 116, 104]) (ad_cons (ae_dat 2) (ad_cons (ae_dat 3) (ad_cons (ae_tup (ad_cons ae_int (ad_cons ae_int ad_nil))) ad_nil))))) ad_nil)))))))) ?_ sc_law_odd.nd
    refine as_frame (by first | (simp only [List.set_cons_zero, List.set_cons_succ]; rfl) | rfl) ?_
    refine as_set 4 (AE.val (ae_addV (ae_dat 4) (AE.val (ae_lst (ad_cons (ae_tup (ad_cons (ae_txt [119, 105, 116, 104]) (ad_cons (ae_dat 2) (ad_cons (ae_dat 2) ad_nil)))) (ad_cons (ae_tup (ad_cons (ae_txt [102, 114, 111, 109]) (ad_cons (ae_dat 2) (ad_cons (ae_tup (ad_cons (ae_neg ae_int) (ad_cons ae_int ad_nil))) ad_nil)))) (ad_cons (ae_tup (ad_cons (ae_txt [102, 114, 111, 109]) (ad_cons (ae_dat 2) (ad_cons ae_int ad_nil)))) (ad_cons (ae_tup (ad_cons (ae_txt [102, 114, 111, 109]) (ad_cons (ae_txt [97, 46, 46, 98]) (ad_cons (ae_tup (ad_cons ae_int (ad_cons ae_int ad_nil))) ad_nil)))) (ad_cons (ae_tup (ad_cons (ae_txt [102, 114, 111, 109]) (ad_cons (ae_dat 2) ad_nil))) ad_nil))))))))) ?_ sc_law_odd.nd
    refine as_set 4 (AE.val (ae_addV (ae_dat 4) (AE.val (ae_lst (ad_cons (AE.val (ae_lst (ad_cons (ae_txt [119, 105, 116, 104]) (ad_cons (ae_dat 2) (ad_cons (ae_dat 3) ad_nil))))) (ad_cons (ae_txt [119, 105, 116, 104]) (ad_cons (ae_tup (ad_cons (ae_txt [116, 104, 101, 110]) (ad_cons (ae_dat 2) (ad_cons (ae_dat 3) ad_nil)))) (ad_cons (ae_tup (ad_cons (ae_txt [102, 114, 111, 109]) (ad_cons (ae_dat 2) (ad_cons (ae_tup (ad_cons ae_bl (ad_cons ae_int ad_nil))) ad_nil)))) (ad_cons (ae_tup (ad_cons (ae_txt [97, 102, 116, 101, 114]) (ad_cons (ae_dat 2) (ad_cons (ae_dat 3) (ad_cons (ae_tup (ad_cons ae_int (ad_cons (ae_neg ae_int) ad_nil))) ad_nil))))) ad_nil))))))))) ?_ sc_law_odd.nd
    refine as_set 4 (AE.val (ae_addV (ae_dat 4) (AE.val (ae_lst (ad_cons (ae_tup (ad_cons (ae_txt [119, 105, 116, 104]) (ad_cons (ae_dat 2) (ad_cons ae_int ad_nil)))) (ad_cons (ae_tup (ad_cons ae_int (ad_cons (ae_dat 2) (ad_cons (ae_dat 3) ad_nil)))) (ad_cons (ae_tup (ad_cons (ae_txt [119, 105, 116, 104]) (ad_cons (ae_txt [97, 46, 98, 46, 99, 46, 100, 46, 101]) (ad_cons (ae_dat 3) ad_nil)))) (ad_cons (ae_tup (ad_cons (ae_txt [102, 114, 111, 109]) (ad_cons (ae_dat 2) (ad_cons (ae_tup (ad_cons ae_int (ad_cons ae_int ad_nil))) (ad_cons (ae_tup (ad_cons ae_int (ad_cons ae_int ad_nil))) ad_nil))))) (ad_cons (ae_tup (ad_cons (ae_txt [119, 105, 116, 104]) (ad_cons (AE.val (ae_lst (ad_cons (ae_dat 2) ad_nil))) (ad_cons (ae_dat 3) ad_nil)))) ad_nil))))))))) ?_ sc_law_odd.nd
    refine as_set 4 (AE.val (ae_addV (ae_dat 4) (AE.val (ae_lst (ad_cons (ae_tup (ad_cons (ae_txt [119, 105, 116, 104, 105, 110]) (ad_cons (ae_dat 2) (ad_cons (ae_dat 3) (ad_cons (ae_tup (ad_cons ae_int (ad_cons ae_int ad_nil))) ad_nil))))) (ad_cons (ae_tup (ad_cons (ae_txt [97, 102, 116, 101, 114]) (ad_cons (ae_dat 2) (ad_cons (ae_txt [97, 98, 99, 100, 101, 102, 103, 104, 105]) (ad_cons (ae_tup (ad_cons ae_int (ad_cons ae_int ad_nil))) ad_nil))))) (ad_cons (ae_tup (ad_cons (ae_txt [102, 114, 111, 109]) (ad_cons (ae_dat 2) (ad_cons ae_non ad_nil)))) (ad_cons (ae_tup (ad_cons (ae_txt [119, 105, 116, 104]) (ad_cons (ae_txt [97, 49]) (ad_cons (ae_dat 3) ad_nil)))) ad_nil)))))))) ?_ sc_law_odd.nd
    refine as_frame (by first | (simp only [List.set_cons_zero, List.set_cons_succ]; rfl) | rfl) ?_
    exact as_ret (ae_ixL (AE.val (ae_addV (ae_dat 4) (AE.val (ae_lst (ad_cons (ae_tup (ad_cons (ae_txt [97, 102, 116, 101, 114]) (ad_cons (ae_dat 2) (ad_cons (ae_txt [97, 32, 98]) (ad_cons (ae_tup (ad_cons ae_int (ad_cons ae_int ad_nil))) ad_nil))))) (ad_cons (ae_tup (ad_cons (ae_txt [102, 114, 111, 109]) (ad_cons (ae_txt [97, 46]) (ad_cons (ae_tup (ad_cons ae_int (ad_cons ae_int ad_nil))) ad_nil)))) (ad_cons (ae_tup (ad_cons (ae_txt [102, 114, 111, 109]) (ad_cons (ae_txt []) (ad_cons (ae_tup (ad_cons ae_int (ad_cons ae_int ad_nil))) ad_nil)))) ad_nil))))))) (ae_mod (ae_dat 0) ae_int (by decide)) (by exact odd_at aa bb n)) ⟨by rfl, (.dat (.dat .nil))⟩
/-! ### _law_at -/
abbrev st_law_at : Stmt := topS 38
theorem sc_law_at : FnScope ["_law_wishes", "_law_way", "_law_told", "e"] ["_law_wishes", "_law_way"] (defScope st_law_at) := ⟨rfl, rfl, rfl, by decide +kernel, rfl, by decide +kernel, by decide +kernel⟩
def ct_law_at : Ct := fun ss ss' r => ∃ (d e : PyData) (way : Bool), ss = [.dat d, .dat (.bool way)] ∧ RfW d e ∧ ss' = ss ∧ r = .new (.list [e])
theorem ok_law_at (F : FnP K "_law_at" st_law_at [] f fd) (F_steps_of : FnTXI K mg P w base 5 "steps_of" ["wishes"] ct_steps_of "at" (cx_steps_of K)) (F_played_at : FnTXI K mg P w base 6 "played_at" ["wishes"] ct_played_at "at" (cx_played_at K)) (m_isinstance : mg "isinstance" = none) (m_ValueError : mg "ValueError" = none) (t_TileError : mg "TileError" = some (.ref (He.ga K "TileError"))) (e_NoWish_TileError : PySem.W.exmOne K (.ref (He.ga K "NoWish")) (.ref (He.ga K "TileError")) = some true) (xc_NoWish : ExcC K (He.ga K "NoWish")) (i_NoWish_NoNet : ∃ D, mg "NoNet" = some (.ref D) ∧ PySem.W.kitOne K (.ref (He.ga K "NoWish")) (.ref D) = some false) (i_NoWish_NoNumber : ∃ D, mg "NoNumber" = some (.ref D) ∧ PySem.W.kitOne K (.ref (He.ga K "NoWish")) (.ref D) = some false) (i_NoWish_NoPost : ∃ D, mg "NoPost" = some (.ref D) ∧ PySem.W.kitOne K (.ref (He.ga K "NoWish")) (.ref D) = some false) (i_NoWish_NoText : ∃ D, mg "NoText" = some (.ref D) ∧ PySem.W.kitOne K (.ref (He.ga K "NoWish")) (.ref D) = some false) (i_NoWish_NoWish : ∃ D, mg "NoWish" = some (.ref D) ∧ PySem.W.kitOne K (.ref (He.ga K "NoWish")) (.ref D) = some true) (i_NoWish_ValueError : PySem.W.kitOne K (.ref (He.ga K "NoWish")) (.type "ValueError") = some true) (xi_NoWish : ExI K (He.ga K "NoWish") "at") : FnOk P w K mg base CX0 7 f fd ["_law_wishes", "_law_way"] (Sp3 K ct_law_at nox) := by
  refine fn3 F sc_law_at (fun ss ss' r h => ?_) (fun cdv A outer s H E c ss ss' r hr h hw => ?_)
  · obtain ⟨d, e, way, rfl, _⟩ := h; rfl
  · obtain ⟨d, e, way, rfl, q0, rfl, rfl⟩ := h
    obtain ⟨_, _, G5_steps_of⟩ := F_steps_of.fi (X := (cxOf CX0 P w K mg base ["_law_wishes", "_law_way", "_law_told", "e"] "_law_at" (defScope st_law_at) f cdv A outer s H E).nox) rfl rfl rfl rfl rfl
    obtain ⟨_, _, G_steps_of⟩ := F_steps_of.fn (X := (cxOf CX0 P w K mg base ["_law_wishes", "_law_way", "_law_told", "e"] "_law_at" (defScope st_law_at) f cdv A outer s H E).nox) rfl rfl rfl rfl rfl
    obtain ⟨_, _, G5_played_at⟩ := F_played_at.fi (X := (cxOf CX0 P w K mg base ["_law_wishes", "_law_way", "_law_told", "e"] "_law_at" (defScope st_law_at) f cdv A outer s H E).nox) rfl rfl rfl rfl rfl
    obtain ⟨_, _, G_played_at⟩ := F_played_at.fn (X := (cxOf CX0 P w K mg base ["_law_wishes", "_law_way", "_law_told", "e"] "_law_at" (defScope st_law_at) f cdv A outer s H E).nox) rfl rfl rfl rfl rfl
    have sca := q0.sca
    refine as_set 2 ae_non ?_ sc_law_at.nd
    refine as_tryKI (d := e) (fl := "at") 3 t_TileError e_NoWish_TileError (fun W pn xe tk hW => ?_) (fun l_e oe pn dx hz hf => ?_) sc_law_at.nd
    ·
      refine as_if (at_val (ae_dat 1)) (fun h2 => ?_) (fun h2 => ?_)
      ·
        exact as_exprE (re_callI tk G5_steps_of.tr (hr.mono (by decide)) (ad_cons (ae_dat 0) ad_nil) ⟨rfl, _, _, rfl, q0, rfl⟩ hW)
      ·
        exact as_exprE (re_callI tk G5_played_at.tr (hr.mono (by decide)) (ad_cons (ae_dat 0) ad_nil) ⟨rfl, _, _, rfl, q0, rfl⟩ hW)
    ·
      refine as_setR 2 3 ?_ sc_law_at.nd
      refine as_nil ?_
      refine as_frame (by first | (simp only [List.set_cons_zero, List.set_cons_succ]; rfl) | rfl) ?_
      refine as_if (AW.at (aw_or (at_not (at_val (ae_isD 2 4 xc_NoWish ⟨oe, List.mem_cons_self, hz, hf⟩ i_NoWish_NoWish m_isinstance))) (fun hb0 => (aw_or1 (at_not (at_val (ae_isDb 2 4 xc_NoWish ⟨oe, List.mem_cons_self, hz, hf⟩ i_NoWish_ValueError m_isinstance m_ValueError))))) (fun _ => rfl))) (fun h6 => ?_) (fun h6 => ?_)
      ·
        cases h6
      ·
        refine as_nil ?_
        refine as_if (at_val (ae_isDt 2 4 xc_NoWish ⟨oe, List.mem_cons_self, hz, hf⟩ (clsE_cons i_NoWish_NoNet (clsE_cons i_NoWish_NoNumber (clsE_cons i_NoWish_NoPost (clsE_cons i_NoWish_NoText clsE_nil)))) m_isinstance)) (fun h8 => ?_) (fun h8 => ?_)
        ·
          cases h8
        ·
          refine as_nil ?_
          exact as_ret (ae_lst (ad_cons (ae_xat 2 4 xi_NoWish ⟨oe, List.mem_cons_self, hz, hf⟩ sca.rp) ad_nil)) ⟨by rfl, (.dat (.dat .nil))⟩
/-! ### _law_spoilt -/
abbrev st_law_spoilt : Stmt := topS 39
theorem sc_law_spoilt : FnScope ["_law_wishes", "_law_number_here", "_law_bells_here", "_law_at_here", "_law_more"] ["_law_wishes", "_law_number_here", "_law_bells_here"] (defScope st_law_spoilt) := ⟨rfl, rfl, rfl, by decide +kernel, rfl, by decide +kernel, by decide +kernel⟩
def ct_law_spoilt : Ct := fun ss ss' r => ∃ (ws : List Wi) (bl : Nat → List Nat) (m n : Int), ss = [.dat (.list (ws.map wD)), .dat (.int n), .dat (.list ((List.range m.toNat).map fun k => sD (bl k)))] ∧ (∀ w ∈ ws, WiOk w) ∧ ws.length ≤ 60 ∧ 8 ≤ m ∧ m ≤ 60 ∧ ss' = ss ∧ r = .val (.tuple [.list (spoL ws bl m n), .int ((atV ws n : Nat) : Int)])
theorem ok_law_spoilt (F : FnP K "_law_spoilt" st_law_spoilt [] f fd) (F_law_odd : FnT K mg P w base 1 "_law_odd" ["_law_number_here", "_law_bells_here"] ct_law_odd nox []) (m_len : mg "len" = none) : FnOk P w K mg base CX0 2 f fd ["_law_wishes", "_law_number_here", "_law_bells_here"] (Sp3 K ct_law_spoilt nox) := by
  refine fn3 F sc_law_spoilt (fun ss ss' r h => ?_) (fun cdv A outer s H E c ss ss' r hr h hw => ?_)
  · obtain ⟨ws, bl, m, n, rfl, _⟩ := h; rfl
  · obtain ⟨ws, bl, m, n, rfl, q0, q1, q2, q3, rfl, rfl⟩ := h
    obtain ⟨_, _, G_law_odd⟩ := F_law_odd.fn (X := (cxOf CX0 P w K mg base ["_law_wishes", "_law_number_here", "_law_bells_here", "_law_at_here", "_law_more"] "_law_spoilt" (defScope st_law_spoilt) f cdv A outer s H E).nox) rfl rfl rfl rfl rfl
    have ll : (ws.map wD).length = ws.length := List.length_map _
    have hk := atV_le ws n
    have sl := spW_len (ws.map wD) (atV ws n) (oneD bl m (n / 62))
    have sb := secI_b ws bl m n
    refine as_set 3 (AE.is (ae_mod (ae_dat 1) (ae_add (ae_len (ae_dat 0) (by rfl) (by first | rfl | decide) (by rfl) m_len) ae_int) (by first | decide | omega | (rw [spW_len]; omega))) (show _ = Res.val (.int ((atV ws n : Nat) : Int)) from congrArg (fun z => Res.val (.int z)) (atV_int ws n))) ?_ sc_law_spoilt.nd
    refine as_new 4 (ae_addL (ae_addL (ae_sliceL (ae_dat 0) (by rfl) ao_none (ao_some (ae_dat 3))) (ae_lst (ad_cons (ae_call G_law_odd (hr.mono (by decide)) pass0 (ad_cons (ae_div (ae_dat 1) ae_int (by first | assumption | exact divS (by decide) (by decide) | exact divS (by omega) (by omega))) (ad_cons (ae_dat 2) ad_nil)) ⟨_, _, _, rfl, (by assumption), (by assumption), rfl, rfl⟩) ad_nil)) (hz := (by simp only [List.length_append, List.length_singleton, cutTo hk, cutFr hk, List.length_take, List.length_drop]; omega))) (ae_sliceL (ae_dat 0) (by rfl) (ao_some (ae_dat 3)) ao_none) (hz := (by simp only [List.length_append, List.length_singleton, cutTo hk, cutFr hk, List.length_take, List.length_drop]; omega))) (fun l_law_more hw_law_more hn_law_more => ?_) sc_law_spoilt.nd
    rw [cutSp hk]
    refine as_frame (by first | (simp only [List.set_cons_zero, List.set_cons_succ]; rfl) | rfl) ?_
    refine as_if (at_cmpA (ae_mod (ae_div (ae_dat 1) ae_int (by first | assumption | exact divS (by decide) (by decide) | exact divS (by omega) (by omega))) ae_int (by first | decide | omega | (rw [spW_len]; omega))) ae_int c_eqI) (fun h2 => ?_) (fun h2 => ?_)
    ·
      refine as_ins 4 (ae_own 4) (ad_cons (ae_add (ae_add (ae_dat 3) ae_int) (ae_mod (ae_div (ae_dat 1) ae_int (by first | assumption | exact divS (by decide) (by decide) | exact divS (by omega) (by omega))) (ae_sub (ae_len (ae_own 4) (by rfl) (by first | rfl | decide) (by rfl) m_len) (ae_dat 3)) (by first | decide | omega | (rw [spW_len]; omega)))) (ad_cons (ae_call G_law_odd (hr.mono (by decide)) pass0 (ad_cons (ae_div (ae_dat 1) ae_int (by first | assumption | exact divS (by decide) (by decide) | exact divS (by omega) (by omega))) (ad_cons (ae_dat 2) ad_nil)) ⟨_, _, _, rfl, (by assumption), (by assumption), rfl, rfl⟩) ad_nil)) (by rw [spW_len]; omega) (by have := sb.1; exact (by omega : (0 : Int) ≤ secI ws bl m n)) (by have := sb.2; exact (by omega : secI ws bl m n < 1000000000)) ?_
      refine as_nil ?_
      refine as_freeze 4 ?_
      exact as_ret (ae_tup (ad_cons (ae_dat 4) (ad_cons (ae_dat 3) ad_nil))) ⟨by first | (rw [spoL, if_pos h2]; rfl) | (rw [spoL, if_neg (by rw [h2]; exact Bool.false_ne_true)]; rfl), (.dat (.dat (.dat .nil)))⟩
    ·
      refine as_nil ?_
      refine as_freeze 4 ?_
      exact as_ret (ae_tup (ad_cons (ae_dat 4) (ad_cons (ae_dat 3) ad_nil))) ⟨by first | (rw [spoL, if_pos h2]; rfl) | (rw [spoL, if_neg (by rw [h2]; exact Bool.false_ne_true)]; rfl), (.dat (.dat (.dat .nil)))⟩
/-! ### law -/
abbrev st_law : Stmt := topS 40
theorem sc_law : FnScope ["_law_script", "_law_bells_here", "_law_wishes", "_law_k", "_law_due", "_law_more", "_law_at_here", "_law_handed", "_law_thing"] ["_law_script"] (defScope st_law) := ⟨rfl, rfl, rfl, by decide +kernel, rfl, by decide +kernel, by decide +kernel⟩
def ct_law : Ct := fun ss ss' r => ∃ (ns : List Int), ss = [.dat (scD ns)] ∧ ns.length ≤ 63 ∧ ss' = ss ∧ r = .val (.bool true)
theorem ok_law (F : FnP K "law" st_law [] f fd) (F_law_bells : FnT K mg P w base 3 "_law_bells" ["_law_script", "_law_most"] ct_law_bells nox []) (F_steps_of : FnTXI K mg P w base 5 "steps_of" ["wishes"] ct_steps_of "at" (cx_steps_of K)) (F_law_wish : FnT K mg P w base 3 "_law_wish" ["_law_number_here", "_law_bells_here"] ct_law_wish nox []) (F_law_spoilt : FnT K mg P w base 2 "_law_spoilt" ["_law_wishes", "_law_number_here", "_law_bells_here"] ct_law_spoilt nox []) (F_law_number : FnT K mg P w base 2 "_law_number" ["_law_script", "_law_k"] ct_law_number nox []) (F_law_at : FnT K mg P w base 7 "_law_at" ["_law_wishes", "_law_way"] ct_law_at nox []) (m_range : mg "range" = none) (m_list : mg "list" = none) (m_max : mg "max" = none) (m_isinstance : mg "isinstance" = none) (m_bool : mg "bool" = none) (m_tuple : mg "tuple" = none) (m_min : mg "min" = none) (m_len : mg "len" = none) : FnOk P w K mg base CX0 8 f fd ["_law_script"] (Sp3 K ct_law nox) := by
  refine fn3 F sc_law (fun ss ss' r h => ?_) (fun cdv A outer s H E c ss ss' r hr h hw => ?_)
  · obtain ⟨ns, rfl, _⟩ := h; rfl
  · obtain ⟨ns, rfl, q0, rfl, rfl⟩ := h
    obtain ⟨_, _, G_law_bells⟩ := F_law_bells.fn (X := (cxOf CX0 P w K mg base ["_law_script", "_law_bells_here", "_law_wishes", "_law_k", "_law_due", "_law_more", "_law_at_here", "_law_handed", "_law_thing"] "law" (defScope st_law) f cdv A outer s H E).nox) rfl rfl rfl rfl rfl
    obtain ⟨_, _, G5_steps_of⟩ := F_steps_of.fi (X := (cxOf CX0 P w K mg base ["_law_script", "_law_bells_here", "_law_wishes", "_law_k", "_law_due", "_law_more", "_law_at_here", "_law_handed", "_law_thing"] "law" (defScope st_law) f cdv A outer s H E).nox) rfl rfl rfl rfl rfl
    obtain ⟨_, _, G_steps_of⟩ := F_steps_of.fn (X := (cxOf CX0 P w K mg base ["_law_script", "_law_bells_here", "_law_wishes", "_law_k", "_law_due", "_law_more", "_law_at_here", "_law_handed", "_law_thing"] "law" (defScope st_law) f cdv A outer s H E).nox) rfl rfl rfl rfl rfl
    obtain ⟨_, _, G_law_wish⟩ := F_law_wish.fn (X := (cxOf CX0 P w K mg base ["_law_script", "_law_bells_here", "_law_wishes", "_law_k", "_law_due", "_law_more", "_law_at_here", "_law_handed", "_law_thing"] "law" (defScope st_law) f cdv A outer s H E).nox) rfl rfl rfl rfl rfl
    obtain ⟨_, _, G_law_spoilt⟩ := F_law_spoilt.fn (X := (cxOf CX0 P w K mg base ["_law_script", "_law_bells_here", "_law_wishes", "_law_k", "_law_due", "_law_more", "_law_at_here", "_law_handed", "_law_thing"] "law" (defScope st_law) f cdv A outer s H E).nox) rfl rfl rfl rfl rfl
    obtain ⟨_, _, G_law_number⟩ := F_law_number.fn (X := (cxOf CX0 P w K mg base ["_law_script", "_law_bells_here", "_law_wishes", "_law_k", "_law_due", "_law_more", "_law_at_here", "_law_handed", "_law_thing"] "law" (defScope st_law) f cdv A outer s H E).nox) rfl rfl rfl rfl rfl
    obtain ⟨_, _, G_law_at⟩ := F_law_at.fn (X := (cxOf CX0 P w K mg base ["_law_script", "_law_bells_here", "_law_wishes", "_law_k", "_law_due", "_law_more", "_law_at_here", "_law_handed", "_law_thing"] "law" (defScope st_law) f cdv A outer s H E).nox) rfl rfl rfl rfl rfl
    refine as_set 1 (AE.val (ae_call G_law_bells (hr.mono (by decide)) pass0 (ad_cons (ae_dat 0) (ad_cons ae_int ad_nil)) ⟨_, rfl, rfl, rfl⟩)) ?_ sc_law.nd
    generalize numK ns 1 = N at *
    have bn := bellN_b N
    refine as_lcR2D (F := fun i => [.dat (scD ns), .dat (.list ((List.range (bellN N).toNat).map fun k => sD (blV N k))), .no, .no, .no, .no, .no, .no, .no]) 2 [("_law_k", 3)] (fun i => some (wD (wishV (blV N) (bellN N) (numK ns (2 + (i : Int)))))) sc_law.nd (ad_cons ae_int (ad_cons (ae_min2 (by rfl) (ae_len (ae_dat 0) (by rfl) (by first | rfl | decide) (by rfl) m_len) ae_int (by rfl) m_min) ad_nil)) (by rfl) (fun _ => rfl) (fun i hi => by (have hi2 : (i : Int) < 32 := (by (repeat' split at hi) <;> omega); exact turnC1 (fun _ _ _ _ _ => (agc_name 3 sc_law.nd)) (fun _ _ _ _ _ => (ae_call G_law_wish.blk (hr.mono (by decide)) pass0 (ad_cons (ae_call G_law_number.blk (hr.mono (by decide)) pass0 (ad_cons (ae_dat 0) (ad_cons (ae_dat 3) ad_nil)) ⟨_, _, rfl, (by omega), (by omega), rfl, rfl⟩) (ad_cons (ae_dat 1) ad_nil)) ⟨_, _, _, rfl, (by exact bn.1), (by exact bn.2), rfl, rfl⟩)) (by rfl))) (by repeat (first | exact BackL.nil | apply BackL.dat | apply BackL.own | apply BackL.no | apply BackL.ref | apply BackL.mix)) ?_ m_range
    rw [wsV_made]
    have wok := wsV_ok ns N (((if (32 : Int) < (((ns.map PyData.int).length : Nat) : Int) then 32 else (((ns.map PyData.int).length : Nat) : Int)) - 2).toNat)
    have wl : (wsV ns N (((if (32 : Int) < (((ns.map PyData.int).length : Nat) : Int) then 32 else (((ns.map PyData.int).length : Nat) : Int)) - 2).toNat)).length ≤ 60 := by rw [wsV_len]; (repeat' split) <;> omega
    generalize wsV ns N (((if (32 : Int) < (((ns.map PyData.int).length : Nat) : Int) then 32 else (((ns.map PyData.int).length : Nat) : Int)) - 2).toNat) = ws at *
    refine as_set 4 (AE.val (ae_call G_steps_of (hr.mono (by decide)) passN (ad_cons (AE.val (ae_list (ae_dat 2) (by rfl) (by rfl) m_list)) ad_nil) ⟨_, rfl, (by exact wok), (by omega), rfl, rfl⟩)) ?_ sc_law.nd
    refine as_frame (by first | (simp only [List.set_cons_zero, List.set_cons_succ]; rfl) | rfl) ?_
    refine as_forR2 PassesOwn.never (fun k f => ∃ x3 x5 x6 x7, f = [.dat (scD ns), .dat (.list ((List.range (bellN N).toNat).map fun k => sD (blV N k))), .dat (.list (ws.map wD)), x3, .dat (.list (stepsK ws ws.length)), x5, x6, x7, .no]) (ad_cons ae_int (ad_cons (ae_max2 (by rfl) ae_int (ae_min2 (by rfl) (ae_len (ae_dat 0) (by rfl) (by first | rfl | decide) (by rfl) m_len) ae_int (by rfl) m_min) (by rfl) m_max) ad_nil)) ⟨_, _, _, _, rfl⟩ (fun G k d f hk hp => ?_) (fun f hp => ?_) m_range 
    ·
      obtain ⟨hk, rfl⟩ := rngD_inv hk
      obtain ⟨x3, x5, x6, x7, rfl⟩ := hp
      refine ⟨_, (ag_name 3 sc_law.nd), ?_⟩
      refine as_asg (ae_call G_law_spoilt (hr.mono (by decide)) pass0 (ad_cons (ae_dat 2) (ad_cons (ae_add (ae_call G_law_number (hr.mono (by decide)) pass0 (ad_cons (ae_dat 0) (ad_cons (ae_dat 3) ad_nil)) ⟨_, _, rfl, (by omega), (by omega), rfl, rfl⟩) (ae_mul ae_int (ae_dat 3) (by first | assumption | exact mulL (by decide) | exact mulR (by decide) | exact mulL (by omega) | exact mulR (by omega)))) (ad_cons (ae_dat 1) ad_nil))) ⟨_, _, _, _, rfl, (by exact wok), (by exact wl), (by exact bn.1), (by exact bn.2), rfl, rfl⟩) (ag_tup (ags_cons (ag_name 5 sc_law.nd) (ags_cons (ag_name 6 sc_law.nd) ags_nil))) ?_
      have sp := spo_ok (bl := blV N) wok wl bn.1 (blV_ok N) (numK ns (32 + (k : Int)) + 7919 * (32 + (k : Int)))
      generalize spoL ws (blV N) (bellN N) (numK ns (32 + (k : Int)) + 7919 * (32 + (k : Int))) = L at *
      generalize atV ws (numK ns (32 + (k : Int)) + 7919 * (32 + (k : Int))) = a at *
      have rf := sp.rf wok wl
      refine as_set 7 (AE.val (ae_list (ae_dat 5) (by rfl) (by rfl) m_list)) ?_ sc_law.nd
      refine as_frame (by first | (simp only [List.set_cons_zero, List.set_cons_succ]; rfl) | rfl) ?_
      refine as_if (AW.at (aw_orF (at_is (at_cmpA (AE.val (ae_call G_law_at (hr.mono (by decide)) pass0 (ad_cons (ae_dat 7) (ad_cons ae_bl ad_nil)) ⟨_, _, _, rfl, (by exact rf), rfl, rfl⟩)) (AE.val (ae_lst (ad_cons (ae_dat 6) ad_nil))) (c_neD hr.units (by first | exact (steps_flat wok _).shaped | exact (wishes_flat wok).shaped | exact sp.flat.shaped | rfl) (by first | exact (steps_flat wok _).shaped | exact (wishes_flat wok).shaped | exact sp.flat.shaped | rfl))) (by exact congrArg (fun z => !z) (i1r _))) (aw_orF (at_is (at_cmpA (AE.val (ae_call G_law_at (hr.mono (by decide)) pass0 (ad_cons (ae_dat 7) (ad_cons ae_bl ad_nil)) ⟨_, _, _, rfl, (by exact rf), rfl, rfl⟩)) (AE.val (ae_lst (ad_cons (ae_dat 6) ad_nil))) (c_neD hr.units (by first | exact (steps_flat wok _).shaped | exact (wishes_flat wok).shaped | exact sp.flat.shaped | rfl) (by first | exact (steps_flat wok _).shaped | exact (wishes_flat wok).shaped | exact sp.flat.shaped | rfl))) (by exact congrArg (fun z => !z) (i1r _))) (aw_or1 (at_is (at_cmpA (ae_dat 7) (ae_dat 5) (c_neD hr.units (by first | exact (steps_flat wok _).shaped | exact (wishes_flat wok).shaped | exact sp.flat.shaped | rfl) (by first | exact (steps_flat wok _).shaped | exact (wishes_flat wok).shaped | exact sp.flat.shaped | rfl))) (by exact congrArg (fun z => !z) sp.flat.refl)))))) (fun h6 => ?_) (fun h6 => ?_)
      ·
        cases h6
      ·
        refine as_nil ?_
        refine as_if (at_val (ae_isi (T' := "bool") (tn := "bool") (ae_ixL (AE.val (ae_call G_law_at (hr.mono (by decide)) pass0 (ad_cons (ae_dat 7) (ad_cons ae_bl ad_nil)) ⟨_, _, _, rfl, (by exact rf), rfl, rfl⟩)) ae_int (by rfl)) (by first | rfl | exact kit_bool _) (by rfl) m_isinstance (by rfl) m_bool (by decide +kernel))) (fun h8 => ?_) (fun h8 => ?_)
        ·
          cases h8
        ·
          refine as_nil ?_
          refine as_nil ?_
          exact ⟨_, _, _, _, rfl⟩
    ·
      obtain ⟨x3, x5, x6, x7, rfl⟩ := hp
      refine as_forL PassesOwn.never (fun k f => ∃ x3 x5 x6 x7 x8, f = [.dat (scD ns), .dat (.list ((List.range (bellN N).toNat).map fun k => sD (blV N k))), .dat (.list (ws.map wD)), x3, .dat (.list (stepsK ws ws.length)), x5, x6, x7, x8]) (AE.val (ae_lst (ad_cons ae_non (ad_cons (ae_tupOf (ae_dat 2) (by rfl) (by rfl) m_tuple) (ad_cons (AE.val ae_dnew) (ad_cons (ae_txt [97, 102, 116, 101, 114]) (ad_cons ae_int ad_nil))))))) ⟨_, _, _, _, _, rfl⟩ (fun G k d f hk hp => ?_) (fun f hp => ?_)
      ·
        obtain ⟨x3, x5, x6, x7, x8, rfl⟩ := hp
        have rf := things_rf ws _ (List.mem_of_getElem? hk)
        refine ⟨_, (ag_name 8 sc_law.nd), ?_⟩
        refine as_if (AW.at (aw_orF (at_is (at_cmpA (AE.val (ae_call G_law_at (hr.mono (by decide)) pass0 (ad_cons (ae_dat 8) (ad_cons ae_bl ad_nil)) ⟨_, _, _, rfl, (by exact rf), rfl, rfl⟩)) (AE.val (ae_lst (ad_cons ae_non ad_nil))) (c_neD hr.units (by first | exact (steps_flat wok _).shaped | exact (wishes_flat wok).shaped | exact sp.flat.shaped | rfl) (by first | exact (steps_flat wok _).shaped | exact (wishes_flat wok).shaped | exact sp.flat.shaped | rfl))) (by rfl)) (aw_or1 (at_is (at_cmpA (AE.val (ae_call G_law_at (hr.mono (by decide)) pass0 (ad_cons (ae_dat 8) (ad_cons ae_bl ad_nil)) ⟨_, _, _, rfl, (by exact rf), rfl, rfl⟩)) (AE.val (ae_lst (ad_cons ae_non ad_nil))) (c_neD hr.units (by first | exact (steps_flat wok _).shaped | exact (wishes_flat wok).shaped | exact sp.flat.shaped | rfl) (by first | exact (steps_flat wok _).shaped | exact (wishes_flat wok).shaped | exact sp.flat.shaped | rfl))) (by rfl))))) (fun h11 => ?_) (fun h11 => ?_)
        ·
          cases h11
        ·
          refine as_nil ?_
          refine as_nil ?_
          exact ⟨_, _, _, _, _, rfl⟩
      ·
        obtain ⟨x3, x5, x6, x7, x8, rfl⟩ := hp
        exact as_ret (ae_cmpA (AE.val (ae_call G_steps_of (hr.mono (by decide)) passN (ad_cons (ae_dat 2) ad_nil) ⟨_, rfl, (by exact wok), (by omega), rfl, rfl⟩)) (ae_dat 4) (c_eqD hr.units (by first | exact (steps_flat wok _).shaped | exact (wishes_flat wok).shaped | exact sp.flat.shaped | rfl) (by first | exact (steps_flat wok _).shaped | exact (wishes_flat wok).shaped | exact sp.flat.shaped | rfl))) ⟨by exact congrArg (fun b => Res.val (.bool b)) (steps_flat wok ws.length).refl, (.dat .nil)⟩
end
/-! ### the head -/
def d_NoWish___init__ : He.DefD := ⟨("NoWish", some "__init__"), "__init__", "NoWish.__init__", defArgs st_NoWish___init__, defBody st_NoWish___init__, defScope st_NoWish___init__, [], []⟩
def d_is_whole : He.DefD := ⟨("is_whole", none), "is_whole", "is_whole", defArgs st_is_whole, defBody st_is_whole, defScope st_is_whole, [], []⟩
def d_divisor : He.DefD := ⟨("divisor", none), "divisor", "divisor", defArgs st_divisor, defBody st_divisor, defScope st_divisor, [], []⟩
def d_is_fraction : He.DefD := ⟨("is_fraction", none), "is_fraction", "is_fraction", defArgs st_is_fraction, defBody st_is_fraction, defScope st_is_fraction, [], []⟩
def d_fraction : He.DefD := ⟨("fraction", none), "fraction", "fraction", defArgs st_fraction, defBody st_fraction, defScope st_fraction, [.int 1], []⟩
def d_lessened : He.DefD := ⟨("lessened", none), "lessened", "lessened", defArgs st_lessened, defBody st_lessened, defScope st_lessened, [], []⟩
def d_is_less : He.DefD := ⟨("is_less", none), "is_less", "is_less", defArgs st_is_less, defBody st_is_less, defScope st_is_less, [], []⟩
def d_is_part : He.DefD := ⟨("is_part", none), "is_part", "is_part", defArgs st_is_part, defBody st_is_part, defScope st_is_part, [], []⟩
def d_is_post : He.DefD := ⟨("is_post", none), "is_post", "is_post", defArgs st_is_post, defBody st_is_post, defScope st_is_post, [], []⟩
def d_is_wish : He.DefD := ⟨("is_wish", none), "is_wish", "is_wish", defArgs st_is_wish, defBody st_is_wish, defScope st_is_wish, [], []⟩
def d_look_at_wishes : He.DefD := ⟨("look_at_wishes", none), "look_at_wishes", "look_at_wishes", defArgs st_look_at_wishes, defBody st_look_at_wishes, defScope st_look_at_wishes, [], []⟩
def d_steps_of : He.DefD := ⟨("steps_of", none), "steps_of", "steps_of", defArgs st_steps_of, defBody st_steps_of, defScope st_steps_of, [], []⟩
def d_played_at : He.DefD := ⟨("played_at", none), "played_at", "played_at", defArgs st_played_at, defBody st_played_at, defScope st_played_at, [], []⟩
def d_law_cell_at : He.DefD := ⟨("_law_cell_at", none), "_law_cell_at", "_law_cell_at", defArgs st_law_cell_at, defBody st_law_cell_at, defScope st_law_cell_at, [], []⟩
def d_law_number : He.DefD := ⟨("_law_number", none), "_law_number", "_law_number", defArgs st_law_number, defBody st_law_number, defScope st_law_number, [], []⟩
def d_law_lowest : He.DefD := ⟨("_law_lowest", none), "_law_lowest", "_law_lowest", defArgs st_law_lowest, defBody st_law_lowest, defScope st_law_lowest, [], []⟩
def d_law_share : He.DefD := ⟨("_law_share", none), "_law_share", "_law_share", defArgs st_law_share, defBody st_law_share, defScope st_law_share, [], []⟩
def d_law_bells : He.DefD := ⟨("_law_bells", none), "_law_bells", "_law_bells", defArgs st_law_bells, defBody st_law_bells, defScope st_law_bells, [], []⟩
def d_law_wish : He.DefD := ⟨("_law_wish", none), "_law_wish", "_law_wish", defArgs st_law_wish, defBody st_law_wish, defScope st_law_wish, [], []⟩
def d_law_odd : He.DefD := ⟨("_law_odd", none), "_law_odd", "_law_odd", defArgs st_law_odd, defBody st_law_odd, defScope st_law_odd, [], []⟩
def d_law_at : He.DefD := ⟨("_law_at", none), "_law_at", "_law_at", defArgs st_law_at, defBody st_law_at, defScope st_law_at, [], []⟩
def d_law_spoilt : He.DefD := ⟨("_law_spoilt", none), "_law_spoilt", "_law_spoilt", defArgs st_law_spoilt, defBody st_law_spoilt, defScope st_law_spoilt, [], []⟩
def d_law : He.DefD := ⟨("law", none), "law", "law", defArgs st_law, defBody st_law, defScope st_law, [], []⟩
def hfn : List He.DefD := [d_NoWish___init__, d_is_whole, d_divisor, d_is_fraction, d_fraction, d_lessened, d_is_less, d_is_part, d_is_post, d_is_wish, d_look_at_wishes, d_steps_of, d_played_at, d_law_cell_at, d_law_number, d_law_lowest, d_law_share, d_law_bells, d_law_wish, d_law_odd, d_law_at, d_law_spoilt, d_law]
def hfa : List He.Fa := [.meth "NoWish" "__init__", .glo "is_whole", .glo "divisor", .glo "is_fraction", .glo "fraction", .glo "lessened", .glo "is_less", .glo "is_part", .glo "is_post", .glo "is_wish", .glo "look_at_wishes", .glo "steps_of", .glo "played_at", .glo "_law_cell_at", .glo "_law_number", .glo "_law_lowest", .glo "_law_share", .glo "_law_bells", .glo "_law_wish", .glo "_law_odd", .glo "_law_at", .glo "_law_spoilt", .glo "law", .free "isinstance", .free "int", .free "bool", .free "abs", .free "tuple", .free "len", .free "str", .free "all", .free "enumerate", .free "list", .free "range", .free "ValueError", .free "max", .free "min", .int "LONGEST" 8, .str "LETTERS" "abcdefghijklmnopqrstuvwxyz", .int "MOST_PARTS" 4, .glo "TileError", .exm "NoWish" "TileError" true, .glo "NoNet", .glo "NoNumber", .glo "NoPost", .glo "NoText", .glo "NoWish"]
def hko : List Ko := [.tup "NOUGHT" [.int 0, .int 1], .isx "NoWish", .kit "NoWish" "NoNet" false, .kit "NoWish" "NoNumber" false, .kit "NoWish" "NoPost" false, .kit "NoWish" "NoText" false, .kit "NoWish" "NoWish" true, .kitb "NoWish" "ValueError" true, .oex "NoWish" "at", .tin "TileError"]
abbrev R : PySem.W.OpenRow := PySem.W.OpenLaw.row PySem.Challenge.rw_tilefall_k52_no_wishes
def hnm : List Str := (["TileError", "NoNumber", "NoNet", "NoText", "NoPost", "NoWish", "is_whole", "divisor", "is_fraction", "fraction", "added", "lessened", "is_less", "LETTERS", "LONGEST", "MOST_PARTS", "is_part", "is_post", "NOUGHT", "is_wish", "look_at_wishes", "steps_of", "first_moments", "ring_behind", "played_at", "_law_cell_at", "_law_number", "_law_lowest", "_law_share", "_law_bells"] : List Str) ++ (["_law_wish", "_law_steps", "_law_odd", "_law_at", "_law_spoilt"] : List Str)
abbrev hk : PySem.W.Hook := hookC 4 hfa hfn hko
def ob (s : PySem.W.SharedT) : AlC := obsCG 4 hfa hfn hko (HandSHeadRun.getT s)
theorem ob_eq (s : PySem.W.SharedT) : ob s = hk.obs s.abs := obsCG_eq (HandSHeadRun.getT_eq s)
theorem run (w : World) : HandSHeadRun.RunEq R (PySem.W.view R.prog [40]) hk ob 5860 hnm w := by
  intro os
  kernel_rfl
theorem facts {P : Program} {w : World} {K : PySem.W.Frag} {h : Heap} {mg : Str → Option Value} {f : Addr} (X : K.In h) (G : h.Ns mainGlobals mg) (hfa0 : mg ("law" : Str) = some (.ref f)) (c : SaysC hfa hfn hko K) :
    ∃ fd : FuncData, (∀ (s : Shared) (v : Value), BindsTo s fd ⟨[v], []⟩ [("_law_script", v)]) ∧ ∀ base : Heap, K.In base → base.Ns mainGlobals mg → FnOk P w K mg base CX0 8 f fd ["_law_script"] (Sp3 K ct_law nox) := by
  have m_isinstance := He.free_ok X G (c.d.fact 23 (f := .free "isinstance") rfl)
  have m_int := He.free_ok X G (c.d.fact 24 (f := .free "int") rfl)
  have m_bool := He.free_ok X G (c.d.fact 25 (f := .free "bool") rfl)
  have m_abs := He.free_ok X G (c.d.fact 26 (f := .free "abs") rfl)
  have m_tuple := He.free_ok X G (c.d.fact 27 (f := .free "tuple") rfl)
  have m_len := He.free_ok X G (c.d.fact 28 (f := .free "len") rfl)
  have m_str := He.free_ok X G (c.d.fact 29 (f := .free "str") rfl)
  have m_all := He.free_ok X G (c.d.fact 30 (f := .free "all") rfl)
  have m_enumerate := He.free_ok X G (c.d.fact 31 (f := .free "enumerate") rfl)
  have m_list := He.free_ok X G (c.d.fact 32 (f := .free "list") rfl)
  have m_range := He.free_ok X G (c.d.fact 33 (f := .free "range") rfl)
  have m_ValueError := He.free_ok X G (c.d.fact 34 (f := .free "ValueError") rfl)
  have m_max := He.free_ok X G (c.d.fact 35 (f := .free "max") rfl)
  have m_min := He.free_ok X G (c.d.fact 36 (f := .free "min") rfl)
  have k_LONGEST : KonT K mg "LONGEST" (.int 8) := konT_int X G (c.d.fact 37 (f := .int "LONGEST" 8) rfl)
  have k_LETTERS : KonT K mg "LETTERS" (sD [97, 98, 99, 100, 101, 102, 103, 104, 105, 106, 107, 108, 109, 110, 111, 112, 113, 114, 115, 116, 117, 118, 119, 120, 121, 122]) := konT_txt X G [97, 98, 99, 100, 101, 102, 103, 104, 105, 106, 107, 108, 109, 110, 111, 112, 113, 114, 115, 116, 117, 118, 119, 120, 121, 122] (c.d.fact 38 (f := .str "LETTERS" "abcdefghijklmnopqrstuvwxyz") rfl)
  have k_MOST_PARTS : KonT K mg "MOST_PARTS" (.int 4) := konT_int X G (c.d.fact 39 (f := .int "MOST_PARTS" 4) rfl)
  have k_NOUGHT : KonT K mg "NOUGHT" (.tuple [(.int 0), (.int 1)]) := konT_tup X G (c.tup 0 rfl) (by decide +kernel)
  have t_TileError : mg "TileError" = some (.ref (He.ga K "TileError")) := He.glo_ok X G (c.d.fact 40 (f := .glo "TileError") rfl)
  have e_NoWish_TileError : PySem.W.exmOne K (.ref (He.ga K "NoWish")) (.ref (He.ga K "TileError")) = some true := He.exm_ok (c.d.fact 41 (f := .exm "NoWish" "TileError" true) rfl)
  have xc_NoWish : ExcC K (He.ga K "NoWish") := excC_of (c.tup 1 (q := .isx "NoWish") rfl)
  have i_NoWish_NoNet : ∃ D, mg "NoNet" = some (.ref D) ∧ PySem.W.kitOne K (.ref (He.ga K "NoWish")) (.ref D) = some false := ⟨_, He.glo_ok X G (c.d.fact 42 (f := .glo "NoNet") rfl), of_decide_eq_true (c.tup 2 (q := .kit "NoWish" "NoNet" false) rfl)⟩
  have i_NoWish_NoNumber : ∃ D, mg "NoNumber" = some (.ref D) ∧ PySem.W.kitOne K (.ref (He.ga K "NoWish")) (.ref D) = some false := ⟨_, He.glo_ok X G (c.d.fact 43 (f := .glo "NoNumber") rfl), of_decide_eq_true (c.tup 3 (q := .kit "NoWish" "NoNumber" false) rfl)⟩
  have i_NoWish_NoPost : ∃ D, mg "NoPost" = some (.ref D) ∧ PySem.W.kitOne K (.ref (He.ga K "NoWish")) (.ref D) = some false := ⟨_, He.glo_ok X G (c.d.fact 44 (f := .glo "NoPost") rfl), of_decide_eq_true (c.tup 4 (q := .kit "NoWish" "NoPost" false) rfl)⟩
  have i_NoWish_NoText : ∃ D, mg "NoText" = some (.ref D) ∧ PySem.W.kitOne K (.ref (He.ga K "NoWish")) (.ref D) = some false := ⟨_, He.glo_ok X G (c.d.fact 45 (f := .glo "NoText") rfl), of_decide_eq_true (c.tup 5 (q := .kit "NoWish" "NoText" false) rfl)⟩
  have i_NoWish_NoWish : ∃ D, mg "NoWish" = some (.ref D) ∧ PySem.W.kitOne K (.ref (He.ga K "NoWish")) (.ref D) = some true := ⟨_, He.glo_ok X G (c.d.fact 46 (f := .glo "NoWish") rfl), of_decide_eq_true (c.tup 6 (q := .kit "NoWish" "NoWish" true) rfl)⟩
  have i_NoWish_ValueError : PySem.W.kitOne K (.ref (He.ga K "NoWish")) (.type "ValueError") = some true := of_decide_eq_true (c.tup 7 (q := .kitb "NoWish" "ValueError" true) rfl)
  have xi_NoWish : ExI K (He.ga K "NoWish") "at" := exI_of (c.tup 8 (q := .oex "NoWish" "at") rfl)
  obtain ⟨fd_NoWish___init__, Q_NoWish___init__⟩ := c.d.def_ 0 (d := d_NoWish___init__) rfl
  obtain ⟨fd_is_whole, Q_is_whole⟩ := c.d.def_ 1 (d := d_is_whole) rfl
  obtain ⟨fd_divisor, Q_divisor⟩ := c.d.def_ 2 (d := d_divisor) rfl
  obtain ⟨fd_is_fraction, Q_is_fraction⟩ := c.d.def_ 3 (d := d_is_fraction) rfl
  obtain ⟨fd_fraction, Q_fraction⟩ := c.d.def_ 4 (d := d_fraction) rfl
  obtain ⟨fd_lessened, Q_lessened⟩ := c.d.def_ 5 (d := d_lessened) rfl
  obtain ⟨fd_is_less, Q_is_less⟩ := c.d.def_ 6 (d := d_is_less) rfl
  obtain ⟨fd_is_part, Q_is_part⟩ := c.d.def_ 7 (d := d_is_part) rfl
  obtain ⟨fd_is_post, Q_is_post⟩ := c.d.def_ 8 (d := d_is_post) rfl
  obtain ⟨fd_is_wish, Q_is_wish⟩ := c.d.def_ 9 (d := d_is_wish) rfl
  obtain ⟨fd_look_at_wishes, Q_look_at_wishes⟩ := c.d.def_ 10 (d := d_look_at_wishes) rfl
  obtain ⟨fd_steps_of, Q_steps_of⟩ := c.d.def_ 11 (d := d_steps_of) rfl
  obtain ⟨fd_played_at, Q_played_at⟩ := c.d.def_ 12 (d := d_played_at) rfl
  obtain ⟨fd_law_cell_at, Q_law_cell_at⟩ := c.d.def_ 13 (d := d_law_cell_at) rfl
  obtain ⟨fd_law_number, Q_law_number⟩ := c.d.def_ 14 (d := d_law_number) rfl
  obtain ⟨fd_law_lowest, Q_law_lowest⟩ := c.d.def_ 15 (d := d_law_lowest) rfl
  obtain ⟨fd_law_share, Q_law_share⟩ := c.d.def_ 16 (d := d_law_share) rfl
  obtain ⟨fd_law_bells, Q_law_bells⟩ := c.d.def_ 17 (d := d_law_bells) rfl
  obtain ⟨fd_law_wish, Q_law_wish⟩ := c.d.def_ 18 (d := d_law_wish) rfl
  obtain ⟨fd_law_odd, Q_law_odd⟩ := c.d.def_ 19 (d := d_law_odd) rfl
  obtain ⟨fd_law_at, Q_law_at⟩ := c.d.def_ 20 (d := d_law_at) rfl
  obtain ⟨fd_law_spoilt, Q_law_spoilt⟩ := c.d.def_ 21 (d := d_law_spoilt) rfl
  obtain ⟨fd_law, Q_law⟩ := c.d.def_ 22 (d := d_law) rfl
  have xi0_NoWish := exI_of (c.tup 8 (q := .oex "NoWish" "at") rfl)
  have me_NoWish := He.meth_ok (c.d.fact 0 (f := .meth "NoWish" "__init__") rfl)
  have I_NoWish : ∀ base, MkIT K mg P w base 1 "NoWish" "at" := fun base => ⟨(He.glo_ok X G (c.d.fact 46 (f := .glo "NoWish") rfl)), xi0_NoWish, _, _, _, ok_NoWish___init__ Q_NoWish___init__ (tiI_of (c.tup 9 (q := .tin "TileError") rfl)) (He.glo_ok X G (c.d.fact 40 (f := .glo "TileError") rfl)) xi0_NoWish, me_NoWish.at_, beq_iff_eq.mp me_NoWish.fn, Q_NoWish___init__.bindsN fun _ _ _ _ _ _ us hl => match us, hl with | [_, _], _ => rfl⟩
  have F_is_whole : ∀ base, FnT K mg P w base 1 "is_whole" ["thing"] ct_is_whole nox [] := fun base => FnT.mk0 (ok_is_whole Q_is_whole m_isinstance m_int m_bool) (He.glo_ok X G (c.d.fact 1 (f := .glo "is_whole") rfl)) Q_is_whole.kp (Q_is_whole.bindsN fun _ _ _ _ _ _ us hl => match us, hl with | [_], _ => rfl)
  have F_divisor : ∀ base, FnT K mg P w base 1 "divisor" ["one", "other"] ct_divisor nox [] := fun base => FnT.mk0 (ok_divisor Q_divisor m_abs) (He.glo_ok X G (c.d.fact 2 (f := .glo "divisor") rfl)) Q_divisor.kp (Q_divisor.bindsN fun _ _ _ _ _ _ us hl => match us, hl with | [_, _], _ => rfl)
  have F_is_less : ∀ base, FnT K mg P w base 1 "is_less" ["one", "other"] ct_is_less nox [] := fun base => FnT.mk0 (ok_is_less Q_is_less ) (He.glo_ok X G (c.d.fact 6 (f := .glo "is_less") rfl)) Q_is_less.kp (Q_is_less.bindsN fun _ _ _ _ _ _ us hl => match us, hl with | [_, _], _ => rfl)
  have F_is_part : ∀ base, FnT K mg P w base 1 "is_part" ["text"] ct_is_part nox [] := fun base => FnT.mk0 (ok_is_part Q_is_part m_len k_LONGEST k_LETTERS) (He.glo_ok X G (c.d.fact 7 (f := .glo "is_part") rfl)) Q_is_part.kp (Q_is_part.bindsN fun _ _ _ _ _ _ us hl => match us, hl with | [_], _ => rfl)
  have F_law_cell_at : ∀ base, FnT K mg P w base 1 "_law_cell_at" ["_law_script", "_law_k"] ct_law_cell_at nox [] := fun base => FnT.mk0 (ok_law_cell_at Q_law_cell_at m_len) (He.glo_ok X G (c.d.fact 13 (f := .glo "_law_cell_at") rfl)) Q_law_cell_at.kp (Q_law_cell_at.bindsN fun _ _ _ _ _ _ us hl => match us, hl with | [_, _], _ => rfl)
  have F_law_lowest : ∀ base, FnT K mg P w base 1 "_law_lowest" ["_law_top", "_law_bottom"] ct_law_lowest nox [] := fun base => FnT.mk0 (ok_law_lowest Q_law_lowest m_abs) (He.glo_ok X G (c.d.fact 15 (f := .glo "_law_lowest") rfl)) Q_law_lowest.kp (Q_law_lowest.bindsN fun _ _ _ _ _ _ us hl => match us, hl with | [_, _], _ => rfl)
  have F_law_odd : ∀ base, FnT K mg P w base 1 "_law_odd" ["_law_number_here", "_law_bells_here"] ct_law_odd nox [] := fun base => FnT.mk0 (ok_law_odd Q_law_odd m_len) (He.glo_ok X G (c.d.fact 19 (f := .glo "_law_odd") rfl)) Q_law_odd.kp (Q_law_odd.bindsN fun _ _ _ _ _ _ us hl => match us, hl with | [_, _], _ => rfl)
  have F_is_fraction : ∀ base, FnT K mg P w base 2 "is_fraction" ["thing"] ct_is_fraction nox [] := fun base => FnT.mk0 (ok_is_fraction Q_is_fraction (F_is_whole base) (F_divisor base) m_isinstance m_tuple m_len) (He.glo_ok X G (c.d.fact 3 (f := .glo "is_fraction") rfl)) Q_is_fraction.kp (Q_is_fraction.bindsN fun _ _ _ _ _ _ us hl => match us, hl with | [_], _ => rfl)
  have F_fraction : ∀ base, FnT K mg P w base 2 "fraction" ["top", "bottom"] ct_fraction nox [] := fun base => FnT.mkD (ok_fraction Q_fraction (F_divisor base) (F_is_whole base)) (He.glo_ok X G (c.d.fact 4 (f := .glo "fraction") rfl)) Q_fraction.kp (Q_fraction.binds1 (ps := ["top", "bottom"]) 2 1 (by exact fun z => by cases z) (by rfl) fun _ _ _ _ _ _ _ us its hu hi => match us, its, hu, hi with | [_, _], [_], _, _ => ⟨_, rfl, rfl⟩) (by rfl)
  have F_is_post : ∀ base, FnT K mg P w base 2 "is_post" ["thing"] ct_is_post nox [] := fun base => FnT.mk0 (ok_is_post Q_is_post (F_is_part base) m_isinstance m_str m_all m_len k_MOST_PARTS) (He.glo_ok X G (c.d.fact 8 (f := .glo "is_post") rfl)) Q_is_post.kp (Q_is_post.bindsN fun _ _ _ _ _ _ us hl => match us, hl with | [_], _ => rfl)
  have F_law_number : ∀ base, FnT K mg P w base 2 "_law_number" ["_law_script", "_law_k"] ct_law_number nox [] := fun base => FnT.mk0 (ok_law_number Q_law_number (F_law_cell_at base)) (He.glo_ok X G (c.d.fact 14 (f := .glo "_law_number") rfl)) Q_law_number.kp (Q_law_number.bindsN fun _ _ _ _ _ _ us hl => match us, hl with | [_, _], _ => rfl)
  have F_law_share : ∀ base, FnT K mg P w base 2 "_law_share" ["_law_number_here"] ct_law_share nox [] := fun base => FnT.mk0 (ok_law_share Q_law_share (F_law_lowest base)) (He.glo_ok X G (c.d.fact 16 (f := .glo "_law_share") rfl)) Q_law_share.kp (Q_law_share.bindsN fun _ _ _ _ _ _ us hl => match us, hl with | [_], _ => rfl)
  have F_law_spoilt : ∀ base, FnT K mg P w base 2 "_law_spoilt" ["_law_wishes", "_law_number_here", "_law_bells_here"] ct_law_spoilt nox [] := fun base => FnT.mk0 (ok_law_spoilt Q_law_spoilt (F_law_odd base) m_len) (He.glo_ok X G (c.d.fact 21 (f := .glo "_law_spoilt") rfl)) Q_law_spoilt.kp (Q_law_spoilt.bindsN fun _ _ _ _ _ _ us hl => match us, hl with | [_, _, _], _ => rfl)
  have F_lessened : ∀ base, FnT K mg P w base 3 "lessened" ["one", "other"] ct_lessened nox [] := fun base => FnT.mk0 (ok_lessened Q_lessened (F_fraction base)) (He.glo_ok X G (c.d.fact 5 (f := .glo "lessened") rfl)) Q_lessened.kp (Q_lessened.bindsN fun _ _ _ _ _ _ us hl => match us, hl with | [_, _], _ => rfl)
  have F_is_wish : ∀ base, FnT K mg P w base 3 "is_wish" ["thing"] ct_is_wish nox [] := fun base => FnT.mk0 (ok_is_wish Q_is_wish (F_is_fraction base) (F_is_post base) (F_is_less base) m_isinstance m_tuple m_len k_NOUGHT) (He.glo_ok X G (c.d.fact 9 (f := .glo "is_wish") rfl)) Q_is_wish.kp (Q_is_wish.bindsN fun _ _ _ _ _ _ us hl => match us, hl with | [_], _ => rfl)
  have F_law_bells : ∀ base, FnT K mg P w base 3 "_law_bells" ["_law_script", "_law_most"] ct_law_bells nox [] := fun base => FnT.mk0 (ok_law_bells Q_law_bells (F_law_number base) m_range) (He.glo_ok X G (c.d.fact 17 (f := .glo "_law_bells") rfl)) Q_law_bells.kp (Q_law_bells.bindsN fun _ _ _ _ _ _ us hl => match us, hl with | [_, _], _ => rfl)
  have F_law_wish : ∀ base, FnT K mg P w base 3 "_law_wish" ["_law_number_here", "_law_bells_here"] ct_law_wish nox [] := fun base => FnT.mk0 (ok_law_wish Q_law_wish (F_law_share base) m_len m_abs) (He.glo_ok X G (c.d.fact 18 (f := .glo "_law_wish") rfl)) Q_law_wish.kp (Q_law_wish.bindsN fun _ _ _ _ _ _ us hl => match us, hl with | [_, _], _ => rfl)
  have F_look_at_wishes : ∀ base, FnTXI K mg P w base 4 "look_at_wishes" ["wishes"] ct_look_at_wishes "at" (cx_look_at_wishes K) := fun base => ⟨_, _, ok_look_at_wishes Q_look_at_wishes (F_is_wish base) (I_NoWish base) m_enumerate m_isinstance m_list, He.glo_ok X G (c.d.fact 10 (f := .glo "look_at_wishes") rfl), Q_look_at_wishes.kp, Q_look_at_wishes.bindsN fun _ _ _ _ _ _ us hl => match us, hl with | [_], _ => rfl⟩
  have F_steps_of : ∀ base, FnTXI K mg P w base 5 "steps_of" ["wishes"] ct_steps_of "at" (cx_steps_of K) := fun base => ⟨_, _, ok_steps_of Q_steps_of (F_look_at_wishes base) (F_lessened base) m_enumerate k_NOUGHT, He.glo_ok X G (c.d.fact 11 (f := .glo "steps_of") rfl), Q_steps_of.kp, Q_steps_of.bindsN fun _ _ _ _ _ _ us hl => match us, hl with | [_], _ => rfl⟩
  have F_played_at : ∀ base, FnTXI K mg P w base 6 "played_at" ["wishes"] ct_played_at "at" (cx_played_at K) := fun base => ⟨_, _, ok_played_at Q_played_at (F_steps_of base) m_range m_len, He.glo_ok X G (c.d.fact 12 (f := .glo "played_at") rfl), Q_played_at.kp, Q_played_at.bindsN fun _ _ _ _ _ _ us hl => match us, hl with | [_], _ => rfl⟩
  have F_law_at : ∀ base, FnT K mg P w base 7 "_law_at" ["_law_wishes", "_law_way"] ct_law_at nox [] := fun base => FnT.mk0 (ok_law_at Q_law_at (F_steps_of base) (F_played_at base) m_isinstance m_ValueError t_TileError e_NoWish_TileError xc_NoWish i_NoWish_NoNet i_NoWish_NoNumber i_NoWish_NoPost i_NoWish_NoText i_NoWish_NoWish i_NoWish_ValueError xi_NoWish) (He.glo_ok X G (c.d.fact 20 (f := .glo "_law_at") rfl)) Q_law_at.kp (Q_law_at.bindsN fun _ _ _ _ _ _ us hl => match us, hl with | [_, _], _ => rfl)
  have e := hfa0.symm.trans (He.glo_ok X G (c.d.fact 22 (f := .glo "law") rfl))
  cases e
  have b := FunD.bindsA (ps := ["_law_script"]) Q_law fun _ _ _ _ _ _ us hl => match us, hl with | [_], _ => rfl
  exact ⟨fd_law, fun s v => b s [v] rfl, fun base _ _ => ok_law Q_law (F_law_bells base) (F_steps_of base) (F_law_wish base) (F_law_spoilt base) (F_law_number base) (F_law_at base) m_range m_list m_max m_isinstance m_bool m_tuple m_min m_len⟩
end A3
open PySem PySem.W PySem.Calls PyProof.Rows
set_option maxRecDepth 100000 in
set_option maxHeartbeats 0 in
theorem PySem.Challenge.cw_tilefall_k52_no_wishes_holds : PySem.Challenge.rw_tilefall_k52_no_wishes.Holds := by
  w_on; o_law
  refine HandSHeadRun.head_any (r := OpenLaw.row PySem.Challenge.rw_tilefall_k52_no_wishes) (q := view (OpenLaw.row PySem.Challenge.rw_tilefall_k52_no_wishes).prog [40]) (H := A3.hk) (ob := A3.ob) (M := 5860) (loose := A3.hnm) (d := HandSHeadRun.topDef (OpenLaw.row PySem.Challenge.rw_tilefall_k52_no_wishes).prog 40) (kwd := []) A3.ob_eq
    (by kernel_rfl) (fun s => by kernel_rfl) A3.run (by kernel_rfl) (by kernel_rfl) (by kernel_rfl) (by rfl) (by first | assumption | decide +kernel) (by decide +kernel) ⟨rfl, rfl, rfl, rfl, rfl, by decide +kernel⟩ ?hw ?hc
  case hw => w_witness2
  case hc =>
    refine L2.walk_ofE (l := PySem.Challenge.rw_tilefall_k52_no_wishes) (n := 63) (k := 8) (x := "_law_script") (CX := L2.CX0) rfl (by decide) (by kernel_rfl) ⟨rfl, by decide, by decide⟩ ?F (fun _ _ _ _ z => z)
    intro w mg fa h Y G hmg0
    obtain ⟨K, KX, c⟩ := Y
    have hmg : mg ("law" : PySem.Str) = some (.ref fa) := by
      have e : (HandSHeadRun.topDef (OpenLaw.row PySem.Challenge.rw_tilefall_k52_no_wishes).prog 40).name = ("law" : PySem.Str) := by kernel_rfl
      rw [← e]
      exact hmg0
    obtain ⟨fd, hb, hF⟩ := A3.facts (P := (PySem.Challenge.rw_tilefall_k52_no_wishes).prog) (w := w) KX G hmg c
    exact ⟨K, fd, A3.Sp3 K A3.ct_law A3.nox, KX, hb, fun H a ns hl _ hS => A3.law_sp3 (ct := A3.ct_law) (fun ns hl => ⟨ns, rfl, hl, rfl, rfl⟩) hl hS, hF⟩
