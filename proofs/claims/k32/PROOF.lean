import PyProof.Rows.All
import Wide.All
import OpenK.AllK
import Wide.FinOn
import HandS.ForMost
import HandS.Wide
import HandS.IsInst
import HandS.Style
import HandS.Defaults
import HandS.Head0
import HandS.Head1
import HandS.Head2
import HandS.HeadEnd
import HandS.HeadHook1
import HandS.HeadHook2
import HandS.Codes
import HandS.ExcCtx
import HandS.ExcIs
import HandS.HotCalls
import HandS.WordsExc
import HandS.SetTxt0
import HandS.Set
import PyProof.Rows.SortShellAny
import HandS.DictEq
import HandS.Finally
import HandS.SetKeys
import HandS.More
import HandS.Flow
import HandS.Replace
import KE.DatumOrd
import PyProof.Rows.InDataRows
import HandS.RevRange
import HandS.SetFor
import HandS.Conv
import HandS.RevTup
import HandS.Rev
import PyProof.ListNew
import PyProof.ListRange
import HandS.WordsDict
import HandS.SortKw
import HandS.SortInts
import KE.DataMinMax
import ObjForm.LawKit
import KE.KEqNest
import HandS.Zip
import PyProof.StrOps2
import PyProof.Rows.RegReprOcc
import PySem.Challenge.RW_tilefall_k32_whole_least_cut
set_option Elab.async false
set_option linter.all false
set_option maxRecDepth 100000
set_option maxHeartbeats 4000000
/-! A3a: plain data over the abstract heap, frames of plain data. -/
namespace A3
open PySem PySem.Spec PyProof.Rows L2

/-! ### what a value stands for -/
def kD : Key → PyData
  | .inl i => .int i
  | .inr x => .str x
mutual
inductive Rp (K : PySem.W.Frag) (H : Hp) : V → PyData → Prop
  | non : Rp K H .non .none
  | bl (b : Bool) : Rp K H (.bl b) (.bool b)
  | int (i : Int) : Rp K H (.int i) (.int i)
  | str (x : Str) : Rp K H (.str x) (.str x)
  | lst {a : Addr} {xs : List V} {ds : List PyData} : SqL K H a xs → RpAll K H xs ds → Rp K H (.ref a) (.list ds)
  | tup {a : Addr} {xs : List V} {ds : List PyData} : SqT K H a xs → RpAll K H xs ds → Rp K H (.ref a) (.tuple ds)
  | dct {a : Addr} {kvs : List (Key × V)} {es : List (PyData × PyData)} : Rd H a (.dK kvs) → RpKV K H kvs es → Rp K H (.ref a) (.dict es)
inductive RpAll (K : PySem.W.Frag) (H : Hp) : List V → List PyData → Prop
  | nil : RpAll K H [] []
  | cons {v : V} {vs : List V} {d : PyData} {ds : List PyData} : Rp K H v d → RpAll K H vs ds → RpAll K H (v :: vs) (d :: ds)
inductive RpKV (K : PySem.W.Frag) (H : Hp) : List (Key × V) → List (PyData × PyData) → Prop
  | nil : RpKV K H [] []
  | cons {k : Key} {v : V} {d : PyData} {kvs : List (Key × V)} {es : List (PyData × PyData)} : Rp K H v d → RpKV K H kvs es → RpKV K H ((k, v) :: kvs) ((kD k, d) :: es)
end

/-- the same, but that dicts may be locked or no longer -/
def LkR (H H' : Hp) : Prop := ∀ b o, H b = some o → H' b = some o ∨ (∃ kvs q, o = .dK kvs ∧ H' b = some (.frz q (.dK kvs))) ∨ ∃ kvs q, o = .frz q (.dK kvs) ∧ H' b = some (.dK kvs)
theorem same_lk {H H' : Hp} (e : Same H H') : LkR H H' := fun b o h => .inl (e b o h)
section
variable {K : PySem.W.Frag} {H H' : Hp}
theorem rd_same (e : Same H H') {a : Addr} {u : HO} (h : Rd H a u) : Rd H' a u := by
  rcases h with h | ⟨o, h⟩
  · exact .inl (e _ _ h)
  · exact .inr ⟨o, e _ _ h⟩
theorem rd_lk (e : LkR H H') {a : Addr} {u : HO} (h : Rd H a u) (n : ∀ o v, u ≠ .frz o v) : Rd H' a u := by
  rcases h with h | ⟨o, h⟩
  · rcases e _ _ h with h2 | ⟨kvs, q, z, h2⟩ | ⟨kvs, q, z, h2⟩
    · exact .inl h2
    · rw [z]; exact .inr ⟨q, h2⟩
    · exact absurd z (n _ _)
  · rcases e _ _ h with h2 | ⟨kvs, q, z, h2⟩ | ⟨kvs, q, z, h2⟩
    · exact .inr ⟨o, h2⟩
    · cases z
    · injection z with z1 z2
      rw [z2]; exact .inl h2
theorem sqL_same (e : Same H H') {a : Addr} {xs : List V} (h : SqL K H a xs) : SqL K H' a xs := e.seq h
theorem sqT_same (e : Same H H') {a : Addr} {xs : List V} (h : SqT K H a xs) : SqT K H' a xs := by
  rcases h with h | h
  · exact .inl (rd_same e h)
  · exact .inr h
theorem sqL_lk (e : LkR H H') {a : Addr} {xs : List V} (h : SqL K H a xs) : SqL K H' a xs := by
  rcases h with h | h
  · exact .inl (rd_lk e h fun _ _ z => by cases z)
  · exact .inr h
theorem sqT_lk (e : LkR H H') {a : Addr} {xs : List V} (h : SqT K H a xs) : SqT K H' a xs := by
  rcases h with h | h
  · exact .inl (rd_lk e h fun _ _ z => by cases z)
  · exact .inr h
theorem Rp.lk (e : LkR H H') {v : V} {d : PyData} (h : Rp K H v d) : Rp K H' v d :=
  Rp.rec (K := K) (H := H) (motive_1 := fun v d _ => Rp K H' v d) (motive_2 := fun vs ds _ => RpAll K H' vs ds) (motive_3 := fun a b _ => RpKV K H' a b)
    .non .bl .int .str (fun s _ q => .lst (sqL_lk e s) q) (fun s _ q => .tup (sqT_lk e s) q) (fun s _ q => .dct (rd_lk e s fun _ _ z => by cases z) q)
    .nil (fun _ _ a b => .cons a b) .nil (fun _ _ a b => .cons a b) h
theorem Rp.mono (e : Same H H') {v : V} {d : PyData} (h : Rp K H v d) : Rp K H' v d := h.lk (same_lk e)
theorem RpAll.lk (e : LkR H H') : ∀ {vs : List V} {ds : List PyData}, RpAll K H vs ds → RpAll K H' vs ds
  | _, _, .nil => .nil
  | _, _, .cons a b => .cons (a.lk e) (b.lk e)
theorem RpKV.lk (e : LkR H H') : ∀ {vs : List (Key × V)} {ds : List (PyData × PyData)}, RpKV K H vs ds → RpKV K H' vs ds
  | _, _, .nil => .nil
  | _, _, .cons a b => .cons (a.lk e) (b.lk e)
theorem RpAll.mono (e : Same H H') {vs : List V} {ds : List PyData} (h : RpAll K H vs ds) : RpAll K H' vs ds := h.lk (same_lk e)
theorem RpKV.mono (e : Same H H') {vs : List (Key × V)} {ds : List (PyData × PyData)} (h : RpKV K H vs ds) : RpKV K H' vs ds := h.lk (same_lk e)
theorem RpAll.length : ∀ {vs : List V} {ds : List PyData}, RpAll K H vs ds → vs.length = ds.length
  | _, _, .nil => rfl
  | _, _, .cons _ b => congrArg (· + 1) b.length
theorem RpAll.get : ∀ {vs : List V} {ds : List PyData} {i : Nat} {d : PyData}, RpAll K H vs ds → ds[i]? = some d → ∃ v, vs[i]? = some v ∧ Rp K H v d
  | _, _, 0, _, .cons a _, e => ⟨_, rfl, by cases Option.some.inj e; exact a⟩
  | _, _, i + 1, _, .cons _ b, e => RpAll.get (i := i) b e
  | _, _, _, _, .nil, e => by simp at e
theorem RpAll.get2 : ∀ {vs : List V} {ds : List PyData} {i : Nat} {v : V}, RpAll K H vs ds → vs[i]? = some v → ∃ d, ds[i]? = some d ∧ Rp K H v d
  | _, _, 0, _, .cons a _, e => ⟨_, rfl, by cases Option.some.inj e; exact a⟩
  | _, _, i + 1, _, .cons _ b, e => RpAll.get2 (i := i) b e
  | _, _, _, _, .nil, e => by simp at e
theorem RpAll.snoc {v : V} {d : PyData} (r : Rp K H v d) : ∀ {vs : List V} {ds : List PyData}, RpAll K H vs ds → RpAll K H (vs ++ [v]) (ds ++ [d])
  | _, _, .nil => .cons r .nil
  | _, _, .cons a b => .cons a (b.snoc r)
theorem RpAll.app : ∀ {vs ws : List V} {ds es : List PyData}, RpAll K H vs ds → RpAll K H ws es → RpAll K H (vs ++ ws) (ds ++ es)
  | _, _, _, _, .nil, s => s
  | _, _, _, _, .cons a b, s => .cons a (b.app s)
theorem RpAll.set {v : V} {d : PyData} (r : Rp K H v d) : ∀ {vs : List V} {ds : List PyData} (i : Nat), RpAll K H vs ds → RpAll K H (vs.set i v) (ds.set i d)
  | _, _, _, .nil => .nil
  | _, _, 0, .cons _ b => .cons r b
  | _, _, i + 1, .cons a b => .cons a (b.set r i)
theorem RpAll.take : ∀ {vs : List V} {ds : List PyData} (i : Nat), RpAll K H vs ds → RpAll K H (vs.take i) (ds.take i)
  | _, _, _, .nil => by simpa using RpAll.nil
  | _, _, 0, .cons _ _ => .nil
  | _, _, i + 1, .cons a b => .cons a (b.take i)
theorem RpAll.drop : ∀ {vs : List V} {ds : List PyData} (i : Nat), RpAll K H vs ds → RpAll K H (vs.drop i) (ds.drop i)
  | _, _, _, .nil => by simpa using RpAll.nil
  | _, _, 0, .cons a b => .cons a b
  | _, _, i + 1, .cons _ b => b.drop i
theorem RpAll.ints : ∀ (ns : List Int), RpAll K H (ns.map V.int) (ns.map PyData.int)
  | [] => .nil
  | n :: ns => .cons (.int n) (RpAll.ints ns)
theorem Rp.int_inv {v : V} {i : Int} (h : Rp K H v (.int i)) : v = .int i := by cases h; rfl
theorem Rp.bl_inv {v : V} {b : Bool} (h : Rp K H v (.bool b)) : v = .bl b := by cases h; rfl
theorem Rp.str_inv {v : V} {x : Str} (h : Rp K H v (.str x)) : v = .str x := by cases h; rfl
theorem Rp.non_inv {v : V} (h : Rp K H v .none) : v = .non := by cases h; rfl
theorem Rp.lst_inv {v : V} {ds : List PyData} (h : Rp K H v (.list ds)) : ∃ a vs, v = .ref a ∧ SqL K H a vs ∧ RpAll K H vs ds := by
  cases h with
  | lst s q => exact ⟨_, _, rfl, s, q⟩
theorem Rp.tup_inv {v : V} {ds : List PyData} (h : Rp K H v (.tuple ds)) : ∃ a vs, v = .ref a ∧ SqT K H a vs ∧ RpAll K H vs ds := by
  cases h with
  | tup s q => exact ⟨_, _, rfl, s, q⟩
theorem Rp.is_non {v : V} {d : PyData} (h : Rp K H v d) : decide (v = .non) = (match d with | .none => true | _ => false) := by
  cases h <;> simp
end

/-! ### a part of the heap -/
def cut (H : Hp) (T : Addr → Bool) : Hp := fun b => if T b = true then none else H b
theorem cut_some {H : Hp} {T : Addr → Bool} {b : Addr} {o : HO} (h : cut H T b = some o) : T b = false ∧ H b = some o := by
  unfold cut at h
  cases e : T b with
  | true => rw [e] at h; simp at h
  | false => rw [e] at h; simp at h; exact ⟨rfl, h⟩
theorem cut_of {H : Hp} {T : Addr → Bool} {b : Addr} {o : HO} (e : T b = false) (h : H b = some o) : cut H T b = some o := by
  unfold cut; rw [e]; simpa using h
theorem cut_same {H H' : Hp} {T T' : Addr → Bool} (h : ∀ b o, T b = false → H b = some o → T' b = false ∧ H' b = some o) : Same (cut H T) (cut H' T') := fun b o e => by
  obtain ⟨e1, e2⟩ := cut_some e
  obtain ⟨f1, f2⟩ := h b o e1 e2
  exact cut_of f1 f2
theorem cut_all (H : Hp) (T : Addr → Bool) : Same (cut H T) H := fun b o e => (cut_some e).2

/-! ### frames -/
/-- a part of an object: data, or an owned object that another slot tells -/
inductive Fld where
  | dat (d : PyData)
  | «at» (g : Addr)
/-- an object told by its parts: an instance, a dict, a list -/
inductive Mix where
  | ins (C : Addr) (fs : List (Str × Fld))
  | dct (fs : List (Key × Fld))
  | seq (fs : List Fld)
inductive Slot where
  | no
  | ref (a : Addr)
  | dat (d : PyData)
  | own (a : Addr) (d : PyData)
  /-- an owned object, told as it is | a value that stands for data -/
  | raw (a : Addr) (o : HO)
  | isv (v : V) (d : PyData)
  /-- an owned object, told by its parts -/
  | mix (a : Addr) (m : Mix)
abbrev Fm := List Slot
def adr : Slot → Option Addr
  | .own a _ => some a
  | .raw a _ => some a
  | .mix a _ => some a
  | _ => none
def ownL : Fm → List Addr
  | [] => []
  | .own a _ :: r => a :: ownL r
  | .raw a _ :: r => a :: ownL r
  | .mix a _ :: r => a :: ownL r
  | _ :: r => ownL r
theorem ownL_cons (s : Slot) (r : Fm) : ownL (s :: r) = (adr s).toList ++ ownL r := by cases s <;> rfl
def tt (T : Addr → Bool) (l : List Addr) : Addr → Bool := fun b => T b || decide (b ∈ l)
theorem tt_false {T : Addr → Bool} {l : List Addr} {b : Addr} : tt T l b = false ↔ T b = false ∧ b ∉ l := by
  unfold tt; simp
theorem mem_ownL : ∀ {fs : Fm} {b : Addr}, b ∈ ownL fs ↔ ∃ (i : Nat) (s : Slot), fs[i]? = some s ∧ adr s = some b
  | [], b => by simp [ownL]
  | x :: r, b => by
    rw [ownL_cons, List.mem_append, mem_ownL (fs := r) (b := b)]
    constructor
    · rintro (h | ⟨i, s, h⟩)
      · exact ⟨0, x, rfl, by simpa using h⟩
      · exact ⟨i + 1, s, h⟩
    · rintro ⟨i, s, h, e⟩
      cases i with
      | zero => cases Option.some.inj h; exact .inl (by simp [e])
      | succ i => exact .inr ⟨i, s, h, e⟩
theorem mem_own {fs : Fm} {i : Nat} {a : Addr} {d : PyData} (h : fs[i]? = some (.own a d)) : a ∈ ownL fs := mem_ownL.mpr ⟨i, _, h, rfl⟩
theorem mem_mix {fs : Fm} {i : Nat} {a : Addr} {m : Mix} (h : fs[i]? = some (.mix a m)) : a ∈ ownL fs := mem_ownL.mpr ⟨i, _, h, rfl⟩
theorem mem_raw {fs : Fm} {i : Nat} {a : Addr} {o : HO} (h : fs[i]? = some (.raw a o)) : a ∈ ownL fs := mem_ownL.mpr ⟨i, _, h, rfl⟩
theorem ownL_set : ∀ {fs : Fm} {i : Nat} {s : Slot} {b : Addr}, b ∈ ownL (fs.set i s) → b ∈ ownL fs ∨ adr s = some b := by
  intro fs i s b h
  obtain ⟨j, u, h, e2⟩ := mem_ownL.mp h
  by_cases e : i = j
  · subst e
    by_cases l : i < fs.length
    · rw [List.getElem?_set_self l] at h
      cases Option.some.inj h
      exact .inr e2
    · rw [List.getElem?_eq_none (by simpa using l)] at h
      cases h
  · rw [List.getElem?_set_ne e] at h
    exact .inl (mem_ownL.mpr ⟨j, u, h, e2⟩)
theorem ownL_set_sub : ∀ {fs : Fm} {i : Nat} {s : Slot}, adr s = none → (ownL (fs.set i s)).Sublist (ownL fs)
  | [], i, s, _ => by simp [ownL]
  | x :: r, 0, s, h => by
    rw [List.set_cons_zero, ownL_cons, ownL_cons, h]
    exact List.sublist_append_right _ _
  | x :: r, i + 1, s, h => by
    rw [List.set_cons_succ, ownL_cons, ownL_cons]
    exact List.Sublist.append (List.Sublist.refl _) (ownL_set_sub h)
theorem nodup_set : ∀ {fs : Fm} {i : Nat} {a : Addr} {s : Slot}, (ownL fs).Nodup → a ∉ ownL fs → adr s = some a → (ownL (fs.set i s)).Nodup
  | [], i, a, s, h, _, _ => by simp [ownL]
  | x :: r, 0, a, s, h, n, e => by
    rw [ownL_cons] at h n
    rw [List.set_cons_zero, ownL_cons, e]
    exact List.nodup_cons.mpr ⟨fun z => n (List.mem_append_right _ z), (List.nodup_append.mp h).2.1⟩
  | x :: r, i + 1, a, s, h, n, e => by
    rw [ownL_cons] at h n
    rw [List.set_cons_succ, ownL_cons]
    obtain ⟨h1, h2, h3⟩ := List.nodup_append.mp h
    refine List.nodup_append.mpr ⟨h1, nodup_set h2 (fun z => n (List.mem_append_right _ z)) e, fun b hb c hc => ?_⟩
    rcases ownL_set hc with z | z
    · exact h3 b hb c z
    · rw [e] at z; cases Option.some.inj z
      exact fun q => n (List.mem_append_left _ (by rw [← q]; exact hb))
theorem ownL_putS : ∀ {fs : Fm} {i : Nat} {s u : Slot}, fs[i]? = some s → adr u = adr s → ownL (fs.set i u) = ownL fs
  | [], i, s, u, h, _ => by simp at h
  | x :: r, 0, s, u, h, e => by
    cases Option.some.inj h
    rw [List.set_cons_zero, ownL_cons, ownL_cons, e]
  | x :: r, i + 1, s, u, h, e => by
    rw [List.set_cons_succ, ownL_cons, ownL_cons, ownL_putS (fs := r) h e]
theorem ownL_put {fs : Fm} {i : Nat} {a : Addr} {d d' : PyData} (h : fs[i]? = some (.own a d)) : ownL (fs.set i (.own a d')) = ownL fs := ownL_putS h rfl
theorem own_injS : ∀ {fs : Fm} {i j : Nat} {a : Addr} {s u : Slot}, (ownL fs).Nodup → fs[i]? = some s → fs[j]? = some u → adr s = some a → adr u = some a → i = j
  | [], i, j, a, d, e, _, h, _, _, _ => by simp at h
  | x :: r, 0, 0, a, d, e, _, _, _, _, _ => rfl
  | x :: r, 0, j + 1, a, s, u, n, h, g, e1, e2 => by
    cases Option.some.inj h
    rw [ownL_cons, e1] at n
    exact absurd (mem_ownL.mpr ⟨j, u, g, e2⟩) (List.nodup_cons.mp n).1
  | x :: r, i + 1, 0, a, s, u, n, h, g, e1, e2 => by
    cases Option.some.inj g
    rw [ownL_cons, e2] at n
    exact absurd (mem_ownL.mpr ⟨i, s, h, e1⟩) (List.nodup_cons.mp n).1
  | x :: r, i + 1, j + 1, a, s, u, n, h, g, e1, e2 => by
    rw [ownL_cons] at n
    exact congrArg (· + 1) (own_injS (fs := r) (List.nodup_append.mp n).2.1 h g e1 e2)
theorem own_inj {fs : Fm} {i j : Nat} {a : Addr} {d e : PyData} (n : (ownL fs).Nodup) (h : fs[i]? = some (.own a d)) (g : fs[j]? = some (.own a e)) : i = j := own_injS n h g rfl rfl

/-- an owned list or dict -/
def Ow (K : PySem.W.Frag) (S H : Hp) (a : Addr) : PyData → Prop
  | .list ds => ∃ vs, H a = some (.lst vs) ∧ RpAll K S vs ds
  | .dict es => ∃ kvs, H a = some (.dK kvs) ∧ RpKV K S kvs es
  | _ => False
section
variable {K : PySem.W.Frag} {S S' H H' : Hp} {a : Addr} {d : PyData}
theorem Ow.lk (e : LkR S S') (k : H' a = H a) (h : Ow K S H a d) : Ow K S' H' a d := by
  cases d with
  | list ds => obtain ⟨vs, h1, h2⟩ := h; exact ⟨vs, k.trans h1, h2.lk e⟩
  | dict es => obtain ⟨vs, h1, h2⟩ := h; exact ⟨vs, k.trans h1, h2.lk e⟩
  | _ => exact h.elim
theorem Ow.mono (e : Same S S') (k : H' a = H a) (h : Ow K S H a d) : Ow K S' H' a d := h.lk (same_lk e) k
theorem Ow.there (h : Ow K S H a d) : ∃ o, H a = some o := by
  cases d with
  | list ds => obtain ⟨vs, h1, h2⟩ := h; exact ⟨_, h1⟩
  | dict es => obtain ⟨vs, h1, h2⟩ := h; exact ⟨_, h1⟩
  | _ => exact h.elim
theorem Ow.rp (e : Same S H) (h : Ow K S H a d) : Rp K H (.ref a) d := by
  cases d with
  | list ds => obtain ⟨vs, h1, h2⟩ := h; exact .lst (SqL.of h1) (h2.mono e)
  | dict es => obtain ⟨vs, h1, h2⟩ := h; exact .dct (.inl h1) (h2.mono e)
  | _ => exact h.elim
end

def FldR (K : PySem.W.Frag) (S : Hp) (v : V) : Fld → Prop
  | .dat d => Rp K S v d
  | .at g => v = .ref g
inductive FrK (K : PySem.W.Frag) (S : Hp) {α : Type} : List (α × V) → List (α × Fld) → Prop
  | nil : FrK K S [] []
  | cons {k : α} {v : V} {f : Fld} {vs : List (α × V)} {fs : List (α × Fld)} : FldR K S v f → FrK K S vs fs → FrK K S ((k, v) :: vs) ((k, f) :: fs)
inductive FrS (K : PySem.W.Frag) (S : Hp) : List V → List Fld → Prop
  | nil : FrS K S [] []
  | cons {v : V} {f : Fld} {vs : List V} {fs : List Fld} : FldR K S v f → FrS K S vs fs → FrS K S (v :: vs) (f :: fs)
theorem FldR.lk {K : PySem.W.Frag} {S S' : Hp} {v : V} {f : Fld} (e : LkR S S') (h : FldR K S v f) : FldR K S' v f := by
  cases f with
  | dat d => exact Rp.lk e h
  | «at» g => exact h
theorem FrK.lk {K : PySem.W.Frag} {S S' : Hp} {α : Type} {vs : List (α × V)} {fs : List (α × Fld)} (e : LkR S S') (h : FrK K S vs fs) : FrK K S' vs fs := by
  induction h with
  | nil => exact .nil
  | cons a _ ih => exact .cons (a.lk e) ih
theorem FrS.lk {K : PySem.W.Frag} {S S' : Hp} {vs : List V} {fs : List Fld} (e : LkR S S') (h : FrS K S vs fs) : FrS K S' vs fs := by
  induction h with
  | nil => exact .nil
  | cons a _ ih => exact .cons (a.lk e) ih
def MixR (K : PySem.W.Frag) (S H : Hp) (a : Addr) : Mix → Prop
  | .ins C fs => ∃ dx vs, H a = some (.ins C dx vs) ∧ FrK K S vs fs
  | .dct fs => ∃ vs, H a = some (.dK vs) ∧ FrK K S vs fs
  | .seq fs => ∃ vs, H a = some (.lst vs) ∧ FrS K S vs fs
theorem MixR.lk {K : PySem.W.Frag} {S S' H H' : Hp} {a : Addr} {m : Mix} (e : LkR S S') (k : H' a = H a) (h : MixR K S H a m) : MixR K S' H' a m := by
  cases m with
  | ins C fs => obtain ⟨dx, vs, h1, h2⟩ := h; exact ⟨dx, vs, k.trans h1, h2.lk e⟩
  | dct fs => obtain ⟨vs, h1, h2⟩ := h; exact ⟨vs, k.trans h1, h2.lk e⟩
  | seq fs => obtain ⟨vs, h1, h2⟩ := h; exact ⟨vs, k.trans h1, h2.lk e⟩
theorem MixR.there {K : PySem.W.Frag} {S H : Hp} {a : Addr} {m : Mix} (h : MixR K S H a m) : ∃ o, H a = some o := by
  cases m with
  | ins C fs => obtain ⟨dx, vs, h1, h2⟩ := h; exact ⟨_, h1⟩
  | dct fs => obtain ⟨vs, h1, h2⟩ := h; exact ⟨_, h1⟩
  | seq fs => obtain ⟨vs, h1, h2⟩ := h; exact ⟨_, h1⟩
def SlR (K : PySem.W.Frag) (S H : Hp) : Option V → Slot → Prop
  | _, .no => True
  | some v, .ref a => v = .ref a
  | some v, .dat d => Rp K S v d
  | some v, .own a d => v = .ref a ∧ Ow K S H a d
  | some v, .raw a o => v = .ref a ∧ H a = some o
  | some v, .isv w d => v = w ∧ Rp K S v d
  | some v, .mix a m => v = .ref a ∧ MixR K S H a m
  | none, _ => False
section
variable {K : PySem.W.Frag} {S S' H H' : Hp} {ov : Option V} {s : Slot} {a : Addr}
theorem SlR.lk (e : LkR S S') (k : ∀ a, adr s = some a → H' a = H a) (h : SlR K S H ov s) : SlR K S' H' ov s := by
  cases s with
  | no => cases ov <;> trivial
  | ref q =>
    cases ov with
    | none => exact h.elim
    | some v => exact h
  | dat d =>
    cases ov with
    | none => exact h.elim
    | some v => exact Rp.lk e h
  | own a d =>
    cases ov with
    | none => exact h.elim
    | some v => exact ⟨h.1, h.2.lk e (k a rfl)⟩
  | raw a o =>
    cases ov with
    | none => exact h.elim
    | some v => exact ⟨h.1, (k a rfl).trans h.2⟩
  | isv w d =>
    cases ov with
    | none => exact h.elim
    | some v => exact ⟨h.1, Rp.lk e h.2⟩
  | mix a m =>
    cases ov with
    | none => exact h.elim
    | some v => exact ⟨h.1, h.2.lk e (k a rfl)⟩
theorem SlR.mono (e : Same S S') (k : ∀ a, adr s = some a → H' a = H a) (h : SlR K S H ov s) : SlR K S' H' ov s := h.lk (same_lk e) k
theorem SlR.adr (h : SlR K S H ov s) (e : adr s = some a) : ov = some (.ref a) ∧ ∃ o, H a = some o := by
  cases s with
  | own b d =>
    cases Option.some.inj e
    cases ov with
    | none => exact h.elim
    | some v => exact ⟨congrArg some h.1, h.2.there⟩
  | raw b o =>
    cases Option.some.inj e
    cases ov with
    | none => exact h.elim
    | some v => exact ⟨congrArg some h.1, _, h.2⟩
  | mix b m =>
    cases Option.some.inj e
    cases ov with
    | none => exact h.elim
    | some v => exact ⟨congrArg some h.1, h.2.there⟩
  | _ => cases e
end

/-- slots beyond the names are ghosts: what they tell of stands in the heap alone -/
structure ER (K : PySem.W.Frag) (T : Addr → Bool) (σ : L2.St) (H : Hp) (fs : Fm) : Prop where
  len : σ.length ≤ fs.length
  sl : ∀ (i : Nat) (s : Slot), fs[i]? = some s → ∃ ov, (i < σ.length → σ[i]? = some ov) ∧ SlR K (cut H (tt T (ownL fs))) H ov s
  nd : (ownL fs).Nodup
  out : ∀ a ∈ ownL fs, T a = false
  dom : ∀ b, T b = true → H b ≠ none
section
variable {K : PySem.W.Frag} {T : Addr → Bool} {σ : L2.St} {H H' : Hp} {fs : Fm} {i : Nat} {v : V} {d : PyData} {a : Addr} {s : Slot}
theorem ER.own (E : ER K T σ H fs) (h : fs[i]? = some (.own a d)) : (i < σ.length → σ[i]? = some (some (.ref a))) ∧ Ow K (cut H (tt T (ownL fs))) H a d := by
  obtain ⟨ov, h1, h2⟩ := E.sl i _ h
  cases ov with
  | none => exact h2.elim
  | some v =>
    obtain ⟨e, q⟩ := h2
    subst e
    exact ⟨h1, q⟩
theorem ER.raw {o : HO} (E : ER K T σ H fs) (h : fs[i]? = some (.raw a o)) : (i < σ.length → σ[i]? = some (some (.ref a))) ∧ H a = some o := by
  obtain ⟨ov, h1, h2⟩ := E.sl i _ h
  cases ov with
  | none => exact h2.elim
  | some v =>
    obtain ⟨e, q⟩ := h2
    subst e
    exact ⟨h1, q⟩
theorem ER.mix {m : Mix} (E : ER K T σ H fs) (h : fs[i]? = some (.mix a m)) : (i < σ.length → σ[i]? = some (some (.ref a))) ∧ MixR K (cut H (tt T (ownL fs))) H a m := by
  obtain ⟨ov, h1, h2⟩ := E.sl i _ h
  cases ov with
  | none => exact h2.elim
  | some v =>
    obtain ⟨e, q⟩ := h2
    subst e
    exact ⟨h1, q⟩
theorem ER.dat (E : ER K T σ H fs) (h : fs[i]? = some (.dat d)) : ∃ v, (i < σ.length → σ[i]? = some (some v)) ∧ Rp K (cut H (tt T (ownL fs))) v d := by
  obtain ⟨ov, h1, h2⟩ := E.sl i _ h
  cases ov with
  | none => exact h2.elim
  | some v => exact ⟨v, h1, h2⟩
theorem ER.isv (E : ER K T σ H fs) (h : fs[i]? = some (.isv v d)) : (i < σ.length → σ[i]? = some (some v)) ∧ Rp K (cut H (tt T (ownL fs))) v d := by
  obtain ⟨ov, h1, h2⟩ := E.sl i _ h
  cases ov with
  | none => exact h2.elim
  | some w =>
    obtain ⟨e, q⟩ := h2
    subst e
    exact ⟨h1, q⟩
theorem ER.thereL (E : ER K T σ H fs) (h : a ∈ ownL fs) : ∃ o, H a = some o := by
  obtain ⟨i, s, h, e⟩ := mem_ownL.mp h
  obtain ⟨ov, h1, h2⟩ := E.sl i s h
  exact (h2.adr e).2
theorem ER.there (E : ER K T σ H fs) (h : tt T (ownL fs) a = true) : ∃ o, H a = some o := by
  unfold tt at h
  rw [Bool.or_eq_true] at h
  rcases h with h | h
  · have := E.dom a h
    cases e : H a with
    | none => exact absurd e this
    | some o => exact ⟨o, rfl⟩
  · exact E.thereL (of_decide_eq_true h)
/-- what is not tracked is nobody's -/
theorem ER.free (E : ER K T σ H fs) (h : H a = none) : tt T (ownL fs) a = false := by
  cases e : tt T (ownL fs) a with
  | false => rfl
  | true =>
    obtain ⟨o, q⟩ := E.there e
    rw [h] at q; cases q
/-- all but what is owned stays, what is owned too -/
theorem ER.keep (E : ER K T σ H fs) (k : Same H H') : ER K T σ H' fs where
  len := E.len
  sl := fun i s h => by
    obtain ⟨ov, h1, h2⟩ := E.sl i s h
    refine ⟨ov, h1, h2.mono (cut_same fun b o e q => ⟨e, k b o q⟩) fun a e => ?_⟩
    obtain ⟨o, q⟩ := (h2.adr e).2
    rw [q, k _ _ q]
  nd := E.nd
  out := E.out
  dom := fun b h => by
    obtain ⟨o, q⟩ := E.there (a := b) (by unfold tt; rw [h]; rfl)
    rw [k _ _ q]; exact fun z => by cases z
/-- a slot that owns nothing is written -/
theorem ER.setS {ov : Option V} (E : ER K T σ H fs) (e : adr s = none) (r : SlR K (cut H (tt T (ownL (fs.set i s)))) H ov s) : ER K T (σ.set i ov) H (fs.set i s) := by
  have sub : ∀ b, tt T (ownL fs) b = false → tt T (ownL (fs.set i s)) b = false := fun b h => by
    obtain ⟨h1, h2⟩ := tt_false.mp h
    refine tt_false.mpr ⟨h1, fun z => ?_⟩
    rcases ownL_set z with z | z
    · exact h2 z
    · rw [e] at z; cases z
  have up : Same (cut H (tt T (ownL fs))) (cut H (tt T (ownL (fs.set i s)))) := cut_same fun b o e q => ⟨sub b e, q⟩
  refine ⟨by simpa using E.len, fun j u h => ?_, E.nd.sublist (ownL_set_sub e), fun a h => ?_, E.dom⟩
  · by_cases q : i = j
    · subst q
      by_cases l : i < fs.length
      · rw [List.getElem?_set_self l] at h
        cases Option.some.inj h
        exact ⟨ov, fun l2 => by rw [List.getElem?_set_self (by simpa using l2)], r⟩
      · rw [List.getElem?_eq_none (by simpa using l)] at h
        cases h
    · rw [List.getElem?_set_ne q] at h
      obtain ⟨ov, h1, h2⟩ := E.sl j u h
      exact ⟨ov, fun l2 => by rw [List.getElem?_set_ne q]; exact h1 (by simpa using l2), h2.mono up fun _ _ => rfl⟩
  · rcases ownL_set h with z | z
    · exact E.out a z
    · rw [e] at z; cases z
theorem up_setS {T : Addr → Bool} {H : Hp} {fs : Fm} {i : Nat} {s : Slot} (e : adr s = none) : Same (cut H (tt T (ownL fs))) (cut H (tt T (ownL (fs.set i s)))) := cut_same fun b o q z => by
  obtain ⟨h1, h2⟩ := tt_false.mp q
  refine ⟨tt_false.mpr ⟨h1, fun y => ?_⟩, z⟩
  rcases ownL_set y with y | y
  · exact h2 y
  · rw [e] at y; cases y
theorem ER.setDat (E : ER K T σ H fs) (r : Rp K (cut H (tt T (ownL fs))) v d) : ER K T (σ.set i (some v)) H (fs.set i (.dat d)) := E.setS (s := .dat d) (ov := some v) rfl (Rp.mono (up_setS rfl) r)
theorem ER.setIsv (E : ER K T σ H fs) (r : Rp K (cut H (tt T (ownL fs))) v d) : ER K T (σ.set i (some v)) H (fs.set i (.isv v d)) := E.setS (s := .isv v d) (ov := some v) rfl ⟨rfl, Rp.mono (up_setS rfl) r⟩
end
/-- the heap without one object -/
def hide (H : Hp) (a : Addr) : Hp := cut H fun b => decide (b = a)
theorem hide_self (H : Hp) (a : Addr) : hide H a a = none := by simp [hide, cut]
theorem hide_ne {H : Hp} {a b : Addr} (h : b ≠ a) : hide H a b = H b := by simp [hide, cut, h]
theorem hide_same (H : Hp) (a : Addr) : Same (hide H a) H := cut_all H _
theorem same_hide {H H' : Hp} {a : Addr} (k : Same H H') (n : H a = none) : Same H (hide H' a) := fun b o e => by
  rw [hide_ne (fun z => by rw [z, n] at e; cases e)]
  exact k b o e
section
variable {K : PySem.W.Frag} {T : Addr → Bool} {σ : L2.St} {H H' : Hp} {fs : Fm} {i : Nat} {v : V} {d d' : PyData} {a : Addr} {s u : Slot}
theorem ER.setAt (E : ER K T σ (hide H a) fs) (ea : adr s = some a) (r : SlR K (cut (hide H a) (tt T (ownL fs))) H (some (.ref a)) s) : ER K T (σ.set i (some (.ref a))) H (fs.set i s) := by
  have f : tt T (ownL fs) a = false := E.free (hide_self H a)
  obtain ⟨f1, f2⟩ := tt_false.mp f
  have sub : ∀ b, b ≠ a → tt T (ownL fs) b = false → tt T (ownL (fs.set i s)) b = false := fun b n h => by
    obtain ⟨h1, h2⟩ := tt_false.mp h
    refine tt_false.mpr ⟨h1, fun z => ?_⟩
    rcases ownL_set z with z | z
    · exact h2 z
    · rw [ea] at z; exact n (Option.some.inj z).symm
  have up : Same (cut (hide H a) (tt T (ownL fs))) (cut H (tt T (ownL (fs.set i s)))) := cut_same fun b o e q => by
    have n : b ≠ a := fun z => by rw [z, hide_self] at q; cases q
    rw [hide_ne n] at q
    exact ⟨sub b n e, q⟩
  have dom : ∀ b, T b = true → H b ≠ none := fun b h z => E.dom b h (by
    by_cases n : b = a
    · rw [n]; exact hide_self H a
    · rw [hide_ne n]; exact z)
  by_cases l : i < fs.length
  · refine ⟨by simpa using E.len, fun j u h => ?_, nodup_set E.nd f2 ea, fun b h => ?_, dom⟩
    · by_cases e : i = j
      · subst e
        rw [List.getElem?_set_self l] at h
        cases Option.some.inj h
        exact ⟨some (.ref a), fun l2 => by rw [List.getElem?_set_self (by simpa using l2)], r.mono up fun _ _ => rfl⟩
      · rw [List.getElem?_set_ne e] at h
        obtain ⟨ov, h1, h2⟩ := E.sl j u h
        refine ⟨ov, fun l2 => by rw [List.getElem?_set_ne e]; exact h1 (by simpa using l2), h2.mono up fun b q => ?_⟩
        exact (hide_ne (fun z => f2 (mem_ownL.mpr ⟨j, u, h, by rw [← z]; exact q⟩))).symm
    · rcases ownL_set h with z | z
      · exact E.out b z
      · rw [ea] at z; rw [← Option.some.inj z]; exact f1
  · have q := E.keep (hide_same H a)
    rw [List.set_eq_of_length_le (by have := E.len; omega), List.set_eq_of_length_le (by omega)]
    exact q
theorem ER.setOwn (E : ER K T σ (hide H a) fs) (r : Ow K (cut (hide H a) (tt T (ownL fs))) H a d) : ER K T (σ.set i (some (.ref a))) H (fs.set i (.own a d)) := E.setAt (s := .own a d) rfl ⟨rfl, r⟩
/-- an owned object is written -/
theorem ER.putS (E : ER K T σ H fs) (h : fs[i]? = some s) (ea : adr s = some a) (eu : adr u = some a) (k : ∀ b o, b ≠ a → H b = some o → H' b = some o) (r : SlR K (cut H' (tt T (ownL fs))) H' (some (.ref a)) u) : ER K T σ H' (fs.set i u) := by
  have eo : ownL (fs.set i u) = ownL fs := ownL_putS h (eu.trans ea.symm)
  have ia : a ∈ ownL fs := mem_ownL.mpr ⟨i, s, h, ea⟩
  have l : i < fs.length := (List.getElem?_eq_some_iff.mp h).1
  have up : Same (cut H (tt T (ownL fs))) (cut H' (tt T (ownL fs))) := cut_same fun b q e z => ⟨e, k b q (fun n => (tt_false.mp e).2 (by rw [n]; exact ia)) z⟩
  refine ⟨by simpa using E.len, fun j w g => ?_, by rw [eo]; exact E.nd, fun b z => E.out b (by rw [eo] at z; exact z), fun b z => ?_⟩
  · rw [eo]
    by_cases e : i = j
    · subst e
      rw [List.getElem?_set_self l] at g
      cases Option.some.inj g
      obtain ⟨ov, h1, h2⟩ := E.sl i s h
      exact ⟨some (.ref a), fun l2 => by rw [← (h2.adr ea).1]; exact h1 l2, r⟩
    · rw [List.getElem?_set_ne e] at g
      obtain ⟨ov, h1, h2⟩ := E.sl j w g
      refine ⟨ov, h1, h2.mono up fun b q => ?_⟩
      obtain ⟨o, ho⟩ := (h2.adr q).2
      rw [ho, k _ _ (fun n => e (own_injS E.nd h g ea (by rw [← n]; exact q))) ho]
  · obtain ⟨o, ho⟩ := E.there (a := b) (by unfold tt; rw [z]; rfl)
    by_cases n : b = a
    · obtain ⟨o', ho'⟩ := (r.adr eu).2
      rw [n, ho']; exact fun z => by cases z
    · rw [k b o n ho]; exact fun z => by cases z
theorem ER.put (E : ER K T σ H fs) (h : fs[i]? = some (.own a d)) (k : ∀ b o, b ≠ a → H b = some o → H' b = some o) (r : Ow K (cut H' (tt T (ownL fs))) H' a d') : ER K T σ H' (fs.set i (.own a d')) := E.putS (u := .own a d') h rfl rfl k ⟨rfl, r⟩
end
/-- what is not owned stays -/
def Kp (H H' : Hp) (l : List Addr) : Prop := ∀ b o, b ∉ l → H b = some o → H' b = some o
theorem Kp.refl (H : Hp) (l : List Addr) : Kp H H l := fun _ _ _ h => h
theorem Kp.trans {H H1 H2 : Hp} {l : List Addr} (a : Kp H H1 l) (b : Kp H1 H2 l) : Kp H H2 l := fun c o n h => b c o n (a c o n h)
theorem Kp.of {H H' : Hp} {l : List Addr} (a : Same H H') : Kp H H' l := fun c o _ h => a c o h
theorem Kp.up {H H' : Hp} {T : Addr → Bool} {l l' : List Addr} (k : Kp H H' l) (e : l' = l) : Same (cut H (tt T l)) (cut H' (tt T l')) := by
  subst e
  exact cut_same fun b o n h => ⟨n, k b o (tt_false.mp n).2 h⟩

/-! ### results -/
inductive Res where
  /-- data | a new list or dict | an owned one, by its name | a new pair, the second one new too -/
  | val (d : PyData) | new (d : PyData) | at (a : Addr) (d : PyData) | two (d e : PyData)
  /-- a new pair, both parts new -/
  | tw (d e : PyData)
def Res.d : Res → PyData
  | .val d => d
  | .new d => d
  | .at _ d => d
  | .two d e => .tuple [d, e]
  | .tw d e => .tuple [d, e]
/-- the heap without the three -/
def hide3 (H : Hp) (h g a : Addr) : Hp := hide (hide (hide H h) g) a
theorem hide3_same (H : Hp) (h g a : Addr) : Same (hide3 H h g a) H := fun b o z => hide_same H h b o (hide_same _ g b o (hide_same _ a b o z))
theorem hide3_ne {H : Hp} {h g a b : Addr} (n1 : b ≠ h) (n2 : b ≠ g) (n3 : b ≠ a) : hide3 H h g a b = H b := by unfold hide3; rw [hide_ne n3, hide_ne n2, hide_ne n1]
theorem hide3_a (H : Hp) (h g a : Addr) : hide3 H h g a a = none := hide_self _ a
theorem hide3_g (H : Hp) (h g a : Addr) : hide3 H h g a g = none := by
  unfold hide3
  by_cases e : g = a
  · rw [e]; exact hide_self _ a
  · rw [hide_ne e]; exact hide_self _ g
theorem hide3_h (H : Hp) (h g a : Addr) : hide3 H h g a h = none := by
  unfold hide3
  by_cases e : h = a
  · rw [e]; exact hide_self _ a
  · rw [hide_ne e]
    by_cases e2 : h = g
    · rw [e2]; exact hide_self _ g
    · rw [hide_ne e2]; exact hide_self _ h
def Po (K : PySem.W.Frag) (T : Addr → Bool) (σ : L2.St) (H0 H : Hp) (fs : Fm) (v : V) : Res → Prop
  | .val d => ER K T σ H fs ∧ Rp K (cut H (tt T (ownL fs))) v d
  | .new d => ∃ a, v = .ref a ∧ H0 a = none ∧ ER K T σ (hide H a) fs ∧ Ow K (cut (hide H a) (tt T (ownL fs))) H a d
  | .at a d => ER K T σ H fs ∧ v = .ref a ∧ ∃ i : Nat, fs[i]? = some (.own a d)
  | .two d e => ∃ a g v1, v = .ref a ∧ H0 a = none ∧ H0 g = none ∧ a ≠ g ∧ H a = some (.tup [v1, .ref g]) ∧ ER K T σ (hide (hide H g) a) fs ∧ Rp K (cut (hide (hide H g) a) (tt T (ownL fs))) v1 d ∧ Ow K (cut (hide (hide H g) a) (tt T (ownL fs))) H g e
  | .tw d e => ∃ a g h, v = .ref a ∧ H0 a = none ∧ H0 g = none ∧ H0 h = none ∧ a ≠ g ∧ a ≠ h ∧ g ≠ h ∧ H a = some (.tup [.ref g, .ref h]) ∧ ER K T σ (hide3 H h g a) fs ∧ Ow K (cut (hide3 H h g a) (tt T (ownL fs))) H g d ∧ Ow K (cut (hide3 H h g a) (tt T (ownL fs))) H h e
section
variable {K : PySem.W.Frag} {T : Addr → Bool} {σ : L2.St} {H0 H H' : Hp} {fs : Fm} {v : V} {r : Res} {d : PyData}
theorem Po.er (p : Po K T σ H0 H fs v r) : ER K T σ H fs := by
  cases r with
  | val d => exact p.1
  | new d => obtain ⟨a, _, _, h, _⟩ := p; exact h.keep (hide_same H a)
  | «at» a d => exact p.1
  | two d e => obtain ⟨a, g, _, _, _, _, _, _, h, _⟩ := p; exact h.keep fun b o z => hide_same H g b o (hide_same _ a b o z)
  | tw d e => obtain ⟨a, g, h, _, _, _, _, _, _, _, _, E, _⟩ := p; exact E.keep (hide3_same H h g a)
theorem Po.toVal (p : Po K T σ H0 H fs v (.new d)) : Po K T σ H0 H fs v (.val d) := by
  have er := p.er
  obtain ⟨a, rfl, n, h, q⟩ := p
  have f : tt T (ownL fs) a = false := h.free (hide_self H a)
  refine ⟨er, ?_⟩
  have m : Same (cut (hide H a) (tt T (ownL fs))) (cut H (tt T (ownL fs))) := cut_same fun b o e z => ⟨e, hide_same H a b o z⟩
  obtain ⟨o, ho⟩ := q.there
  refine Ow.rp (S := cut (hide H a) (tt T (ownL fs))) m (q.mono (fun _ _ z => z) ?_)
  rw [ho]; exact cut_of f ho
theorem Po.pairVal {d e : PyData} (p : Po K T σ H0 H fs v (.two d e)) : Po K T σ H0 H fs v (.val (.tuple [d, e])) := by
  have er := p.er
  obtain ⟨a, g, v1, rfl, n1, n2, ne, ha, h, rv, q⟩ := p
  have fa : tt T (ownL fs) a = false := h.free (hide_self _ a)
  have fg : tt T (ownL fs) g = false := h.free (by rw [hide_ne (fun z => ne z.symm)]; exact hide_self H g)
  have m : Same (cut (hide (hide H g) a) (tt T (ownL fs))) (cut H (tt T (ownL fs))) := cut_same fun b o e z => ⟨e, hide_same H g b o (hide_same _ a b o z)⟩
  obtain ⟨o, ho⟩ := q.there
  have rg : Rp K (cut H (tt T (ownL fs))) (.ref g) e := Ow.rp (S := cut (hide (hide H g) a) (tt T (ownL fs))) m (q.mono (fun _ _ z => z) (by rw [ho]; exact cut_of fg ho))
  exact ⟨er, .tup (xs := [v1, .ref g]) (.inl (.inl (cut_of fa ha))) (.cons (rv.mono m) (.cons rg .nil))⟩
theorem Po.twVal {d e : PyData} (p : Po K T σ H0 H fs v (.tw d e)) : Po K T σ H0 H fs v (.val (.tuple [d, e])) := by
  have er := p.er
  obtain ⟨a, g, h, rfl, n1, n2, n3, ag, ah, gh, ha, E, w1, w2⟩ := p
  have fa : tt T (ownL fs) a = false := E.free (hide3_a ..)
  have fg : tt T (ownL fs) g = false := E.free (hide3_g ..)
  have fh : tt T (ownL fs) h = false := E.free (hide3_h ..)
  have m : Same (cut (hide3 H h g a) (tt T (ownL fs))) (cut H (tt T (ownL fs))) := cut_same fun b o e z => ⟨e, hide3_same H h g a b o z⟩
  obtain ⟨o1, ho1⟩ := w1.there
  obtain ⟨o2, ho2⟩ := w2.there
  have rg : Rp K (cut H (tt T (ownL fs))) (.ref g) d := Ow.rp (S := cut (hide3 H h g a) (tt T (ownL fs))) m (w1.mono (fun _ _ z => z) (by rw [ho1]; exact cut_of fg ho1))
  have rh : Rp K (cut H (tt T (ownL fs))) (.ref h) e := Ow.rp (S := cut (hide3 H h g a) (tt T (ownL fs))) m (w2.mono (fun _ _ z => z) (by rw [ho2]; exact cut_of fh ho2))
  exact ⟨er, .tup (xs := [.ref g, .ref h]) (.inl (.inl (cut_of fa ha))) (.cons rg (.cons rh .nil))⟩
/-- a list, however it lies -/
theorem Po.list {ds : List PyData} (p : Po K T σ H0 H fs v r) (e : r.d = .list ds) : ∃ a vs, v = .ref a ∧ SqL K H a vs ∧ RpAll K (cut H (tt T (ownL fs))) vs ds := by
  cases r with
  | val d =>
    cases (show d = .list ds from e)
    obtain ⟨a, vs, e, s, q⟩ := p.2.lst_inv
    exact ⟨a, vs, e, sqL_same (cut_all _ _) s, q⟩
  | new d =>
    cases (show d = .list ds from e)
    obtain ⟨a, vs, e, s, q⟩ := (Po.toVal p).2.lst_inv
    exact ⟨a, vs, e, sqL_same (cut_all _ _) s, q⟩
  | «at» a d =>
    cases (show d = .list ds from e)
    obtain ⟨er, rfl, i, hi⟩ := p
    obtain ⟨vs, h1, h2⟩ := (er.own hi).2
    exact ⟨a, vs, rfl, SqL.of h1, h2⟩
  | two d e' => cases e
  | tw d e' => cases e
theorem Po.tuple {ds : List PyData} (p : Po K T σ H0 H fs v (.val (.tuple ds))) : ∃ a vs, v = .ref a ∧ SqT K H a vs ∧ RpAll K (cut H (tt T (ownL fs))) vs ds := by
  obtain ⟨a, vs, e, s, q⟩ := p.2.tup_inv
  exact ⟨a, vs, e, sqT_same (cut_all _ _) s, q⟩
/-- all is as it was, seen from ahead -/
theorem Po.rp (p : Po K T σ H0 H fs v r) : Rp K H v r.d := by
  cases r with
  | val d => exact p.2.mono (cut_all _ _)
  | new d => exact (Po.toVal p).2.mono (cut_all _ _)
  | «at» a d =>
    obtain ⟨er, rfl, i, hi⟩ := p
    exact Ow.rp (cut_all _ _) (er.own hi).2
  | two d e => exact (Po.pairVal p).2.mono (cut_all _ _)
  | tw d e => exact (Po.twVal p).2.mono (cut_all _ _)
end
end A3
namespace A3
open PySem PySem.Spec PyProof.Rows L2

/-! ### products -/
def MulOk (i j : Int) : Prop := IntMulOk i j
theorem op_mulK {X : Cx} : OpR X (binaryOp .Mult) (rI MulOk fun i j => .int (i * j)) := opI fun _ _ _ _ _ _ _ hc q => mul_int q hc
/-- // by any number but 0 below 2 ^ 9000 -/
def CDivG (_ j : Int) : Prop := j ≠ 0 ∧ j.natAbs.log2 < 9000
theorem op_fdivG {X : Cx} : OpR X (binaryOp .FloorDiv) (rI CDivG fun i j => .int (i.fdiv j)) := opI fun i j _ _ _ _ _ hc q => floordiv_int hc.1 q (.inl (PyProof.noPylong_of_log2 hc.2))
theorem mulL {i j : Int} (h : i.natAbs < 18446744073709551616) : MulOk i j := CMul.ok (.inl ⟨by omega, by omega⟩)
theorem mulR {i j : Int} (h : j.natAbs < 18446744073709551616) : MulOk i j := CMul.ok (.inr ⟨by omega, by omega⟩)
/-- a number below a power of two -/
def Bd (n : Nat) (i : Int) : Prop := i.natAbs < 2 ^ n
theorem mulB {i j : Int} {n m : Nat} (hi : Bd n i) (hj : Bd m j) (h : n + m < 900000 := by decide) : MulOk i j :=
  CMulW.ok (wide_mul (a := n + 1) (b := m + 1) (Nat.lt_trans hi (Nat.pow_lt_pow_right (by decide) (by omega))) (Nat.lt_trans hj (Nat.pow_lt_pow_right (by decide) (by omega))) (by omega) (by omega) (by omega))
theorem divB {i j : Int} {n : Nat} (h : 0 < j) (hj : Bd n j) (hn : n < 8999 := by decide) : CDivW i j :=
  wide_div (b := n + 1) h (Nat.lt_trans hj (Nat.pow_lt_pow_right (by decide) (by omega))) (by omega) (by omega)
theorem divG {i j : Int} {n : Nat} (h : j ≠ 0) (hj : Bd n j) (hn : n < 8999 := by decide) : CDivG i j :=
  ⟨h, Nat.lt_of_lt_of_le (PySem.Flt.log2_lt_of (k := n + 1) (by omega) (Nat.lt_trans hj (Nat.pow_lt_pow_right (by decide) (by omega)))) (by omega)⟩
theorem divS {i j : Int} (h : 0 < j) (hj : j < 18446744073709551616) : CDivW i j := divB (n := 64) h (by unfold Bd; omega)

/-! ### the weakest readings -/
def bE (X : Cx) (e : Expr) : TE := fun σ H Q => ∀ pins s, Inv X pins σ H s → wpAny (model X.prog X.w) X.A (eval e X.env) (EP X pins σ Q) X.xe s
def bT (X : Cx) (e : Expr) : TT := fun σ H Q => ∀ pins s, Inv X pins σ H s → wpAny (model X.prog X.w) X.A (isTrue e X.env (eval e X.env)) (TP X pins σ Q) X.xe s
def bW (X : Cx) (e : Expr) : TT := fun σ H Q => ∀ whole pins s, Inv X pins σ H s → wpAny (model X.prog X.w) X.A (isTrue e X.env whole) (TP X pins σ Q) X.xe s
def bA (X : Cx) (es : List Expr) : TA := fun σ H Q => ∀ pos pins s, Inv X pins σ H s → wpAny (model X.prog X.w) X.A (spliced (backTo pos (starEach es X.env))) (AP X pins σ Q) X.xe s
def bS (X : Cx) (st : Stmt) : TS := fun D σ H => ∀ pins s, Inv X pins σ H s → wpAny (model X.prog X.w) X.A (exec st X.env) (SP X pins D) X.xe s
def bSs (X : Cx) (st : List Stmt) : TS := fun D σ H => ∀ pins s, Inv X pins σ H s → wpAny (model X.prog X.w) X.A (execs st X.env) (SP X pins D) X.xe s
section
variable {X : Cx} {e : Expr} {es : List Expr} {st : Stmt} {sts : List Stmt} {σ : L2.St} {H : Hp}
theorem best : PE X e (bE X e) := ⟨fun pins s _ _ _ I h => h pins s I⟩
theorem bestT : PT X e (bT X e) := ⟨fun pins s _ _ _ I h => h pins s I⟩
theorem bestW : PW X e (bW X e) := ⟨fun w pins s _ _ _ I h => h w pins s I⟩
theorem bestA : PA X es (bA X es) := ⟨fun pos pins s _ _ _ I h => h pos pins s I⟩
theorem bestS : PS X st (bS X st) := ⟨fun pins s _ _ _ I h => h pins s I⟩
theorem bestSs : PSs X sts (bSs X sts) := ⟨fun pins s _ _ _ I h => h pins s I⟩
theorem bE_of {t : TE} {Q : VK} (p : PE X e t) (h : t σ H Q) : bE X e σ H Q := fun pins s I => p.run pins s σ H Q I h
theorem bE_inv {Q : VK} (h : σ.length = X.N.length → bE X e σ H Q) : bE X e σ H Q := fun pins s I => h I.len pins s I
theorem bT_of {t : TT} {Q : Bool → Hp → Prop} (p : PT X e t) (h : t σ H Q) : bT X e σ H Q := fun pins s I => p.run pins s σ H Q I h
theorem bW_of {t : TT} {Q : Bool → Hp → Prop} (p : PW X e t) (h : t σ H Q) : bW X e σ H Q := fun w pins s I => p.run w pins s σ H Q I h
theorem bA_of {t : TA} {Q : List V → Hp → Prop} (p : PA X es t) (h : t σ H Q) : bA X es σ H Q := fun pos pins s I => p.run pos pins s σ H Q I h
theorem bS_of {t : TS} {D : Ends} (p : PS X st t) (h : t D σ H) : bS X st D σ H := fun pins s I => p.run pins s σ H D I h
theorem bSs_of {t : TS} {D : Ends} (p : PSs X sts t) (h : t D σ H) : bSs X sts D σ H := fun pins s I => p.run pins s σ H D I h
end

/-! ### the judgements over frames of data -/
/-- e, from fs, comes to r; fs' stands behind it -/
structure AE (X : Cx) (e : Expr) (fs fs' : Fm) (r : Res) : Prop where
  ow : ownL fs' = ownL fs
  run : ∀ (T : Addr → Bool) (σ : L2.St) (H : Hp) (Q : VK), ER X.K T σ H fs → (∀ v H', Kp H H' (ownL fs) → Po X.K T σ H H' fs' v r → Q v H') → bE X e σ H Q
structure AT (X : Cx) (e : Expr) (fs fs' : Fm) (b : Bool) : Prop where
  ow : ownL fs' = ownL fs
  run : ∀ (T : Addr → Bool) (σ : L2.St) (H : Hp) (Q : Bool → Hp → Prop), ER X.K T σ H fs → (∀ H', Kp H H' (ownL fs) → ER X.K T σ H' fs' → Q b H') → bT X e σ H Q
structure AW (X : Cx) (e : Expr) (fs fs' : Fm) (b : Bool) : Prop where
  ow : ownL fs' = ownL fs
  run : ∀ (T : Addr → Bool) (σ : L2.St) (H : Hp) (Q : Bool → Hp → Prop), ER X.K T σ H fs → (∀ H', Kp H H' (ownL fs) → ER X.K T σ H' fs' → Q b H') → bW X e σ H Q
/-- arguments: data -/
structure AD (X : Cx) (es : List Expr) (fs fs' : Fm) (ds : List PyData) : Prop where
  ow : ownL fs' = ownL fs
  run : ∀ (T : Addr → Bool) (σ : L2.St) (H : Hp) (Q : List V → Hp → Prop), ER X.K T σ H fs → (∀ vs H', Kp H H' (ownL fs) → ER X.K T σ H' fs' → RpAll X.K (cut H' (tt T (ownL fs'))) vs ds → Q vs H') → bA X es σ H Q
/-- arguments: data, and owned objects that are lent -/
inductive ArgR (K : PySem.W.Frag) (S : Hp) (fs : Fm) : List V → List Slot → Prop
  | nil : ArgR K S fs [] []
  | dat {v : V} {d : PyData} {vs : List V} {ss : List Slot} : Rp K S v d → ArgR K S fs vs ss → ArgR K S fs (v :: vs) (.dat d :: ss)
  | own {a : Addr} {d : PyData} {vs : List V} {ss : List Slot} (i : Nat) : fs[i]? = some (.own a d) → ArgR K S fs vs ss → ArgR K S fs (.ref a :: vs) (.own a d :: ss)
structure AA (X : Cx) (es : List Expr) (fs fs' : Fm) (ss : List Slot) : Prop where
  ow : ownL fs' = ownL fs
  run : ∀ (T : Addr → Bool) (σ : L2.St) (H : Hp) (Q : List V → Hp → Prop), ER X.K T σ H fs → (∀ vs H', Kp H H' (ownL fs) → ER X.K T σ H' fs' → ArgR X.K (cut H' (tt T (ownL fs'))) fs' vs ss → Q vs H') → bA X es σ H Q

section
variable {X : Cx} {a b c : Expr} {es : List Expr} {fs f1 f2 f3 : Fm} {d d1 d2 d3 : PyData} {r r1 r2 : Res} {pos : Pos} {T : Addr → Bool} {σ : L2.St} {H : Hp}
theorem AE.val (h : AE X a fs f1 (.new d)) : AE X a fs f1 (.val d) := ⟨h.ow, fun T σ H Q E q => h.run T σ H Q E fun v H' k p => q v H' k p.toVal⟩
theorem AE.is (h : AE X a fs f1 r) (e : r = r1) : AE X a fs f1 r1 := by rw [← e]; exact h
/-- two in a row -/
theorem two (ha : AE X a fs f1 (.val d1)) (hb : AE X b f1 f2 r2) (E : ER X.K T σ H fs) {R : V → V → Hp → Prop}
    (h : ∀ x y H1 H2, Kp H H2 (ownL fs) → Kp H H1 (ownL fs) → Rp X.K (cut H2 (tt T (ownL f2))) x d1 → Po X.K T σ H1 H2 f2 y r2 → R x y H2) : bE X a σ H (fun x H1 => bE X b σ H1 fun y H2 => R x y H2) :=
  ha.run T σ H _ E fun x H1 k1 p1 => hb.run T σ H1 _ p1.er fun y H2 k2 p2 => h x y H1 H2 (k1.trans (by rw [ha.ow] at k2; exact k2)) k1 (p1.2.mono (k2.up hb.ow)) p2
/-- a rule for two values that gives a scalar -/
theorem ae_rule2 {op : Operator} {rr : R2} (ho : OpR X (binaryOp op) rr) (ha : AE X a fs f1 (.val d1)) (hb : AE X b f1 f2 (.val d2))
    (h : ∀ (S H2 : Hp) (x y : V) (Q : VK), Same S H2 → Rp X.K S x d1 → Rp X.K S y d2 → (∀ v, (∀ S, Rp X.K S v d3) → Q v H2) → rr x y H2 Q) : AE X (.BinOp a op b pos) fs f2 (.val d3) := by
  refine ⟨hb.ow.trans ha.ow, fun T σ H Q E q => bE_of (pe_op ho best best) (two ha hb E fun x y H1 H2 k k1 rx p => ?_)⟩
  exact h _ H2 x y Q (cut_all _ _) rx p.2 fun v rv => q v H2 k ⟨p.1, rv _⟩
theorem ae_int2 {op : Operator} {C : Int → Int → Prop} {g : Int → Int → Int} {i j : Int} (ho : OpR X (binaryOp op) (rI C fun i j => .int (g i j))) (ha : AE X a fs f1 (.val (.int i))) (hb : AE X b f1 f2 (.val (.int j))) (hc : C i j) :
    AE X (.BinOp a op b pos) fs f2 (.val (.int (g i j))) :=
  ae_rule2 ho ha hb fun S H2 x y Q _ rx ry q => ⟨i, j, rx.int_inv, ry.int_inv, hc, q _ fun _ => .int _⟩
theorem ae_int20 {op : Operator} {g : Int → Int → Int} {i j : Int} (ho : OpR X (binaryOp op) (rI0 fun i j => .int (g i j))) (ha : AE X a fs f1 (.val (.int i))) (hb : AE X b f1 f2 (.val (.int j))) :
    AE X (.BinOp a op b pos) fs f2 (.val (.int (g i j))) :=
  ae_rule2 ho ha hb fun S H2 x y Q _ rx ry q => ⟨i, j, rx.int_inv, ry.int_inv, q _ fun _ => .int _⟩
variable {i j : Int}
theorem ae_add (ha : AE X a fs f1 (.val (.int i))) (hb : AE X b f1 f2 (.val (.int j))) : AE X (.BinOp a .Add b pos) fs f2 (.val (.int (i + j))) := ae_int20 op_add ha hb
theorem ae_sub (ha : AE X a fs f1 (.val (.int i))) (hb : AE X b f1 f2 (.val (.int j))) : AE X (.BinOp a .Sub b pos) fs f2 (.val (.int (i - j))) := ae_int20 op_sub ha hb
theorem ae_mul (ha : AE X a fs f1 (.val (.int i))) (hb : AE X b f1 f2 (.val (.int j))) (h : MulOk i j) : AE X (.BinOp a .Mult b pos) fs f2 (.val (.int (i * j))) := ae_int2 op_mulK ha hb h
theorem ae_div (ha : AE X a fs f1 (.val (.int i))) (hb : AE X b f1 f2 (.val (.int j))) (h : CDivW i j) : AE X (.BinOp a .FloorDiv b pos) fs f2 (.val (.int (i / j))) := ae_int2 op_fdivW ha hb h
theorem ae_fdiv (ha : AE X a fs f1 (.val (.int i))) (hb : AE X b f1 f2 (.val (.int j))) (h : CDivG i j) : AE X (.BinOp a .FloorDiv b pos) fs f2 (.val (.int (i.fdiv j))) := ae_int2 op_fdivG ha hb h
theorem ae_mod (ha : AE X a fs f1 (.val (.int i))) (hb : AE X b f1 f2 (.val (.int j))) (h : 0 < j) : AE X (.BinOp a .Mod b pos) fs f2 (.val (.int (i % j))) := ae_int2 op_mod ha hb h
theorem ae_pow (ha : AE X a fs f1 (.val (.int i))) (hb : AE X b f1 f2 (.val (.int j))) (h : CPow i j) : AE X (.BinOp a .Pow b pos) fs f2 (.val (.int (i ^ j.toNat))) := ae_int2 op_pow ha hb h

/-! names, constants -/
theorem ae_dat (n : Nat) {x : Str} (hN : X.N[n]? = some x := by rfl) (hv : Vis X.env.scope x := by first | exact Or.inl rfl | exact Or.inr (Or.inl rfl) | exact Or.inr (Or.inr rfl)) (hs : fs[n]? = some (.dat d) := by rfl)
    (hd : (x == ("__debug__" : Str)) = false := by decide) (hcd : (x == ("__classdict__" : Str)) = false := by decide) : AE X (.Name x pos) fs fs (.val d) := by
  refine ⟨rfl, fun T σ H Q E q => bE_inv fun L => bE_of (pe_var hN hv hd hcd) ?_⟩
  obtain ⟨v, e, r⟩ := E.dat hs
  exact ⟨v, e (by rw [L]; exact (List.getElem?_eq_some_iff.mp hN).1), q v H (Kp.refl _ _) ⟨E, r⟩⟩
theorem ae_isv (n : Nat) {x : Str} {v : V} (hN : X.N[n]? = some x := by rfl) (hv : Vis X.env.scope x := by first | exact Or.inl rfl | exact Or.inr (Or.inl rfl) | exact Or.inr (Or.inr rfl)) (hs : fs[n]? = some (.isv v d) := by rfl)
    (hd : (x == ("__debug__" : Str)) = false := by decide) (hcd : (x == ("__classdict__" : Str)) = false := by decide) : AE X (.Name x pos) fs fs (.val d) := by
  refine ⟨rfl, fun T σ H Q E q => bE_inv fun L => bE_of (pe_var hN hv hd hcd) ?_⟩
  obtain ⟨e, r⟩ := E.isv hs
  exact ⟨v, e (by rw [L]; exact (List.getElem?_eq_some_iff.mp hN).1), q v H (Kp.refl _ _) ⟨E, r⟩⟩
theorem ae_own (n : Nat) {x : Str} {l : Addr} (hN : X.N[n]? = some x := by rfl) (hv : Vis X.env.scope x := by first | exact Or.inl rfl | exact Or.inr (Or.inl rfl) | exact Or.inr (Or.inr rfl)) (hs : fs[n]? = some (.own l d) := by rfl)
    (hd : (x == ("__debug__" : Str)) = false := by decide) (hcd : (x == ("__classdict__" : Str)) = false := by decide) : AE X (.Name x pos) fs fs (.at l d) := by
  refine ⟨rfl, fun T σ H Q E q => bE_inv fun L => bE_of (pe_var hN hv hd hcd) ?_⟩
  exact ⟨.ref l, (E.own hs).1 (by rw [L]; exact (List.getElem?_eq_some_iff.mp hN).1), q _ H (Kp.refl _ _) ⟨E, rfl, n, hs⟩⟩
theorem ae_const {v : V} (p : PE X a (tC v)) (r : ∀ S, Rp X.K S v d) : AE X a fs fs (.val d) :=
  ⟨rfl, fun T σ H Q E q => bE_of p (q v H (Kp.refl _ _) ⟨E, r _⟩)⟩
theorem ae_int {k} : AE X (.Constant (.int i) k pos) fs fs (.val (.int i)) := ae_const pe_int fun _ => .int i
theorem ae_bl {k} {b : Bool} : AE X (.Constant (.bool b) k pos) fs fs (.val (.bool b)) := ae_const pe_bl fun _ => .bl b
theorem ae_non {k} : AE X (.Constant .none k pos) fs fs (.val .none) := ae_const pe_non fun _ => .non
theorem ae_str {k} {x : Str} : AE X (.Constant (.str x) k pos) fs fs (.val (.str x)) := ae_const pe_str fun _ => .str x
theorem ae_neg (ha : AE X a fs f1 (.val (.int i))) : AE X (.UnaryOp .USub a pos) fs f1 (.val (.int (-i))) :=
  ⟨ha.ow, fun T σ H Q E q => bE_of (pe_un un_neg best) (ha.run T σ H _ E fun v H1 k p => ⟨i, p.2.int_inv, q _ H1 k ⟨p.1, .int _⟩⟩)⟩

/-! comparisons -/
theorem ae_cmp {op : CmpOp} {rr : R2} {bb : Bool} (ho : OpR X (compareOp op) rr) (ha : AE X a fs f1 (.val d1)) (hb : AE X b f1 f2 r2) (hm : behindInMarks op b = false)
    (h : ∀ (T : Addr → Bool) (σ : L2.St) (H1 H2 : Hp) (x y : V) (Q : VK), Rp X.K (cut H2 (tt T (ownL f2))) x d1 → Po X.K T σ H1 H2 f2 y r2 → Q (.bl bb) H2 → rr x y H2 Q) : AE X (.Compare a [op] [b] pos) fs f2 (.val (.bool bb)) := by
  refine ⟨hb.ow.trans ha.ow, fun T σ H Q E q => bE_of (pe_cmpR ho best best hm) (two ha hb E fun x y H1 H2 k k1 rx p => ?_)⟩
  exact h T σ H1 H2 x y Q rx p (q _ H2 k ⟨p.er, .bl _⟩)
theorem at_cmp {op : CmpOp} {rr : R2} {bb : Bool} (ho : OpR X (compareOp op) rr) (ha : AE X a fs f1 (.val d1)) (hb : AE X b f1 f2 r2) (hm : behindInMarks op b = false)
    (h : ∀ (T : Addr → Bool) (σ : L2.St) (H1 H2 : Hp) (x y : V) (Q : VK), Rp X.K (cut H2 (tt T (ownL f2))) x d1 → Po X.K T σ H1 H2 f2 y r2 → Q (.bl bb) H2 → rr x y H2 Q) : AT X (.Compare a [op] [b] pos) fs f2 bb := by
  refine ⟨hb.ow.trans ha.ow, fun T σ H Q E q => bT_of (pt_cmpR ho best best hm) (two ha hb E fun x y H1 H2 k k1 rx p => ?_)⟩
  exact h T σ H1 H2 x y _ rx p ⟨bb, rfl, q H2 k p.er⟩
/-- what a comparison asks of two values, and its answer -/
structure CmpA (X : Cx) (op : CmpOp) (b : Expr) (f2 : Fm) (d1 : PyData) (r2 : Res) (bb : Bool) : Prop where
  mk' : ∃ rr : R2, OpR X (compareOp op) rr ∧ behindInMarks op b = false ∧ ∀ (T : Addr → Bool) (σ : L2.St) (H1 H2 : Hp) (x y : V) (Q : VK), Rp X.K (cut H2 (tt T (ownL f2))) x d1 → Po X.K T σ H1 H2 f2 y r2 → Q (.bl bb) H2 → rr x y H2 Q
theorem ae_cmpA {op : CmpOp} {bb : Bool} (ha : AE X a fs f1 (.val d1)) (hb : AE X b f1 f2 r2) (hc : CmpA X op b f2 d1 r2 bb) : AE X (.Compare a [op] [b] pos) fs f2 (.val (.bool bb)) := by
  obtain ⟨rr, h1, h2, h3⟩ := hc
  exact ae_cmp h1 ha hb h2 h3
theorem at_cmpA {op : CmpOp} {bb : Bool} (ha : AE X a fs f1 (.val d1)) (hb : AE X b f1 f2 r2) (hc : CmpA X op b f2 d1 r2 bb) : AT X (.Compare a [op] [b] pos) fs f2 bb := by
  obtain ⟨rr, h1, h2, h3⟩ := hc
  exact at_cmp h1 ha hb h2 h3
theorem cmp_I {op : CmpOp} {g : Int → Int → Bool} (ho : OpR X (compareOp op) (rI0 fun i j => .bl (g i j))) (h1 : op ≠ .In := by decide) (h2 : op ≠ .NotIn := by decide) : CmpA X op b f2 (.int i) (.val (.int j)) (g i j) :=
  ⟨_, ho, nomark _ h1 h2, fun T σ H1 H2 x y Q rx p q => ⟨i, j, rx.int_inv, p.2.int_inv, q⟩⟩
theorem c_lt : CmpA X .Lt b f2 (.int i) (.val (.int j)) (decide (i < j)) := cmp_I op_lt
theorem c_le : CmpA X .LtE b f2 (.int i) (.val (.int j)) (decide (i ≤ j)) := cmp_I op_le
theorem c_gt : CmpA X .Gt b f2 (.int i) (.val (.int j)) (decide (j < i)) := cmp_I op_gt
theorem c_ge : CmpA X .GtE b f2 (.int i) (.val (.int j)) (decide (j ≤ i)) := cmp_I op_ge
theorem c_eqI : CmpA X .Eq b f2 (.int i) (.val (.int j)) (decide (i = j)) :=
  ⟨_, op_eq, nomark _, fun T σ H1 H2 x y Q rx p q => by rw [rx.int_inv, p.2.int_inv]; exact ⟨rfl, by simpa using q⟩⟩
theorem c_neI : CmpA X .NotEq b f2 (.int i) (.val (.int j)) (!decide (i = j)) :=
  ⟨_, op_ne, nomark _, fun T σ H1 H2 x y Q rx p q => by rw [rx.int_inv, p.2.int_inv]; exact ⟨rfl, by simpa using q⟩⟩
theorem c_eqS {x y : Str} : CmpA X .Eq b f2 (.str x) (.val (.str y)) (decide (x = y)) :=
  ⟨_, op_eq, nomark _, fun T σ H1 H2 v w Q rx p q => by rw [rx.str_inv, p.2.str_inv]; exact ⟨rfl, by simpa using q⟩⟩
theorem c_neS {x y : Str} : CmpA X .NotEq b f2 (.str x) (.val (.str y)) (!decide (x = y)) :=
  ⟨_, op_ne, nomark _, fun T σ H1 H2 v w Q rx p q => by rw [rx.str_inv, p.2.str_inv]; exact ⟨rfl, by simpa using q⟩⟩
theorem c_eqB {x y : Bool} : CmpA X .Eq b f2 (.bool x) (.val (.bool y)) (decide (x = y)) :=
  ⟨_, op_eq, nomark _, fun T σ H1 H2 v w Q rx p q => by rw [rx.bl_inv, p.2.bl_inv]; exact ⟨rfl, by simpa using q⟩⟩
theorem c_neB {x y : Bool} : CmpA X .NotEq b f2 (.bool x) (.val (.bool y)) (!decide (x = y)) :=
  ⟨_, op_ne, nomark _, fun T σ H1 H2 v w Q rx p q => by rw [rx.bl_inv, p.2.bl_inv]; exact ⟨rfl, by simpa using q⟩⟩
theorem c_isB {x y : Bool} : CmpA X .Is b f2 (.bool x) (.val (.bool y)) (decide (x = y)) :=
  ⟨_, op_isBl, nomark _, fun T σ H1 H2 v w Q rx p q => ⟨x, y, rx.bl_inv, p.2.bl_inv, q⟩⟩
theorem c_notB {x y : Bool} : CmpA X .IsNot b f2 (.bool x) (.val (.bool y)) (!decide (x = y)) :=
  ⟨_, op_notBl, nomark _, fun T σ H1 H2 v w Q rx p q => ⟨x, y, rx.bl_inv, p.2.bl_inv, q⟩⟩
def isNone : PyData → Bool
  | .none => true
  | _ => false
theorem c_isN {d : PyData} : CmpA X .Is b f2 d (.val .none) (isNone d) :=
  ⟨_, op_isN, nomark _, fun T σ H1 H2 v w Q rx p q => ⟨p.2.non_inv, by rw [rx.is_non]; cases d <;> exact q⟩⟩
theorem c_notN {d : PyData} : CmpA X .IsNot b f2 d (.val .none) (!isNone d) :=
  ⟨_, op_notN, nomark _, fun T σ H1 H2 v w Q rx p q => ⟨p.2.non_inv, by rw [rx.is_non]; cases d <;> exact q⟩⟩

/-! tests -/
theorem at_val {bb : Bool} (h : AE X a fs f1 (.val (.bool bb))) (he : ∀ whole, isTrue a X.env whole = (do let v ← whole; standAt a.pos; holding [v] (truthy v)) := by intro _; rfl) : AT X a fs f1 bb := by
  refine ⟨h.ow, fun T σ H Q E q => bT_of (pt_val best he) (h.run T σ H _ E fun v H1 k p => ⟨bb, p.2.bl_inv, q H1 k p.1⟩)⟩
theorem at_not {bb : Bool} (h : AT X a fs f1 bb) : AT X (.UnaryOp .Not a pos) fs f1 (!bb) :=
  ⟨h.ow, fun T σ H Q E q => bT_of (pt_not bestT) (h.run T σ H _ E fun H1 k p => q H1 k p)⟩
theorem AW.at {bb : Bool} (h : AW X a fs f1 bb) : AT X a fs f1 bb := ⟨h.ow, fun T σ H Q E q => bT_of bestW.pt (h.run T σ H _ E q)⟩
theorem aw_and1 {bb : Bool} (h : AT X a fs f1 bb) : AW X (.BoolOp .And [a] pos) fs f1 bb := ⟨h.ow, fun T σ H Q E q => bW_of (pw_and1 bestT) (h.run T σ H _ E q)⟩
theorem aw_or1 {bb : Bool} (h : AT X a fs f1 bb) : AW X (.BoolOp .Or [a] pos) fs f1 bb := ⟨h.ow, fun T σ H Q E q => bW_of (pw_or1 bestT) (h.run T σ H _ E q)⟩
/-- a and rest: the rest is asked where a holds; what it leaves stands as f2 either way -/
theorem aw_and {rest : List Expr} {x y : Bool} (ha : AT X a fs f1 x) (hb : x = true → AW X (.BoolOp .And (b :: rest) pos) f1 f2 y) (hf : x = false → f1 = f2) : AW X (.BoolOp .And (a :: b :: rest) pos) fs f2 (x && y) := by
  cases x with
  | true =>
    have hb := hb rfl
    exact ⟨hb.ow.trans ha.ow, fun T σ H Q E q => bW_of (pw_and bestT bestW) (ha.run T σ H _ E fun H1 k p => by
      show bW X _ σ H1 Q
      exact hb.run T σ H1 Q p fun H2 k2 p2 => q H2 (k.trans (by rw [ha.ow] at k2; exact k2)) p2)⟩
  | false =>
    have e := hf rfl
    subst e
    exact ⟨ha.ow, fun T σ H Q E q => bW_of (pw_and bestT bestW) (ha.run T σ H _ E fun H1 k p => q H1 k p)⟩
theorem aw_or {rest : List Expr} {x y : Bool} (ha : AT X a fs f1 x) (hb : x = false → AW X (.BoolOp .Or (b :: rest) pos) f1 f2 y) (hf : x = true → f1 = f2) : AW X (.BoolOp .Or (a :: b :: rest) pos) fs f2 (x || y) := by
  cases x with
  | false =>
    have hb := hb rfl
    exact ⟨hb.ow.trans ha.ow, fun T σ H Q E q => bW_of (pw_or bestT bestW) (ha.run T σ H _ E fun H1 k p => by
      show bW X _ σ H1 Q
      exact hb.run T σ H1 Q p fun H2 k2 p2 => q H2 (k.trans (by rw [ha.ow] at k2; exact k2)) p2)⟩
  | true =>
    have e := hf rfl
    subst e
    exact ⟨ha.ow, fun T σ H Q E q => bW_of (pw_or bestT bestW) (ha.run T σ H _ E fun H1 k p => q H1 k p)⟩
/-! the same as values (of bools) -/
theorem ae_one {op} (h : AE X a fs f1 r) : AE X (.BoolOp op [a] pos) fs f1 r := ⟨h.ow, fun T σ H Q E q => bE_of (pe_one best) (h.run T σ H Q E q)⟩
theorem ae_and {rest : List Expr} {x y : Bool} (ha : AE X a fs f1 (.val (.bool x))) (hb : x = true → AE X (.BoolOp .And (b :: rest) pos) f1 f2 (.val (.bool y))) (hf : x = false → f1 = f2) : AE X (.BoolOp .And (a :: b :: rest) pos) fs f2 (.val (.bool (x && y))) := by
  cases x with
  | true =>
    have hb := hb rfl
    exact ⟨hb.ow.trans ha.ow, fun T σ H Q E q => bE_of (pe_and best best) (ha.run T σ H _ E fun v H1 k p => ⟨true, p.2.bl_inv, by
      show bE X _ σ H1 Q
      exact hb.run T σ H1 Q p.1 fun v2 H2 k2 p2 => q v2 H2 (k.trans (by rw [ha.ow] at k2; exact k2)) p2⟩)⟩
  | false =>
    have e := hf rfl
    subst e
    exact ⟨ha.ow, fun T σ H Q E q => bE_of (pe_and best best) (ha.run T σ H _ E fun v H1 k p => ⟨false, p.2.bl_inv, q _ H1 k ⟨p.1, .bl false⟩⟩)⟩
theorem ae_or {rest : List Expr} {x y : Bool} (ha : AE X a fs f1 (.val (.bool x))) (hb : x = false → AE X (.BoolOp .Or (b :: rest) pos) f1 f2 (.val (.bool y))) (hf : x = true → f1 = f2) : AE X (.BoolOp .Or (a :: b :: rest) pos) fs f2 (.val (.bool (x || y))) := by
  cases x with
  | false =>
    have hb := hb rfl
    exact ⟨hb.ow.trans ha.ow, fun T σ H Q E q => bE_of (pe_or best best) (ha.run T σ H _ E fun v H1 k p => ⟨false, p.2.bl_inv, by
      show bE X _ σ H1 Q
      exact hb.run T σ H1 Q p.1 fun v2 H2 k2 p2 => q v2 H2 (k.trans (by rw [ha.ow] at k2; exact k2)) p2⟩)⟩
  | true =>
    have e := hf rfl
    subst e
    exact ⟨ha.ow, fun T σ H Q E q => bE_of (pe_or best best) (ha.run T σ H _ E fun v H1 k p => ⟨true, p.2.bl_inv, q _ H1 k ⟨p.1, .bl true⟩⟩)⟩
theorem ae_not {x : Bool} (h : AE X a fs f1 (.val (.bool x))) : AE X (.UnaryOp .Not a pos) fs f1 (.val (.bool (!x))) :=
  ⟨h.ow, fun T σ H Q E q => bE_of (pe_not best) (h.run T σ H _ E fun v H1 k p => ⟨x, p.2.bl_inv, q _ H1 k ⟨p.1, .bl _⟩⟩)⟩
/-- new behind a step is new ahead of it -/
theorem Po.back {K : PySem.W.Frag} {H1 H2 : Hp} {l : List Addr} {g : Fm} {v : V} (p : Po K T σ H1 H2 g v r) (k : Kp H H1 l) (E : ER K T σ H1 f1) (e : ownL f1 = l) : Po K T σ H H2 g v r := by
  have nn : ∀ a, H1 a = none → H a = none := fun a n => by
    cases hh : H a with
    | none => rfl
    | some o =>
      exfalso
      by_cases hl : a ∈ l
      · rw [← e] at hl
        obtain ⟨o2, h2⟩ := E.thereL hl
        rw [n] at h2; cases h2
      · rw [k a o hl hh] at n; cases n
  cases r with
  | val d => exact p
  | «at» a d => exact p
  | new d =>
    obtain ⟨a, e1, n, z⟩ := p
    exact ⟨a, e1, nn a n, z⟩
  | two d e =>
    obtain ⟨a, g, v1, e1, n1, n2, z⟩ := p
    exact ⟨a, g, v1, e1, nn a n1, nn g n2, z⟩
  | tw d e =>
    obtain ⟨a, g, h, e1, n1, n2, n3, z⟩ := p
    exact ⟨a, g, h, e1, nn a n1, nn g n2, nn h n3, z⟩
/-- a if t else b, by the test -/
theorem ae_if {t : Expr} {x : Bool} (ht : AT X t fs f1 x) (ha : x = true → AE X a f1 f2 r) (hb : x = false → AE X b f1 f2 r) : AE X (.IfExp t a b pos) fs f2 r := by
  cases x with
  | true =>
    have ha := ha rfl
    exact ⟨ha.ow.trans ht.ow, fun T σ H Q E q => bE_of (pe_ifExp bestT best best) (ht.run T σ H _ E fun H1 k p => by
      show bE X a σ H1 Q
      exact ha.run T σ H1 Q p fun v2 H2 k2 p2 => q v2 H2 (k.trans (by rw [ht.ow] at k2; exact k2)) (p2.back k p ht.ow))⟩
  | false =>
    have hb := hb rfl
    exact ⟨hb.ow.trans ht.ow, fun T σ H Q E q => bE_of (pe_ifExp bestT best best) (ht.run T σ H _ E fun H1 k p => by
      show bE X b σ H1 Q
      exact hb.run T σ H1 Q p fun v2 H2 k2 p2 => q v2 H2 (k.trans (by rw [ht.ow] at k2; exact k2)) (p2.back k p ht.ow))⟩
end
end A3
namespace A3
open PySem PySem.Spec PyProof.Rows L2

section
variable {X : Cx} {a b c : Expr} {es : List Expr} {fs f1 f2 f3 : Fm} {d d1 d2 d3 : PyData} {ds : List PyData} {r r1 r2 : Res} {pos : Pos} {T : Addr → Bool} {σ : L2.St} {H : Hp} {i j : Int}
theorem none_back {K : PySem.W.Frag} {H1 : Hp} {p : Addr} (E : ER K T σ H1 f1) (k : Kp H H1 (ownL fs)) (e : ownL f1 = ownL fs) (n : H1 p = none) : H p = none := by
  cases hh : H p with
  | none => rfl
  | some o =>
    exfalso
    by_cases hl : p ∈ ownL fs
    · rw [← e] at hl
      obtain ⟨o2, h2⟩ := E.thereL hl
      rw [n] at h2; cases h2
    · rw [k p o hl hh] at n; cases n
theorem same_upd {p : Addr} {o : HO} (n : H p = none) : Same H (upd H p o) := fun b u e => by
  rw [upd_ne (ne_of_none e n)]; exact e
/-- a new tuple -/
theorem po_tup {K : PySem.W.Frag} {H1 : Hp} {p : Addr} {vs : List V} (E : ER K T σ H1 f1) (n : H1 p = none) (q : RpAll K (cut H1 (tt T (ownL f1))) vs ds) : Po K T σ H (upd H1 p (.tup vs)) f1 (.ref p) (.val (.tuple ds)) := by
  have sm : Same H1 (upd H1 p (.tup vs)) := same_upd n
  refine ⟨E.keep sm, .tup (.inl (.inl (cut_of (E.free n) upd_same))) (q.mono (cut_same fun b o e z => ⟨e, sm b o z⟩))⟩
/-- a new list -/
theorem po_lst {K : PySem.W.Frag} {H1 : Hp} {p : Addr} {vs : List V} (E : ER K T σ H1 f1) (k : Kp H H1 (ownL fs)) (e : ownL f1 = ownL fs) (n : H1 p = none) (q : RpAll K (cut H1 (tt T (ownL f1))) vs ds) : Po K T σ H (upd H1 p (.lst vs)) f1 (.ref p) (.new (.list ds)) := by
  have sm : Same H1 (hide (upd H1 p (.lst vs)) p) := same_hide (same_upd n) n
  exact ⟨p, rfl, none_back E k e n, E.keep sm, vs, upd_same, q.mono (cut_same fun b o e z => ⟨e, sm b o z⟩)⟩

/-! arguments -/
theorem ad_nil : AD X [] fs fs [] := ⟨rfl, fun T σ H Q E q => bA_of pa_nil (q [] H (Kp.refl _ _) E .nil)⟩
theorem ad_cons (ha : AE X a fs f1 (.val d)) (hr : AD X es f1 f2 ds) (hs : starEach (a :: es) X.env = (false, eval a X.env) :: starEach es X.env := by rfl) : AD X (a :: es) fs f2 (d :: ds) := by
  refine ⟨hr.ow.trans ha.ow, fun T σ H Q E q => bA_of (pa_cons best bestA hs) (ha.run T σ H _ E fun v H1 k p => hr.run T σ H1 _ p.1 fun vs H2 k2 E2 p2 => ?_)⟩
  have k2' : Kp H1 H2 (ownL fs) := by rw [ha.ow] at k2; exact k2
  exact q (v :: vs) H2 (k.trans k2') E2 (.cons (p.2.mono (k2.up hr.ow)) p2)
theorem aa_nil : AA X [] fs fs [] := ⟨rfl, fun T σ H Q E q => bA_of pa_nil (q [] H (Kp.refl _ _) E .nil)⟩
theorem aa_dat {ss : List Slot} (ha : AE X a fs f1 (.val d)) (hr : AA X es f1 f2 ss) (hs : starEach (a :: es) X.env = (false, eval a X.env) :: starEach es X.env := by rfl) : AA X (a :: es) fs f2 (.dat d :: ss) := by
  refine ⟨hr.ow.trans ha.ow, fun T σ H Q E q => bA_of (pa_cons best bestA hs) (ha.run T σ H _ E fun v H1 k p => hr.run T σ H1 _ p.1 fun vs H2 k2 E2 p2 => ?_)⟩
  have k2' : Kp H1 H2 (ownL fs) := by rw [ha.ow] at k2; exact k2
  exact q (v :: vs) H2 (k.trans k2') E2 (.dat (p.2.mono (k2.up hr.ow)) p2)
theorem aa_own {ss : List Slot} {l : Addr} (n : Nat) (ha : AE X a fs f1 (.at l d2)) (hr : AA X es f1 f2 ss) (hn : f2[n]? = some (.own l d) := by rfl) (hs : starEach (a :: es) X.env = (false, eval a X.env) :: starEach es X.env := by rfl) : AA X (a :: es) fs f2 (.own l d :: ss) := by
  refine ⟨hr.ow.trans ha.ow, fun T σ H Q E q => bA_of (pa_cons best bestA hs) (ha.run T σ H _ E fun v H1 k p => hr.run T σ H1 _ p.1 fun vs H2 k2 E2 p2 => ?_)⟩
  have k2' : Kp H1 H2 (ownL fs) := by rw [ha.ow] at k2; exact k2
  obtain ⟨_, rfl, _⟩ := p
  exact q (.ref l :: vs) H2 (k.trans k2') E2 (.own n hn p2)

/-! displays -/
theorem ae_tup {k} (h : AD X es fs f1 ds) (hl : ds.length ≤ 1000 := by exact Nat.le_of_ble_eq_true rfl) : AE X (.Tuple es k pos) fs f1 (.val (.tuple ds)) := by
  refine ⟨h.ow, fun T σ H Q E q => bE_of (pe_tup bestA) (h.run T σ H _ E fun vs H1 k1 E1 p1 => ?_)⟩
  refine ⟨by rw [p1.length]; exact Nat.le_of_lt (small1000 hl), fun p n => q _ _ (k1.trans (Kp.of (same_upd n))) (po_tup E1 n p1)⟩
theorem ae_lst (h : AD X es fs f1 ds) (hl : ds.length ≤ 1000 := by exact Nat.le_of_ble_eq_true rfl) : AE X (.List es pos) fs f1 (.new (.list ds)) := by
  refine ⟨h.ow, fun T σ H Q E q => bE_of (pe_lst bestA) (h.run T σ H _ E fun vs H1 k1 E1 p1 => ?_)⟩
  refine ⟨by rw [p1.length]; exact Nat.le_of_lt (small1000 hl), fun p n => q _ _ (k1.trans (Kp.of (same_upd n))) (po_lst E1 k1 h.ow n p1)⟩

/-! items -/
theorem RpAll.at {K : PySem.W.Frag} {S : Hp} {vs : List V} (q : RpAll K S vs ds) (h : atI ds i = some d) : ∃ v, atI vs i = some v ∧ Rp K S v d := by
  unfold atI at h ⊢
  rw [q.length]
  cases e : ixN ds.length i with
  | none => rw [e] at h; cases h
  | some n =>
    rw [e] at h
    exact q.get (i := n) h
theorem ae_ixL (ha : AE X a fs f1 (.val (.list ds))) (hb : AE X b f1 f2 (.val (.int i))) (h : atI ds i = some d) (hs : PlainIx b := by intro _ _; rfl) : AE X (.Subscript a b pos) fs f2 (.val d) := by
  refine ⟨hb.ow.trans ha.ow, fun T σ H Q E q => bE_of (pe_ix ix_list best best hs) (two ha hb E fun x y H1 H2 k k1 rx p => ?_)⟩
  obtain ⟨l, vs, rfl, s, qv⟩ := rx.lst_inv
  obtain ⟨v, hv, rv⟩ := qv.at h
  exact ⟨l, vs, i, v, rfl, p.2.int_inv, sqL_same (cut_all _ _) s, hv, q v H2 k ⟨p.1, rv⟩⟩
theorem ae_ixT (ha : AE X a fs f1 (.val (.tuple ds))) (hb : AE X b f1 f2 (.val (.int i))) (h : atI ds i = some d) (hs : PlainIx b := by intro _ _; rfl) : AE X (.Subscript a b pos) fs f2 (.val d) := by
  refine ⟨hb.ow.trans ha.ow, fun T σ H Q E q => bE_of (pe_ix ix_tup best best hs) (two ha hb E fun x y H1 H2 k k1 rx p => ?_)⟩
  obtain ⟨l, vs, rfl, s, qv⟩ := rx.tup_inv
  obtain ⟨v, hv, rv⟩ := qv.at h
  exact ⟨l, vs, i, v, rfl, p.2.int_inv, sqT_same (cut_all _ _) s, hv, q v H2 k ⟨p.1, rv⟩⟩
/-- of an owned list, which the place asked for leaves -/
theorem ae_ixO {l : Addr} (n : Nat) (ha : AE X a fs f1 (.at l d2)) (hb : AE X b f1 f2 (.val (.int i))) (hn : f2[n]? = some (.own l (.list ds)) := by rfl) (hs : PlainIx b := by intro _ _; rfl) (h : atI ds i = some d := by rfl) : AE X (.Subscript a b pos) fs f2 (.val d) := by
  refine ⟨hb.ow.trans ha.ow, fun T σ H Q E q => bE_of (pe_ix ix_list best best hs) (ha.run T σ H _ E fun x H1 k1 p1 => hb.run T σ H1 _ p1.1 fun y H2 k2 p2 => ?_)⟩
  obtain ⟨E1, rfl, _⟩ := p1
  obtain ⟨vs, hl, qv⟩ := (p2.1.own hn).2
  obtain ⟨v, hv, rv⟩ := qv.at h
  exact ⟨l, vs, i, v, rfl, p2.2.int_inv, SqL.of hl, hv, q v H2 (k1.trans (by rw [ha.ow] at k2; exact k2)) ⟨p2.1, rv⟩⟩
theorem ae_ixS {z : Str} {ch : Nat} (ha : AE X a fs f1 (.val (.str z))) (hb : AE X b f1 f2 (.val (.int i))) (hz : z.length ≤ 1000) (h : atI z.cps.toList i = some ch) (hs : PlainIx b := by intro _ _; rfl) : AE X (.Subscript a b pos) fs f2 (.val (.str ⟨#[ch]⟩)) := by
  refine ⟨hb.ow.trans ha.ow, fun T σ H Q E q => bE_of (pe_ix ix_str best best hs) (two ha hb E fun x y H1 H2 k k1 rx p => ?_)⟩
  exact ⟨z, i, ch, rx.str_inv, p.2.int_inv, Nat.le_of_lt (small1000 hz), h, q _ H2 k ⟨p.1, .str _⟩⟩

/-! built-ins -/
theorem ae_callB {x : Str} {id : String} {rr : List V → Hp → VK → Prop} {p : Pos} (hc : CallR X (.builtin id) rr) (ha : AD X (a :: es) fs f1 ds)
    (h : ∀ (S H2 : Hp) (vs : List V) (Q : VK), Same S H2 → RpAll X.K S vs ds → (∀ v, (∀ S, Rp X.K S v d) → Q v H2) → rr vs H2 Q) (hg : Gl X x) (hm : X.mg x = none) (hv : bootBuiltins x = some (.builtin id))
    (hn : x ≠ "__name__" := by decide) (hdb : (x == ("__debug__" : Str)) = false := by decide) (he : starEach (a :: es) X.env = (false, eval a X.env) :: starEach es X.env := by rfl) (hpl : (backTo pos (starEach es X.env)).any (·.1) = false := by rfl) :
    AE X (.Call (.Name x p) (a :: es) [] pos) fs f1 (.val d) := by
  refine ⟨ha.ow, fun T σ H Q E q => bE_of (pe_callB hc hg hm hv bestA hn hdb he hpl) (ha.run T σ H _ E fun vs H1 k1 E1 p1 => ?_)⟩
  exact h _ H1 vs Q (cut_all _ _) p1 fun v rv => q v H1 k1 ⟨E1, rv _⟩
theorem ae_callTy {x : Str} {id : String} {rr : List V → Hp → VK → Prop} {p : Pos} (hc : CallR X (.type id) rr) (ha : AD X (a :: es) fs f1 ds)
    (h : ∀ (S H2 : Hp) (vs : List V) (Q : VK), Same S H2 → RpAll X.K S vs ds → (∀ v, (∀ S, Rp X.K S v d) → Q v H2) → rr vs H2 Q) (hg : Gl X x) (hm : X.mg x = none) (hv : bootBuiltins x = some (.type id))
    (hn : x ≠ "__name__" := by decide) (hdb : (x == ("__debug__" : Str)) = false := by decide) (he : starEach (a :: es) X.env = (false, eval a X.env) :: starEach es X.env := by rfl) (hpl : (backTo pos (starEach es X.env)).any (·.1) = false := by rfl) :
    AE X (.Call (.Name x p) (a :: es) [] pos) fs f1 (.val d) := by
  refine ⟨ha.ow, fun T σ H Q E q => bE_of (pe_callTy hc hg hm hv bestA hn hdb he hpl) (ha.run T σ H _ E fun vs H1 k1 E1 p1 => ?_)⟩
  exact h _ H1 vs Q (cut_all _ _) p1 fun v rv => q v H1 k1 ⟨E1, rv _⟩
theorem RpAll.one_inv {K : PySem.W.Frag} {S : Hp} {vs : List V} (q : RpAll K S vs [d]) : ∃ v, vs = [v] ∧ Rp K S v d := by
  cases q with
  | cons a b => cases b; exact ⟨_, rfl, a⟩
theorem RpAll.two_inv {K : PySem.W.Frag} {S : Hp} {vs : List V} (q : RpAll K S vs [d1, d2]) : ∃ v w, vs = [v, w] ∧ Rp K S v d1 ∧ Rp K S w d2 := by
  cases q with
  | cons a b =>
    cases b with
    | cons b c => cases c; exact ⟨_, _, rfl, a, b⟩
theorem ae_abs {p : Pos} (ha : AE X a fs f1 (.val (.int i))) (hg : Gl X "abs") (hm : X.mg "abs" = none) (he : starEach [a] X.env = (false, eval a X.env) :: starEach [] X.env := by rfl) : AE X (.Call (.Name "abs" p) [a] [] pos) fs f1 (.val (.int (if i < 0 then -i else i))) :=
  ae_callB call_abs (ad_cons ha ad_nil he) (fun S H2 vs Q _ pv q => by
    obtain ⟨v, rfl, rv⟩ := pv.one_inv
    exact ⟨i, by rw [rv.int_inv], q _ fun _ => .int _⟩) hg hm (by decide +kernel) (he := he)
theorem ae_int1 {p : Pos} {bb : Bool} (ha : AE X a fs f1 (.val (.bool bb))) (hg : Gl X "int") (hm : X.mg "int" = none) (he : starEach [a] X.env = (false, eval a X.env) :: starEach [] X.env := by rfl) : AE X (.Call (.Name "int" p) [a] [] pos) fs f1 (.val (.int (if bb then 1 else 0))) :=
  ae_callTy call_int1 (ad_cons ha ad_nil he) (fun S H2 vs Q _ pv q => by
    obtain ⟨v, rfl, rv⟩ := pv.one_inv
    exact .inr ⟨bb, by rw [rv.bl_inv], q _ fun _ => .int _⟩) hg hm (by decide +kernel) (he := he)
theorem ae_max2 {p : Pos} (hca : X.calm = true) (ha : AE X a fs f1 (.val (.int i))) (hb : AE X b f1 f2 (.val (.int j))) (hg : Gl X "max") (hm : X.mg "max" = none) (he : starEach [a, b] X.env = (false, eval a X.env) :: starEach [b] X.env := by rfl) (he2 : starEach [b] X.env = (false, eval b X.env) :: starEach [] X.env := by rfl) (hpl : (backTo pos (starEach [b] X.env)).any (·.1) = false := by rfl) :
    AE X (.Call (.Name "max" p) [a, b] [] pos) fs f2 (.val (.int (if j > i then j else i))) :=
  ae_callB (call_max2 hca) (ad_cons ha (ad_cons hb ad_nil he2) he) (fun S H2 vs Q _ pv q => by
    obtain ⟨v, w, rfl, rv, rw'⟩ := pv.two_inv
    exact ⟨i, j, by rw [rv.int_inv, rw'.int_inv], q _ fun _ => .int _⟩) hg hm (by decide +kernel) (he := he) (hpl := hpl)
theorem ae_min2 {p : Pos} (hca : X.calm = true) (ha : AE X a fs f1 (.val (.int i))) (hb : AE X b f1 f2 (.val (.int j))) (hg : Gl X "min") (hm : X.mg "min" = none) (he : starEach [a, b] X.env = (false, eval a X.env) :: starEach [b] X.env := by rfl) (he2 : starEach [b] X.env = (false, eval b X.env) :: starEach [] X.env := by rfl) (hpl : (backTo pos (starEach [b] X.env)).any (·.1) = false := by rfl) :
    AE X (.Call (.Name "min" p) [a, b] [] pos) fs f2 (.val (.int (if j < i then j else i))) :=
  ae_callB (call_min2 hca) (ad_cons ha (ad_cons hb ad_nil he2) he) (fun S H2 vs Q _ pv q => by
    obtain ⟨v, w, rfl, rv, rw'⟩ := pv.two_inv
    exact ⟨i, j, by rw [rv.int_inv, rw'.int_inv], q _ fun _ => .int _⟩) hg hm (by decide +kernel) (he := he) (hpl := hpl)
/-- len of a list (owned or not), a tuple, a text -/
def lenD : PyData → Option Nat
  | .list ds => some ds.length
  | .tuple ds => some ds.length
  | .str z => some z.length
  | _ => none
theorem ae_len {p : Pos} {n : Nat} (ha : AE X a fs f1 r) (hn : lenD r.d = some n) (hz : (match r.d with | .str z => decide (z.length ≤ 1000000) | _ => true) = true) (hg : Gl X "len") (hm : X.mg "len" = none) (he : starEach [a] X.env = (false, eval a X.env) :: starEach [] X.env := by rfl) :
    AE X (.Call (.Name "len" p) [a] [] pos) fs f1 (.val (.int n)) := by
  refine ⟨ha.ow, fun T σ H Q E q => bE_of (pe_callB call_len hg hm PySem.boot_len (pa_cons best pa_nil he) (he := he)) (ha.run T σ H _ E fun v H1 k1 p1 => ?_)⟩
  have rp := p1.rp
  refine ⟨v, n, rfl, ?_, q _ H1 k1 ⟨p1.er, .int _⟩⟩
  generalize r.d = d at rp hn hz
  cases rp with
  | lst s qv =>
    cases (show some _ = some n from hn)
    exact .inl ⟨_, s, qv.length.symm⟩
  | tup s qv =>
    cases (show some _ = some n from hn)
    exact .inr ⟨_, s, qv.length.symm⟩
  | str z =>
    cases (show some _ = some n from hn)
    exact ⟨Nat.le_trans (of_decide_eq_true hz) (by rw [sizeLine_eq]; decide), rfl⟩
  | _ => cases (show none = some n from hn)
/-! isinstance against a built-in class -/
def tyD : PyData → String
  | .none => "NoneType"
  | .bool _ => "bool"
  | .int _ => "int"
  | .str _ => "str"
  | .list _ => "list"
  | .tuple _ => "tuple"
  | .dict _ => "dict"
theorem Rp.ty {K : PySem.W.Frag} {v : V} (h : Rp K H v d) : TyX K H v (.type (tyD d)) := by
  cases h with
  | non => exact .base .non
  | bl b => exact .base (.bl b)
  | int i => exact .base (.int i)
  | str x => exact .base (.str x)
  | lst s _ =>
    rcases s with (s | ⟨o, s⟩) | ⟨o, _, _, s, c, _⟩
    · exact .base (.lst s)
    · exact .base (.frz s)
    · exact .kList s c
  | tup s _ =>
    rcases s with (s | ⟨o, s⟩) | ⟨o, _, _, s, c, _⟩
    · exact .base (.tup s)
    · exact .fTuple s
    · exact .kTuple s c
  | dct s _ =>
    rcases s with s | ⟨o, s⟩
    · exact .base (.dK s)
    · exact .fDict s
theorem ae_isi {p px : Pos} {T' : Str} {tn : String} {bb : Bool} (ha : AE X a fs f1 r) (hb : kitB (tyD r.d) tn = some bb) (hg : Gl X "isinstance") (hm : X.mg "isinstance" = none) (hgT : Gl X T') (hmT : X.mg T' = none) (hv : bootBuiltins T' = some (.type tn))
    (hn : T' ≠ "__name__" := by decide) (hdb : (T' == ("__debug__" : Str)) = false := by decide)
    (he : starEach [a, .Name T' px] X.env = (false, eval a X.env) :: starEach [.Name T' px] X.env := by rfl) (he2 : starEach [.Name T' px] X.env = (false, eval (.Name T' px) X.env) :: starEach [] X.env := by rfl) (hpl : (backTo pos (starEach [.Name T' px] X.env)).any (·.1) = false := by rfl) :
    AE X (.Call (.Name "isinstance" p) [a, .Name T' px] [] pos) fs f1 (.val (.bool bb)) := by
  refine ⟨ha.ow, fun T σ H Q E q => bE_of (pe_callB call_isi hg hm (by decide +kernel) (pa_cons best (pa_cons (pe_bltn (v := .ty tn) hgT hmT hv rfl hn hdb) pa_nil he2) he) (he := he) (hpl := hpl)) (ha.run T σ H _ E fun v H1 k1 p1 => ?_)⟩
  exact ⟨v, .ty tn, _, _, bb, rfl, .ty tn, p1.rp.ty, kit_ty hb, q _ H1 k1 ⟨p1.er, .bl _⟩⟩

/-! calls of defs -/
/-- what a def promises: with such arguments it gives this, and the owned ones stand so; or it raises an error of this class -/
abbrev Ct := List Slot → List Slot → Res → Prop
abbrev Cex := List Slot → Addr → Prop
/-- so many arguments stand ahead of the ghosts (the first .no parts them) -/
def nA : List Slot → Nat
  | [] => 0
  | .no :: _ => 0
  | _ :: r => nA r + 1
def Sp3 (K : PySem.W.Frag) (ct : Ct) (cx : Cex) : Sp := fun vs H Q E => ∃ (T : Addr → Bool) (ss : List Slot), ER K T (vs.map some) H ss ∧ nA ss = vs.length ∧
  ((∃ ss' r, ct ss ss' r ∧ ownL ss' = ownL ss ∧ ∀ v H', Kp H H' (ownL ss) → Po K T (vs.map some) H H' ss' v r → Q v H') ∨
   (∃ C, cx ss C ∧ ownL ss = [] ∧ ∀ H', Same H H' → E (.ref C) none H'))
abbrev nox : Cex := fun _ _ => False
theorem ArgR.len {K : PySem.W.Frag} {S : Hp} {vs : List V} {ss : List Slot} (h : ArgR K S fs vs ss) : vs.length = ss.length := by
  induction h with
  | nil => rfl
  | dat _ _ ih => exact congrArg (· + 1) ih
  | own _ _ _ ih => exact congrArg (· + 1) ih
theorem ArgR.mem {K : PySem.W.Frag} {S : Hp} {vs : List V} {ss : List Slot} (h : ArgR K S fs vs ss) {l : Addr} (m : l ∈ ownL ss) : l ∈ ownL fs := by
  induction h with
  | nil => simp [ownL] at m
  | dat _ _ ih => exact ih m
  | own i e _ ih =>
    rcases List.mem_cons.mp m with z | z
    · subst z; exact mem_own e
    · exact ih z
theorem ArgR.nA {K : PySem.W.Frag} {S : Hp} {vs : List V} {ss : List Slot} (h : ArgR K S fs vs ss) : nA ss = vs.length := by
  induction h with
  | nil => rfl
  | dat _ _ ih => exact congrArg (· + 1) ih
  | own _ _ _ ih => exact congrArg (· + 1) ih
theorem ArgR.get {K : PySem.W.Frag} {S : Hp} {vs : List V} {ss : List Slot} (h : ArgR K S fs vs ss) : ∀ (n : Nat) (s : Slot), ss[n]? = some s → ∃ v, vs[n]? = some v ∧ ((∃ d, s = .dat d ∧ Rp K S v d) ∨ ∃ (l : Addr) (d : PyData) (i : Nat), s = .own l d ∧ v = .ref l ∧ fs[i]? = some (.own l d)) := by
  induction h with
  | nil => intro n s e; simp at e
  | dat r _ ih =>
    intro n s e
    cases n with
    | zero => cases Option.some.inj e; exact ⟨_, rfl, .inl ⟨_, rfl, r⟩⟩
    | succ n => exact ih n s e
  | own i r _ ih =>
    intro n s e
    cases n with
    | zero => cases Option.some.inj e; exact ⟨_, rfl, .inr ⟨_, _, i, rfl, rfl, r⟩⟩
    | succ n => exact ih n s e
theorem argR_all {K : PySem.W.Frag} {S : Hp} : ∀ {ws : List V} {ds : List PyData}, RpAll K S ws ds → ArgR K S fs ws (ds.map .dat)
  | _, _, .nil => .nil
  | _, _, .cons a b => .dat a (argR_all b)
theorem ArgR.app {K : PySem.W.Frag} {S : Hp} {vs ws : List V} {ss : List Slot} (h : ArgR K S fs vs ss) (g : RpAll K S ws ds) : ArgR K S fs (vs ++ ws) (ss ++ ds.map .dat) := by
  induction h with
  | nil => exact argR_all g
  | dat r _ ih => exact .dat r ih
  | own i e _ ih => exact .own i e ih
/-- the callee's outer world: what is owned but not lent -/
def lent (T : Addr → Bool) (l m : List Addr) : Addr → Bool := fun b => tt T l b && !decide (b ∈ m)
theorem lent_tt {T : Addr → Bool} {l m : List Addr} (h : ∀ b ∈ m, b ∈ l) : tt (lent T l m) m = tt T l := by
  funext b
  unfold tt lent tt
  by_cases e : b ∈ m
  · simp [e, h b e]
  · simp [e]
theorem er_args {K : PySem.W.Frag} {vs : List V} {ss : List Slot} (E : ER K T σ H fs) (h : ArgR K (cut H (tt T (ownL fs))) fs vs ss) (nd : (ownL ss).Nodup) : ER K (lent T (ownL fs) (ownL ss)) (vs.map some) H ss := by
  have e := lent_tt (T := T) (l := ownL fs) (m := ownL ss) fun b hb => h.mem hb
  refine ⟨by simp [h.len], fun n s hn => ?_, nd, fun a ha => ?_, fun b hb => ?_⟩
  · obtain ⟨v, hv, q⟩ := h.get n s hn
    refine ⟨some v, fun _ => by simp [hv], ?_⟩
    rw [e]
    rcases q with ⟨d, rfl, q⟩ | ⟨l, d, i, rfl, rfl, q⟩
    · exact q
    · exact ⟨rfl, (E.own q).2⟩
  · unfold lent; simp [ha]
  · have hb' : tt T (ownL fs) b = true := by unfold lent at hb; exact (Bool.and_eq_true_iff.mp hb).1
    obtain ⟨o, ho⟩ := E.there hb'
    rw [ho]; exact fun z => by cases z
theorem map_dat_own : ∀ {ds : List PyData}, ownL (ds.map .dat) = []
  | [] => rfl
  | _ :: r => map_dat_own (ds := r)
theorem ownL_app : ∀ {x y : Fm}, ownL (x ++ y) = ownL x ++ ownL y
  | [], _ => rfl
  | .no :: r, y => ownL_app (x := r)
  | .ref _ :: r, y => ownL_app (x := r)
  | .dat _ :: r, y => ownL_app (x := r)
  | .own a _ :: r, y => congrArg (a :: ·) (ownL_app (x := r))
  | .raw a _ :: r, y => congrArg (a :: ·) (ownL_app (x := r))
  | .mix a _ :: r, y => congrArg (a :: ·) (ownL_app (x := r))
  | .isv _ _ :: r, y => ownL_app (x := r)
theorem ownL_dats : ∀ {ds : List PyData}, ownL (ds.map Slot.dat) = []
  | [] => rfl
  | _ :: r => ownL_dats (ds := r)
theorem po_back0 {K : PySem.W.Frag} {s2 : L2.St} {H2 H' : Hp} {ss' : List Slot} {v : V} (E : ER K T σ H2 f1) (p : Po K (lent T (ownL f1) []) s2 H2 H' ss' v r) (o : ownL ss' = []) (k : Kp H2 H' []) (hat : ∀ l d, r ≠ .at l d) : Po K T σ H2 H' f1 v r := by
  have sm : Same H2 H' := fun b o h => k b o (by simp) h
  have e := lent_tt (T := T) (l := ownL f1) (m := []) fun b hb => by simp at hb
  cases r with
  | val d =>
    refine ⟨E.keep sm, ?_⟩
    have q := p.2
    rw [o, e] at q
    exact q
  | new d =>
    obtain ⟨a, e1, n, _, q⟩ := p
    rw [o, e] at q
    exact ⟨a, e1, n, E.keep (same_hide sm n), q⟩
  | «at» l d => exact absurd rfl (hat l d)
  | two d d' =>
    obtain ⟨a, g, v1, e1, n1, n2, ne, ha, _, r1, q⟩ := p
    rw [o, e] at q r1
    exact ⟨a, g, v1, e1, n1, n2, ne, ha, E.keep (same_hide (same_hide sm n2) n1), r1, q⟩
  | tw d d' =>
    obtain ⟨a, g, h, e1, n1, n2, n3, ag, ah, gh, ha, _, r1, q⟩ := p
    rw [o, e] at q r1
    exact ⟨a, g, h, e1, n1, n2, n3, ag, ah, gh, ha, E.keep (same_hide (same_hide (same_hide sm n3) n2) n1), r1, q⟩
theorem po_back1 {K : PySem.W.Frag} {s2 : L2.St} {H2 H' : Hp} {ss' : List Slot} {v : V} {l : Addr} {n m : Nat} (E : ER K T σ H2 f1) (p : Po K (lent T (ownL f1) [l]) s2 H2 H' ss' v r) (o : ownL ss' = [l]) (k : Kp H2 H' [l]) (hat : ∀ l d, r ≠ .at l d)
    (hn : f1[n]? = some (.own l d)) (hm : ss'[m]? = some (.own l d2)) : Po K T σ H2 H' (f1.set n (.own l d2)) v r := by
  have il : l ∈ ownL f1 := mem_own hn
  have e := lent_tt (T := T) (l := ownL f1) (m := [l]) fun b hb => by
    have : b = l := by simpa using hb
    rw [this]; exact il
  have eo : ownL (f1.set n (.own l d2)) = ownL f1 := ownL_put hn
  cases r with
  | val d =>
    have q := p.2
    have w := (p.1.own hm).2
    rw [o, e] at q w
    refine ⟨E.put hn (fun b u nb h => k b u (by simpa using nb) h) w, ?_⟩
    rw [eo]; exact q
  | new d =>
    obtain ⟨a, e1, na, p1, q⟩ := p
    have w := (p1.own hm).2
    rw [o, e] at q w
    refine ⟨a, e1, na, E.put hn (fun b u nb h => ?_) w, ?_⟩
    · rw [hide_ne (fun z => by rw [z, na] at h; cases h)]
      exact k b u (by simpa using nb) h
    · rw [eo]; exact q
  | «at» l d => exact absurd rfl (hat l d)
  | two d d' =>
    obtain ⟨a, g, v1, e1, n1, n2, ne, ha, p1, r1, q⟩ := p
    have w := (p1.own hm).2
    rw [o, e] at q w r1
    refine ⟨a, g, v1, e1, n1, n2, ne, ha, E.put hn (fun b u nb h => ?_) (w.mono (fun _ _ z => z) ?_), ?_, ?_⟩
    · rw [hide_ne (fun z => by rw [z, n1] at h; cases h), hide_ne (fun z => by rw [z, n2] at h; cases h)]
      exact k b u (by simpa using nb) h
    · rfl
    · rw [eo]; exact r1
    · rw [eo]; exact q
  | tw d d' =>
    obtain ⟨a, g, h, e1, n1, n2, n3, ag, ah, gh, ha, p1, r1, q⟩ := p
    have w := (p1.own hm).2
    rw [o, e] at q w r1
    refine ⟨a, g, h, e1, n1, n2, n3, ag, ah, gh, ha, E.put hn (fun b u nb hb => ?_) (w.mono (fun _ _ z => z) ?_), ?_, ?_⟩
    · rw [hide3_ne (fun z => by rw [z, n3] at hb; cases hb) (fun z => by rw [z, n2] at hb; cases hb) (fun z => by rw [z, n1] at hb; cases hb)]
      exact k b u (by simpa using nb) hb
    · rfl
    · rw [eo]; exact r1
    · rw [eo]; exact q
def isAt : Res → Bool
  | .at _ _ => true
  | _ => false
theorem isAt_no (h : isAt r = false) : ∀ l d, r ≠ .at l d := fun l d e => by rw [e] at h; cases h
section
variable {CX : CXT} {k : Nat} {f : Addr} {fd : FuncData} {ps : List Str} {ct : Ct} {cx : Cex} {dvs : List V} {dvals : List Value} {W : XK} {x : Str} {p : Pos} {ss ss' : List Slot} {dd : List PyData}
/-- a def as it is called: its place, its promise, its defaults -/
structure Fn (X : Cx) (CX : CXT) (k : Nat) (x : Str) (f : Addr) (fd : FuncData) (ps : List Str) (ct : Ct) (cx : Cex) (dvs : List V) (dd : List PyData) : Prop where
  ok : FnOk X.prog X.w X.K X.mg X.base CX k f fd ps (Sp3 X.K ct cx)
  mg : X.mg x = some (.ref f)
  kp : PySem.W.keepIn X.K (.ref f) = true
  bd : ∃ dvals, Binds X.K fd ps dvals ∧ Vals dvs dvals
  df : ∀ S, RpAll X.K S dvs dd
/-- f(..), nothing is lent -/
theorem ae_call (G : Fn X CX k x f fd ps ct cx dvs dd) (hr : Room k X.A) (hx : Passes CX X W) (ha : AD X (a :: es) fs f1 ds) (hc : ct ((ds ++ dd).map .dat) ss' r) (ho : ownL ss' = [] := by rfl) (hat : isAt r = false := by rfl) (hg : Gl X x := by rfl)
    (hdb : (x == ("__debug__" : Str)) = false := by decide) (he : starEach (a :: es) X.env = (false, eval a X.env) :: starEach es X.env := by rfl) (hpl : (backTo pos (starEach es X.env)).any (·.1) = false := by rfl) :
    AE X (.Call (.Name x p) (a :: es) [] pos) fs f1 r := by
  obtain ⟨dvals, hb, hd⟩ := G.bd
  refine ⟨ha.ow, fun T σ H Q E q => bE_of (pe_call (E := W) G.ok hr hg G.mg G.kp hb hd hx bestA hdb he hpl) (ha.run T σ H _ E fun vs H1 k1 E1 p1 => ?_)⟩
  have g := argR_all (fs := f1) (p1.app (G.df (cut H1 (tt T (ownL f1)))))
  have e0 : ownL ((ds ++ dd).map Slot.dat) = [] := ownL_dats
  have E2 := er_args E1 g (by rw [e0]; exact List.nodup_nil)
  refine ⟨_, _, E2, g.nA, .inl ⟨ss', r, hc, by rw [ho, e0], fun v H' kk pp => ?_⟩⟩
  rw [e0] at kk pp
  exact q v H' (k1.trans (Kp.of fun b o h => kk b o (by simp) h)) ((po_back0 E1 pp ho kk (isAt_no hat)).back k1 E1 ha.ow)
/-- f(..), one owned object is lent, from the slot n -/
theorem ae_call1 {l : Addr} (n m : Nat) (G : Fn X CX k x f fd ps ct cx dvs dd) (hr : Room k X.A) (hx : Passes CX X W) (ha : AA X (a :: es) fs f1 ss) (hc : ct (ss ++ dd.map .dat) ss' r) (hn : f1[n]? = some (.own l d) := by rfl) (hm : ss'[m]? = some (.own l d2) := by rfl)
    (ho0 : ownL ss = [l] := by rfl) (ho : ownL ss' = [l] := by rfl) (hat : isAt r = false := by rfl) (hg : Gl X x := by rfl)
    (hdb : (x == ("__debug__" : Str)) = false := by decide) (he : starEach (a :: es) X.env = (false, eval a X.env) :: starEach es X.env := by rfl) (hpl : (backTo pos (starEach es X.env)).any (·.1) = false := by rfl) :
    AE X (.Call (.Name x p) (a :: es) [] pos) fs (f1.set n (.own l d2)) r := by
  obtain ⟨dvals, hb, hd⟩ := G.bd
  have eo : ownL (f1.set n (.own l d2)) = ownL f1 := ownL_put hn
  refine ⟨eo.trans ha.ow, fun T σ H Q E q => bE_of (pe_call (E := W) G.ok hr hg G.mg G.kp hb hd hx bestA hdb he hpl) (ha.run T σ H _ E fun vs H1 k1 E1 p1 => ?_)⟩
  have g := p1.app (G.df (cut H1 (tt T (ownL f1))))
  have e0 : ownL (ss ++ dd.map Slot.dat) = [l] := by rw [ownL_app, ownL_dats, ho0]; rfl
  have E2 := er_args E1 g (by rw [e0]; simp)
  refine ⟨_, _, E2, g.nA, .inl ⟨ss', r, hc, by rw [ho, e0], fun v H' kk pp => ?_⟩⟩
  rw [e0] at kk pp
  have il : l ∈ ownL fs := by rw [← ha.ow]; exact mem_own hn
  exact q v H' (k1.trans fun b o h => kk b o (by
    have : b ≠ l := fun z => h (by rw [z]; exact il)
    simpa using this)) ((po_back1 E1 pp ho kk (isAt_no hat) hn hm).back k1 E1 ha.ow)
end
end
end A3
namespace A3
open PySem PySem.Spec PyProof.Rows L2

/-- a def's run: what is owned outside, the heap at its entry, what is lent to it, what a loop walks -/
structure Cf where
  T : Addr → Bool
  H0 : Hp
  ws : List Addr
  G : Hp
structure S3 (K : PySem.W.Frag) (c : Cf) (σ : L2.St) (H : Hp) (fs : Fm) : Prop where
  er : ER K c.T σ H fs
  kp : Kp c.H0 H c.ws
  dm : ∀ b, c.H0 b ≠ none → H b ≠ none
  ow : ∀ a ∈ ownL fs, a ∈ c.ws ∨ c.H0 a = none
  wd : ∀ a ∈ c.ws, c.H0 a ≠ none
  gs : Same c.G H
  gd : ∀ a ∈ ownL fs, c.G a = none
/-- what is wanted behind statements -/
structure D3 where
  nx : Fm → Prop
  rt : Fm → Res → Prop
  bk : Fm → Prop := fun _ => False
  ct : Fm → Prop := fun _ => False
structure R3 (K : PySem.W.Frag) (c : Cf) (σ : L2.St) (Hm H : Hp) (fs : Fm) (v : V) (r : Res) : Prop where
  po : Po K c.T σ Hm H fs v r
  kp : Kp c.H0 H c.ws
  dm : ∀ b, c.H0 b ≠ none → Hm b ≠ none
  na : isAt r = false
  gs : Same c.G H
  gd : ∀ a ∈ ownL fs, c.G a = none
def ends (K : PySem.W.Frag) (c : Cf) (D : D3) : Ends where
  nx := fun σ H => ∃ fs, S3 K c σ H fs ∧ D.nx fs
  rt := fun v H => ∃ σ fs r Hm, R3 K c σ Hm H fs v r ∧ D.rt fs r
  bk := fun σ H => ∃ fs, S3 K c σ H fs ∧ D.bk fs
  ct := fun σ H => ∃ fs, S3 K c σ H fs ∧ D.ct fs
def AS (X : Cx) (sts : List Stmt) (c : Cf) (fs : Fm) (D : D3) : Prop := ∀ σ H, S3 X.K c σ H fs → bSs X sts (ends X.K c D) σ H

section
variable {X : Cx} {a b e : Expr} {es : List Expr} {sts rest body : List Stmt} {c : Cf} {D : D3} {fs f1 f2 f3 : Fm} {d d1 d2 d3 : PyData} {ds : List PyData} {r r1 r2 : Res} {pos pos' : Pos} {T : Addr → Bool} {σ σ' : L2.St} {H H' : Hp} {i j : Int} {l : Addr} {x : Str} {v : V}
theorem S3.keeps {K : PySem.W.Frag} (S : S3 K c σ H fs) (k : Kp H H' (ownL fs)) : Kp c.H0 H' c.ws := fun b o n h => k b o (fun z => by
  rcases S.ow b z with z | z
  · exact n z
  · rw [z] at h; cases h) (S.kp b o n h)
theorem S3.step {K : PySem.W.Frag} (S : S3 K c σ H fs) (k : Kp H H' (ownL fs)) (E : ER K c.T σ' H' f1) (o : ownL f1 = ownL fs) : S3 K c σ' H' f1 where
  er := E
  kp := S.keeps k
  dm := fun b h => by
    have h2 := S.dm b h
    by_cases m : b ∈ ownL fs
    · rw [← o] at m
      obtain ⟨u, hu⟩ := E.thereL m
      rw [hu]; exact fun z => by cases z
    · cases hh : H b with
      | none => exact absurd hh h2
      | some u => rw [k b u m hh]; exact fun z => by cases z
  ow := fun a h => S.ow a (by rw [← o]; exact h)
  wd := S.wd
  gs := fun b u h => k b u (fun z => by rw [S.gd b z] at h; cases h) (S.gs b u h)
  gd := fun a h => S.gd a (by rw [← o]; exact h)
/-- fewer are owned -/
theorem S3.less {K : PySem.W.Frag} (S : S3 K c σ H fs) (E : ER K c.T σ' H f1) (o : ∀ a ∈ ownL f1, a ∈ ownL fs) : S3 K c σ' H f1 :=
  ⟨E, S.kp, S.dm, fun a h => S.ow a (o a h), S.wd, S.gs, fun a h => S.gd a (o a h)⟩
theorem S3.setDat {K : PySem.W.Frag} {n : Nat} (S : S3 K c σ H fs) (r : Rp K (cut H (tt c.T (ownL fs))) v d) : S3 K c (σ.set n (some v)) H (fs.set n (.dat d)) :=
  S.less (S.er.setDat r) fun a h => by
    rcases ownL_set h with z | z
    · exact z
    · cases z
/-- behind an expression whose value is a new object, which is kept in a slot -/
theorem S3.setNew {K : PySem.W.Frag} {n : Nat} (S : S3 K c σ H fs) (k : Kp H H' (ownL fs)) (o : ownL f1 = ownL fs) (na : H l = none) (E : ER K c.T σ (hide H' l) f1) (w : Ow K (cut (hide H' l) (tt c.T (ownL f1))) H' l d) : S3 K c (σ.set n (some (.ref l))) H' (f1.set n (.own l d)) where
  er := E.setOwn w
  kp := S.keeps k
  dm := (S.step k (E.keep (hide_same H' l)) o).dm
  ow := fun a h => by
    rcases ownL_set h with z | z
    · exact S.ow a (by rw [← o]; exact z)
    · injection z with z1
      subst z1
      refine .inr ?_
      cases hh : c.H0 l with
      | none => rfl
      | some u => exact absurd na (S.dm l (by rw [hh]; exact fun z => by cases z))
  wd := S.wd
  gs := (S.step k (E.keep (hide_same H' l)) o).gs
  gd := fun a h => by
    rcases ownL_set h with z | z
    · exact S.gd a (by rw [← o]; exact z)
    · injection z with z1
      subst z1
      cases hh : c.G l with
      | none => rfl
      | some u => rw [S.gs l u hh] at na; cases na
theorem S3.not_ws {K : PySem.W.Frag} (S : S3 K c σ H fs) (n : H l = none) : l ∉ c.ws := fun z => S.dm l (S.wd l z) n

theorem as_nil (h : D.nx fs) : AS X [] c fs D := fun σ H S => bSs_of pss_nil ⟨fs, S, h⟩
/-- x = e -/
theorem as_set (n : Nat) (he : AE X e fs f1 (.val d)) (hk : AS X rest c (f1.set n (.dat d)) D) (hN : X.N.Nodup) (hi : X.N[n]? = some x := by rfl) (hx : Loc X.env.scope x := by first | exact .inl rfl | exact .inr rfl)
    (hs : swapsWith e (some (.Name x pos')) pos.line X.env = pure false := by rfl) (hf : X.fn x = true ∨ X.env.scope.names.lookup x = some .local := by first | exact .inl rfl | exact .inr rfl) : AS X (.Assign [.Name x pos'] e pos :: rest) c fs D :=
  fun σ H S => bSs_of (pss_cons (ps_set hN hi hx best hs hf) bestSs) (he.run c.T σ H _ S.er fun v H1 k1 p1 => hk _ _ ((S.step k1 p1.1 he.ow).setDat p1.2))
/-- x = e, a new list or dict: it is x's own -/
theorem as_new (n : Nat) (he : AE X e fs f1 (.new d)) (hk : ∀ l, l ∉ c.ws → l ∉ ownL f1 → AS X rest c (f1.set n (.own l d)) D) (hN : X.N.Nodup) (hi : X.N[n]? = some x := by rfl) (hx : Loc X.env.scope x := by first | exact .inl rfl | exact .inr rfl)
    (hs : swapsWith e (some (.Name x pos')) pos.line X.env = pure false := by rfl) (hf : X.fn x = true ∨ X.env.scope.names.lookup x = some .local := by first | exact .inl rfl | exact .inr rfl) : AS X (.Assign [.Name x pos'] e pos :: rest) c fs D :=
  fun σ H S => bSs_of (pss_cons (ps_set hN hi hx best hs hf) bestSs) (he.run c.T σ H _ S.er fun v H1 k1 p1 => by
    obtain ⟨l, rfl, na, E1, w⟩ := p1
    exact hk l (S.not_ws na) (tt_false.mp (E1.free (hide_self H1 l))).2 _ _ (S.setNew k1 he.ow na E1 w))
/-- if -/
theorem as_if {t : Expr} {A B : List Stmt} {bb : Bool} (ht : AT X t fs f1 bb) (h1 : bb = true → AS X A c f1 { D with nx := fun f => AS X rest c f D }) (h2 : bb = false → AS X B c f1 { D with nx := fun f => AS X rest c f D }) : AS X (.If t A B pos :: rest) c fs D := by
  refine fun σ H S => bSs_of (pss_cons (ps_if bestT bestSs bestSs) bestSs) (ht.run c.T σ H _ S.er fun H1 k1 E1 => ?_)
  have S1 := S.step k1 E1 ht.ow
  have fix : ∀ {sts : List Stmt}, AS X sts c f1 { D with nx := fun f => AS X rest c f D } → bSs X sts { ends X.K c D with nx := bSs X rest (ends X.K c D) } σ H1 := fun h pins s I => by
    refine thn (h σ H1 S1 pins s I) fun fl s' q => ?_
    cases fl with
    | next => obtain ⟨σ', H', I', f, S', q⟩ := q; exact ⟨σ', H', I', q σ' H' S'⟩
    | _ => exact q
  cases bb with
  | true => exact fix (h1 rfl)
  | false => exact fix (h2 rfl)
/-- return e -/
theorem as_ret (he : AE X e fs f1 r) (hr : D.rt f1 r) (hat : isAt r = false := by rfl) : AS X (.Return (some e) pos :: rest) c fs D :=
  fun σ H S => bSs_of (pss_cons (ps_ret best) bestSs) (he.run c.T σ H _ S.er fun v H1 k1 p1 => ⟨σ, f1, r, H, ⟨p1, S.keeps k1, S.dm, hat, (S.step k1 p1.er he.ow).gs, (S.step k1 p1.er he.ow).gd⟩, hr⟩)
theorem as_retN (hr : D.rt fs (.val .none)) : AS X (.Return none pos :: rest) c fs D :=
  fun σ H S => bSs_of (pss_cons ps_retN bestSs) ⟨σ, fs, .val .none, H, ⟨⟨S.er, .non⟩, S.kp, S.dm, rfl, S.gs, S.gd⟩, hr⟩
theorem er_dropS {K : PySem.W.Frag} {n : Nat} {s : Slot} (E : ER K T σ H fs) (hn : fs[n]? = some s) (ea : adr s = some l) : ER K T σ (hide H l) (fs.set n .no) ∧ SlR K (cut (hide H l) (tt T (ownL (fs.set n .no)))) H (some (.ref l)) s := by
  have il : l ∈ ownL fs := mem_ownL.mpr ⟨n, s, hn, ea⟩
  have up : Same (cut H (tt T (ownL fs))) (cut (hide H l) (tt T (ownL (fs.set n .no)))) := cut_same fun b o e h => by
    obtain ⟨e1, e2⟩ := tt_false.mp e
    refine ⟨tt_false.mpr ⟨e1, fun z => ?_⟩, ?_⟩
    · rcases ownL_set z with z | z
      · exact e2 z
      · cases z
    · rw [hide_ne (fun z => e2 (by rw [z]; exact il))]; exact h
  obtain ⟨ov0, g1, g2⟩ := E.sl n _ hn
  obtain ⟨rfl, _⟩ := g2.adr ea
  refine ⟨⟨by simpa using E.len, fun j s h => ?_, E.nd.sublist (ownL_set_sub rfl), fun a h => ?_, fun b h => ?_⟩, g2.mono up fun _ _ => rfl⟩
  · by_cases e : n = j
    · subst e
      have lt : n < fs.length := (List.getElem?_eq_some_iff.mp hn).1
      rw [List.getElem?_set_self lt] at h
      cases Option.some.inj h
      exact ⟨_, g1, trivial⟩
    · rw [List.getElem?_set_ne e] at h
      obtain ⟨ov, h1, h2⟩ := E.sl j s h
      refine ⟨ov, h1, h2.mono up fun b q => ?_⟩
      exact hide_ne fun z => e (own_injS E.nd hn h ea (by rw [← z]; exact q))
  · rcases ownL_set h with z | z
    · exact E.out a z
    · cases z
  · rw [hide_ne (fun z => by have := E.out l il; rw [← z, h] at this; cases this)]
    exact E.dom b h
theorem er_drop {K : PySem.W.Frag} {n : Nat} (E : ER K T σ H fs) (hn : fs[n]? = some (.own l d)) : ER K T σ (hide H l) (fs.set n .no) ∧ Ow K (cut (hide H l) (tt T (ownL (fs.set n .no)))) H l d := by
  obtain ⟨h1, h2⟩ := er_dropS E hn rfl
  exact ⟨h1, h2.2⟩
/-- return x, x a local's own -/
theorem as_retO (n : Nat) (he : AE X e fs f1 (.at l d)) (hr : D.rt (f1.set n .no) (.new d)) (hw : l ∉ c.ws) (hn : f1[n]? = some (.own l d) := by rfl) : AS X (.Return (some e) pos :: rest) c fs D :=
  fun σ H S => bSs_of (pss_cons (ps_ret best) bestSs) (he.run c.T σ H _ S.er fun v H1 k1 p1 => by
    obtain ⟨E1, rfl, _⟩ := p1
    obtain ⟨q1, q2⟩ := er_drop E1 hn
    have h0 : c.H0 l = none := by
      rcases S.ow l (by rw [← he.ow]; exact mem_own hn) with z | z
      · exact absurd z hw
      · exact z
    refine ⟨σ, _, .new d, hide H l, ⟨⟨l, rfl, hide_self H l, q1, q2⟩, S.keeps k1, fun b h => ?_, rfl, (S.step k1 E1 he.ow).gs, fun a h => (S.step k1 E1 he.ow).gd a (by
      rcases ownL_set h with z | z
      · exact z
      · cases z)⟩, hr⟩
    rw [hide_ne (fun z => h (by rw [z]; exact h0))]
    exact S.dm b h)
/-- a local's own object is not changed any more -/
theorem er_freeze {K : PySem.W.Frag} {n : Nat} (E : ER K T σ H fs) (hn : fs[n]? = some (.own l d)) : ER K T σ H (fs.set n (.isv (.ref l) d)) := by
  obtain ⟨q1, q2⟩ := er_drop E hn
  have E2 := q1.keep (hide_same H l)
  have f : tt T (ownL (fs.set n .no)) l = false := q1.free (hide_self H l)
  have w : Rp K (cut H (tt T (ownL (fs.set n .no)))) (.ref l) d := by
    obtain ⟨o, ho⟩ := q2.there
    exact Ow.rp (S := cut (hide H l) (tt T (ownL (fs.set n .no)))) (cut_same fun b o e z => ⟨e, hide_same H l b o z⟩) (q2.mono (fun _ _ z => z) (by rw [ho]; exact cut_of f ho))
  have E3 := E2.setIsv (i := n) w
  rw [List.set_set] at E3
  have e : σ.set n (some (.ref l)) = σ := by
    by_cases lt : n < σ.length
    · have h1 := (E.own hn).1 lt
      apply List.ext_getElem?
      intro m
      by_cases z : n = m
      · subst z
        rw [List.getElem?_set_self (List.getElem?_eq_some_iff.mp h1).1, h1]
      · rw [List.getElem?_set_ne z]
    · exact List.set_eq_of_length_le (by omega)
  rw [e] at E3
  exact E3
theorem er_isv_dat {K : PySem.W.Frag} {n : Nat} (E : ER K T σ H fs) (hn : fs[n]? = some (.isv v d)) : ER K T σ H (fs.set n (.dat d)) := by
  have eo : ownL (fs.set n (.dat d)) = ownL fs := ownL_putS hn rfl
  refine ⟨by simpa using E.len, fun j s h => ?_, by rw [eo]; exact E.nd, fun a h => E.out a (by rw [eo] at h; exact h), E.dom⟩
  rw [eo]
  by_cases e : n = j
  · subst e
    rw [List.getElem?_set_self (List.getElem?_eq_some_iff.mp hn).1] at h
    cases Option.some.inj h
    obtain ⟨h1, h2⟩ := E.isv hn
    exact ⟨some v, h1, h2⟩
  · rw [List.getElem?_set_ne e] at h
    exact E.sl j s h
theorem as_freezeV (n : Nat) (hk : AS X sts c (fs.set n (.isv (.ref l) d)) D) (hn : fs[n]? = some (.own l d) := by rfl) : AS X sts c fs D := fun σ H S =>
  hk σ H (S.less (er_freeze S.er hn) fun a h => by
    rcases ownL_set h with z | z
    · exact z
    · cases z)
theorem as_isv_dat (n : Nat) (hk : AS X sts c (fs.set n (.dat d)) D) (hn : fs[n]? = some (.isv v d) := by rfl) : AS X sts c fs D := fun σ H S =>
  hk σ H (S.less (er_isv_dat S.er hn) fun a h => by
    rcases ownL_set h with z | z
    · exact z
    · cases z)
theorem as_freeze (n : Nat) (hk : AS X sts c (fs.set n (.dat d)) D) (hn : fs[n]? = some (.own l d) := by rfl) : AS X sts c fs D :=
  as_freezeV n (as_isv_dat n (by rw [List.set_set]; exact hk) (by rw [List.getElem?_set_self (List.getElem?_eq_some_iff.mp hn).1])) hn
/-- an expression's value is dropped -/
theorem as_expr (he : AE X e fs f1 r) (hk : AS X rest c f1 D) (hs : swapsWith e none pos.line X.env = pure false := by rfl) : AS X (.Expr e pos :: rest) c fs D :=
  fun σ H S => bSs_of (pss_cons (ps_expr best hs) bestSs) (he.run c.T σ H _ S.er fun v H1 k1 p1 => hk _ _ (S.step k1 p1.er he.ow))
theorem as_pass (hk : AS X rest c fs D) : AS X (.Pass pos :: rest) c fs D := fun σ H S => bSs_of (pss_cons ps_pass bestSs) (hk σ H S)
theorem as_brk (h : D.bk fs) : AS X (.Break pos :: rest) c fs D := fun σ H S => bSs_of (pss_cons ps_break bestSs) ⟨fs, S, h⟩
theorem as_cont (h : D.ct fs) : AS X (.Continue pos :: rest) c fs D := fun σ H S => bSs_of (pss_cons ps_continue bestSs) ⟨fs, S, h⟩
/-- a, b = x, y -/
theorem as_par {y : Str} {px py pt : Pos} {kt k2 pt2} (n m : Nat) (ha : AD X [a, b] fs f1 [d1, d2]) (hk : AS X rest c ((f1.set n (.dat d1)).set m (.dat d2)) D) (hN : X.N.Nodup) (hc : X.calm = true := by rfl) (hi : X.N[n]? = some x := by rfl) (hj : X.N[m]? = some y := by rfl) (hij : n ≠ m := by decide)
    (hx : X.env.scope.names.lookup x = some .local := by rfl) (hy : X.env.scope.names.lookup y = some .local := by rfl)
    (hw : swappedStores [.Tuple [.Name x px, .Name y py] kt pt] (.Tuple [a, b] k2 pt2) X.env = pure (some [x, y]) := by rfl)
    (hs : swapsWithSole [.Tuple [.Name x px, .Name y py] kt pt] (.Tuple [a, b] k2 pt2) pos.line X.env = pure false := by rfl) :
    AS X (.Assign [.Tuple [.Name x px, .Name y py] kt pt] (.Tuple [a, b] k2 pt2) pos :: rest) c fs D :=
  fun σ H S => bSs_of (pss_cons (ps_par hc hN hi hj hij hx hy bestA hw hs) bestSs) (ha.run c.T σ H _ S.er fun vs H1 k1 E1 p1 => by
    obtain ⟨v, w, rfl, rv, rw'⟩ := p1.two_inv
    have S1 := (S.step k1 E1 ha.ow).setDat (n := n) rv
    refine ⟨v, w, rfl, hk _ _ (S1.setDat (rw'.mono (cut_same fun b o e z => ⟨?_, z⟩)))⟩
    obtain ⟨e1, e2⟩ := tt_false.mp e
    refine tt_false.mpr ⟨e1, fun z => ?_⟩
    rcases ownL_set z with z | z
    · exact e2 z
    · cases z)
/-- l[k] = e, l an owned list in the slot n -/
theorem as_setI {o ie : Expr} {k : Int} {jj : Nat} (n : Nat) (he : AE X e fs f1 (.val d)) (ho : AE X o f1 f1 (.at l (.list ds))) (hi : AE X ie f1 f1 (.val (.int k))) (hj : ixN ds.length k = some jj) (hk : AS X rest c (f1.set n (.own l (.list (ds.set jj d)))) D)
    (hn : f1[n]? = some (.own l (.list ds)) := by rfl)
    (hs : swapsWithSole [.Subscript o ie pos'] e pos.line X.env = pure false := by rfl) (hw : swappedStores [.Subscript o ie pos'] e X.env = pure none := by rfl)
    (h1 : (assignEach [.Subscript o ie pos'] X.env).map (·.2) = [assign (.Subscript o ie pos') X.env] := by rfl)
    (h2 : ∀ v, assign (.Subscript o ie pos') X.env v = (do
      let ov ← holding [v] (eval o X.env)
      let iv ← holding [v, ov] (eval ie X.env)
      standAt pos'
      holding [v, ov, iv] (setItem ov iv v)
      release [v, ov, iv] []) := by intro _; rfl) : AS X (.Assign [.Subscript o ie pos'] e pos :: rest) c fs D :=
  fun σ H S => bSs_of (pss_cons (ps_asg best (pg_sub best best set_list h2) hs hw h1) bestSs) (he.run c.T σ H _ S.er fun v H1 k1 p1 => ho.run c.T σ H1 _ p1.1 fun ov H2 k2 p2 => hi.run c.T σ H2 _ p2.1 fun iv H3 k3 p3 => by
    obtain ⟨_, rfl, _⟩ := p2
    obtain ⟨E3, ri⟩ := p3
    obtain ⟨vs, hl, qv⟩ := (E3.own hn).2
    have k23 : Kp H1 H3 (ownL f1) := k2.trans k3
    have S3' := S.step (k1.trans (by rw [he.ow] at k23; exact k23)) E3 he.ow
    have rv := p1.2.mono (k23.up rfl)
    refine ⟨l, vs, k, jj, rfl, ri.int_inv, hl, by rw [qv.length]; exact hj, hk _ _ ?_⟩
    have il : l ∈ ownL f1 := mem_own hn
    have up : Same (cut H3 (tt c.T (ownL f1))) (cut (upd H3 l (.lst (vs.set jj v))) (tt c.T (ownL f1))) := cut_same fun b o e z => ⟨e, by rw [upd_ne (fun q => (tt_false.mp e).2 (by rw [q]; exact il))]; exact z⟩
    have E4 : ER X.K c.T σ (upd H3 l (.lst (vs.set jj v))) (f1.set n (.own l (.list (ds.set jj d)))) := E3.put hn (fun b o nb h => by rw [upd_ne nb]; exact h) ⟨_, upd_same, (qv.set rv jj).mono up⟩
    exact S3'.step (fun b o nb h => by rw [upd_ne (fun z => nb (by rw [z]; exact il))]; exact h) E4 (ownL_put hn))
/-- l.append(e), l an owned list in the slot n -/
theorem as_app {o : Expr} {apos cpos : Pos} (n : Nat) (ho : AE X o fs fs (.at l (.list ds))) (he : AE X e fs f1 (.val d)) (hz : ds.length ≤ 100000) (hk : AS X rest c (f1.set n (.own l (.list (ds ++ [d])))) D) (hn : f1[n]? = some (.own l (.list ds)) := by rfl)
    (hpe : ∀ {to : TE} {t : TA}, PE X o to → PA X [e] t → PE X (.Call (.Attribute o "append" apos) [e] [] cpos) (tBM X.K "list" rAppend to t) := by exact fun h1 h2 => pe_bm PySem.F.plainAttrs_list PySem.F.slot_list_append PySem.F.type_list_append mt_append h1 h2)
    (hst : starEach [e] X.env = (false, eval e X.env) :: starEach [] X.env := by rfl) (hs : swapsWith (.Call (.Attribute o "append" apos) [e] [] cpos) none pos.line X.env = pure false := by rfl) : AS X (.Expr (.Call (.Attribute o "append" apos) [e] [] cpos) pos :: rest) c fs D :=
  fun σ H S => bSs_of (pss_cons (ps_expr (hpe best (pa_cons best pa_nil hst)) hs) bestSs) (ho.run c.T σ H _ S.er fun ov H1 k1 p1 => by
    obtain ⟨E1, rfl, i, hi⟩ := p1
    refine ⟨?_, he.run c.T σ H1 _ E1 fun v H2 k2 p2 => ?_⟩
    · obtain ⟨vs, hl, _⟩ := (E1.own hi).2
      exact .inl ⟨rfl, _, SqL.of hl⟩
    · obtain ⟨E2, rv⟩ := p2
      obtain ⟨vs, hl, qv⟩ := (E2.own hn).2
      have S2 := S.step (k1.trans k2) E2 he.ow
      refine ⟨l, vs, v, rfl, rfl, hl, by rw [qv.length]; exact Nat.lt_of_le_of_lt hz (by rw [sizeLine_eq]; decide), hk _ _ ?_⟩
      have il : l ∈ ownL f1 := mem_own hn
      have up : Same (cut H2 (tt c.T (ownL f1))) (cut (upd H2 l (.lst (vs ++ [v]))) (tt c.T (ownL f1))) := cut_same fun b o e z => ⟨e, by rw [upd_ne (fun q => (tt_false.mp e).2 (by rw [q]; exact il))]; exact z⟩
      have E4 : ER X.K c.T σ (upd H2 l (.lst (vs ++ [v]))) (f1.set n (.own l (.list (ds ++ [d])))) := E2.put hn (fun b o nb h => by rw [upd_ne nb]; exact h) ⟨_, upd_same, (qv.snoc rv).mono up⟩
      exact S2.step (fun b o nb h => by rw [upd_ne (fun z => nb (by rw [z]; exact il))]; exact h) E4 (ownL_put hn))

/-! ### loops -/
theorem as_while {t : Expr} (hp : PassesOwn (model X.prog X.w) X.A X.env X.xe) (P : Nat → Fm → Prop) (m0 : Nat) (h0 : P m0 fs)
    (hs : ∀ m f, P m f → ∃ g bb, AT X t f g bb ∧ (bb = true → AS X body c g { nx := fun f' => ∃ m', m' < m ∧ P m' f', ct := fun f' => ∃ m', m' < m ∧ P m' f', bk := fun f' => AS X rest c f' D, rt := D.rt }) ∧ (bb = false → AS X rest c g D)) :
    AS X (.While t body [] pos :: rest) c fs D := by
  refine fun σ H S => bSs_of (pss_cons (ps_while hp bestT bestSs) bestSs) ?_
  refine ⟨fun m σ H => ∃ f, S3 X.K c σ H f ∧ P m f, ⟨m0, fs, S, h0⟩, ?_⟩
  rintro m σ1 H1 ⟨f, S1, p⟩
  obtain ⟨g, bb, ht, h1, h2⟩ := hs m f p
  refine ht.run c.T σ1 H1 _ S1.er fun H2 k2 E2 => ?_
  have S2 := S1.step k2 E2 ht.ow
  cases bb with
  | true =>
    refine ⟨fun σ' H' => ∃ m', m' < m ∧ ∃ f', S3 X.K c σ' H' f' ∧ P m' f', fun σ' H' ⟨m', l, f', q⟩ => ⟨m', l, f', q⟩, fun pins s I => ?_⟩
    refine thn (h1 rfl σ1 H2 S2 pins s I) fun fl s' q => ?_
    cases fl with
    | next => obtain ⟨σ', H', I', f', S', m', lm, q⟩ := q; exact ⟨σ', H', I', m', lm, f', S', q⟩
    | cont => obtain ⟨σ', H', I', f', S', m', lm, q⟩ := q; exact ⟨σ', H', I', m', lm, f', S', q⟩
    | brk => obtain ⟨σ', H', I', f', S', q⟩ := q; exact ⟨σ', H', I', q σ' H' S'⟩
    | ret u => exact q
  | false => exact h2 rfl σ1 H2 S2
/-- targets -/
def bG (X : Cx) (tg : Expr) : TG := fun v σ H Q => ∀ pins s u, Inv X pins σ H s → RelV v u → wpAny (model X.prog X.w) X.A (assign tg X.env u) (fun _ s' => ∃ σ' H', Inv X pins σ' H' s' ∧ Q σ' H') X.xe s
theorem bestG {tg : Expr} : PG X tg (bG X tg) := ⟨fun pins s _ _ _ u _ I r h => h pins s u I r⟩
theorem bG_of {tg : Expr} {t : TG} {Q : L2.St → Hp → Prop} (p : PG X tg t) (h : t v σ H Q) : bG X tg v σ H Q := fun pins s u I r => p.run pins s σ H v u Q I r h
structure AG (X : Cx) (tg : Expr) (d : PyData) (fs fs' : Fm) : Prop where
  sub : ∀ a ∈ ownL fs', a ∈ ownL fs
  run : ∀ (T : Addr → Bool) (σ : L2.St) (H : Hp) (v : V) (Q : L2.St → Hp → Prop), ER X.K T σ H fs → Rp X.K (cut H (tt T (ownL fs))) v d → (∀ σ', ER X.K T σ' H fs' → Q σ' H) → bG X tg v σ H Q
structure AGs (X : Cx) (ts : List Expr) (ds : List PyData) (fs fs' : Fm) : Prop where
  sub : ∀ a ∈ ownL fs', a ∈ ownL fs
  run : ∃ t : TGs, PGs X ts t ∧ ∀ (T : Addr → Bool) (σ : L2.St) (H : Hp) (vs : List V) (Q : L2.St → Hp → Prop), ER X.K T σ H fs → RpAll X.K (cut H (tt T (ownL fs))) vs ds → (∀ σ', ER X.K T σ' H fs' → Q σ' H) → t vs σ H Q
theorem sub_set {n : Nat} : ∀ a ∈ ownL (fs.set n (.dat d)), a ∈ ownL fs := fun a h => by
  rcases ownL_set h with z | z
  · exact z
  · cases z
theorem ag_name (n : Nat) (hN : X.N.Nodup) (hi : X.N[n]? = some x := by rfl) (hx : Loc X.env.scope x := by first | exact .inl rfl | exact .inr rfl) (hf : X.fn x = true ∨ X.env.scope.names.lookup x = some .local := by first | exact .inl rfl | exact .inr rfl) : AG X (.Name x pos) d fs (fs.set n (.dat d)) :=
  ⟨sub_set, fun T σ H v Q E r q => bG_of (pg_name hN hi hx hf) (q _ (E.setDat r))⟩
theorem ags_nil : AGs X [] [] fs fs := ⟨fun _ h => h, gNil, pgs_nil, fun T σ H vs Q E r q => by cases r; exact ⟨rfl, q σ E⟩⟩
theorem ags_cons {tg : Expr} {ts : List Expr} (h1 : AG X tg d fs f1) (h2 : AGs X ts ds f1 f2) (hs : (assignEach (tg :: ts) X.env).map (·.2) = assign tg X.env :: (assignEach ts X.env).map (·.2) := by rfl) : AGs X (tg :: ts) (d :: ds) fs f2 := by
  obtain ⟨t, p, h3⟩ := h2.run
  refine ⟨fun a h => h1.sub a (h2.sub a h), gCons (bG X tg) t, pgs_cons bestG p hs, fun T σ H vs Q E r q => ?_⟩
  cases r with
  | cons r rr =>
    refine ⟨_, _, rfl, h1.run T σ H _ _ E r fun σ' E' => h3 T σ' H _ Q E' (rr.mono (cut_same fun b o e z => ⟨?_, z⟩)) q⟩
    obtain ⟨e1, e2⟩ := tt_false.mp e
    exact tt_false.mpr ⟨e1, fun z => e2 (h1.sub b z)⟩
theorem ag_tup {ts : List Expr} {k : Nat} (h : AGs X ts ds fs f1) (hc : X.calm = true := by rfl) (hl : ds.length = ts.length := by rfl) (hn : (assignEach ts X.env).length = ts.length := by rfl) (hst : (assignEach ts X.env).findIdx? (·.1) = none := by rfl) : AG X (.Tuple ts k pos) (.tuple ds) fs f1 := by
  obtain ⟨t, p, h3⟩ := h.run
  refine ⟨h.sub, fun T σ H v Q E r q => bG_of (pg_tup (n := ts.length) hc p hn hst) ?_⟩
  obtain ⟨a, vs, rfl, s, qv⟩ := r.tup_inv
  exact ⟨a, vs, rfl, sqT_same (cut_all _ _) s, by rw [qv.length, hl], h3 T σ H vs Q E qv q⟩
/-- target = e -/
theorem as_asg {tg : Expr} (he : AE X e fs f1 (.val d)) (hg : AG X tg d f1 f2) (hk : AS X rest c f2 D) (hs : swapsWithSole [tg] e pos.line X.env = pure false := by rfl) (hw : swappedStores [tg] e X.env = pure none := by rfl)
    (h1 : (assignEach [tg] X.env).map (·.2) = [assign tg X.env] := by rfl) : AS X (.Assign [tg] e pos :: rest) c fs D :=
  fun σ H S => bSs_of (pss_cons (ps_asg best bestG hs hw h1) bestSs) (he.run c.T σ H _ S.er fun v H1 k1 p1 => hg.run c.T σ H1 v _ p1.1 p1.2 fun σ' E' => hk σ' H1 ((S.step k1 p1.1 he.ow).less E' hg.sub))
/-- what the body of a loop over ds is to do, from turn to turn -/
def Turn3 (X : Cx) (tg : Expr) (body rest : List Stmt) (c : Cf) (D : D3) (ds : List PyData) (P : Nat → Fm → Prop) : Prop :=
  ∀ (G : Hp) (k : Nat) (d : PyData) (f : Fm), ds[k]? = some d → P k f → ∃ g, AG X tg d f g ∧ AS X body { c with G := G } g { nx := P (k + 1), ct := P (k + 1), bk := fun f' => AS X rest c f' D, rt := D.rt }
theorem S3.base {K : PySem.W.Frag} {G : Hp} (S : S3 K { c with G := G } σ H fs) (g : Same c.G G) : S3 K c σ H fs :=
  ⟨S.er, S.kp, S.dm, S.ow, S.wd, fun b o h => S.gs b o (g b o h), fun a h => by
    cases e : c.G a with
    | none => rfl
    | some o => have h2 := g a o e; have h3 : G a = none := S.gd a h; rw [h3] at h2; cases h2⟩
theorem R3.base {K : PySem.W.Frag} {G Hm : Hp} (g : Same c.G G) (R : R3 K { c with G := G } σ Hm H fs v r) : R3 K c σ Hm H fs v r :=
  ⟨R.po, R.kp, R.dm, R.na, fun b o h => R.gs b o (g b o h), fun a h => by
    cases e : c.G a with
    | none => rfl
    | some o => have h2 := g a o e; have h3 : G a = none := R.gd a h; rw [h3] at h2; cases h2⟩
/-- all that isn't owned is to be walked -/
theorem S3.walk {K : PySem.W.Frag} (S : S3 K c σ H fs) : S3 K { c with G := cut H fun b => decide (b ∈ ownL fs) } σ H fs ∧ Same c.G (cut H fun b => decide (b ∈ ownL fs)) := by
  have g : Same c.G (cut H fun b => decide (b ∈ ownL fs)) := fun b o h => cut_of (by
    refine decide_eq_false fun z => ?_
    rw [S.gd b z] at h; cases h) (S.gs b o h)
  refine ⟨⟨S.er, S.kp, S.dm, S.ow, S.wd, cut_all _ _, fun a h => ?_⟩, g⟩
  show cut H (fun b => decide (b ∈ ownL fs)) a = none
  unfold cut; simp [h]
/-- the loop's W, for any walk that yields the data ds -/
theorem for_core {tg : Expr} {P : Nat → Fm → Prop} {J : It} (S : S3 X.K c σ H fs) (h0 : P 0 fs)
    (hgo : ∀ G, Same (cut H fun b => decide (b ∈ ownL fs)) G → ∀ k, k < ds.length → J.go k G) (hst : ∀ G, Same (cut H fun b => decide (b ∈ ownL fs)) G → J.stop ds.length G)
    (hy : ∀ G, Same (cut H fun b => decide (b ∈ ownL fs)) G → ∀ k v G', k < ds.length → J.yld k G v G' → Same G G' ∧ ∃ d, ds[k]? = some d ∧ ∀ (T : Addr → Bool) (σ : L2.St) (f : Fm), ER X.K T σ G f → (∀ a ∈ ownL f, cut H (fun b => decide (b ∈ ownL fs)) a = none) → (∀ b, T b = c.T b) → Rp X.K (cut G' (tt T (ownL f))) v d)
    (hs : Turn3 X tg body rest c D ds P) (hd : ∀ f, P ds.length f → AS X rest c f D) :
    ∃ W : Nat → Nat → L2.St → Hp → Prop, (∃ m, W 0 m σ H) ∧ ∀ i m σ H, W i m σ H →
      (J.stop i H ∧ bSs X rest (ends X.K c D) σ H) ∨ (J.go i H ∧ ∃ N : L2.St → Hp → Prop, (∀ σ' H', N σ' H' → ∃ m', m' < m ∧ W (i + 1) m' σ' H') ∧ ∀ v H', J.yld i H v H' → bG X tg v σ H' fun σ2 H2 => bSs X body { nx := N, ct := N, bk := bSs X rest (ends X.K c D), rt := (ends X.K c D).rt } σ2 H2) := by
  obtain ⟨S0, g0⟩ := S.walk
  refine ⟨fun i m σ' H' => m = ds.length - i ∧ i ≤ ds.length ∧ ∃ f, S3 X.K { c with G := cut H fun b => decide (b ∈ ownL fs) } σ' H' f ∧ P i f, ⟨_, rfl, Nat.zero_le _, fs, S0, h0⟩, ?_⟩
  rintro i m σ1 H1 ⟨rfl, hi, f, S1, p⟩
  by_cases lt : i < ds.length
  · refine .inr ⟨hgo H1 S1.gs i lt, fun σ' H' => ∃ f', S3 X.K { c with G := cut H fun b => decide (b ∈ ownL fs) } σ' H' f' ∧ P (i + 1) f', fun σ' H' ⟨f', q⟩ => ⟨ds.length - (i + 1), by omega, rfl, lt, f', q⟩, fun v H2 y => ?_⟩
    obtain ⟨sm, d, hd', rp⟩ := hy H1 S1.gs i v H2 lt y
    have E2 : ER X.K c.T σ1 H2 f := S1.er.keep sm
    have S2 : S3 X.K { c with G := cut H fun b => decide (b ∈ ownL fs) } σ1 H2 f := S1.step (Kp.of sm) E2 rfl
    obtain ⟨g, ag, asb⟩ := hs (cut H fun b => decide (b ∈ ownL fs)) i d f hd' p
    refine ag.run c.T σ1 H2 v _ E2 (rp c.T σ1 f S1.er S1.gd fun _ => rfl) fun σ3 E3 => ?_
    intro pins s I
    refine thn (asb σ3 H2 (S2.less E3 ag.sub) pins s I) fun fl s' q => ?_
    cases fl with
    | next => obtain ⟨σ', H', I', f', S', q⟩ := q; exact ⟨σ', H', I', f', S', q⟩
    | cont => obtain ⟨σ', H', I', f', S', q⟩ := q; exact ⟨σ', H', I', f', S', q⟩
    | brk => obtain ⟨σ', H', I', f', S', q⟩ := q; exact ⟨σ', H', I', q σ' H' (S'.base g0)⟩
    | ret u =>
      obtain ⟨v', σ', H', I', rv, σ4, f4, r4, Hm, R, q⟩ := q
      exact ⟨v', σ', H', I', rv, σ4, f4, r4, Hm, R.base g0, q⟩
  · have e : i = ds.length := by omega
    subst e
    exact .inl ⟨hst H1 S1.gs, hd f p σ1 H1 (S1.base g0)⟩
/-- for target in e, a list that isn't owned -/
theorem as_forL {tg : Expr} (hp : PassesOwn (model X.prog X.w) X.A X.env X.xe) (P : Nat → Fm → Prop) (he : AE X e fs f1 (.val (.list ds))) (h0 : P 0 f1) (hs : Turn3 X tg body rest c D ds P) (hd : ∀ f, P ds.length f → AS X rest c f D) (hc : X.calm = true := by rfl)
    (hf : ∀ x, foldedSetIterable e X.env x = pure x := by intro _; rfl) : AS X (.For tg e body [] pos :: rest) c fs D := by
  refine fun σ H S => bSs_of (pss_cons (ps_for hp hc (pi_list best) bestG bestSs hf) bestSs) (he.run c.T σ H _ S.er fun v H1 k1 p1 => ?_)
  obtain ⟨E1, rl⟩ := p1
  obtain ⟨l, vs, rfl, s, qv⟩ := rl.lst_inv
  have up : Same (cut H1 (tt c.T (ownL f1))) (cut H1 fun b => decide (b ∈ ownL f1)) := cut_same fun b o e z => ⟨decide_eq_false (tt_false.mp e).2, z⟩
  have s1 : SqL X.K (cut H1 fun b => decide (b ∈ ownL f1)) l vs := sqL_same up s
  refine ⟨l, rfl, ⟨vs, sqL_same (cut_all _ _) s⟩, for_core (ds := ds) (S.step k1 E1 he.ow) h0 (fun G g k lt => ?_) (fun G g => ?_) (fun G g k v G' lt y => ?_) hs hd⟩
  · have := qv.length
    exact ⟨vs, vs[k]'(by omega), sqL_same g s1, by simp⟩
  · exact ⟨vs, sqL_same g s1, by rw [qv.length]; exact Nat.le_refl _⟩
  · obtain ⟨rfl, y⟩ := y
    have hv := y vs (sqL_same g s1)
    obtain ⟨d, hd', rd⟩ := qv.get2 hv
    refine ⟨fun _ _ h => h, d, hd', fun T σ f E dis et => rd.mono fun b o h => ?_⟩
    obtain ⟨e1, e2⟩ := cut_some h
    obtain ⟨e3, e4⟩ := tt_false.mp e1
    have gb := g b o (cut_of (decide_eq_false e4) e2)
    refine cut_of (tt_false.mpr ⟨by rw [et]; exact e3, fun z => ?_⟩) gb
    have := dis b z
    rw [cut_of (decide_eq_false e4) e2] at this; cases this
def rngD (lo : Int) (n : Nat) : List PyData := (List.range n).map fun (k : Nat) => PyData.int (lo + (k : Int))
theorem rngD_len (lo : Int) (n : Nat) : (rngD lo n).length = n := by simp [rngD]
theorem rngD_get {lo : Int} {n k : Nat} (h : k < n) : (rngD lo n)[k]? = some (.int (lo + (k : Int))) := by simp [rngD, h]
theorem rngD_inv {lo : Int} {n k : Nat} {d : PyData} (h : (rngD lo n)[k]? = some d) : k < n ∧ d = .int (lo + (k : Int)) := by
  have lt : k < n := by
    have := (List.getElem?_eq_some_iff.mp h).1
    rw [rngD_len] at this; exact this
  rw [rngD_get lt] at h
  exact ⟨lt, (Option.some.inj h).symm⟩
/-- for target in range(a) -/
theorem as_forR {tg : Expr} {p : Pos} {n : Int} (hp : PassesOwn (model X.prog X.w) X.A X.env X.xe) (P : Nat → Fm → Prop) (ha : AD X [a] fs f1 [.int n]) (hn : n ≤ 1000000000000) (h0 : P 0 f1) (hs : Turn3 X tg body rest c D (rngD 0 n.toNat) P) (hd : ∀ f, P n.toNat f → AS X rest c f D)
    (hm : X.mg "range" = none) (hg : Gl X "range" := by rfl) (hc : X.calm = true := by rfl) (hst : starEach [a] X.env = [(false, eval a X.env)] := by rfl) (hn0 : -1000000000000 ≤ n := by first | omega | ((repeat' split) <;> omega))
    (hf : ∀ x, foldedSetIterable (.Call (.Name "range" p) [a] [] pos') X.env x = pure x := by intro _; rfl) : AS X (.For tg (.Call (.Name "range" p) [a] [] pos') body [] pos :: rest) c fs D := by
  refine fun σ H S => bSs_of (pss_cons (ps_for hp hc (pi_range1 hg hm bestA hst) bestG bestSs hf) bestSs) (ha.run c.T σ H _ S.er fun vs H1 k1 E1 p1 => ?_)
  obtain ⟨v, rfl, rv⟩ := p1.one_inv
  refine ⟨n, by rw [rv.int_inv], by omega, by omega, for_core (ds := rngD 0 n.toNat) (S.step k1 E1 ha.ow) h0 (fun G g k lt => ?_) (fun G g => ?_) (fun G g k v G' lt y => ?_) hs (by rw [rngD_len]; exact hd)⟩
  · rw [rngD_len] at lt; exact lt
  · show n.toNat ≤ _; rw [rngD_len]; exact Nat.le_refl _
  · obtain ⟨rfl, rfl⟩ := y
    rw [rngD_len] at lt
    exact ⟨fun _ _ h => h, _, rngD_get lt, fun T σ f E dis et => .int _⟩

/-! ### a def by its body -/
/-- the owned arguments as they stand at the end, behind the marker the ghosts -/
inductive OutG (fs : Fm) : List Slot → List Slot → Prop
  | nil : OutG fs [] []
  | own {a : Addr} {d d' : PyData} {x y : List Slot} (n : Nat) : fs[n]? = some (.own a d') → OutG fs x y → OutG fs (.own a d :: x) (.own a d' :: y)
  | raw {a : Addr} {o o' : HO} {x y : List Slot} (n : Nat) : fs[n]? = some (.raw a o') → OutG fs x y → OutG fs (.raw a o :: x) (.raw a o' :: y)
  | isv {v v' : V} {d d' : PyData} {x y : List Slot} (n : Nat) : fs[n]? = some (.isv v' d') → OutG fs x y → OutG fs (.isv v d :: x) (.isv v' d' :: y)
  | mix {a : Addr} {o o' : Mix} {x y : List Slot} (n : Nat) : fs[n]? = some (.mix a o') → OutG fs x y → OutG fs (.mix a o :: x) (.mix a o' :: y)
inductive OutR (fs : Fm) : List Slot → List Slot → Prop
  | nil : OutR fs [] []
  | dat {d : PyData} {x y : List Slot} : OutR fs x y → OutR fs (.dat d :: x) (.dat d :: y)
  | own {a : Addr} {d d' : PyData} {x y : List Slot} (n : Nat) : fs[n]? = some (.own a d') → OutR fs x y → OutR fs (.own a d :: x) (.own a d' :: y)
  | raw {a : Addr} {o o' : HO} {x y : List Slot} (n : Nat) : fs[n]? = some (.raw a o') → OutR fs x y → OutR fs (.raw a o :: x) (.raw a o' :: y)
  | mix {a : Addr} {o o' : Mix} {x y : List Slot} (n : Nat) : fs[n]? = some (.mix a o') → OutR fs x y → OutR fs (.mix a o :: x) (.mix a o' :: y)
  | gh {x y : List Slot} : OutG fs x y → OutR fs (.no :: x) (.no :: y)
theorem OutG.len {x y : List Slot} (h : OutG fs x y) : x.length = y.length := by
  induction h with
  | nil => rfl
  | own _ _ _ ih => exact congrArg (· + 1) ih
  | raw _ _ _ ih => exact congrArg (· + 1) ih
  | isv _ _ _ ih => exact congrArg (· + 1) ih
  | mix _ _ _ ih => exact congrArg (· + 1) ih
theorem OutG.own_eq {x y : List Slot} (h : OutG fs x y) : ownL y = ownL x := by
  induction h with
  | nil => rfl
  | own _ _ _ ih => exact congrArg (List.cons _) ih
  | raw _ _ _ ih => exact congrArg (List.cons _) ih
  | isv _ _ _ ih => exact ih
  | mix _ _ _ ih => exact congrArg (List.cons _) ih
theorem OutG.get {x y : List Slot} (h : OutG fs x y) : ∀ (n : Nat) (s : Slot), y[n]? = some s → ∃ j : Nat, fs[j]? = some s := by
  induction h with
  | nil => intro n s e; simp at e
  | own m r _ ih =>
    intro n s e
    cases n with
    | zero => cases Option.some.inj e; exact ⟨m, r⟩
    | succ n => exact ih n s e
  | raw m r _ ih =>
    intro n s e
    cases n with
    | zero => cases Option.some.inj e; exact ⟨m, r⟩
    | succ n => exact ih n s e
  | isv m r _ ih =>
    intro n s e
    cases n with
    | zero => cases Option.some.inj e; exact ⟨m, r⟩
    | succ n => exact ih n s e
  | mix m r _ ih =>
    intro n s e
    cases n with
    | zero => cases Option.some.inj e; exact ⟨m, r⟩
    | succ n => exact ih n s e
theorem OutR.len {x y : List Slot} (h : OutR fs x y) : x.length = y.length := by
  induction h with
  | nil => rfl
  | dat _ ih => exact congrArg (· + 1) ih
  | own _ _ _ ih => exact congrArg (· + 1) ih
  | raw _ _ _ ih => exact congrArg (· + 1) ih
  | mix _ _ _ ih => exact congrArg (· + 1) ih
  | gh g => exact congrArg (· + 1) g.len
theorem OutR.own_eq {x y : List Slot} (h : OutR fs x y) : ownL y = ownL x := by
  induction h with
  | nil => rfl
  | dat _ ih => exact ih
  | own _ _ _ ih => exact congrArg (List.cons _) ih
  | raw _ _ _ ih => exact congrArg (List.cons _) ih
  | mix _ _ _ ih => exact congrArg (List.cons _) ih
  | gh g => exact g.own_eq
theorem OutR.get {x y : List Slot} (h : OutR fs x y) : ∀ (n : Nat) (s : Slot), y[n]? = some s → s = .no ∨ (∃ d, s = .dat d ∧ x[n]? = some (.dat d)) ∨ (∃ j : Nat, fs[j]? = some s ∧ nA x ≤ n) ∨ ∃ (a : Addr) (u : Slot) (j : Nat), x[n]? = some u ∧ adr u = some a ∧ adr s = some a ∧ fs[j]? = some s := by
  induction h with
  | nil => intro n s e; simp at e
  | dat _ ih =>
    intro n s e
    cases n with
    | zero => cases Option.some.inj e; exact .inr (.inl ⟨_, rfl, rfl⟩)
    | succ n =>
      rcases ih n s e with h | h | ⟨j, h, l⟩ | h
      · exact .inl h
      · exact .inr (.inl h)
      · exact .inr (.inr (.inl ⟨j, h, Nat.succ_le_succ l⟩))
      · exact .inr (.inr (.inr h))
  | own m r _ ih =>
    intro n s e
    cases n with
    | zero => cases Option.some.inj e; exact .inr (.inr (.inr ⟨_, _, m, rfl, rfl, rfl, r⟩))
    | succ n =>
      rcases ih n s e with h | h | ⟨j, h, l⟩ | h
      · exact .inl h
      · exact .inr (.inl h)
      · exact .inr (.inr (.inl ⟨j, h, Nat.succ_le_succ l⟩))
      · exact .inr (.inr (.inr h))
  | raw m r _ ih =>
    intro n s e
    cases n with
    | zero => cases Option.some.inj e; exact .inr (.inr (.inr ⟨_, _, m, rfl, rfl, rfl, r⟩))
    | succ n =>
      rcases ih n s e with h | h | ⟨j, h, l⟩ | h
      · exact .inl h
      · exact .inr (.inl h)
      · exact .inr (.inr (.inl ⟨j, h, Nat.succ_le_succ l⟩))
      · exact .inr (.inr (.inr h))
  | mix m r _ ih =>
    intro n s e
    cases n with
    | zero => cases Option.some.inj e; exact .inr (.inr (.inr ⟨_, _, m, rfl, rfl, rfl, r⟩))
    | succ n =>
      rcases ih n s e with h | h | ⟨j, h, l⟩ | h
      · exact .inl h
      · exact .inr (.inl h)
      · exact .inr (.inr (.inl ⟨j, h, Nat.succ_le_succ l⟩))
      · exact .inr (.inr (.inr h))
  | gh g =>
    intro n s e
    cases n with
    | zero => cases Option.some.inj e; exact .inl rfl
    | succ n =>
      obtain ⟨j, h⟩ := g.get n s e
      exact .inr (.inr (.inl ⟨j, h, Nat.zero_le _⟩))
theorem OutR.mem {x y : List Slot} (h : OutR fs x y) {l : Addr} (m : l ∈ ownL y) : l ∈ ownL fs := by
  obtain ⟨i, s, hi, e⟩ := mem_ownL.mp m
  rcases h.get i s hi with rfl | ⟨d, rfl, _⟩ | ⟨j, hj, _⟩ | ⟨_, _, j, _, _, _, hj⟩
  · cases e
  · cases e
  · exact mem_ownL.mpr ⟨j, s, hj, e⟩
  · exact mem_ownL.mpr ⟨j, s, hj, e⟩
/-- the arguments' frame behind the body -/
theorem er_out {K : PySem.W.Frag} {τ : L2.St} {H0 : Hp} {x y : List Slot} (E0 : ER K T τ H0 x) (hA : nA x = τ.length) (E : ER K T σ H fs) (k : Kp H0 H (ownL x)) (o : OutR fs x y) : ER K T τ H y where
  len := o.len ▸ E0.len
  sl := fun n s h => by
    have up : Same (cut H (tt T (ownL fs))) (cut H (tt T (ownL y))) := cut_same fun b u e h => by
      obtain ⟨e1, e2⟩ := tt_false.mp e
      exact ⟨tt_false.mpr ⟨e1, fun z => e2 (o.mem z)⟩, h⟩
    rcases o.get n s h with rfl | ⟨d, rfl, hx⟩ | ⟨j, hj, ln⟩ | ⟨a, u, j, hx, eu, es, hj⟩
    · exact ⟨(τ[n]?).getD none, fun l => by rw [List.getElem?_eq_getElem l]; rfl, by cases (τ[n]?).getD none <;> trivial⟩
    · obtain ⟨v, hv, r⟩ := E0.dat hx
      exact ⟨some v, hv, r.mono (k.up o.own_eq)⟩
    · obtain ⟨ov, h1, h2⟩ := E.sl j s hj
      exact ⟨ov, fun l => absurd l (by omega), h2.mono up fun _ _ => rfl⟩
    · obtain ⟨ov, h1, h2⟩ := E0.sl n u hx
      obtain ⟨e1, _⟩ := h2.adr eu
      obtain ⟨ov2, h3, h4⟩ := E.sl j s hj
      obtain ⟨e3, _⟩ := h4.adr es
      exact ⟨ov, h1, by rw [e1, ← e3]; exact h4.mono up fun _ _ => rfl⟩
  nd := by rw [o.own_eq]; exact E0.nd
  out := fun a h => E0.out a (by rw [← o.own_eq]; exact h)
  dom := E.dom
theorem po_out {K : PySem.W.Frag} {τ : L2.St} {H0 Hm : Hp} {x y : List Slot} (E0 : ER K T τ H0 x) (hA : nA x = τ.length) (p : Po K T σ Hm H fs v r) (k : Kp H0 H (ownL x)) (dm : ∀ b, H0 b ≠ none → Hm b ≠ none) (o : OutR fs x y) (na : isAt r = false) : Po K T τ H0 H y v r := by
  have up : ∀ G : Hp, Same (cut G (tt T (ownL fs))) (cut G (tt T (ownL y))) := fun G => cut_same fun b u e h => by
    obtain ⟨e1, e2⟩ := tt_false.mp e
    exact ⟨tt_false.mpr ⟨e1, fun z => e2 (o.mem z)⟩, h⟩
  cases r with
  | val d => exact ⟨er_out E0 hA p.1 k o, p.2.mono (up H)⟩
  | new d =>
    obtain ⟨l, rfl, n, E, w⟩ := p
    have h0 : H0 l = none := by
      cases hh : H0 l with
      | none => rfl
      | some u => exact absurd n (dm l (by rw [hh]; exact fun z => by cases z))
    refine ⟨l, rfl, h0, er_out E0 hA E (fun b u nb h => ?_) o, w.mono (up _) rfl⟩
    rw [hide_ne (fun z => by rw [z, h0] at h; cases h)]
    exact k b u nb h
  | «at» l d => cases na
  | two d e =>
    obtain ⟨l, g, v1, rfl, n1, n2, ne, ha, E, r1, w⟩ := p
    have h00 : ∀ x, Hm x = none → H0 x = none := fun x n => by
      cases hh : H0 x with
      | none => rfl
      | some u => exact absurd n (dm x (by rw [hh]; exact fun z => by cases z))
    refine ⟨l, g, v1, rfl, h00 l n1, h00 g n2, ne, ha, er_out E0 hA E (fun b u nb h => ?_) o, r1.mono (up _), w.mono (up _) rfl⟩
    rw [hide_ne (fun z => by rw [z, h00 l n1] at h; cases h), hide_ne (fun z => by rw [z, h00 g n2] at h; cases h)]
    exact k b u nb h
  | tw d e =>
    obtain ⟨l, g, q, rfl, n1, n2, n3, ag, ah, gh, ha, E, r1, w⟩ := p
    have h00 : ∀ x, Hm x = none → H0 x = none := fun x n => by
      cases hh : H0 x with
      | none => rfl
      | some u => exact absurd n (dm x (by rw [hh]; exact fun z => by cases z))
    refine ⟨l, g, q, rfl, h00 l n1, h00 g n2, h00 q n3, ag, ah, gh, ha, er_out E0 hA E (fun b u nb h => ?_) o, r1.mono (up _) rfl, w.mono (up _) rfl⟩
    rw [hide3_ne (fun z => by rw [z, h00 q n3] at h; cases h) (fun z => by rw [z, h00 g n2] at h; cases h) (fun z => by rw [z, h00 l n1] at h; cases h)]
    exact k b u nb h
/-- what a body is to reach -/
def goal3 (ss ss' : List Slot) (r : Res) : D3 where
  nx := fun fs => r = .val .none ∧ OutR fs ss ss'
  rt := fun fs q => q = r ∧ OutR fs ss ss'
/-- the frame of a body: the arguments, the other names, the ghosts -/
def bodyF (n : Nat) (ss : List Slot) : Fm := ss.take (nA ss) ++ (List.replicate (n - nA ss) .no ++ ss.drop (nA ss))
theorem ownL_rep : ∀ n, ownL (List.replicate n Slot.no) = []
  | 0 => rfl
  | n + 1 => ownL_rep n
theorem bodyF_own (n : Nat) (ss : List Slot) : ownL (bodyF n ss) = ownL ss := by
  unfold bodyF
  rw [ownL_app, ownL_app, ownL_rep, List.nil_append, ← ownL_app, List.take_append_drop]
theorem nA_le : ∀ ss : List Slot, nA ss ≤ ss.length
  | [] => Nat.le_refl _
  | .no :: _ => Nat.zero_le _
  | .ref _ :: r => Nat.succ_le_succ (nA_le r)
  | .dat _ :: r => Nat.succ_le_succ (nA_le r)
  | .own _ _ :: r => Nat.succ_le_succ (nA_le r)
  | .raw _ _ :: r => Nat.succ_le_succ (nA_le r)
  | .mix _ _ :: r => Nat.succ_le_succ (nA_le r)
  | .isv _ _ :: r => Nat.succ_le_succ (nA_le r)
theorem start_er {K : PySem.W.Frag} {N : List Str} {vs : List V} {ss : List Slot} (E : ER K T (vs.map some) H ss) (hA : nA ss = vs.length) (hN : vs.length ≤ N.length) : ER K T (L2.start N vs) H (bodyF N.length ss) := by
  have lA := nA_le ss
  have l1 : (ss.take (nA ss)).length = vs.length := by rw [List.length_take]; omega
  have l2 : (L2.start N vs).length = N.length := by unfold L2.start; simp; omega
  refine ⟨?_, fun n s h => ?_, by rw [bodyF_own]; exact E.nd, fun a h => E.out a (by rw [bodyF_own] at h; exact h), E.dom⟩
  · rw [l2]; unfold bodyF; simp only [List.length_append, List.length_replicate, l1]; omega
  · rw [bodyF_own]
    unfold bodyF at h
    by_cases lt : n < vs.length
    · rw [List.getElem?_append_left (by omega), List.getElem?_take_of_lt (by omega)] at h
      obtain ⟨ov, h1, h2⟩ := E.sl n s h
      refine ⟨ov, fun _ => ?_, h2⟩
      unfold L2.start
      rw [List.getElem?_append_left (by simpa using lt)]
      exact h1 (by simpa using lt)
    · rw [List.getElem?_append_right (by omega), l1] at h
      by_cases lt2 : n - vs.length < N.length - nA ss
      · rw [List.getElem?_append_left (by simpa using lt2), List.getElem?_replicate, if_pos lt2] at h
        cases Option.some.inj h
        refine ⟨none, fun _ => ?_, trivial⟩
        unfold L2.start
        rw [List.getElem?_append_right (by simp; omega), List.getElem?_replicate]
        simp only [List.length_map]
        rw [if_pos (by omega)]
      · rw [List.getElem?_append_right (by simp; omega), List.getElem?_drop] at h
        obtain ⟨ov, h1, h2⟩ := E.sl _ s h
        exact ⟨ov, fun l => absurd l (by rw [l2]; omega), h2⟩
/-- THE RULE for a def that raises nothing -/
theorem fn3 {P : Program} {w : World} {K : PySem.W.Frag} {mg : Str → Option Value} {base : Heap} {x' qual : Str} {params : Arguments} {bd : List Stmt} {scope : Scope} {dvs : List V} {kws : List (Str × V)} {f : Addr} {fd : FuncData} {N ps : List Str} {k : Nat} {ct : Ct}
    (F : FunD K x' qual params bd scope dvs kws f fd) (S : FnScope N ps scope) (len : ∀ ss ss' r, ct ss ss' r → nA ss = ps.length)
    (hb : ∀ (cdv : Value) (A : Around) (outer : List Env) (s : Shared) (H : Hp) (E : XK) (c : Cf) (ss ss' : List Slot) (r : Res), Room k (A.deeper (envOfC qual scope s.heap.objs.size f cdv)) → ct ss ss' r → ownL ss = c.ws →
      AS (cxOf CX0 P w K mg base N qual scope f cdv A outer s H E).nox bd c (bodyF N.length ss) (goal3 ss ss' r)) (hN : ps.length ≤ N.length := by decide) : FnOk P w K mg base CX0 (k + 1) f fd ps (Sp3 K ct nox) := by
  refine F.ok S (fun vs H Q E h => ?_) (fun cdv A outer s H vs Q E hr h => ?_)
  · obtain ⟨T, ss, E0, hA, h⟩ := h
    rcases h with ⟨ss', r, hc, _⟩ | ⟨C, hx, _⟩
    · rw [← hA]; exact len _ _ _ hc
    · exact hx.elim
  · obtain ⟨T, ss, E0, hA, h⟩ := h
    rcases h with ⟨ss', r, hc, ho, hq⟩ | ⟨C, hx, _⟩
    · refine ⟨_, PSs.nox bestSs, ?_⟩
      have hvN : vs.length ≤ N.length := by rw [← hA, len _ _ _ hc]; exact hN
      have S0 : S3 K ⟨T, H, ownL ss, fun _ => none⟩ (L2.start N vs) H (bodyF N.length ss) := by
        refine ⟨start_er E0 hA hvN, Kp.refl _ _, fun b h => h, fun a h => .inl (by rw [bodyF_own] at h; exact h), fun a h => ?_, fun b o h => (by cases h), fun a h => rfl⟩
        obtain ⟨o, ho⟩ := E0.thereL h
        show H a ≠ none
        rw [ho]; exact fun z => by cases z
      have bdy := hb cdv A outer s H E ⟨T, H, ownL ss, fun _ => none⟩ ss ss' r hr hc rfl _ _ S0
      have hA' : nA ss = (vs.map some).length := by rw [hA]; simp
      intro pins s' I
      refine thn (bdy pins s' I) fun fl s2 q => ?_
      cases fl with
      | next =>
        obtain ⟨σ', H', I', f', S', rfl, o⟩ := q
        exact ⟨σ', H', I', hq _ H' S'.kp (po_out E0 hA' (Hm := H') (r := .val .none) ⟨S'.er, .non⟩ S'.kp S'.dm o rfl)⟩
      | ret u =>
        obtain ⟨v', σ', H', I', rv, σ4, f4, r4, Hm, R, rfl, o⟩ := q
        exact ⟨v', σ', H', I', rv, hq _ H' R.kp (po_out E0 hA' R.po R.kp R.dm o R.na)⟩
      | brk => obtain ⟨_, _, _, _, _, q⟩ := q; exact q.elim
      | cont => obtain ⟨_, _, _, _, _, q⟩ := q; exact q.elim
    · exact hx.elim
end
end A3
namespace A3
open PySem PySem.Spec PyProof.Rows L2

/-! ### defs by name -/
abbrev FnP (K : PySem.W.Frag) (x : Str) (st : Stmt) (dfl : List He.Dv) (f : Addr) (fd : FuncData) : Prop := FunD K x x (defArgs st) (defBody st) (defScope st) (dfl.map (He.Dv.v K)) [] f fd
def dvD : He.Dv → PyData
  | .bl b => .bool b
  | .int i => .int i
  | .str x => .str x
  | _ => .none
def dvS : He.Dv → Bool
  | .bl _ => true
  | .int _ => true
  | .str _ => true
  | .non => true
  | _ => false
theorem dv_rp {K : PySem.W.Frag} {S : Hp} {d : He.Dv} (h : dvS d = true) : Rp K S (d.v K) (dvD d) := by
  cases d with
  | bl b => exact .bl b
  | int i => exact .int i
  | str x => exact .str x
  | non => exact .non
  | _ => cases h
theorem dvs_rp {K : PySem.W.Frag} {S : Hp} : ∀ {ds : List He.Dv}, ds.all dvS = true → RpAll K S (ds.map (He.Dv.v K)) (ds.map dvD)
  | [], _ => .nil
  | d :: r, h => by
    have h2 : (dvS d && r.all dvS) = true := h
    obtain ⟨a, b⟩ := Bool.and_eq_true_iff.mp h2
    exact .cons (dv_rp a) (dvs_rp b)
/-- a def of the text, found by its name, with its promise and its last defaults -/
def FnT (K : PySem.W.Frag) (mg : Str → Option Value) (P : Program) (w : World) (base : Heap) (k : Nat) (x : Str) (ps : List Str) (ct : Ct) (cx : Cex) (dfl : List He.Dv) : Prop :=
  ∃ f fd, FnOk P w K mg base CX0 k f fd ps (Sp3 K ct cx) ∧ mg x = some (.ref f) ∧ PySem.W.keepIn K (.ref f) = true ∧ (∃ dvals, Binds K fd ps dvals ∧ Vals (dfl.map (He.Dv.v K)) dvals) ∧ dfl.all dvS = true
theorem FnT.fn {X : Cx} {P : Program} {w : World} {K : PySem.W.Frag} {mg : Str → Option Value} {base : Heap} {k : Nat} {x : Str} {ps : List Str} {ct : Ct} {cx : Cex} {dfl : List He.Dv} (h : FnT K mg P w base k x ps ct cx dfl)
    (h1 : X.prog = P) (h2 : X.w = w) (h3 : X.K = K) (h4 : X.mg = mg) (h5 : X.base = base) : ∃ f fd, Fn X CX0 k x f fd ps ct cx (dfl.map (He.Dv.v K)) (dfl.map dvD) := by
  obtain ⟨f, fd, a, b, c, d, e⟩ := h
  subst h1 h2 h3 h4 h5
  exact ⟨f, fd, a, b, c, d, fun S => dvs_rp e⟩
/-- a def without defaults left open -/
theorem FnT.mk0 {P : Program} {w : World} {K : PySem.W.Frag} {mg : Str → Option Value} {base : Heap} {k : Nat} {x : Str} {ps : List Str} {ct : Ct} {cx : Cex} {f : Addr} {fd : FuncData} (a : FnOk P w K mg base CX0 k f fd ps (Sp3 K ct cx)) (b : mg x = some (.ref f)) (c : PySem.W.keepIn K (.ref f) = true) (d : Binds K fd ps []) : FnT K mg P w base k x ps ct cx [] :=
  ⟨f, fd, a, b, c, ⟨[], d, .nil⟩, rfl⟩
/-! ### the module's constants -/
def KonT (K : PySem.W.Frag) (mg : Str → Option Value) (x : Str) (d : PyData) : Prop := ∃ v u, mg x = some u ∧ RelV v u ∧ ∀ H, Rp K H v d
theorem ae_kon {X : Cx} {x : Str} {pos : Pos} {fs : Fm} {d : PyData} (h : KonT X.K X.mg x d) (hg : Gl X x := by rfl) (hd : (x == ("__debug__" : Str)) = false := by decide) : AE X (.Name x pos) fs fs (.val d) := by
  obtain ⟨v, u, h1, h2, h3⟩ := h
  exact ae_const (pe_glob hg h1 h2 hd) fun S => h3 S
section
variable {K : PySem.W.Frag} {h : Heap} {mg : Str → Option Value}
theorem konT_int (X : K.In h) (G : h.Ns mainGlobals mg) {x : Str} {i : Int} (c : (He.Fa.int x i).ok K = true) : KonT K mg x (.int i) := by
  obtain ⟨t, e⟩ := He.int_ok X G c
  exact ⟨.int i, _, e, ⟨t, rfl⟩, fun _ => .int i⟩
theorem konT_str (X : K.In h) (G : h.Ns mainGlobals mg) {x z : Str} (c : (He.Fa.str x z).ok K = true) : KonT K mg x (.str z) := by
  obtain ⟨t, e⟩ := He.str_ok X G c
  exact ⟨.str z, _, e, ⟨t, rfl⟩, fun _ => .str z⟩
end
/-! ### the head's facts: defs, names, tuples of scalars -/
inductive Ko where
  | tup (x : Str) (ds : List He.Dv)
  | isx (x : Str)
  | kit (x y : Str) (b : Bool)
  | kitb (x : Str) (t : String) (b : Bool)
def konB (K : PySem.W.Frag) : Ko → Bool
  | .tup x ds => He.eqO (PySem.W.nsIn K mainGlobals x) (some (some (.ref (He.ga K x)))) && He.tupB K x ds
  | .isx x => decide (PySem.W.findIn K (.ref (He.ga K x)) "__getattribute__" = some (some (.builtin "BaseException.__getattribute__"))) && (decide (PySem.W.findIn K (.ref (He.ga K x)) "__getattr__" = some none) && (decide (PySem.W.subIn K (.ref (He.ga K x)) (.type "BaseException") = some true) && (PySem.W.hasDictIn K (He.ga K x) && (decide (PySem.W.findIn K (.ref (He.ga K x)) "__class__" = some (some (.builtin "object.__class__"))) && (decide (PySem.W.specialIn K (.builtin "object.__class__") "__get__" = some (some (.builtin "getset_descriptor.__get__"))) && (decide (PySem.W.takesIn K (.builtin "object.__class__") = some true) && decide (PySem.W.mroIn K (He.ga K x) (.type "object") = some true)))))))
  | .kit x y b => decide (PySem.W.kitOne K (.ref (He.ga K x)) (.ref (He.ga K y)) = some b)
  | .kitb x t b => decide (PySem.W.kitOne K (.ref (He.ga K x)) (.type t) = some b)
abbrev AlC : Type := He.AlD × Bool
def obsC (fa : List He.Fa) (fn : List He.DefD) (ko : List Ko) (K : PySem.W.Frag) : AlC := (He.obsD fa fn K, ko.all (konB K))
def valC (fn : List He.DefD) : AlC := (He.valD fn, true)
def SaysC (fa : List He.Fa) (fn : List He.DefD) (ko : List Ko) (K : PySem.W.Frag) : Prop := obsC fa fn ko K = valC fn
def obsCG (n : Nat) (fa : List He.Fa) (fn : List He.DefD) (ko : List Ko) (g : Addr → Option Obj) : AlC := obsC fa fn ko (He.frG g (He.asD g n))
def hookC (n : Nat) (fa : List He.Fa) (fn : List He.DefD) (ko : List Ko) : PySem.W.Hook where
  α := AlC
  obs := fun s => obsCG n fa fn ko s.heap.get?
  val := fun _ => valC fn
  says := fun _ h => ∃ K : PySem.W.Frag, K.In h ∧ SaysC fa fn ko K
  of := fun _ _ e => ⟨_, He.frG_in, e⟩
  keeps := fun _ _ _ ⟨K, hK, c⟩ k => ⟨K, PySem.W.Frag.In.keeps hK k, c⟩
theorem obsCG_eq {n : Nat} {fa : List He.Fa} {fn : List He.DefD} {ko : List Ko} {g : Addr → Option Obj} {s : Shared} (h : ∀ a, g a = s.heap.get? a) : obsCG n fa fn ko g = (hookC n fa fn ko).obs s := by
  have e : g = s.heap.get? := funext h
  rw [e] <;> rfl
section
variable {fa : List He.Fa} {fn : List He.DefD} {ko : List Ko} {K : PySem.W.Frag} {h : Heap} {mg : Str → Option Value}
theorem SaysC.d (c : SaysC fa fn ko K) : He.SaysD fa fn K := congrArg (fun z : AlC => z.1) c
theorem SaysC.tup (c : SaysC fa fn ko K) (i : Nat) {q : Ko} (h : ko[i]? = some q := by rfl) : konB K q = true :=
  List.all_eq_true.mp (show ko.all (konB K) = true from congrArg (fun z : AlC => z.2) c) q (List.mem_of_getElem? h)
theorem konT_tup (X : K.In h) (G : h.Ns mainGlobals mg) {x : Str} {ds : List He.Dv} (c : konB K (.tup x ds) = true) (a : ds.all dvS = true) : KonT K mg x (.tuple (ds.map dvD)) := by
  obtain ⟨c1, c2⟩ := Bool.and_eq_true_iff.mp c
  exact ⟨.ref (He.ga K x), _, PySem.W.mg_of X G (He.eqO_ok c1), rfl, fun H => .tup (He.tupB_ok c2 H) (dvs_rp a)⟩
end
/-! ### the law's own promise -/
theorem law_sp3 {K : PySem.W.Frag} {H : Hp} {a : Addr} {ns : List Int} {ct : Ct} (h : ∀ ns : List Int, ns.length ≤ 63 → ct [.dat (.list (ns.map .int))] [.dat (.list (ns.map .int))] (.val (.bool true))) (hl : ns.length ≤ 63) (hS : SqL K H a (ns.map V.int)) :
    Sp3 K ct nox [.ref a] H (fun v _ => v = .bl true) fun _ _ _ => False := by
  refine ⟨fun _ => false, [.dat (.list (ns.map .int))], ⟨Nat.le_refl _, fun i s e => ?_, List.nodup_nil, fun a h => (by simp [ownL] at h), fun b h => (by cases h)⟩, rfl, .inl ⟨_, _, h ns hl, rfl, fun v H' _ p => p.2.bl_inv⟩⟩
  cases i with
  | zero =>
    cases Option.some.inj e
    refine ⟨some (.ref a), fun _ => rfl, .lst (sqL_same (fun b o hb => cut_of ?_ hb) hS) (RpAll.ints ns)⟩
    simp [tt, ownL]
  | succ i => simp at e
/-! ### ways that meet -/
section
variable {X : Cx} {sts rest A B : List Stmt} {c : Cf} {D D' : D3} {fs f1 : Fm} {t : Expr} {bb : Bool} {pos : Pos}
theorem AS.mono (h : AS X sts c fs D) (hn : ∀ f, D.nx f → D'.nx f) (hr : ∀ f r, D.rt f r → D'.rt f r) (hb : ∀ f, D.bk f → D'.bk f) (hc : ∀ f, D.ct f → D'.ct f) : AS X sts c fs D' := fun σ H S pins s I => by
  refine thn (h σ H S pins s I) fun fl s' q => ?_
  cases fl with
  | next => obtain ⟨σ', H', I', f, S', q⟩ := q; exact ⟨σ', H', I', f, S', hn f q⟩
  | brk => obtain ⟨σ', H', I', f, S', q⟩ := q; exact ⟨σ', H', I', f, S', hb f q⟩
  | cont => obtain ⟨σ', H', I', f, S', q⟩ := q; exact ⟨σ', H', I', f, S', hc f q⟩
  | ret u => obtain ⟨v, σ', H', I', rv, σ4, f4, r4, Hm, R, q⟩ := q; exact ⟨v, σ', H', I', rv, σ4, f4, r4, Hm, R, hr f4 r4 q⟩
theorem as_ifJ (M : Fm → Prop) (ht : AT X t fs f1 bb) (h1 : bb = true → AS X A c f1 { D with nx := M }) (h2 : bb = false → AS X B c f1 { D with nx := M }) (k : ∀ f, M f → AS X rest c f D) : AS X (.If t A B pos :: rest) c fs D :=
  as_if ht (fun h => (h1 h).mono k (fun _ _ q => q) (fun _ q => q) fun _ q => q) (fun h => (h2 h).mono k (fun _ _ q => q) (fun _ q => q) fun _ q => q)
end
end A3
namespace A3
open PySem PySem.Spec PyProof.Rows L2
section
variable {X : Cx} {a b c : Expr} {es : List Expr} {fs f1 f2 f3 : Fm} {d d1 d2 d3 : PyData} {ds ds2 : List PyData} {r r1 r2 : Res} {pos p2 : Pos} {T : Addr → Bool} {σ : L2.St} {H : Hp} {i j : Int}

/-! ### ways that are cut short -/
theorem aw_andF {rest : List Expr} (ha : AT X a fs f1 false) : AW X (.BoolOp .And (a :: b :: rest) pos) fs f1 false :=
  ⟨ha.ow, fun T σ H Q E q => bW_of (pw_and bestT bestW) (ha.run T σ H _ E fun H1 k p => q H1 k p)⟩
theorem aw_orT {rest : List Expr} (ha : AT X a fs f1 true) : AW X (.BoolOp .Or (a :: b :: rest) pos) fs f1 true :=
  ⟨ha.ow, fun T σ H Q E q => bW_of (pw_or bestT bestW) (ha.run T σ H _ E fun H1 k p => q H1 k p)⟩
theorem ae_andF {rest : List Expr} (ha : AE X a fs f1 (.val (.bool false))) : AE X (.BoolOp .And (a :: b :: rest) pos) fs f1 (.val (.bool false)) :=
  ⟨ha.ow, fun T σ H Q E q => bE_of (pe_and best best) (ha.run T σ H _ E fun v H1 k p => ⟨false, p.2.bl_inv, q _ H1 k ⟨p.1, .bl false⟩⟩)⟩
theorem ae_orT {rest : List Expr} (ha : AE X a fs f1 (.val (.bool true))) : AE X (.BoolOp .Or (a :: b :: rest) pos) fs f1 (.val (.bool true)) :=
  ⟨ha.ow, fun T σ H Q E q => bE_of (pe_or best best) (ha.run T σ H _ E fun v H1 k p => ⟨true, p.2.bl_inv, q _ H1 k ⟨p.1, .bl true⟩⟩)⟩
/-- and, or where the left one is known and the right one is asked -/
theorem aw_andT {rest : List Expr} {y : Bool} (ha : AT X a fs f1 true) (hb : AW X (.BoolOp .And (b :: rest) pos) f1 f2 y) : AW X (.BoolOp .And (a :: b :: rest) pos) fs f2 y := by
  have h := aw_and (pos := pos) ha (fun _ => hb) (fun z => by cases z)
  rw [Bool.true_and] at h; exact h
theorem aw_orF {rest : List Expr} {y : Bool} (ha : AT X a fs f1 false) (hb : AW X (.BoolOp .Or (b :: rest) pos) f1 f2 y) : AW X (.BoolOp .Or (a :: b :: rest) pos) fs f2 y := by
  have h := aw_or (pos := pos) ha (fun _ => hb) (fun z => by cases z)
  rw [Bool.false_or] at h; exact h
theorem ae_andT {rest : List Expr} {y : Bool} (ha : AE X a fs f1 (.val (.bool true))) (hb : AE X (.BoolOp .And (b :: rest) pos) f1 f2 (.val (.bool y))) : AE X (.BoolOp .And (a :: b :: rest) pos) fs f2 (.val (.bool y)) := by
  have h := ae_and (pos := pos) ha (fun _ => hb) (fun z => by cases z)
  rw [Bool.true_and] at h; exact h
theorem ae_orF {rest : List Expr} {y : Bool} (ha : AE X a fs f1 (.val (.bool false))) (hb : AE X (.BoolOp .Or (b :: rest) pos) f1 f2 (.val (.bool y))) : AE X (.BoolOp .Or (a :: b :: rest) pos) fs f2 (.val (.bool y)) := by
  have h := ae_or (pos := pos) ha (fun _ => hb) (fun z => by cases z)
  rw [Bool.false_or] at h; exact h
theorem ae_isb {x y : Bool} (h : AE X a fs f1 (.val (.bool x))) (e : x = y) : AE X a fs f1 (.val (.bool y)) := by rw [← e]; exact h
theorem at_is {t : Expr} {x y : Bool} (h : AT X t fs f1 x) (e : x = y) : AT X t fs f1 y := by rw [← e]; exact h

/-! ### lists made of lists -/
theorem rlist (p : Po X.K T σ H0 H f1 v (.new (.list ds))) : ∃ l vs, v = .ref l ∧ H l = some (.lst vs) ∧ RpAll X.K (cut H (tt T (ownL f1))) vs ds ∧ H0 l = none := by
  obtain ⟨l, rfl, n, E, vs, h1, h2⟩ := p
  exact ⟨l, vs, rfl, h1, h2.mono (cut_same fun b o e z => ⟨e, hide_same H l b o z⟩), n⟩
theorem rlistA {l : Addr} (p : Po X.K T σ H0 H f1 v (.at l (.list ds))) : ∃ vs, v = .ref l ∧ H l = some (.lst vs) ∧ RpAll X.K (cut H (tt T (ownL f1))) vs ds := by
  obtain ⟨E, rfl, n, hn⟩ := p
  obtain ⟨vs, h1, h2⟩ := (E.own hn).2
  exact ⟨vs, rfl, h1, h2⟩
/-- a list that is at hand: new, or owned -/
def Hand : Res → Prop
  | .val _ => False
  | _ => True
theorem rhand (hh : Hand r) (e : r.d = .list ds) (p : Po X.K T σ H0 H f1 v r) : ∃ l vs, v = .ref l ∧ H l = some (.lst vs) ∧ RpAll X.K (cut H (tt T (ownL f1))) vs ds := by
  cases r with
  | val d => exact hh.elim
  | new d =>
    cases (show d = .list ds from e)
    obtain ⟨l, vs, a, b, c, _⟩ := rlist p
    exact ⟨l, vs, a, b, c⟩
  | two dA dB => exact absurd e (by intro z; cases z)
  | tw dA dB => exact absurd e (by intro z; cases z)
  | «at» l d =>
    cases (show d = .list ds from e)
    obtain ⟨vs, a, b, c⟩ := rlistA p
    exact ⟨l, vs, a, b, c⟩
/-- xs + ys; where the left one is owned, the right one leaves it -/
theorem ae_addL (ha : AE X a fs f1 r1) (hb : AE X b f1 f2 r2) (e1 : r1.d = .list ds := by rfl) (e2 : r2.d = .list ds2 := by rfl) (h1 : Hand r1 := by trivial) (h2 : Hand r2 := by trivial)
    (st : ∀ l d, r1 = .at l d → f2 = f1 := by intro _ _ _; rfl) (hz : ds.length + ds2.length ≤ 100000 := by first | exact Nat.le_of_ble_eq_true rfl | omega | (simp; omega)) : AE X (.BinOp a .Add b pos) fs f2 (.new (.list (ds ++ ds2))) := by
  refine ⟨hb.ow.trans ha.ow, fun T σ H Q E q => bE_of (pe_op op_cat best best) (ha.run T σ H _ E fun x H1 k1 p1 => hb.run T σ H1 _ p1.er fun y H2 k2 p2 => ?_)⟩
  have k2' : Kp H1 H2 (ownL fs) := by rw [ha.ow] at k2; exact k2
  obtain ⟨m, ws, rfl, hm, qw⟩ := rhand h2 e2 p2
  have left : ∃ l vs, x = .ref l ∧ H2 l = some (.lst vs) ∧ RpAll X.K (cut H2 (tt T (ownL f2))) vs ds := by
    cases r1 with
    | val d => exact h1.elim
    | new d =>
      cases (show d = .list ds from e1)
      obtain ⟨l, vs, rfl, hl, qv, n⟩ := rlist p1
      have fr : l ∉ ownL f1 := fun z => by
        obtain ⟨l', e, _, E1, _⟩ := p1
        cases e
        exact (tt_false.mp (E1.free (hide_self H1 l))).2 z
      exact ⟨l, vs, rfl, k2 l _ fr hl, qv.mono (k2.up hb.ow)⟩
    | two dA dB => exact absurd e1 (by intro z; cases z)
    | tw dA dB => exact absurd e1 (by intro z; cases z)
    | «at» l d =>
      cases (show d = .list ds from e1)
      have ef := st l _ rfl
      subst ef
      obtain ⟨E1, rfl, n, hn⟩ := p1
      obtain ⟨vs, g1, g2⟩ := (p2.er.own hn).2
      exact ⟨l, vs, rfl, g1, g2⟩
  obtain ⟨l, vs, rfl, hl, qv⟩ := left
  refine ⟨l, m, vs, ws, rfl, rfl, hl, hm, by rw [qv.length, qw.length]; exact Nat.le_trans hz (by rw [sizeLine_eq]; decide), fun p n => ?_⟩
  exact q _ _ ((k1.trans k2').trans (Kp.of (same_upd n))) (po_lst p2.er (k1.trans k2') (hb.ow.trans ha.ow) n (qv.app qw))
/-- xs[lo:hi] of a list, a tuple -/
def cutD (xs : List PyData) (lo hi : Option Int) : List PyData := (xs.drop (HT.sIx xs.length 0 lo)).take (HT.sIx xs.length xs.length hi - HT.sIx xs.length 0 lo)
theorem RpAll.cut {K : PySem.W.Frag} {S : Hp} {vs : List V} (q : RpAll K S vs ds) (lo hi : Option Int) : RpAll K S (cutV vs lo hi) (cutD ds lo hi) := by
  unfold cutV cutD
  rw [q.length]
  exact (q.drop _).take _
/-- a slice's part -/
structure AO (X : Cx) (e : Option Expr) (fs : Fm) (o : Option Int) : Prop where
  ex : ∃ t : TO, PO X e t ∧ ∀ (T : Addr → Bool) (σ : L2.St) (H : Hp) (Q : Option Int → Hp → Prop), ER X.K T σ H fs → (∀ H', Kp H H' (ownL fs) → ER X.K T σ H' fs → Q o H') → t σ H Q
theorem ao_none : AO X none fs none := ⟨_, po_none, fun T σ H Q E q => q H (Kp.refl _ _) E⟩
theorem ao_some (h : AE X a fs fs (.val (.int i))) : AO X (some a) fs (some i) := ⟨_, po_some best, fun T σ H Q E q => h.run T σ H _ E fun v H' k p => ⟨i, p.2.int_inv, q H' k p.1⟩⟩
theorem ae_sliceL {lo hi : Option Expr} {l h : Option Int} (ha : AE X a fs f1 r) (e : r.d = .list ds) (hl : AO X lo f1 l) (hh : AO X hi f1 h) : AE X (.Subscript a (.Slice lo hi none p2) pos) fs f1 (.new (.list (cutD ds l h))) := by
  obtain ⟨tl, pl, gl⟩ := hl
  obtain ⟨th, ph, gh⟩ := hh
  refine ⟨ha.ow, fun T σ H Q E q => bE_of (pe_slice sl_list best pl ph) (ha.run T σ H _ E fun x H1 k1 p1 => gl T σ H1 _ p1.er fun H2 k2 E2 => gh T σ H2 _ E2 fun H3 k3 E3 => ?_)⟩
  have k13 : Kp H1 H3 (ownL f1) := k2.trans k3
  have k : Kp H H3 (ownL fs) := k1.trans (by rw [ha.ow] at k13; exact k13)
  have left : ∃ l vs, x = .ref l ∧ SqL X.K H3 l vs ∧ RpAll X.K (cut H3 (tt T (ownL f1))) vs ds := by
    cases r with
    | val d =>
      cases (show d = .list ds from e)
      obtain ⟨l, vs, rfl, s, qv⟩ := p1.2.lst_inv
      exact ⟨l, vs, rfl, sqL_same (cut_all _ _) (sqL_same (k13.up rfl) s), qv.mono (k13.up rfl)⟩
    | new d =>
      cases (show d = .list ds from e)
      obtain ⟨l, vs, rfl, s, qv⟩ := p1.toVal.2.lst_inv
      exact ⟨l, vs, rfl, sqL_same (cut_all _ _) (sqL_same (k13.up rfl) s), qv.mono (k13.up rfl)⟩
    | two dA dB => exact absurd e (by intro z; cases z)
    | tw dA dB => exact absurd e (by intro z; cases z)
    | «at» l d =>
      cases (show d = .list ds from e)
      obtain ⟨E1, rfl, n, hn⟩ := p1
      obtain ⟨vs, g1, g2⟩ := (E3.own hn).2
      exact ⟨l, vs, rfl, SqL.of g1, g2⟩
  obtain ⟨l, vs, rfl, s, qv⟩ := left
  exact ⟨l, vs, rfl, s, fun p n => q _ _ (k.trans (Kp.of (same_upd n))) (po_lst E3 k ha.ow n (qv.cut _ _))⟩
theorem ae_sliceT {lo hi : Option Expr} {l h : Option Int} (ha : AE X a fs f1 (.val (.tuple ds))) (hl : AO X lo f1 l) (hh : AO X hi f1 h) (hw : (decide (HT.sIx ds.length 0 l = 0) && decide (HT.sIx ds.length ds.length h = ds.length)) = false := by rfl) : AE X (.Subscript a (.Slice lo hi none p2) pos) fs f1 (.val (.tuple (cutD ds l h))) := by
  obtain ⟨tl, pl, gl⟩ := hl
  obtain ⟨th, ph, gh⟩ := hh
  refine ⟨ha.ow, fun T σ H Q E q => bE_of (pe_slice sl_tup best pl ph) (ha.run T σ H _ E fun x H1 k1 p1 => gl T σ H1 _ p1.er fun H2 k2 E2 => gh T σ H2 _ E2 fun H3 k3 E3 => ?_)⟩
  have k13 : Kp H1 H3 (ownL f1) := k2.trans k3
  have k : Kp H H3 (ownL fs) := k1.trans (by rw [ha.ow] at k13; exact k13)
  obtain ⟨l, vs, rfl, s, qv⟩ := p1.2.tup_inv
  refine ⟨l, vs, rfl, sqT_same (cut_all _ _) (sqT_same (k13.up rfl) s), by rw [qv.length]; exact (fun w => by rw [decide_eq_true w.1, decide_eq_true w.2] at hw; cases hw), fun p n => q _ _ (k.trans (Kp.of (same_upd n))) (po_tup E3 n ((qv.mono (k13.up rfl)).cut _ _))⟩
/-- t + u, both not empty -/
theorem ae_addT (ha : AE X a fs f1 (.val (.tuple (d :: ds)))) (hb : AE X b f1 f2 (.val (.tuple (d2 :: ds2)))) (hz : (d :: ds).length + (d2 :: ds2).length ≤ 1000 := by exact Nat.le_of_ble_eq_true rfl) : AE X (.BinOp a .Add b pos) fs f2 (.val (.tuple ((d :: ds) ++ (d2 :: ds2)))) := by
  refine ⟨hb.ow.trans ha.ow, fun T σ H Q E q => bE_of (pe_op op_catT best best) (two ha hb E fun x y H1 H2 k k1 rx p => ?_)⟩
  obtain ⟨l, vs, rfl, s, qv⟩ := rx.tup_inv
  obtain ⟨m, ws, rfl, s2, qw⟩ := p.2.tup_inv
  have nv : vs ≠ [] := by cases qv; simp
  have nw : ws ≠ [] := by cases qw; simp
  exact ⟨l, m, vs, ws, rfl, rfl, sqT_same (cut_all _ _) s, sqT_same (cut_all _ _) s2, nv, by rw [qv.length, qw.length]; exact Nat.le_of_lt (small1000 hz), fun z => absurd z nw, fun _ p' n => q _ _ (k.trans (Kp.of (same_upd n))) (po_tup p.1 n (qv.app qw))⟩
/-- list(xs), list(t) -/
def seqD : PyData → Option (List PyData)
  | .list ds => some ds
  | .tuple ds => some ds
  | _ => none
theorem ae_list {p : Pos} (ha : AE X a fs f1 r) (e : seqD r.d = some ds) (hg : Gl X "list") (hm : X.mg "list" = none) (he : starEach [a] X.env = (false, eval a X.env) :: starEach [] X.env := by rfl) : AE X (.Call (.Name "list" p) [a] [] pos) fs f1 (.new (.list ds)) := by
  refine ⟨ha.ow, fun T σ H Q E q => bE_of (pe_callTy call_list_of hg hm (by decide +kernel) (pa_cons best pa_nil he) (he := he)) (ha.run T σ H _ E fun x H1 k1 p1 => ?_)⟩
  have fin : ∀ l vs, (SqL X.K H1 l vs ∨ SqT X.K H1 l vs) → RpAll X.K (cut H1 (tt T (ownL f1))) vs ds → x = .ref l → (∃ p ys, [x] = [V.ref p] ∧ (SqL X.K H1 p ys ∨ SqT X.K H1 p ys) ∧ ∀ l, H1 l = none → Q (.ref l) (upd H1 l (.lst ys))) := fun l vs s qv ex =>
    ⟨l, vs, by rw [ex], s, fun p n => q _ _ (k1.trans (Kp.of (same_upd n))) (po_lst p1.er k1 ha.ow n qv)⟩
  cases hd : r.d with
  | list es =>
    rw [hd] at e
    cases (show some es = some ds from e)
    obtain ⟨l, vs, ex, s, qv⟩ := p1.list hd
    exact fin l vs (.inl s) qv ex
  | tuple es =>
    rw [hd] at e
    cases (show some es = some ds from e)
    cases r with
    | val d =>
      cases (show d = .tuple ds from hd)
      obtain ⟨l, vs, ex, s, qv⟩ := p1.tuple
      exact fin l vs (.inr s) qv ex
    | new d =>
      cases (show d = .tuple ds from hd)
      obtain ⟨_, _, _, _, w⟩ := p1
      exact w.elim
    | two dA dB =>
      cases (show PyData.tuple [dA, dB] = .tuple ds from hd)
      obtain ⟨l, vs, ex, s, qv⟩ := (Po.pairVal p1).tuple
      exact fin l vs (.inr s) qv ex
    | tw dA dB =>
      cases (show PyData.tuple [dA, dB] = .tuple ds from hd)
      obtain ⟨l, vs, ex, s, qv⟩ := (Po.twVal p1).tuple
      exact fin l vs (.inr s) qv ex
    | «at» l d =>
      cases (show d = .tuple ds from hd)
      obtain ⟨E1, _, n, hn⟩ := p1
      exact ((E1.own hn).2).elim
  | _ => rw [hd] at e; cases e

/-! ### == and != of data -/
mutual
theorem Rp.dp {K : PySem.W.Frag} {S : Hp} : ∀ (d : PyData) (v : V), Rp K S v d → d.canLay0 = true → Dp K S v d
  | .none, _, h, _ => by cases h; exact .non
  | .bool b, _, h, _ => by cases h; exact .bl b
  | .int i, _, h, _ => by cases h; exact .int i
  | .str x, _, h, _ => by cases h; exact .str x
  | .list ds, _, h, c => by
    cases h with
    | lst s q => exact .lst s (RpAll.dp ds _ q (by simpa only [PyData.canLay0] using c))
  | .tuple ds, _, h, c => by
    cases h with
    | tup s q => exact .tup s (RpAll.dp ds _ q (by simpa only [PyData.canLay0] using c))
  | .dict _, _, _, c => by simp [PyData.canLay0] at c
theorem RpAll.dp {K : PySem.W.Frag} {S : Hp} : ∀ (ds : List PyData) (vs : List V), RpAll K S vs ds → PyData.canLayAll0 ds = true → DpAll K S vs ds
  | [], _, h, _ => by cases h; exact .nil
  | d :: ds, _, h, c => by
    cases h with
    | cons a b =>
      have c' : d.canLay0 = true ∧ PyData.canLayAll0 ds = true := by simpa only [PyData.canLayAll0, Bool.and_eq_true] using c
      exact .cons (Rp.dp d _ a c'.1) (RpAll.dp ds _ b c'.2)
end
theorem c_eqD (hu : X.A.units + 64 < cLine) (h1 : SeqAt.shaped d1 = true) (h2 : SeqAt.shaped r2.d = true) : CmpA X .Eq b f2 d1 r2 (PyData.eqv d1 r2.d) :=
  ⟨_, op_eqD hu, nomark _, fun T σ H1 H2 x y Q rx p q => ⟨d1, r2.d, Rp.dp _ _ (rx.mono (cut_all _ _)) (SeqAt.canLay_of_shaped h1), Rp.dp _ _ p.rp (SeqAt.canLay_of_shaped h2), h1, h2, q⟩⟩
theorem c_neD (hu : X.A.units + 64 < cLine) (h1 : SeqAt.shaped d1 = true) (h2 : SeqAt.shaped r2.d = true) : CmpA X .NotEq b f2 d1 r2 (!PyData.eqv d1 r2.d) :=
  ⟨_, op_neD hu, nomark _, fun T σ H1 H2 x y Q rx p q => ⟨d1, r2.d, Rp.dp _ _ (rx.mono (cut_all _ _)) (SeqAt.canLay_of_shaped h1), Rp.dp _ _ p.rp (SeqAt.canLay_of_shaped h2), h1, h2, q⟩⟩
/-! isinstance of data that isn't known -/
def isI : PyData → Bool
  | .int _ => true
  | .bool _ => true
  | _ => false
def isB : PyData → Bool
  | .bool _ => true
  | _ => false
def isT : PyData → Bool
  | .tuple _ => true
  | _ => false
def isL : PyData → Bool
  | .list _ => true
  | _ => false
def isS : PyData → Bool
  | .str _ => true
  | _ => false
def isD : PyData → Bool
  | .dict _ => true
  | _ => false
theorem kit_int (d : PyData) : kitB (tyD d) "int" = some (isI d) := by cases d <;> rfl
theorem kit_bool (d : PyData) : kitB (tyD d) "bool" = some (isB d) := by cases d <;> rfl
theorem kit_tuple (d : PyData) : kitB (tyD d) "tuple" = some (isT d) := by cases d <;> rfl
theorem kit_list (d : PyData) : kitB (tyD d) "list" = some (isL d) := by cases d <;> rfl
theorem kit_str (d : PyData) : kitB (tyD d) "str" = some (isS d) := by cases d <;> rfl
theorem kit_dict (d : PyData) : kitB (tyD d) "dict" = some (isD d) := by cases d <;> rfl
end
end A3
namespace A3
open PySem PySem.Spec PyProof.Rows L2
/-! ### comprehensions -/
def wipeF (fs : Fm) : List Nat → Fm
  | [] => fs
  | v :: vs => (wipeF fs vs).set v .no
theorem wipe_len (σ : L2.St) : ∀ vs : List Nat, (wipe σ vs).length = σ.length
  | [] => rfl
  | v :: vs => by unfold wipe; rw [List.length_set, wipe_len σ vs]
theorem wipe_get (σ : L2.St) : ∀ (vs : List Nat) (i : Nat), (wipe σ vs)[i]? = if i ∈ vs then (σ[i]?).map fun _ => none else σ[i]?
  | [], i => by simp [wipe]
  | v :: vs, i => by
    unfold wipe
    by_cases e : v = i
    · subst e
      rw [if_pos List.mem_cons_self]
      by_cases l : v < σ.length
      · rw [List.getElem?_set_self (by rw [wipe_len]; exact l), List.getElem?_eq_getElem l]; rfl
      · rw [List.getElem?_eq_none (by rw [List.length_set, wipe_len]; omega), List.getElem?_eq_none (by omega)]; rfl
    · rw [List.getElem?_set_ne e, wipe_get σ vs i]
      have : (i ∈ v :: vs) ↔ i ∈ vs := by
        rw [List.mem_cons]
        exact ⟨fun h => h.elim (fun z => absurd z.symm e) id, .inr⟩
      by_cases m : i ∈ vs
      · rw [if_pos m, if_pos (this.mpr m)]
      · rw [if_neg m, if_neg (fun z => m (this.mp z))]
theorem wipe_set {σ : L2.St} {vs : List Nat} {n : Nat} {x : Option V} (h : n ∈ vs) : wipe (σ.set n x) vs = wipe σ vs := by
  apply List.ext_getElem?
  intro i
  rw [wipe_get, wipe_get]
  by_cases m : i ∈ vs
  · rw [if_pos m, if_pos m]
    by_cases e : n = i
    · subst e
      by_cases l : n < σ.length
      · rw [List.getElem?_set_self l, List.getElem?_eq_getElem l]; rfl
      · rw [List.getElem?_eq_none (by rw [List.length_set]; omega), List.getElem?_eq_none (by omega)]
    · rw [List.getElem?_set_ne e]
  · rw [if_neg m, if_neg m, List.getElem?_set_ne (fun e => m (by rw [← e]; exact h))]
theorem er_no {K : PySem.W.Frag} {T : Addr → Bool} {σ : L2.St} {H : Hp} {fs : Fm} {n : Nat} (E : ER K T σ H fs) : ER K T (σ.set n none) H (fs.set n .no) := E.setS rfl trivial
theorem er_wipe {K : PySem.W.Frag} {T : Addr → Bool} {σ : L2.St} {H : Hp} {fs : Fm} (E : ER K T σ H fs) : ∀ vs : List Nat, ER K T (wipe σ vs) H (wipeF fs vs)
  | [] => E
  | v :: vs => er_no (er_wipe E vs)
/-- the outer frame behind a comprehension: what it owned stands as the block left it -/
structure BackR (f1 g f2 : Fm) : Prop where
  len : f2.length = f1.length
  own : ownL f2 = ownL f1
  sl : ∀ (i : Nat) (s : Slot), f2[i]? = some s → s = .no ∨ (adr s = none ∧ f1[i]? = some s) ∨ ∃ a u, adr s = some a ∧ g[i]? = some s ∧ f1[i]? = some u ∧ adr u = some a
theorem er_back {K : PySem.W.Frag} {T : Addr → Bool} {σ τ : L2.St} {H1 H : Hp} {f1 g f2 : Fm} (E1 : ER K T σ H1 f1) (E : ER K T τ H g) (k : Kp H1 H (ownL f1)) (og : ownL g = ownL f1) (b : BackR f1 g f2) : ER K T σ H f2 where
  len := b.len ▸ E1.len
  sl := fun i s h => by
    rcases b.sl i s h with rfl | ⟨e, h1⟩ | ⟨a, u, e, hg, h1, e1⟩
    · exact ⟨(σ[i]?).getD none, fun l => by rw [List.getElem?_eq_getElem l]; rfl, by cases (σ[i]?).getD none <;> trivial⟩
    · obtain ⟨ov, h2, h3⟩ := E1.sl i _ h1
      exact ⟨ov, h2, h3.mono (k.up b.own) fun a z => by rw [e] at z; cases z⟩
    · obtain ⟨ov, h2, h3⟩ := E1.sl i _ h1
      obtain ⟨e2, _⟩ := h3.adr e1
      obtain ⟨ov2, h4, h5⟩ := E.sl i _ hg
      obtain ⟨e3, _⟩ := h5.adr e
      refine ⟨ov, h2, ?_⟩
      rw [b.own, ← og, e2, ← e3]; exact h5
  nd := by rw [b.own]; exact E1.nd
  out := fun a h => E1.out a (by rw [← b.own]; exact h)
  dom := E.dom
/-- a new object is no longer anybody's to write -/
def with1 (T : Addr → Bool) (D : Addr) : Addr → Bool := fun b => T b || decide (b = D)
theorem with1_cut {T : Addr → Bool} {D : Addr} {l : List Addr} {H : Hp} : cut H (tt (with1 T D) l) = cut (hide H D) (tt T l) := by
  funext b
  unfold cut tt with1 hide cut
  by_cases e : b = D
  · subst e; simp
  · simp [e]
theorem er_with {K : PySem.W.Frag} {T : Addr → Bool} {τ : L2.St} {H : Hp} {g : Fm} {D : Addr} (E : ER K T τ (hide H D) g) (h : H D ≠ none) : ER K (with1 T D) τ H g where
  len := E.len
  sl := fun i s e => by
    obtain ⟨ov, h1, h2⟩ := E.sl i s e
    refine ⟨ov, h1, ?_⟩
    rw [with1_cut]
    refine h2.mono (fun _ _ z => z) fun a q => ?_
    obtain ⟨o, ho⟩ := (h2.adr q).2
    exact (hide_ne (fun z => by rw [z, hide_self] at ho; cases ho)).symm
  nd := E.nd
  out := fun a m => by
    have h1 := E.out a m
    unfold with1
    rw [h1]
    simp only [Bool.false_or]
    refine decide_eq_false fun z => ?_
    obtain ⟨o, ho⟩ := E.thereL m
    rw [z, hide_self] at ho; cases ho
  dom := fun b m => by
    unfold with1 at m
    rcases Bool.or_eq_true_iff.mp m with m | m
    · intro z
      refine E.dom b m ?_
      by_cases e : b = D
      · rw [e, hide_self]
      · rw [hide_ne e]; exact z
    · rw [of_decide_eq_true m]; exact h
theorem er_unwith {K : PySem.W.Frag} {T : Addr → Bool} {τ : L2.St} {H : Hp} {g : Fm} {D : Addr} (E : ER K (with1 T D) τ H g) (f : T D = false) : ER K T τ (hide H D) g where
  len := E.len
  sl := fun i s e => by
    obtain ⟨ov, h1, h2⟩ := E.sl i s e
    refine ⟨ov, h1, ?_⟩
    rw [with1_cut] at h2
    refine h2.mono (fun _ _ z => z) fun a q => ?_
    exact hide_ne fun z => by
      have := E.out a (mem_ownL.mpr ⟨i, s, e, q⟩)
      rw [z] at this
      simp [with1] at this
  nd := E.nd
  out := fun a m => by
    have := E.out a m
    unfold with1 at this
    exact (Bool.or_eq_false_iff.mp this).1
  dom := fun b m => by
    have e : b ≠ D := fun z => by rw [z, f] at m; cases m
    rw [hide_ne e]
    exact E.dom b (by unfold with1; rw [m]; rfl)

section
variable {X : Cx} {a b e elt tg iter : Expr} {es ifs : List Expr} {sts rest : List Stmt} {c : Cf} {D3' : D3} {fs f1 f2 f3 g1 g2 : Fm} {d d1 d2 : PyData} {ds : List PyData} {r : Res} {pos pos' spos : Pos} {T : Addr → Bool} {σ : L2.St} {H : Hp} {x : Str} {v : V} {scope : Scope} {own : List (Str × Nat)}
abbrev BX (X : Cx) (scope : Scope) (s : Shared) (H : Hp) (C : Addr) (cl : List (Str × Addr)) (fp : List Addr) : Cx := X.blk s H scope (compEnvC scope cl C X.env) fp
/-- a target within a block: it stores only the block's own names -/
structure AGC (X : Cx) (vs : List Nat) (tg : Expr) (d : PyData) (fs fs' : Fm) : Prop where
  ow : ownL fs' = ownL fs
  run : ∀ (T : Addr → Bool) (σ : L2.St) (H : Hp) (v : V) (Q : L2.St → Hp → Prop), ER X.K T σ H fs → Rp X.K (cut H (tt T (ownL fs))) v d → (∀ σ', ER X.K T σ' H fs' → wipe σ' vs = wipe σ vs → Q σ' H) → bG X tg v σ H Q
structure AGCs (X : Cx) (vs : List Nat) (ts : List Expr) (ds : List PyData) (fs fs' : Fm) : Prop where
  ow : ownL fs' = ownL fs
  run : ∃ t : TGs, PGs X ts t ∧ ∀ (T : Addr → Bool) (σ : L2.St) (H : Hp) (ws : List V) (Q : L2.St → Hp → Prop), ER X.K T σ H fs → RpAll X.K (cut H (tt T (ownL fs))) ws ds → (∀ σ', ER X.K T σ' H fs' → wipe σ' vs = wipe σ vs → Q σ' H) → t ws σ H Q
theorem agc_name {vs : List Nat} (n : Nat) (hN : X.N.Nodup) (hv : n ∈ vs := by decide) (ho : ownL (fs.set n (.dat d)) = ownL fs := by rfl) (hi : X.N[n]? = some x := by rfl) (hx : Loc X.env.scope x := by first | exact .inl rfl | exact .inr rfl) (hf : X.fn x = true ∨ X.env.scope.names.lookup x = some .local := by first | exact .inl rfl | exact .inr rfl) : AGC X vs (.Name x pos) d fs (fs.set n (.dat d)) :=
  ⟨ho, fun T σ H v Q E r q => bG_of (pg_name hN hi hx hf) (q _ (E.setDat r) (wipe_set hv))⟩
theorem agcs_nil {vs : List Nat} : AGCs X vs [] [] fs fs := ⟨rfl, gNil, pgs_nil, fun T σ H ws Q E r q => by cases r; exact ⟨rfl, q σ E rfl⟩⟩
theorem agcs_cons {vs : List Nat} {ts : List Expr} (h1 : AGC X vs tg d fs f1) (h2 : AGCs X vs ts ds f1 f2) (hs : (assignEach (tg :: ts) X.env).map (·.2) = assign tg X.env :: (assignEach ts X.env).map (·.2) := by rfl) : AGCs X vs (tg :: ts) (d :: ds) fs f2 := by
  obtain ⟨t, p, h3⟩ := h2.run
  refine ⟨h2.ow.trans h1.ow, gCons (bG X tg) t, pgs_cons bestG p hs, fun T σ H ws Q E r q => ?_⟩
  cases r with
  | cons r rr => exact ⟨_, _, rfl, h1.run T σ H _ _ E r fun σ' E' w1 => h3 T σ' H _ Q E' (by rw [h1.ow]; exact rr) fun σ2 E2 w2 => q σ2 E2 (w2.trans w1)⟩
theorem agc_tup {vs : List Nat} {ts : List Expr} {k : Nat} (h : AGCs X vs ts ds fs f1) (hc : X.calm = true := by rfl) (hl : ds.length = ts.length := by rfl) (hn : (assignEach ts X.env).length = ts.length := by rfl) (hst : (assignEach ts X.env).findIdx? (·.1) = none := by rfl) : AGC X vs (.Tuple ts k pos) (.tuple ds) fs f1 := by
  obtain ⟨t, p, h3⟩ := h.run
  refine ⟨h.ow, fun T σ H v Q E r q => bG_of (pg_tup (n := ts.length) hc p hn hst) ?_⟩
  obtain ⟨a, ws, rfl, s, qv⟩ := r.tup_inv
  exact ⟨a, ws, rfl, sqT_same (cut_all _ _) s, by rw [qv.length, hl], h3 T σ H ws Q E qv q⟩
/-- the tests -/
def bI (X : Cx) (ifs : List Expr) : TT := fun σ H Q => ∀ pins s, Inv X pins σ H s → wpAny (model X.prog X.w) X.A (forIn ifs true fun c r => if r = true then do let ok ← isTrue c X.env (eval c X.env); pure (ForInStep.yield ok) else pure (ForInStep.yield r)) (TP X pins σ Q) X.xe s
theorem bI_of {t : TT} {Q : Bool → Hp → Prop} (p : PTs X ifs t) (h : t σ H Q) : bI X ifs σ H Q := fun pins s I => p.run pins s σ H Q I h
structure AI (X : Cx) (ifs : List Expr) (fs fs' : Fm) (bb : Bool) : Prop where
  ow : ownL fs' = ownL fs
  run : ∀ (T : Addr → Bool) (σ : L2.St) (H : Hp) (Q : Bool → Hp → Prop), ER X.K T σ H fs → (∀ H', Kp H H' (ownL fs) → ER X.K T σ H' fs' → Q bb H') → bI X ifs σ H Q
theorem ai_nil : AI X [] fs fs true := ⟨rfl, fun T σ H Q E q => bI_of pts_nil (q H (Kp.refl _ _) E)⟩
theorem ai_one {bb : Bool} (h : AT X a fs f1 bb) : AI X [a] fs f1 bb := ⟨h.ow, fun T σ H Q E q => bI_of (pts_one bestT) (h.run T σ H _ E q)⟩
/-- one turn: what is kept (none: the tests say no) -/
def TurnC (X : Cx) (scope : Scope) (vs : List Nat) (tg : Expr) (ifs : List Expr) (elt : Expr) (d : PyData) (f g : Fm) (y : Option PyData) : Prop :=
  ∃ g1 g2 bb, (∀ s H C cl fp, AGC (BX X scope s H C cl fp) vs tg d f g1) ∧ (∀ s H C cl fp, AI (BX X scope s H C cl fp) ifs g1 g2 bb) ∧
    (bb = true → ∃ g3 z, (∀ s H C cl fp, AE (BX X scope s H C cl fp) elt g2 g3 (.val z)) ∧ y = some z ∧ wipeF g3 vs = g) ∧ (bb = false → y = none ∧ wipeF g2 vs = g)
/-- no test -/
theorem turnC1 {vs : List Nat} {g : Fm} (hg : ∀ s H C cl fp, AGC (BX X scope s H C cl fp) vs tg d f1 f2) (he : ∀ s H C cl fp, AE (BX X scope s H C cl fp) elt f2 f3 (.val d1)) (hw : wipeF f3 vs = g := by rfl) : TurnC X scope vs tg [] elt d f1 g (some d1) :=
  ⟨f2, f2, true, hg, fun _ _ _ _ _ => ai_nil, fun _ => ⟨f3, d1, he, rfl, hw⟩, fun z => by cases z⟩
theorem turnC2 {vs : List Nat} {g : Fm} {bb : Bool} (hg : ∀ s H C cl fp, AGC (BX X scope s H C cl fp) vs tg d f1 f2) (ht : ∀ s H C cl fp, AT (BX X scope s H C cl fp) a f2 g2 bb) (he : bb = true → ∀ s H C cl fp, AE (BX X scope s H C cl fp) elt g2 f3 (.val d1)) (hw : bb = true → wipeF f3 vs = g) (hn : bb = false → wipeF g2 vs = g) : TurnC X scope vs tg [a] elt d f1 g (if bb then some d1 else none) :=
  ⟨f2, g2, bb, hg, fun s H C cl fp => ai_one (ht s H C cl fp), fun z => ⟨f3, d1, he z, by rw [z]; rfl, hw z⟩, fun z => ⟨by rw [z]; rfl, hn z⟩⟩
/-- the readings of a block, whatever block it is -/
def gB (X : Cx) (scope : Scope) (tg : Expr) : TG := fun v σ H Q => ∀ s H0 C cl fp, bG (BX X scope s H0 C cl fp) tg v σ H Q
def iB (X : Cx) (scope : Scope) (ifs : List Expr) : TT := fun σ H Q => ∀ s H0 C cl fp, bI (BX X scope s H0 C cl fp) ifs σ H Q
def eB (X : Cx) (scope : Scope) (elt : Expr) : TE := fun σ H Q => ∀ s H0 C cl fp, bE (BX X scope s H0 C cl fp) elt σ H Q
theorem gB_ok (s : Shared) (H0 : Hp) (C : Addr) (cl : List (Str × Addr)) (fp : List Addr) : PG (BX X scope s H0 C cl fp) tg (gB X scope tg) := ⟨fun pins s' _ _ _ u _ I r h => h s H0 C cl fp pins s' u I r⟩
theorem iB_ok (s : Shared) (H0 : Hp) (C : Addr) (cl : List (Str × Addr)) (fp : List Addr) : PTs (BX X scope s H0 C cl fp) ifs (iB X scope ifs) := ⟨fun pins s' _ _ _ I h => h s H0 C cl fp pins s' I⟩
theorem eB_ok (s : Shared) (H0 : Hp) (C : Addr) (cl : List (Str × Addr)) (fp : List Addr) : PE (BX X scope s H0 C cl fp) elt (eB X scope elt) := ⟨fun pins s' _ _ _ I h => h s H0 C cl fp pins s' I⟩
/-- what a comprehension makes, from turn to turn -/
def madeC (y : Nat → Option PyData) (i : Nat) : List PyData := (List.range i).filterMap y
theorem madeC_succ (y : Nat → Option PyData) (i : Nat) : madeC y (i + 1) = madeC y i ++ (y i).toList := by
  unfold madeC
  rw [List.range_succ, List.filterMap_append]
  cases h : y i <;> simp [h]
theorem madeC_len (y : Nat → Option PyData) (i : Nat) : (madeC y i).length ≤ i := by
  induction i with
  | zero => simp [madeC]
  | succ i ih =>
    rw [madeC_succ, List.length_append]
    have : (y i).toList.length ≤ 1 := by cases y i <;> simp
    omega
/-- the walk of a comprehension -/
theorem comp_core {vs : List Nat} {J : It} {F : Nat → Fm} {y : Nat → Option PyData} {D : Addr} {Q : VK} (E1 : ER X.K T σ H f1) (nD : H D = none) (hz : ds.length ≤ 100000) (F0 : F 0 = wipeF f1 vs) (Fo : ∀ i, ownL (F i) = ownL f1)
    (hgo : ∀ G, Same (cut H fun b => decide (b ∈ ownL f1)) G → ∀ k, k < ds.length → J.go k G) (hst : ∀ G, Same (cut H fun b => decide (b ∈ ownL f1)) G → J.stop ds.length G)
    (hy : ∀ G, Same (cut H fun b => decide (b ∈ ownL f1)) G → ∀ k w G', k < ds.length → J.yld k G w G' → Same G G' ∧ ∃ d, ds[k]? = some d ∧ ∀ (T' : Addr → Bool) (τ : L2.St) (f : Fm), ER X.K T' τ G f → ownL f = ownL f1 → (∀ b, T' b = true → T b = true ∨ H b = none) → Rp X.K (cut G' (tt T' (ownL f))) w d)
    (hs : ∀ i d, ds[i]? = some d → TurnC X scope vs tg ifs elt d (F i) (F (i + 1)) (y i))
    (hq : ∀ H', Kp H H' (ownL f1) → ER X.K (with1 T D) (wipe σ vs) H' (F ds.length) → (∃ acc, H' D = some (.lst acc) ∧ RpAll X.K (cut H' (tt (with1 T D) (ownL f1))) acc (madeC y ds.length)) → Q (.ref D) H') :
    ∃ W : Nat → Nat → Hp → Prop, (∃ m, W 0 m (upd H D (.lst []))) ∧ ∀ i m H, W i m H →
      (J.stop i H ∧ Q (.ref D) H) ∨ (J.go i H ∧ ∃ Nx : Hp → Prop, (∀ H', Nx H' → ∃ m', m' < m ∧ W (i + 1) m' H') ∧ ∀ x H', J.yld i H x H' → gB X scope tg x (wipe σ vs) H' fun σ2 H2 => wipe σ2 vs = wipe σ vs ∧ iB X scope ifs σ2 H2 fun b H3 =>
        if b = true then eB X scope elt σ2 H3 fun z H4 => ∃ acc, H4 D = some (.lst acc) ∧ acc.length < sizeLine ∧ Nx (upd H4 D (.lst (acc ++ [z]))) else Nx H3) := by
  have fD : tt T (ownL f1) D = false := E1.free nD
  have dD : D ∉ ownL f1 := (tt_false.mp fD).2
  have region : ∀ {G : Hp}, Kp H G (ownL f1) → Same (cut H fun b => decide (b ∈ ownL f1)) G := fun {G} k b o h => by
    obtain ⟨h1, h2⟩ := cut_some h
    exact k b o (of_decide_eq_false h1) h2
  refine ⟨fun i m H' => m = ds.length - i ∧ i ≤ ds.length ∧ Kp H H' (ownL f1) ∧ ER X.K (with1 T D) (wipe σ vs) H' (F i) ∧ ∃ acc, H' D = some (.lst acc) ∧ RpAll X.K (cut H' (tt (with1 T D) (ownL f1))) acc (madeC y i), ⟨_, rfl, Nat.zero_le _, Kp.of (same_upd nD), ?_, [], upd_same, .nil⟩, ?_⟩
  · have E2 : ER X.K T (wipe σ vs) (hide (upd H D (.lst [])) D) (F 0) := by
      rw [F0]
      exact er_wipe (E1.keep (same_hide (same_upd nD) nD)) vs
    exact er_with E2 (by rw [upd_same]; exact fun z => by cases z)
  · rintro i m H1 ⟨rfl, hi, k1, E2, acc, hacc, qacc⟩
    by_cases lt : i < ds.length
    · refine .inr ⟨hgo H1 (region k1) i lt, fun H' => Kp H H' (ownL f1) ∧ ER X.K (with1 T D) (wipe σ vs) H' (F (i + 1)) ∧ ∃ acc, H' D = some (.lst acc) ∧ RpAll X.K (cut H' (tt (with1 T D) (ownL f1))) acc (madeC y (i + 1)), fun H' q => ⟨ds.length - (i + 1), by omega, rfl, lt, q⟩, fun w H2 yl => ?_⟩
      obtain ⟨sm, d, hd, rp⟩ := hy H1 (region k1) i w H2 lt yl
      have E3 : ER X.K (with1 T D) (wipe σ vs) H2 (F i) := E2.keep sm
      have rw' := rp (with1 T D) (wipe σ vs) (F i) E2 (Fo i) fun b h => by
        unfold with1 at h
        rcases Bool.or_eq_true_iff.mp h with h | h
        · exact .inl h
        · rw [of_decide_eq_true h]; exact .inr nD
      have k2 : Kp H H2 (ownL f1) := k1.trans (Kp.of sm)
      have hacc2 : H2 D = some (.lst acc) := sm _ _ hacc
      have qacc2 : RpAll X.K (cut H2 (tt (with1 T D) (ownL f1))) acc (madeC y i) := qacc.mono (cut_same fun b o e h => ⟨e, sm b o h⟩)
      obtain ⟨g1, g2, bb, ag, ai, h1, h2⟩ := hs i d hd
      have nD' : ∀ {H' : Hp} {g : Fm}, Kp H2 H' (ownL (F i)) → H' D = some (.lst acc) := fun k => k _ _ (by rw [Fo i]; exact dD) hacc2
      intro s H0 C cl fp
      refine (ag s H0 C cl fp).run (with1 T D) (wipe σ vs) H2 w _ E3 rw' fun σ2 E4 ww => ?_
      have e1 : ownL g1 = ownL f1 := (ag s H0 C cl fp).ow.trans (Fo i)
      have ww2 : wipe σ2 vs = wipe σ vs := by
        rw [ww]
        apply List.ext_getElem?
        intro j
        rw [wipe_get (wipe σ vs) vs j, wipe_get σ vs j]
        by_cases mj : j ∈ vs
        · rw [if_pos mj, if_pos mj]
          cases σ[j]? <;> rfl
        · rw [if_neg mj, if_neg mj]
      refine ⟨ww2, fun s H0 C cl fp => ?_⟩
      refine (ai s H0 C cl fp).run (with1 T D) σ2 H2 _ E4 fun H3 k3 E5 => ?_
      have e2 : ownL g2 = ownL f1 := (ai s H0 C cl fp).ow.trans e1
      rw [e1] at k3
      have hacc3 : H3 D = some (.lst acc) := k3 _ _ dD hacc2
      have qacc3 : RpAll X.K (cut H3 (tt (with1 T D) (ownL f1))) acc (madeC y i) := qacc2.mono (k3.up rfl)
      cases bb with
      | true =>
        obtain ⟨g3, z, he, hyz, hw⟩ := h1 rfl
        show eB X scope elt σ2 H3 _
        intro s H0 C cl fp
        refine (he s H0 C cl fp).run (with1 T D) σ2 H3 _ E5 fun v H4 k4 p4 => ?_
        obtain ⟨E6, rv⟩ := p4
        have e3 : ownL g3 = ownL f1 := (he s H0 C cl fp).ow.trans e2
        rw [e2] at k4
        have hacc4 : H4 D = some (.lst acc) := k4 _ _ dD hacc3
        have la : acc.length ≤ 100000 := by rw [qacc.length]; exact Nat.le_trans (madeC_len y i) (by omega)
        refine ⟨acc, hacc4, Nat.lt_of_le_of_lt la (by rw [sizeLine_eq]; decide), ?_⟩
        have up : Same (cut H4 (tt (with1 T D) (ownL f1))) (cut (upd H4 D (.lst (acc ++ [v]))) (tt (with1 T D) (ownL f1))) := cut_same fun b o e h => ⟨e, by
          rw [upd_ne (fun q => by rw [q] at e; simp [tt, with1] at e)]; exact h⟩
        have k5 : Kp H4 (upd H4 D (.lst (acc ++ [v]))) (ownL f1 ++ [D]) := fun b o n h => by
          rw [upd_ne (fun q => n (by rw [q]; simp))]; exact h
        have E7 : ER X.K (with1 T D) (wipe σ2 vs) H4 (wipeF g3 vs) := er_wipe E6 vs
        rw [hw, ww2] at E7
        refine ⟨fun b o n h => ?_, ?_, acc ++ [v], upd_same, ?_⟩
        · rw [upd_ne (fun q => by rw [q, nD] at h; cases h)]
          exact k4 b o n (k3 b o n (k2 b o n h))
        · have u := er_unwith E7 (by have := (tt_false.mp fD).1; exact this)
          refine er_with (D := D) ?_ (by rw [upd_same]; exact fun z => by cases z)
          have eh : hide (upd H4 D (.lst (acc ++ [v]))) D = hide H4 D := by
            funext b
            by_cases q : b = D
            · rw [q, hide_self, hide_self]
            · rw [hide_ne q, hide_ne q, upd_ne q]
          rw [eh]; exact u
        · rw [madeC_succ, hyz]
          rw [e3] at rv
          exact ((qacc3.mono (k4.up rfl)).mono up).snoc (rv.mono up)
      | false =>
        obtain ⟨hyn, hw⟩ := h2 rfl
        have E7 : ER X.K (with1 T D) (wipe σ2 vs) H3 (wipeF g2 vs) := er_wipe E5 vs
        rw [hw, ww2] at E7
        refine ⟨k2.trans k3, E7, acc, hacc3, ?_⟩
        rw [madeC_succ, hyn]
        simpa using qacc3
    · have e : i = ds.length := by omega
      subst e
      exact .inl ⟨hst H1 (region k1), hq H1 k1 E2 ⟨acc, hacc, qacc⟩⟩
/-- what a comprehension comes to -/
structure CompR (X : Cx) (fs f2 : Fm) (d : PyData) (t : TE) : Prop where
  ow : ownL f2 = ownL fs
  run : ∀ (T : Addr → Bool) (σ : L2.St) (H : Hp) (Q : VK), ER X.K T σ H fs → (∀ v H', Kp H H' (ownL fs) → Po X.K T σ H H' f2 v (.new d) → Q v H') → t σ H Q
theorem comp_end {vs : List Nat} {g : Fm} {D : Addr} {H0 H' : Hp} {y : List PyData} (E1 : ER X.K T σ H f1) (k0 : Kp H0 H (ownL fs)) (o1 : ownL f1 = ownL fs) (nD : H D = none) (k : Kp H H' (ownL f1)) (E : ER X.K (with1 T D) (wipe σ vs) H' g) (og : ownL g = ownL f1) (b : BackR f1 g f2)
    (q : ∃ acc, H' D = some (.lst acc) ∧ RpAll X.K (cut H' (tt (with1 T D) (ownL f1))) acc y) : Kp H0 H' (ownL fs) ∧ Po X.K T σ H0 H' f2 (.ref D) (.new (.list y)) := by
  obtain ⟨acc, h1, h2⟩ := q
  have fD := (tt_false.mp (E1.free nD)).1
  have u := er_unwith E fD
  refine ⟨k0.trans (by rw [← o1]; exact k), D, rfl, none_back E1 k0 o1 nD, er_back E1 u (fun b o n h => ?_) og b, acc, h1, ?_⟩
  · rw [hide_ne (fun z => by rw [z, nD] at h; cases h)]
    exact k b o n h
  · rw [with1_cut] at h2
    rw [b.own]; exact h2
theorem compR_range {vs : List Nat} {F : Nat → Fm} {y : Nat → Option PyData} {n : Int} (ha : AD X [a] fs f1 [.int n]) (hn : n ≤ 100000) (F0 : F 0 = wipeF f1 vs) (Fo : ∀ i, ownL (F i) = ownL f1) (hs : ∀ i, i < n.toNat → TurnC X scope vs tg ifs elt (.int (0 + (i : Int))) (F i) (F (i + 1)) (y i)) (b : BackR f1 (F n.toNat) f2) (hn0 : -1000000000000 ≤ n) :
    CompR X fs f2 (.list (madeC y n.toNat)) (tLc (iRng1 (bA X [a])) (gB X scope tg) (iB X scope ifs) (eB X scope elt) vs) := by
  refine ⟨b.own.trans ha.ow, fun T σ H Q E q => ha.run T σ H _ E fun ws H1 k1 E1 p1 => ?_⟩
  obtain ⟨v, rfl, rv⟩ := p1.one_inv
  refine ⟨n, by rw [rv.int_inv], by omega, by omega, fun D nD => ?_⟩
  refine comp_core (ds := rngD 0 n.toNat) (F := F) (y := y) E1 nD (by rw [rngD_len]; omega) F0 Fo (fun G g k lt => by rw [rngD_len] at lt; exact lt) (fun G g => by show n.toNat ≤ _; rw [rngD_len]; exact Nat.le_refl _) (fun G g k w G' lt y => ?_) (fun i d hd => ?_) (fun H' k E2 z => ?_)
  · obtain ⟨rfl, rfl⟩ := y
    rw [rngD_len] at lt
    exact ⟨fun _ _ h => h, _, rngD_get lt, fun _ _ _ _ _ _ => .int _⟩
  · obtain ⟨lt, rfl⟩ := rngD_inv hd
    exact hs i lt
  · rw [rngD_len] at E2 z
    obtain ⟨r1, r2⟩ := comp_end E1 k1 ha.ow nD k E2 (Fo _) b z
    exact q _ _ r1 r2
theorem compR_list {vs : List Nat} {F : Nat → Fm} {y : Nat → Option PyData} (ha : AE X iter fs f1 (.val (.list ds))) (hz : ds.length ≤ 100000) (F0 : F 0 = wipeF f1 vs) (Fo : ∀ i, ownL (F i) = ownL f1) (hs : ∀ i d, ds[i]? = some d → TurnC X scope vs tg ifs elt d (F i) (F (i + 1)) (y i)) (b : BackR f1 (F ds.length) f2) :
    CompR X fs f2 (.list (madeC y ds.length)) (tLc (iList X.K (bE X iter)) (gB X scope tg) (iB X scope ifs) (eB X scope elt) vs) := by
  refine ⟨b.own.trans ha.ow, fun T σ H Q E q => ha.run T σ H _ E fun v H1 k1 p1 => ?_⟩
  obtain ⟨E1, rl⟩ := p1
  obtain ⟨l, ws, rfl, s, qv⟩ := rl.lst_inv
  have up : Same (cut H1 (tt T (ownL f1))) (cut H1 fun b => decide (b ∈ ownL f1)) := cut_same fun b o e z => ⟨decide_eq_false (tt_false.mp e).2, z⟩
  have s1 : SqL X.K (cut H1 fun b => decide (b ∈ ownL f1)) l ws := sqL_same up s
  refine ⟨l, rfl, ⟨ws, sqL_same (cut_all _ _) s⟩, fun D nD => ?_⟩
  refine comp_core (ds := ds) (F := F) (y := y) E1 nD hz F0 Fo (fun G g k lt => ?_) (fun G g => ?_) (fun G g k w G' lt y => ?_) hs (fun H' k E2 z => ?_)
  · have := qv.length
    exact ⟨ws, ws[k]'(by omega), sqL_same g s1, by simp⟩
  · exact ⟨ws, sqL_same g s1, by rw [qv.length]; exact Nat.le_refl _⟩
  · obtain ⟨rfl, y⟩ := y
    have hv := y ws (sqL_same g s1)
    obtain ⟨d, hd', rd⟩ := qv.get2 hv
    refine ⟨fun _ _ h => h, d, hd', fun T' τ f E2 ef et => rd.mono fun b o h => ?_⟩
    obtain ⟨e1, e2⟩ := cut_some h
    obtain ⟨e3, e4⟩ := tt_false.mp e1
    have gb := g b o (cut_of (decide_eq_false e4) e2)
    refine cut_of (tt_false.mpr ⟨?_, by rw [ef]; exact e4⟩) gb
    cases hT : T' b with
    | false => rfl
    | true =>
      rcases et b hT with z | z
      · rw [e3] at z; cases z
      · rw [e2] at z; cases z
  · obtain ⟨r1, r2⟩ := comp_end E1 k1 ha.ow nD k E2 (Fo _) b z
    exact q _ _ r1 r2
/-- the outer frame behind a block, slot by slot -/
inductive BackL : Fm → Fm → Fm → Prop
  | nil : BackL [] [] []
  | dat {d : PyData} {s : Slot} {f g h : Fm} : BackL f g h → BackL (.dat d :: f) (s :: g) (.dat d :: h)
  | own {l : Addr} {d e : PyData} {f g h : Fm} : BackL f g h → BackL (.own l e :: f) (.own l d :: g) (.own l d :: h)
  | no {s : Slot} {f g h : Fm} : BackL f g h → BackL (.no :: f) (s :: g) (.no :: h)
  | ref {a : Addr} {s : Slot} {f g h : Fm} : BackL f g h → BackL (.ref a :: f) (s :: g) (.ref a :: h)
  | raw {l : Addr} {d e : HO} {f g h : Fm} : BackL f g h → BackL (.raw l e :: f) (.raw l d :: g) (.raw l d :: h)
  | mix {l : Addr} {d e : Mix} {f g h : Fm} : BackL f g h → BackL (.mix l e :: f) (.mix l d :: g) (.mix l d :: h)
  | isv {v : V} {d : PyData} {s : Slot} {f g h : Fm} : BackL f g h → BackL (.isv v d :: f) (s :: g) (.isv v d :: h)
theorem BackR.cons {s u w : Slot} {f g h : Fm} (ih : BackR f g h) (e : adr w = adr s) (k : w = .no ∨ (adr w = none ∧ s = w) ∨ ∃ a, adr w = some a ∧ u = w) : BackR (s :: f) (u :: g) (w :: h) := by
  refine ⟨congrArg (· + 1) ih.len, by rw [ownL_cons, ownL_cons, ih.own, e], fun i x q => ?_⟩
  cases i with
  | zero =>
    cases Option.some.inj q
    rcases k with k | ⟨k1, k2⟩ | ⟨a, k1, k2⟩
    · exact .inl k
    · exact .inr (.inl ⟨k1, congrArg some k2⟩)
    · exact .inr (.inr ⟨a, s, k1, congrArg some k2, rfl, by rw [← e]; exact k1⟩)
  | succ i => exact ih.sl i x q
theorem BackL.back {f g h : Fm} (b : BackL f g h) : BackR f g h := by
  induction b with
  | nil => exact ⟨rfl, rfl, fun i s e => by simp at e⟩
  | dat b ih => exact ih.cons rfl (.inr (.inl ⟨rfl, rfl⟩))
  | own b ih => exact ih.cons rfl (.inr (.inr ⟨_, rfl, rfl⟩))
  | no b ih => exact ih.cons rfl (.inl rfl)
  | ref b ih => exact ih.cons rfl (.inr (.inl ⟨rfl, rfl⟩))
  | raw b ih => exact ih.cons rfl (.inr (.inr ⟨_, rfl, rfl⟩))
  | mix b ih => exact ih.cons rfl (.inr (.inr ⟨_, rfl, rfl⟩))
  | isv b ih => exact ih.cons rfl (.inr (.inl ⟨rfl, rfl⟩))
/-- [elt for tg in range(a)] -/
theorem ae_lcR {p p0 : Pos} {F : Nat → Fm} {n : Int} (own : List (Str × Nat)) (y : Nat → Option PyData) (hN : X.N.Nodup) (ha : AD X [a] fs f1 [.int n]) (F0 : F 0 = wipeF f1 (own.map (·.2))) (Fo : ∀ i, ownL (F i) = ownL f1) (hs : ∀ i, i < n.toNat → TurnC X scope (own.map (·.2)) tg ifs elt (.int (0 + (i : Int))) (F i) (F (i + 1)) (y i)) (b : BackL f1 (F n.toNat) f2)
    (hm : X.mg "range" = none) (hn : n ≤ 100000 := by first | omega | ((repeat' split) <;> omega)) (hn0 : -1000000000000 ≤ n := by first | omega | ((repeat' split) <;> omega)) (hg : Gl X "range" := by rfl) (hc : X.calm = true := by rfl) (hst : starEach [a] X.env = [(false, eval a X.env)] := by rfl) (ok : blkC X.N X.env.scope scope own = true := by first | decide +kernel | rfl) (hf : ∀ x, foldedSetIterable (.Call (.Name "range" p) [a] [] p0) X.env x = pure x := by intro _; rfl) :
    AE X (.ListComp elt [⟨tg, .Call (.Name "range" p) [a] [] p0, ifs, 0⟩] scope pos) fs f2 (.new (.list (madeC y n.toNat))) :=
  let R := compR_range (X := X) (scope := scope) (tg := tg) (ifs := ifs) (elt := elt) ha hn F0 Fo hs b.back hn0
  ⟨R.ow, fun T σ H Q E q => bE_of (pe_lc hc hN (pi_range1 hg hm bestA hst) (blkOk_by ok) gB_ok iB_ok eB_ok hf) (R.run T σ H Q E q)⟩
/-- [elt for tg in iter], iter a list that isn't owned -/
theorem ae_lcL {F : Nat → Fm} (own : List (Str × Nat)) (y : Nat → Option PyData) (hN : X.N.Nodup) (ha : AE X iter fs f1 (.val (.list ds))) (F0 : F 0 = wipeF f1 (own.map (·.2))) (Fo : ∀ i, ownL (F i) = ownL f1) (hs : ∀ i d, ds[i]? = some d → TurnC X scope (own.map (·.2)) tg ifs elt d (F i) (F (i + 1)) (y i)) (b : BackL f1 (F ds.length) f2)
    (hz : ds.length ≤ 100000) (hc : X.calm = true := by rfl) (ok : blkC X.N X.env.scope scope own = true := by first | decide +kernel | rfl) (hf : ∀ x, foldedSetIterable iter X.env x = pure x := by intro _; rfl) :
    AE X (.ListComp elt [⟨tg, iter, ifs, 0⟩] scope pos) fs f2 (.new (.list (madeC y ds.length))) :=
  let R := compR_list (X := X) (scope := scope) (tg := tg) (ifs := ifs) (elt := elt) ha hz F0 Fo hs b.back
  ⟨R.ow, fun T σ H Q E q => bE_of (pe_lc hc hN (pi_list best) (blkOk_by ok) gB_ok iB_ok eB_ok hf) (R.run T σ H Q E q)⟩
/-- x = [..], x a local: it is the comprehension that stores -/
theorem as_comp {t : TE} (n : Nat) (R : CompR X fs f1 d t) (hp : PS X (.Assign [.Name x pos'] e spos) (tAsg t (gName n))) (hk : ∀ l, l ∉ c.ws → l ∉ ownL f1 → AS X rest c (f1.set n (.own l d)) D3') : AS X (.Assign [.Name x pos'] e spos :: rest) c fs D3' :=
  fun σ H S => bSs_of (pss_cons hp bestSs) (R.run c.T σ H _ S.er fun v H1 k1 p1 => by
    obtain ⟨l, rfl, na, E1, w⟩ := p1
    exact hk l (S.not_ws na) (tt_false.mp (E1.free (hide_self H1 l))).2 _ _ (S.setNew k1 R.ow na E1 w))
theorem as_compD {t : TE} (n : Nat) (R : CompR X fs f1 d t) (hp : PS X (.Assign [.Name x pos'] e spos) (tAsg t (gName n))) (hk : AS X rest c (f1.set n (.dat d)) D3') : AS X (.Assign [.Name x pos'] e spos :: rest) c fs D3' :=
  fun σ H S => bSs_of (pss_cons hp bestSs) (R.run c.T σ H _ S.er fun v H1 k1 p1 => by
    have p2 := p1.toVal
    exact hk _ _ ((S.step k1 p2.1 R.ow).setDat p2.2))
theorem ps_lcR {p p0 py : Pos} (n : Nat) (own : List (Str × Nat)) (hN : X.N.Nodup) (hm : X.mg "range" = none) (hy : X.N[n]? = some x := by rfl) (hyl : X.env.scope.names.lookup x = some .local := by rfl) (hl : (py.line == pos.line) = true := by rfl) (hg : Gl X "range" := by rfl) (hc : X.calm = true := by rfl) (hst : starEach [a] X.env = [(false, eval a X.env)] := by rfl) (ok : blkC X.N X.env.scope scope own = true := by first | decide +kernel | rfl)
    (hsw : swapsWith (.ListComp elt [⟨tg, .Call (.Name "range" p) [a] [] p0, ifs, 0⟩] scope pos) (some (.Name x py)) spos.line X.env = pure true := by exact sw_true rfl rfl rfl (by decide +kernel)) (hf : ∀ x, foldedSetIterable (.Call (.Name "range" p) [a] [] p0) X.env x = pure x := by intro _; rfl) :
    PS X (.Assign [.Name x py] (.ListComp elt [⟨tg, .Call (.Name "range" p) [a] [] p0, ifs, 0⟩] scope pos) spos) (tAsg (tLc (iRng1 (bA X [a])) (gB X scope tg) (iB X scope ifs) (eB X scope elt) (own.map (·.2))) (gName n)) :=
  ps_setLc hc hN hy hyl hsw (pi_range1 hg hm bestA hst) (blkOk_by ok) gB_ok iB_ok eB_ok hf
theorem ps_lcL {py : Pos} (n : Nat) (own : List (Str × Nat)) (hN : X.N.Nodup) (hy : X.N[n]? = some x := by rfl) (hyl : X.env.scope.names.lookup x = some .local := by rfl) (hc : X.calm = true := by rfl) (ok : blkC X.N X.env.scope scope own = true := by first | decide +kernel | rfl)
    (hsw : swapsWith (.ListComp elt [⟨tg, iter, ifs, 0⟩] scope pos) (some (.Name x py)) spos.line X.env = pure true := by exact sw_true rfl rfl rfl (by decide +kernel)) (hf : ∀ x, foldedSetIterable iter X.env x = pure x := by intro _; rfl) :
    PS X (.Assign [.Name x py] (.ListComp elt [⟨tg, iter, ifs, 0⟩] scope pos) spos) (tAsg (tLc (iList X.K (bE X iter)) (gB X scope tg) (iB X scope ifs) (eB X scope elt) (own.map (·.2))) (gName n)) :=
  ps_setLc hc hN hy hyl hsw (pi_list best) (blkOk_by ok) gB_ok iB_ok eB_ok hf
/-- x = [elt for tg in range(a)], owned -/
theorem as_lcR {p p0 py : Pos} {F : Nat → Fm} {k : Int} (n : Nat) (own : List (Str × Nat)) (y : Nat → Option PyData) (hN : X.N.Nodup) (ha : AD X [a] fs f1 [.int k]) (F0 : F 0 = wipeF f1 (own.map (·.2))) (Fo : ∀ i, ownL (F i) = ownL f1) (hs : ∀ i, i < k.toNat → TurnC X scope (own.map (·.2)) tg ifs elt (.int (0 + (i : Int))) (F i) (F (i + 1)) (y i)) (b : BackL f1 (F k.toNat) f2)
    (hk : ∀ l, l ∉ c.ws → l ∉ ownL f2 → AS X rest c (f2.set n (.own l (.list (madeC y k.toNat)))) D3')
    (hm : X.mg "range" = none) (hn : k ≤ 100000 := by first | omega | ((repeat' split) <;> omega)) (hn0 : -1000000000000 ≤ k := by first | omega | ((repeat' split) <;> omega)) (hy : X.N[n]? = some x := by rfl) (hyl : X.env.scope.names.lookup x = some .local := by rfl) (hl : (py.line == pos.line) = true := by rfl) (hg : Gl X "range" := by rfl) (hc : X.calm = true := by rfl) (hst : starEach [a] X.env = [(false, eval a X.env)] := by rfl) (ok : blkC X.N X.env.scope scope own = true := by first | decide +kernel | rfl)
    (hsw : swapsWith (.ListComp elt [⟨tg, .Call (.Name "range" p) [a] [] p0, ifs, 0⟩] scope pos) (some (.Name x py)) spos.line X.env = pure true := by exact sw_true rfl rfl rfl (by decide +kernel)) (hf : ∀ x, foldedSetIterable (.Call (.Name "range" p) [a] [] p0) X.env x = pure x := by intro _; rfl) :
    AS X (.Assign [.Name x py] (.ListComp elt [⟨tg, .Call (.Name "range" p) [a] [] p0, ifs, 0⟩] scope pos) spos :: rest) c fs D3' :=
  as_comp n (compR_range (X := X) (scope := scope) (tg := tg) (ifs := ifs) (elt := elt) ha hn F0 Fo hs b.back hn0) (ps_lcR n own hN hm hy hyl hl hg hc hst ok hsw hf) hk
theorem as_lcRD {p p0 py : Pos} {F : Nat → Fm} {k : Int} (n : Nat) (own : List (Str × Nat)) (y : Nat → Option PyData) (hN : X.N.Nodup) (ha : AD X [a] fs f1 [.int k]) (F0 : F 0 = wipeF f1 (own.map (·.2))) (Fo : ∀ i, ownL (F i) = ownL f1) (hs : ∀ i, i < k.toNat → TurnC X scope (own.map (·.2)) tg ifs elt (.int (0 + (i : Int))) (F i) (F (i + 1)) (y i)) (b : BackL f1 (F k.toNat) f2)
    (hk : AS X rest c (f2.set n (.dat (.list (madeC y k.toNat)))) D3')
    (hm : X.mg "range" = none) (hn : k ≤ 100000 := by first | omega | ((repeat' split) <;> omega)) (hn0 : -1000000000000 ≤ k := by first | omega | ((repeat' split) <;> omega)) (hy : X.N[n]? = some x := by rfl) (hyl : X.env.scope.names.lookup x = some .local := by rfl) (hl : (py.line == pos.line) = true := by rfl) (hg : Gl X "range" := by rfl) (hc : X.calm = true := by rfl) (hst : starEach [a] X.env = [(false, eval a X.env)] := by rfl) (ok : blkC X.N X.env.scope scope own = true := by first | decide +kernel | rfl)
    (hsw : swapsWith (.ListComp elt [⟨tg, .Call (.Name "range" p) [a] [] p0, ifs, 0⟩] scope pos) (some (.Name x py)) spos.line X.env = pure true := by exact sw_true rfl rfl rfl (by decide +kernel)) (hf : ∀ x, foldedSetIterable (.Call (.Name "range" p) [a] [] p0) X.env x = pure x := by intro _; rfl) :
    AS X (.Assign [.Name x py] (.ListComp elt [⟨tg, .Call (.Name "range" p) [a] [] p0, ifs, 0⟩] scope pos) spos :: rest) c fs D3' :=
  as_compD n (compR_range (X := X) (scope := scope) (tg := tg) (ifs := ifs) (elt := elt) ha hn F0 Fo hs b.back hn0) (ps_lcR n own hN hm hy hyl hl hg hc hst ok hsw hf) hk
theorem as_lcL {py : Pos} {F : Nat → Fm} (n : Nat) (own : List (Str × Nat)) (y : Nat → Option PyData) (hN : X.N.Nodup) (ha : AE X iter fs f1 (.val (.list ds))) (F0 : F 0 = wipeF f1 (own.map (·.2))) (Fo : ∀ i, ownL (F i) = ownL f1) (hs : ∀ i d, ds[i]? = some d → TurnC X scope (own.map (·.2)) tg ifs elt d (F i) (F (i + 1)) (y i)) (b : BackL f1 (F ds.length) f2)
    (hz : ds.length ≤ 100000) (hk : ∀ l, l ∉ c.ws → l ∉ ownL f2 → AS X rest c (f2.set n (.own l (.list (madeC y ds.length)))) D3') (hy : X.N[n]? = some x := by rfl) (hyl : X.env.scope.names.lookup x = some .local := by rfl) (hc : X.calm = true := by rfl) (ok : blkC X.N X.env.scope scope own = true := by first | decide +kernel | rfl)
    (hsw : swapsWith (.ListComp elt [⟨tg, iter, ifs, 0⟩] scope pos) (some (.Name x py)) spos.line X.env = pure true := by exact sw_true rfl rfl rfl (by decide +kernel)) (hf : ∀ x, foldedSetIterable iter X.env x = pure x := by intro _; rfl) :
    AS X (.Assign [.Name x py] (.ListComp elt [⟨tg, iter, ifs, 0⟩] scope pos) spos :: rest) c fs D3' :=
  as_comp n (compR_list (X := X) (scope := scope) (tg := tg) (ifs := ifs) (elt := elt) ha hz F0 Fo hs b.back) (ps_lcL n own hN hy hyl hc ok hsw hf) hk
theorem as_lcLD {py : Pos} {F : Nat → Fm} (n : Nat) (own : List (Str × Nat)) (y : Nat → Option PyData) (hN : X.N.Nodup) (ha : AE X iter fs f1 (.val (.list ds))) (F0 : F 0 = wipeF f1 (own.map (·.2))) (Fo : ∀ i, ownL (F i) = ownL f1) (hs : ∀ i d, ds[i]? = some d → TurnC X scope (own.map (·.2)) tg ifs elt d (F i) (F (i + 1)) (y i)) (b : BackL f1 (F ds.length) f2)
    (hz : ds.length ≤ 100000) (hk : AS X rest c (f2.set n (.dat (.list (madeC y ds.length)))) D3') (hy : X.N[n]? = some x := by rfl) (hyl : X.env.scope.names.lookup x = some .local := by rfl) (hc : X.calm = true := by rfl) (ok : blkC X.N X.env.scope scope own = true := by first | decide +kernel | rfl)
    (hsw : swapsWith (.ListComp elt [⟨tg, iter, ifs, 0⟩] scope pos) (some (.Name x py)) spos.line X.env = pure true := by exact sw_true rfl rfl rfl (by decide +kernel)) (hf : ∀ x, foldedSetIterable iter X.env x = pure x := by intro _; rfl) :
    AS X (.Assign [.Name x py] (.ListComp elt [⟨tg, iter, ifs, 0⟩] scope pos) spos :: rest) c fs D3' :=
  as_compD n (compR_list (X := X) (scope := scope) (tg := tg) (ifs := ifs) (elt := elt) ha hz F0 Fo hs b.back) (ps_lcL n own hN hy hyl hc ok hsw hf) hk
/-- nothing changes from turn to turn -/
theorem wipeF_idem {f : Fm} {vs : List Nat} : wipeF (wipeF f vs) vs = wipeF f vs := by
  apply List.ext_getElem?
  have key : ∀ (f : Fm) (vs : List Nat) (i : Nat), (wipeF f vs)[i]? = if i ∈ vs then (f[i]?).map fun _ => Slot.no else f[i]? := by
    intro f vs i
    induction vs with
    | nil => simp [wipeF]
    | cons v vs ih =>
      show ((wipeF f vs).set v .no)[i]? = _
      by_cases e : v = i
      · subst e
        rw [if_pos List.mem_cons_self, List.getElem?_set]
        simp only [if_true]
        have hl : ∀ vs : List Nat, (wipeF f vs).length = f.length := fun vs => by
          induction vs with
          | nil => rfl
          | cons v vs ih => show ((wipeF f vs).set v .no).length = _; rw [List.length_set, ih]
        rw [hl]
        by_cases l : v < f.length
        · rw [if_pos l, List.getElem?_eq_getElem l]; rfl
        · rw [if_neg l, List.getElem?_eq_none (by omega)]; rfl
      · rw [List.getElem?_set_ne e, ih]
        have : (i ∈ v :: vs) ↔ i ∈ vs := by
          rw [List.mem_cons]
          exact ⟨fun h => h.elim (fun z => absurd z.symm e) id, .inr⟩
        by_cases m : i ∈ vs
        · rw [if_pos m, if_pos (this.mpr m)]
        · rw [if_neg m, if_neg (fun z => m (this.mp z))]
  intro i
  rw [key (wipeF f vs), key f]
  by_cases m : i ∈ vs
  · rw [if_pos m, if_pos m]; cases f[i]? <;> rfl
  · rw [if_neg m, if_neg m]
theorem FnT.mkD {P : Program} {w : World} {K : PySem.W.Frag} {mg : Str → Option Value} {base : Heap} {k : Nat} {x : Str} {ps : List Str} {ct : Ct} {cx : Cex} {f : Addr} {fd : FuncData} {dl : List He.Dv} (a : FnOk P w K mg base CX0 k f fd ps (Sp3 K ct cx)) (b : mg x = some (.ref f)) (c : PySem.W.keepIn K (.ref f) = true) (d : ∃ ds, Vals (dl.map (He.Dv.v K)) ds ∧ Binds K fd ps ds) (h : dl.all dvS = true) : FnT K mg P w base k x ps ct cx dl := by
  obtain ⟨ds, h1, h2⟩ := d
  exact ⟨f, fd, a, b, c, ⟨ds, h2, h1⟩, h⟩
theorem Fn.blk {CX : CXT} {k : Nat} {x : Str} {f : Addr} {fd : FuncData} {ps : List Str} {ct : Ct} {cx : Cex} {dvs : List V} {dd : List PyData} {s : Shared} {H : Hp} {C : Addr} {cl : List (Str × Addr)} {fp : List Addr} (h : Fn X CX k x f fd ps ct cx dvs dd) : Fn (BX X scope s H C cl fp) CX k x f fd ps ct cx dvs dd := ⟨h.ok, h.mg, h.kp, h.bd, h.df⟩
end
end A3
namespace A3
open PySem PySem.Spec PyProof.Rows L2
/-! ### numbers, drawn -/
abbrev Sd := Int × Int × Int
def scD (ns : List Int) : PyData := .list (ns.map .int)
def stD (s : Sd) : PyData := .list [.int s.1, .int s.2.1, .int s.2.2]
def nxS (s : Sd) : Int := (s.2.2 % 2147483647 * 48271 + 7919 * (s.2.1 + 1) * (s.2.1 + 1) + 11) % 2147483647
def drawV (s : Sd) (m : Int) : Int := if 0 < s.1 then s.1 % m else nxS s * 69621 % 2147483629 / 64 % m
def drawS (s : Sd) (m : Int) : Sd := if 0 < s.1 then (s.1 / m, s.2.1, s.2.2) else (s.1, s.2.1 + 1, nxS s)
theorem drawV_pos {s : Sd} {m : Int} (h : 0 < s.1) : drawV s m = s.1 % m := if_pos h
theorem drawS_pos {s : Sd} {m : Int} (h : 0 < s.1) : drawS s m = (s.1 / m, s.2.1, s.2.2) := if_pos h
theorem drawV_neg {s : Sd} {m : Int} (h : ¬ 0 < s.1) : drawV s m = nxS s * 69621 % 2147483629 / 64 % m := if_neg h
theorem drawS_neg {s : Sd} {m : Int} (h : ¬ 0 < s.1) : drawS s m = (s.1, s.2.1 + 1, nxS s) := if_neg h
theorem drawV_b (s : Sd) {m : Int} (h : 0 < m) : 0 ≤ drawV s m ∧ drawV s m < m := by
  unfold drawV
  split
  · exact ⟨Int.emod_nonneg _ (by omega), Int.emod_lt_of_pos _ h⟩
  · exact ⟨Int.emod_nonneg _ (by omega), Int.emod_lt_of_pos _ h⟩
/-- so many draws may follow -/
def Bs (n : Int) (s : Sd) : Prop := 0 ≤ s.2.1 ∧ s.2.1 + n ≤ 1000000000
theorem Bs.draw {n : Int} {s : Sd} {m : Int} (h : Bs n s) (hn : 1 ≤ n) : Bs (n - 1) (drawS s m) := by
  unfold Bs drawS at *
  split <;> simp only <;> omega
theorem Bs.le {n k : Int} {s : Sd} (h : Bs n s) (hk : k ≤ n) : Bs k s := ⟨h.1, by have := h.2; omega⟩
theorem Bs.t0 {n : Int} {s : Sd} (h : Bs n s) : 0 ≤ s.2.1 := h.1
def cellV (ns : List Int) (k : Int) : Int := ns.getD k.toNat 0
def begunS (ns : List Int) (k : Int) : Sd :=
  ((if cellV ns k < 0 then - cellV ns k else cellV ns k) * (if decide (10 ^ (18 : Int).toNat ≤ (if cellV ns k < 0 then - cellV ns k else cellV ns k)) then 1 else 0), k, cellV ns k + 31 * cellV ns 0 + ns.length)
theorem Bs.begun {ns : List Int} {k n : Int} (h0 : 0 ≤ k) (h : k + n ≤ 1000000000) : Bs n (begunS ns k) := ⟨h0, h⟩
theorem at_map {α : Type} (f : α → PyData) (xs : List α) (k : Int) (d : α) (h0 : 0 ≤ k) (h : k < xs.length) : atI (xs.map f) k = some (f (xs.getD k.toNat d)) := by
  obtain ⟨n, rfl⟩ : ∃ n : Nat, k = n := ⟨k.toNat, by omega⟩
  have hn : n < xs.length := by omega
  exact atI_nat (by simp [hn])
/-! ### fractions -/
abbrev Fr := Int × Int
def frD (p : Fr) : PyData := .tuple [.int p.1, .int p.2]
def sg (t b : Int) : Int := if b < 0 then 0 - (Int.gcd t b : Int) else (Int.gcd t b : Int)
/-- t over b in lowest terms -/
def nrm (t b : Int) : Fr := (t.fdiv (sg t b), b.fdiv (sg t b))
theorem gcd_step (a b : Int) (ha : 0 ≤ a) (hb : 0 < b) : Int.gcd b (a % b) = Int.gcd a b := by
  obtain ⟨m, rfl⟩ := Int.eq_ofNat_of_zero_le ha
  obtain ⟨n, rfl⟩ := Int.eq_ofNat_of_zero_le (Int.le_of_lt hb)
  show Nat.gcd n _ = Nat.gcd m n
  have e : (((m : Int) % (n : Int)).natAbs) = m % n := by
    rw [← Int.natCast_emod]; rfl
  rw [e, Nat.gcd_comm m n]
  exact (Nat.gcd_rec n m).symm ▸ (Nat.gcd_comm _ _)
theorem gcd_end {a b : Int} (ha : 0 ≤ a) (hb : b = 0) : (Int.gcd a b : Int) = a := by
  subst hb
  rw [Int.gcd_zero_right]; omega
theorem gcd_abs (t b : Int) : Int.gcd (if t < 0 then -t else t) (if b < 0 then -b else b) = Int.gcd t b := by
  split <;> split <;> simp [Int.gcd]
theorem abs_nn (t : Int) : 0 ≤ (if t < 0 then -t else t) := by split <;> omega
theorem gcd_le_abs {t b : Int} (h : b ≠ 0) : 0 < (Int.gcd t b : Int) ∧ (Int.gcd t b) ≤ b.natAbs := by
  have h1 : Int.gcd t b ∣ b.natAbs := Int.gcd_dvd_natAbs_right t b
  have h2 : 0 < b.natAbs := by omega
  have h3 : 0 < Int.gcd t b := Nat.pos_of_dvd_of_pos h1 h2
  exact ⟨by omega, Nat.le_of_dvd h2 h1⟩
theorem sg_ok {t b : Int} (h : b ≠ 0) (hb : Bd 8000 b) (u : Int) : CDivG u (sg t b) := by
  obtain ⟨h1, h2⟩ := gcd_le_abs (t := t) h
  unfold sg
  split
  · exact divG (n := 8000) (by omega) (Nat.lt_of_le_of_lt (by omega) hb)
  · exact divG (n := 8000) (by omega) (Nat.lt_of_le_of_lt (by omega) hb)
/-! ### drawn numbers, drawn fractions -/
abbrev T18 : Int := 10 ^ (18 : Int).toNat
theorem at2i {x y v : Int} (h0 : 0 ≤ v) (h : v < 2) : atI [PyData.int x, PyData.int y] v = some (.int (if v = 0 then x else y)) := by
  have : v = 0 ∨ v = 1 := by omega
  rcases this with rfl | rfl <;> rfl
theorem at3i {x y z v : Int} (h0 : 0 ≤ v) (h : v < 3) : atI [PyData.int x, PyData.int y, PyData.int z] v = some (.int (if v = 0 then x else if v = 1 then y else z)) := by
  have : v = 0 ∨ v = 1 ∨ v = 2 := by omega
  rcases this with rfl | rfl | rfl <;> rfl
def pick3 (x y z v : Int) : Int := if v = 0 then x else if v = 1 then y else z
theorem pick3_b {x y z v : Int} : pick3 x y z v = x ∨ pick3 x y z v = y ∨ pick3 x y z v = z := by unfold pick3; split <;> (try split) <;> simp
def numV (s : Sd) : Int := if drawV s 4 = 3 then (drawV (drawS s 4) T18 + 1) * (if drawV (drawS (drawS s 4) T18) 2 = 0 then 1 else -1) else drawV (drawS s 4) (pick3 13 41 199 (drawV s 4)) - pick3 6 20 99 (drawV s 4)
def numS (s : Sd) : Sd := if drawV s 4 = 3 then drawS (drawS (drawS s 4) T18) 2 else drawS (drawS s 4) (pick3 13 41 199 (drawV s 4))
theorem numV_3 {s : Sd} (h : drawV s 4 = 3) : numV s = (drawV (drawS s 4) T18 + 1) * (if drawV (drawS (drawS s 4) T18) 2 = 0 then 1 else -1) := if_pos h
theorem numS_3 {s : Sd} (h : drawV s 4 = 3) : numS s = drawS (drawS (drawS s 4) T18) 2 := if_pos h
theorem numV_n {s : Sd} (h : ¬ drawV s 4 = 3) : numV s = drawV (drawS s 4) (pick3 13 41 199 (drawV s 4)) - pick3 6 20 99 (drawV s 4) := if_neg h
theorem numS_n {s : Sd} (h : ¬ drawV s 4 = 3) : numS s = drawS (drawS s 4) (pick3 13 41 199 (drawV s 4)) := if_neg h
theorem T18_eq : T18 = 1000000000000000000 := by decide
theorem numV_b (s : Sd) : (numV s).natAbs ≤ 1000000000000000000 := by
  unfold numV
  have h18 := T18_eq
  split
  · have h := drawV_b (drawS s 4) (m := T18) (by decide)
    split <;> omega
  · have h1 := pick3_b (x := 13) (y := 41) (z := 199) (v := drawV s 4)
    have h2 := pick3_b (x := 6) (y := 20) (z := 99) (v := drawV s 4)
    have h := drawV_b (drawS s 4) (m := pick3 13 41 199 (drawV s 4)) (by omega)
    omega
theorem Bs.num {n : Int} {s : Sd} (h : Bs n s) (hn : 3 ≤ n) : Bs (n - 3) (numS s) := by
  unfold numS
  split
  · exact (((h.draw (by omega)).draw (by omega)).draw (by omega)).le (by omega)
  · exact ((h.draw (by omega)).draw (by omega)).le (by omega)
def nz (x : Int) : Int := if x = 0 then 1 else x
theorem nz_ne (x : Int) : nz x ≠ 0 := by unfold nz; split <;> omega
theorem nz_b {x : Int} (h : x.natAbs ≤ 1000000000000000000) : (nz x).natAbs ≤ 1000000000000000000 := by unfold nz; split <;> omega
def shV (s : Sd) : Fr := nrm (numV (numS s)) (if nz (numV s) < 0 then - nz (numV s) else nz (numV s))
def shS (s : Sd) : Sd := numS (numS s)
theorem Bs.sh {n : Int} {s : Sd} (h : Bs n s) (hn : 6 ≤ n) : Bs (n - 6) (shS s) := ((h.num (by omega)).num (by omega)).le (by omega)
theorem abs_ne {x : Int} (h : x ≠ 0) : (if x < 0 then -x else x) ≠ 0 := by split <;> omega
theorem abs_pos {x : Int} (h : x ≠ 0) : 0 < (if x < 0 then -x else x) := by split <;> omega
theorem abs_b {x : Int} {n : Nat} (h : x.natAbs ≤ n) : (if x < 0 then -x else x).natAbs ≤ n := by split <;> omega
theorem bd_le {n : Nat} {x : Int} {k : Nat} (h : x.natAbs ≤ k) (hk : k < 2 ^ n) : Bd n x := Nat.lt_of_le_of_lt h hk
theorem Bd.mono {n m : Nat} {x : Int} (h : Bd n x) (hm : n ≤ m) : Bd m x := Nat.lt_of_lt_of_le h (Nat.pow_le_pow_right (by decide) hm)
theorem Bd.mul {n m : Nat} {x y : Int} (h : Bd n x) (g : Bd m y) : Bd (n + m) (x * y) := wide_lt h g
theorem Bd.add {n : Nat} {x y : Int} (h : Bd n x) (g : Bd n y) : Bd (n + 1) (x + y) := by
  unfold Bd at *
  rw [Nat.pow_succ]; omega
theorem Bd.sub {n : Nat} {x y : Int} (h : Bd n x) (g : Bd n y) : Bd (n + 1) (x - y) := by
  unfold Bd at *
  rw [Nat.pow_succ]; omega
/-- in lowest terms, the bottom above 0 -/
structure IsFr (p : Fr) : Prop where
  pos : 0 < p.2
  cop : Int.gcd p.1 p.2 = 1
structure FrB (n : Nat) (p : Fr) : Prop where
  top : Bd n p.1
  bot : Bd n p.2
theorem fdiv_dvd {a g : Int} (h : g ∣ a) : a.fdiv g = a / g := Int.fdiv_eq_ediv_of_dvd h
theorem sg_ne {t b : Int} (h : b ≠ 0) : sg t b ≠ 0 := by
  have := (gcd_le_abs (t := t) h).1
  unfold sg; split <;> omega
theorem sg_dvd_t (t b : Int) : sg t b ∣ t := by
  have := Int.gcd_dvd_left t b
  unfold sg; split
  · rw [Int.zero_sub]; exact Int.neg_dvd.mpr this
  · exact this
theorem sg_dvd_b (t b : Int) : sg t b ∣ b := by
  have := Int.gcd_dvd_right t b
  unfold sg; split
  · rw [Int.zero_sub]; exact Int.neg_dvd.mpr this
  · exact this
theorem nrm_mul (t b : Int) : (nrm t b).1 * sg t b = t ∧ (nrm t b).2 * sg t b = b := by
  unfold nrm
  rw [fdiv_dvd (sg_dvd_t t b), fdiv_dvd (sg_dvd_b t b)]
  exact ⟨Int.ediv_mul_cancel (sg_dvd_t t b), Int.ediv_mul_cancel (sg_dvd_b t b)⟩
theorem sg_abs (t b : Int) : (sg t b).natAbs = Int.gcd t b := by unfold sg; split <;> omega
theorem nrm_fr {t b : Int} (h : b ≠ 0) : IsFr (nrm t b) := by
  obtain ⟨h1, h2⟩ := nrm_mul t b
  have hs := sg_ne (t := t) h
  have hg := (gcd_le_abs (t := t) h).1
  constructor
  · by_cases hb : b < 0
    · have e : sg t b = 0 - (Int.gcd t b : Int) := if_pos hb
      have : sg t b < 0 := by omega
      have q := Int.mul_lt_mul_of_neg_right (a := 0) (b := (nrm t b).2) (c := sg t b)
      rcases Int.lt_trichotomy (nrm t b).2 0 with z | z | z
      · have := Int.mul_pos_of_neg_of_neg z this
        omega
      · rw [z] at h2; omega
      · exact z
    · have e : sg t b = (Int.gcd t b : Int) := if_neg hb
      have p : 0 < sg t b := by omega
      rcases Int.lt_trichotomy (nrm t b).2 0 with z | z | z
      · have := Int.mul_neg_of_neg_of_pos z p
        omega
      · rw [z] at h2; omega
      · exact z
  · have e : Int.gcd ((nrm t b).1 * sg t b) ((nrm t b).2 * sg t b) = Int.gcd (nrm t b).1 (nrm t b).2 * (sg t b).natAbs := Int.gcd_mul_right _ _ _
    rw [h1, h2, sg_abs] at e
    have hg2 : 0 < Int.gcd t b := by omega
    exact Nat.eq_of_mul_eq_mul_right hg2 (by rw [Nat.one_mul]; exact e.symm)
theorem natAbs_le_mul {x g : Int} (h : g ≠ 0) : x.natAbs ≤ (x * g).natAbs := by
  rw [Int.natAbs_mul]
  exact Nat.le_mul_of_pos_right _ (by omega)
theorem nrm_b {n : Nat} {t b : Int} (h : b ≠ 0) (h1 : Bd n t) (h2 : Bd n b) : FrB n (nrm t b) := by
  obtain ⟨e1, e2⟩ := nrm_mul t b
  have hs := sg_ne (t := t) h
  constructor
  · refine Nat.lt_of_le_of_lt (natAbs_le_mul hs) ?_
    rw [e1]; exact h1
  · refine Nat.lt_of_le_of_lt (natAbs_le_mul hs) ?_
    rw [e2]; exact h2
theorem shV_fr (s : Sd) : IsFr (shV s) := nrm_fr (abs_ne (nz_ne _))
theorem shV_b (s : Sd) : FrB 60 (shV s) := nrm_b (abs_ne (nz_ne _)) (bd_le (numV_b _) (by decide)) (bd_le (abs_b (nz_b (numV_b s))) (by decide))
/-! ### which things are fractions -/
def isW : PyData → Bool
  | .int _ => true
  | _ => false
def isFrB : PyData → Bool
  | .tuple [.int a, .int b] => decide (0 < b) && decide ((Int.gcd a b : Int) = 1)
  | _ => false
theorem isW_inv {d : PyData} (h : isW d = true) : ∃ a, d = .int a := by
  cases d <;> first | exact ⟨_, rfl⟩ | cases h
theorem fr_cases (d : PyData) : (isT d = false ∧ isFrB d = false) ∨ (∃ ds, d = .tuple ds ∧ ds.length ≠ 2 ∧ isFrB d = false) ∨ (∃ x y, d = .tuple [x, y] ∧ isW x = false ∧ isFrB d = false) ∨ (∃ a y, d = .tuple [.int a, y] ∧ isW y = false ∧ isFrB d = false) ∨ ∃ a b, d = .tuple [.int a, .int b] := by
  cases d with
  | tuple ds =>
    right
    match ds with
    | [] => exact .inl ⟨_, rfl, by decide, rfl⟩
    | [x] => exact .inl ⟨_, rfl, by simp, by simp [isFrB]⟩
    | x :: y :: z :: r => exact .inl ⟨_, rfl, by simp, by simp [isFrB]⟩
    | [x, y] =>
      right
      cases hx : isW x with
      | false => exact .inl ⟨x, y, rfl, hx, by cases x <;> first | rfl | cases hx⟩
      | true =>
        obtain ⟨a, rfl⟩ := isW_inv hx
        right
        cases hy : isW y with
        | false => exact .inl ⟨a, y, rfl, hy, by cases y <;> first | rfl | cases hy⟩
        | true =>
          obtain ⟨b, rfl⟩ := isW_inv hy
          exact .inr ⟨a, b, rfl⟩
  | _ => exact .inl ⟨rfl, rfl⟩
/-! ### fractions as rational numbers -/
def ofR (r : Rat) : Fr := (r.num, (r.den : Int))
abbrev rD (r : Rat) : PyData := frD (ofR r)
theorem ofR_fr (r : Rat) : IsFr (ofR r) := ⟨Int.natCast_pos.mpr r.den_pos, by
  show Int.gcd r.num (r.den : Int) = 1
  have := r.reduced
  unfold Nat.Coprime at this
  unfold Int.gcd
  rw [Int.natAbs_natCast]; exact this⟩
theorem cop_dvd {a b c : Int} (h : Int.gcd a b = 1) (hd : b ∣ a * c) : b ∣ c := by
  rw [← Int.natAbs_dvd_natAbs] at *
  rw [Int.natAbs_mul] at hd
  exact Nat.Coprime.dvd_of_dvd_mul_left (k := b.natAbs) (m := a.natAbs) (by unfold Nat.Coprime; rw [Nat.gcd_comm]; exact h) hd
theorem fr_uniq {p q : Fr} (hp : IsFr p) (hq : IsFr q) (h : p.1 * q.2 = q.1 * p.2) : p = q := by
  have h1 : p.2 ∣ q.2 := cop_dvd hp.cop ⟨q.1, by rw [h, Int.mul_comm]⟩
  have h2 : q.2 ∣ p.2 := cop_dvd hq.cop ⟨p.1, by rw [← h, Int.mul_comm]⟩
  have e := Int.dvd_antisymm (Int.le_of_lt hp.pos) (Int.le_of_lt hq.pos) h1 h2
  have p0 := hp.pos
  rw [← e] at h
  have e1 := Int.eq_of_mul_eq_mul_right (by omega) h
  exact Prod.ext e1 e
theorem icast_ne {b : Int} (h : b ≠ 0) : (b : Rat) ≠ 0 := fun z => h (Rat.intCast_inj.mp (z.trans Rat.intCast_zero.symm))
theorem rat_nd (r : Rat) : (r.num : Rat) = r * ((r.den : Int) : Rat) := by
  have e : r = Rat.divInt r.num r.den := (Rat.num_divInt_den r).symm
  have hd : ((r.den : Int) : Rat) ≠ 0 := icast_ne (by have := r.den_pos; omega)
  rw [Rat.divInt_eq_div] at e
  have : r * ((r.den : Int) : Rat) = ((r.num : Rat) / ((r.den : Int) : Rat)) * ((r.den : Int) : Rat) := by rw [← e]
  grind
theorem den_ne (r : Rat) : ((r.den : Int) : Rat) ≠ 0 := icast_ne (by have := r.den_pos; omega)
theorem nrm_rat {t b : Int} (h : b ≠ 0) : nrm t b = ofR ((t : Rat) / (b : Rat)) := by
  refine fr_uniq (nrm_fr h) (ofR_fr _) ?_
  obtain ⟨e1, e2⟩ := nrm_mul t b
  have hs := sg_ne (t := t) h
  have h1 := rat_nd ((t : Rat) / (b : Rat))
  have h2 := icast_ne h
  have h3 : (((t : Rat) / (b : Rat)).num : Rat) * (b : Rat) = (t : Rat) * ((((t : Rat) / (b : Rat)).den : Int) : Rat) := by grind
  have h4 : ((t : Rat) / (b : Rat)).num * b = t * (((t : Rat) / (b : Rat)).den : Int) := by
    rw [← Rat.intCast_mul, ← Rat.intCast_mul] at h3
    exact Rat.intCast_inj.mp h3
  show (nrm t b).1 * (((t : Rat) / (b : Rat)).den : Int) = ((t : Rat) / (b : Rat)).num * (nrm t b).2
  have h5 : (nrm t b).1 * (((t : Rat) / (b : Rat)).den : Int) * sg t b = ((t : Rat) / (b : Rat)).num * (nrm t b).2 * sg t b := by grind
  exact Int.eq_of_mul_eq_mul_right hs h5
theorem ofR_inj {r s : Rat} (h : ofR r = ofR s) : r = s := by
  have h1 : r.num = s.num := congrArg Prod.fst h
  have h2 : ((r.den : Int)) = s.den := congrArg Prod.snd h
  exact Rat.ext h1 (by omega)
theorem rD_eqv (r s : Rat) : PyData.eqv (rD r) (rD s) = decide (r = s) := by
  have e1 : PyData.eqv (rD r) (rD s) = (r.num == s.num && ((r.den : Int) == (s.den : Int) && true)) := by simp only [rD, frD, ofR, PyData.eqv, PyData.eqvAll]
  rw [e1, Bool.eq_iff_iff]
  simp only [Bool.and_true, Bool.and_eq_true, beq_iff_eq, decide_eq_true_eq]
  constructor
  · rintro ⟨h1, h2⟩; exact Rat.ext h1 (by omega)
  · rintro rfl; exact ⟨rfl, rfl⟩
theorem rD_fr (r : Rat) : isFrB (rD r) = true := by
  have := ofR_fr r
  simp [isFrB, rD, frD, this.pos, this.cop]
/-- so many bits at most in each part -/
def Rz (n : Nat) (r : Rat) : Prop := Bd n r.num ∧ Bd n (r.den : Int)
theorem Rz.mono {n m : Nat} {r : Rat} (h : Rz n r) (hm : n ≤ m) : Rz m r := ⟨h.1.mono hm, h.2.mono hm⟩
theorem rz_nrm {n : Nat} {t b : Int} (h : b ≠ 0) (h1 : Bd n t) (h2 : Bd n b) : Rz n ((t : Rat) / (b : Rat)) := by
  have e := nrm_rat (t := t) h
  have q := nrm_b h h1 h2
  rw [e] at q
  exact ⟨q.top, q.bot⟩
theorem den_int_ne (r : Rat) : (r.den : Int) ≠ 0 := by have := r.den_pos; omega
theorem mul_ne {a b : Int} (h : a ≠ 0) (g : b ≠ 0) : a * b ≠ 0 := fun z => (Int.mul_eq_zero.mp z).elim h g
theorem rat_add (r s : Rat) : (((r.num * s.den + s.num * r.den : Int)) : Rat) / (((r.den : Int) * (s.den : Int) : Int) : Rat) = r + s := by
  have h1 := rat_nd r; have h2 := rat_nd s; have h3 := den_ne r; have h4 := den_ne s
  rw [Rat.intCast_add, Rat.intCast_mul, Rat.intCast_mul, Rat.intCast_mul]
  grind
theorem rat_sub (r s : Rat) : (((r.num * s.den - s.num * r.den : Int)) : Rat) / (((r.den : Int) * (s.den : Int) : Int) : Rat) = r - s := by
  have h1 := rat_nd r; have h2 := rat_nd s; have h3 := den_ne r; have h4 := den_ne s
  rw [Rat.intCast_sub, Rat.intCast_mul, Rat.intCast_mul, Rat.intCast_mul]
  grind
theorem rat_mul (r s : Rat) : (((r.num * s.num : Int)) : Rat) / (((r.den : Int) * (s.den : Int) : Int) : Rat) = r * s := by
  have h1 := rat_nd r; have h2 := rat_nd s; have h3 := den_ne r; have h4 := den_ne s
  rw [Rat.intCast_mul, Rat.intCast_mul]
  grind
theorem num_ne {s : Rat} (h : s ≠ 0) : s.num ≠ 0 := fun z => h (by
  have h2 := rat_nd s; have h4 := den_ne s
  rw [z] at h2
  have : ((0 : Int) : Rat) = 0 := Rat.intCast_zero
  grind)
theorem num_zero {s : Rat} (h : s = 0) : s.num = 0 := by subst h; rfl
theorem num_eq0 {s : Rat} : s.num = 0 ↔ s = 0 := ⟨fun h => by
  by_cases z : s = 0
  · exact z
  · exact absurd h (num_ne z), num_zero⟩
theorem num_neg {s : Rat} : s.num < 0 ↔ s < 0 := by
  have := @Rat.num_nonneg s
  constructor
  · intro h; have : ¬ 0 ≤ s := fun z => by have := this.mpr z; omega
    grind
  · intro h
    have h2 : ¬ 0 ≤ s := by grind
    have : ¬ 0 ≤ s.num := fun z => h2 (this.mp z)
    omega
theorem rat_div {r s : Rat} (hs : s ≠ 0) : (((r.num * s.den : Int)) : Rat) / (((r.den : Int) * s.num : Int) : Rat) = r / s := by
  have h1 := rat_nd r; have h2 := rat_nd s; have h3 := den_ne r; have h4 := den_ne s
  have h5 := icast_ne (num_ne hs)
  rw [Rat.intCast_mul, Rat.intCast_mul]
  grind
theorem rat_lt (r s : Rat) : decide (r.num * (s.den : Int) < s.num * (r.den : Int)) = decide (r < s) := by
  rw [Bool.eq_iff_iff, decide_eq_true_eq, decide_eq_true_eq]
  exact (Rat.lt_iff r s).symm
theorem Rz.add {n m : Nat} {r s : Rat} (h : Rz n r) (g : Rz m s) : Rz (n + m + 1) (r + s) := by
  have := rz_nrm (n := n + m + 1) (t := r.num * s.den + s.num * r.den) (mul_ne (den_int_ne r) (den_int_ne s)) ((h.1.mul g.2).add ((g.1.mul h.2).mono (by omega))) ((h.2.mul g.2).mono (by omega))
  rwa [rat_add] at this
theorem Rz.sub {n m : Nat} {r s : Rat} (h : Rz n r) (g : Rz m s) : Rz (n + m + 1) (r - s) := by
  have := rz_nrm (n := n + m + 1) (t := r.num * s.den - s.num * r.den) (mul_ne (den_int_ne r) (den_int_ne s)) ((h.1.mul g.2).sub ((g.1.mul h.2).mono (by omega))) ((h.2.mul g.2).mono (by omega))
  rwa [rat_sub] at this
theorem Rz.mul {n m : Nat} {r s : Rat} (h : Rz n r) (g : Rz m s) : Rz (n + m) (r * s) := by
  have := rz_nrm (n := n + m) (t := r.num * s.num) (mul_ne (den_int_ne r) (den_int_ne s)) (h.1.mul g.1) (h.2.mul g.2)
  rwa [rat_mul] at this
theorem Rz.div {n m : Nat} {r s : Rat} (h : Rz n r) (g : Rz m s) (hs : s ≠ 0) : Rz (n + m) (r / s) := by
  have := rz_nrm (n := n + m) (t := r.num * s.den) (mul_ne (den_int_ne r) (num_ne hs)) (h.1.mul g.2) (h.2.mul g.1)
  rwa [rat_div hs] at this
theorem Rz.m11 {r s : Rat} (h : Rz 4000 r) (g : Rz 4000 s) : MulOk r.num s.num := mulB h.1 g.1
theorem Rz.m12 {r s : Rat} (h : Rz 4000 r) (g : Rz 4000 s) : MulOk r.num (s.den : Int) := mulB h.1 g.2
theorem Rz.m21 {r s : Rat} (h : Rz 4000 r) (g : Rz 4000 s) : MulOk (r.den : Int) s.num := mulB h.2 g.1
theorem Rz.m22 {r s : Rat} (h : Rz 4000 r) (g : Rz 4000 s) : MulOk (r.den : Int) (s.den : Int) := mulB h.2 g.2
/-- a drawn fraction -/
def shR (s : Sd) : Rat := (numV (numS s) : Rat) / ((if nz (numV s) < 0 then - nz (numV s) else nz (numV s) : Int) : Rat)
theorem shV_R (s : Sd) : shV s = ofR (shR s) := nrm_rat (abs_ne (nz_ne _))
theorem shR_z (s : Sd) : Rz 60 (shR s) := rz_nrm (abs_ne (nz_ne _)) (bd_le (numV_b _) (by decide)) (bd_le (abs_b (nz_b (numV_b s))) (by decide))
/-- the same turn again and again -/
def it {α : Type} (f : α → α) : Nat → α → α
  | 0, s => s
  | i + 1, s => f (it f i s)
end A3
namespace A3
open PySem PySem.Spec PyProof.Rows L2
/-! ### texts, by their signs -/
abbrev sD (l : List Nat) : PyData := .str ⟨l.toArray⟩
section
variable {X : Cx} {a b c e : Expr} {es : List Expr} {body rest : List Stmt} {cf : Cf} {D : D3} {fs f1 f2 f3 : Fm} {d d1 d2 d3 : PyData} {ds ds2 : List PyData} {r r1 r2 : Res} {pos p2 apos : Pos} {T : Addr → Bool} {σ : L2.St} {H : Hp} {i j k : Int} {l m : List Nat}
theorem s_len {n : Nat} (h : l.length ≤ n) (g : n ≤ 16000000 := by decide) : (⟨l.toArray⟩ : Str).length ≤ sizeLine := by
  rw [SX.S_len, sizeLine_eq]; omega
theorem ae_txt (l : List Nat) {x : Str} {k} (h : x = ⟨l.toArray⟩ := by decide +kernel) : AE X (.Constant (.str x) k pos) fs fs (.val (sD l)) := by subst h; exact ae_str
theorem ae_addX (ha : AE X a fs f1 (.val (sD l))) (hb : AE X b f1 f2 (.val (sD m))) (hz : l.length + m.length ≤ 1000000) : AE X (.BinOp a .Add b pos) fs f2 (.val (sD (l ++ m))) :=
  ae_rule2 op_add_str ha hb fun S H2 x y Q _ rx ry q => ⟨_, _, rx.str_inv, ry.str_inv, by rw [SX.S_len, SX.S_len, sizeLine_eq]; omega, by rw [SX.S_cat]; exact q _ fun _ => .str _⟩
theorem c_inX {c : Nat} (hm : behindInMarks .In b = false := by rfl) : CmpA X .In b f2 (sD [c]) (.val (sD l)) (decide (c ∈ l)) :=
  ⟨_, op_in_sign, hm, fun T σ H1 H2 x y Q rx p q => by rw [rx.str_inv, p.2.str_inv]; exact ⟨c, _, rfl, rfl, q⟩⟩
theorem c_ninX {c : Nat} (hm : behindInMarks .NotIn b = false := by rfl) : CmpA X .NotIn b f2 (sD [c]) (.val (sD l)) (!decide (c ∈ l)) :=
  ⟨_, op_notIn_sign, hm, fun T σ H1 H2 x y Q rx p q => by rw [rx.str_inv, p.2.str_inv]; exact ⟨c, _, rfl, rfl, q⟩⟩
theorem s_eq : decide ((⟨l.toArray⟩ : Str) = ⟨m.toArray⟩) = decide (l = m) := by
  by_cases h : l = m
  · subst h; simp
  · have : (⟨l.toArray⟩ : Str) ≠ ⟨m.toArray⟩ := fun z => h (SX.S_inj z)
    simp [h, this]
theorem c_eqX : CmpA X .Eq b f2 (sD l) (.val (sD m)) (decide (l = m)) := by rw [← s_eq]; exact c_eqS
theorem c_neX : CmpA X .NotEq b f2 (sD l) (.val (sD m)) (!decide (l = m)) := by rw [← s_eq]; exact c_neS
theorem ae_lenX {p : Pos} (ha : AE X a fs f1 (.val (sD l))) (hz : l.length ≤ 1000000) (hg : Gl X "len") (hm : X.mg "len" = none) (he : starEach [a] X.env = (false, eval a X.env) :: starEach [] X.env := by rfl) :
    AE X (.Call (.Name "len" p) [a] [] pos) fs f1 (.val (.int l.length)) :=
  ae_len ha (n := l.length) rfl (decide_eq_true (show (⟨l.toArray⟩ : Str).length ≤ 1000000 by rw [SX.S_len]; exact hz)) hg hm he
theorem ae_ixX {ch : Nat} (ha : AE X a fs f1 (.val (sD l))) (hb : AE X b f1 f2 (.val (.int i))) (hz : l.length ≤ 1000) (h : atI l i = some ch) (hs : PlainIx b := by intro _ _; rfl) : AE X (.Subscript a b pos) fs f2 (.val (sD [ch])) :=
  ae_ixS ha hb (by rw [SX.S_len]; exact hz) h hs
theorem ae_sliceX {lo hi : Option Expr} {x h : Option Int} (ha : AE X a fs f1 (.val (sD l))) (hl : AO X lo f1 x) (hh : AO X hi f1 h) (hz : l.length ≤ 1000000) (e : cutS ⟨l.toArray⟩ x h = ⟨m.toArray⟩) : AE X (.Subscript a (.Slice lo hi none p2) pos) fs f1 (.val (sD m)) := by
  obtain ⟨tl, pl, gl⟩ := hl
  obtain ⟨th, ph, gh⟩ := hh
  refine ⟨ha.ow, fun T σ H Q E q => bE_of (pe_slice sl_str best pl ph) (ha.run T σ H _ E fun x H1 k1 p1 => gl T σ H1 _ p1.er fun H2 k2 E2 => gh T σ H2 _ E2 fun H3 k3 E3 => ?_)⟩
  have k13 : Kp H1 H3 (ownL f1) := k2.trans k3
  have k : Kp H H3 (ownL fs) := k1.trans (by rw [ha.ow] at k13; exact k13)
  exact ⟨_, p1.2.str_inv, s_len hz, by rw [e]; exact q _ H3 k ⟨E3, .str _⟩⟩
theorem cut_to (h : 0 ≤ i) : cutS ⟨l.toArray⟩ none (some i) = ⟨(l.take i.toNat).toArray⟩ := (C8.cutS_slice _ _ _).trans (SX.slice_to h)
theorem cut_from (h : 0 ≤ i) : cutS ⟨l.toArray⟩ (some i) none = ⟨(l.drop i.toNat).toArray⟩ := (C8.cutS_slice _ _ _).trans (SX.slice_from h)
theorem cut_but (h : l ≠ []) : cutS ⟨l.toArray⟩ none (some (-1)) = ⟨(l.take (l.length - 1)).toArray⟩ := (C8.cutS_slice _ _ _).trans (SX.slice_butlast h)
theorem cut_last (h : l ≠ []) : cutS ⟨l.toArray⟩ (some (-1)) none = ⟨(l.drop (l.length - 1)).toArray⟩ := (C8.cutS_slice _ _ _).trans (SX.slice_last h)
theorem rpStrs {K : PySem.W.Frag} {S : Hp} : ∀ (ls : List (List Nat)), RpAll K S ((ls.map SX.S).map V.str) (ls.map sD)
  | [] => .nil
  | x :: r => .cons (.str _) (rpStrs r)
theorem rpStrs_inv {K : PySem.W.Frag} {S : Hp} : ∀ {ls : List (List Nat)} {vs : List V}, RpAll K S vs (ls.map sD) → vs = (ls.map SX.S).map V.str
  | [], _, .nil => rfl
  | x :: r, _, .cons a b => by rw [a.str_inv, rpStrs_inv b]; rfl
theorem rpBls_inv {K : PySem.W.Frag} {S : Hp} : ∀ {bs : List Bool} {vs : List V}, RpAll K S vs (bs.map .bool) → vs = bs.map V.bl
  | [], _, .nil => rfl
  | x :: r, _, .cons a b => by rw [a.bl_inv, rpBls_inv b]; rfl
/-- s.split(sep) -/
theorem ae_split {s : List Nat} (ha : AE X a fs f1 (.val (sD l))) (hb : AE X b f1 f2 (.val (sD s))) (hz : l.length ≤ 1000000) (h1 : s ≠ [] := by decide) (h2 : s.all (· < 256) = true := by decide) (hs : starEach [b] X.env = [(false, eval b X.env)] := by rfl)
    (hbase : attributeBase a "split" X.env (eval a X.env) = eval a X.env := by rfl) (hline : (apos.endLine == pos.line) = true := by rfl) : AE X (.Call (.Attribute a "split" apos) [b] [] pos) fs f2 (.new (.list ((TL.spl s 0 [] l).map sD))) := by
  refine ⟨hb.ow.trans ha.ow, fun T σ H Q E q => bE_of (pe_split best best hs hbase hline) (ha.run T σ H _ E fun x H1 k1 p1 => ⟨⟨_, p1.2.str_inv⟩, hb.run T σ H1 _ p1.er fun y H2 k2 p2 => ?_⟩)⟩
  have k2' : Kp H1 H2 (ownL fs) := by rw [ha.ow] at k2; exact k2
  refine ⟨_, _, p1.2.str_inv, by rw [p2.2.str_inv], ?_, ?_, fun p n => ?_⟩
  · rw [SX.S_len]
    cases s with
    | nil => exact absurd rfl h1
    | cons x y => rfl
  · rw [SX.S_len, sizeLine_eq]; omega
  · rw [SX.split_S h1 h2]
    exact q _ _ ((k1.trans k2').trans (Kp.of (same_upd n))) (po_lst p2.1 (k1.trans k2') (hb.ow.trans ha.ow) n (rpStrs _))
theorem lens_sum (ls : List (List Nat)) : ((ls.map SX.S).map (·.length)).sum = (ls.map (·.length)).sum := congrArg List.sum (SX.lens ls)
/-- sep.join(xs) -/
theorem ae_join {s : List Nat} {ls : List (List Nat)} (ha : AE X a fs f1 (.val (sD s))) (hb : AE X b f1 f2 r) (e : r.d = .list (ls.map sD)) (hz : (ls.map (·.length)).sum + ls.length * s.length ≤ 16777216) (hs : starEach [b] X.env = [(false, eval b X.env)] := by rfl)
    (hbase : attributeBase a "join" X.env (eval a X.env) = eval a X.env := by rfl) (hline : (apos.endLine == pos.line) = true := by rfl) : AE X (.Call (.Attribute a "join" apos) [b] [] pos) fs f2 (.val (sD (TL.joinL s ls))) := by
  refine ⟨hb.ow.trans ha.ow, fun T σ H Q E q => bE_of (pe_join best best hs hbase hline) (ha.run T σ H _ E fun x H1 k1 p1 => ⟨⟨_, p1.2.str_inv⟩, hb.run T σ H1 _ p1.er fun y H2 k2 p2 => ?_⟩)⟩
  have k2' : Kp H1 H2 (ownL fs) := by rw [ha.ow] at k2; exact k2
  obtain ⟨g, vs, ex, sq, qv⟩ := p2.list e
  have ev := rpStrs_inv qv
  subst ev
  refine ⟨_, g, ls.map SX.S, p1.2.str_inv, by rw [ex], .inl sq, ?_, ?_⟩
  · rw [lens_sum, SX.S_len, List.length_map]; exact hz
  · rw [SX.join_S]
    exact q _ _ (k1.trans k2') ⟨p2.er, .str _⟩
/-- all(xs), any(xs) of a list of bools -/
theorem ae_all {p : Pos} {bs : List Bool} (hc : X.calm = true) (ha : AE X a fs f1 r) (e : r.d = .list (bs.map .bool)) (hg : Gl X "all") (hm : X.mg "all" = none) (he : starEach [a] X.env = (false, eval a X.env) :: starEach [] X.env := by rfl) : AE X (.Call (.Name "all" p) [a] [] pos) fs f1 (.val (.bool (bs.all id))) := by
  refine ⟨ha.ow, fun T σ H Q E q => bE_of (pe_callB (cr_all hc) hg hm (by decide +kernel) (pa_cons best pa_nil he) (he := he)) (ha.run T σ H _ E fun x H1 k1 p1 => ?_)⟩
  obtain ⟨g, vs, ex, sq, qv⟩ := p1.list e
  have ev := rpBls_inv qv
  subst ev
  exact ⟨g, bs, by rw [ex], sq, q _ H1 k1 ⟨p1.er, .bl _⟩⟩
theorem ae_any {p : Pos} {bs : List Bool} (hc : X.calm = true) (ha : AE X a fs f1 r) (e : r.d = .list (bs.map .bool)) (hg : Gl X "any") (hm : X.mg "any" = none) (he : starEach [a] X.env = (false, eval a X.env) :: starEach [] X.env := by rfl) : AE X (.Call (.Name "any" p) [a] [] pos) fs f1 (.val (.bool (bs.any id))) := by
  refine ⟨ha.ow, fun T σ H Q E q => bE_of (pe_callB (cr_any hc) hg hm (by decide +kernel) (pa_cons best pa_nil he) (he := he)) (ha.run T σ H _ E fun x H1 k1 p1 => ?_)⟩
  obtain ⟨g, vs, ex, sq, qv⟩ := p1.list e
  have ev := rpBls_inv qv
  subst ev
  exact ⟨g, bs, by rw [ex], sq, q _ H1 k1 ⟨p1.er, .bl _⟩⟩
/-- a <= b <= c and the like, of whole numbers -/
theorem ae_chain {o1 o2 : CmpOp} {g1 g2 : Int → Int → Bool} (h1 : OpR X (compareOp o1) (rI0 fun i j => .bl (g1 i j))) (h2 : OpR X (compareOp o2) (rI0 fun i j => .bl (g2 i j))) (ha : AE X a fs f1 (.val (.int i))) (hb : AE X b f1 f2 (.val (.int j))) (hc : AE X c f2 f2 (.val (.int k)))
    (hm : lastMarks [o1, o2] [b, c] = false := by with_unfolding_all rfl) : AE X (.Compare a [o1, o2] [b, c] pos) fs f2 (.val (.bool (g1 i j && g2 j k))) := by
  refine ⟨hb.ow.trans ha.ow, fun T σ H Q E q => bE_of (pe_chain h1 h2 best best best hm) (ha.run T σ H _ E fun x H1 k1 p1 => hb.run T σ H1 _ p1.er fun y H2 k2 p2 => ?_)⟩
  have k2' : Kp H1 H2 (ownL fs) := by rw [ha.ow] at k2; exact k2
  refine ⟨i, j, p1.2.int_inv, p2.2.int_inv, g1 i j, rfl, ?_⟩
  cases hg : g1 i j with
  | false => exact q _ H2 (k1.trans k2') ⟨p2.1, by rw [hg]; exact .bl false⟩
  | true =>
    refine hc.run T σ H2 _ p2.er fun z H3 k3 p3 => ⟨j, k, p2.2.int_inv, p3.2.int_inv, ?_⟩
    have k3' : Kp H2 H3 (ownL fs) := by rw [hb.ow.trans ha.ow] at k3; exact k3
    exact q _ H3 ((k1.trans k2').trans k3') ⟨p3.1, by rw [hg, Bool.true_and]; exact .bl (g2 j k)⟩
/-- for sign in text -/
theorem as_forX {tg : Expr} (hp : PassesOwn (model X.prog X.w) X.A X.env X.xe) (P : Nat → Fm → Prop) (he : AE X e fs f1 (.val (sD l))) (h0 : P 0 f1) (hs : Turn3 X tg body rest cf D (l.map fun c => sD [c]) P) (hd : ∀ f, P l.length f → AS X rest cf f D) (hc : X.calm = true := by rfl)
    (hf : ∀ x, foldedSetIterable e X.env x = pure x := by intro _; rfl) : AS X (.For tg e body [] pos :: rest) cf fs D := by
  refine fun σ H S => bSs_of (pss_cons (ps_for hp hc (pi_str best) bestG bestSs hf) bestSs) (he.run cf.T σ H _ S.er fun v H1 k1 p1 => ?_)
  refine ⟨_, p1.2.str_inv, for_core (ds := l.map fun c => sD [c]) (S.step k1 p1.1 he.ow) h0 (fun G g k lt => ?_) (fun G g => ?_) (fun G g k v G' lt y => ?_) hs (by rw [List.length_map]; exact hd)⟩
  · rw [List.length_map] at lt
    show k < l.toArray.size
    simpa using lt
  · show l.toArray.size ≤ _
    simp
  · obtain ⟨rfl, c, hc, rfl⟩ := y
    refine ⟨fun _ _ h => h, sD [c], ?_, fun T σ f E dis et => .str _⟩
    have : l[k]? = some c := by simpa using hc
    simp [this]
theorem rD_lit {t b : Int} {q : Rat} (h1 : q.num = t) (h2 : (q.den : Int) = b) : Res.val (.tuple [.int t, .int b]) = Res.val (rD q) := by subst h1 h2; rfl
theorem mapD_inv {k : Nat} {d : PyData} (h : (l.map fun c => sD [c])[k]? = some d) : ∃ c, l[k]? = some c ∧ d = sD [c] := by
  rw [List.getElem?_map] at h
  obtain ⟨c, h1, h2⟩ := Option.map_eq_some_iff.mp h
  exact ⟨c, h1, h2.symm⟩
theorem madeC_some (f : Nat → PyData) (n : Nat) : madeC (fun i => some (f i)) n = (List.range n).map f := by simp [madeC]
theorem atI_getD {α : Type} {xs : List α} {k : Int} (d : α) (h0 : 0 ≤ k) (h : k < xs.length) : atI xs k = some (xs.getD k.toNat d) := by
  obtain ⟨n, rfl⟩ : ∃ n : Nat, k = n := ⟨k.toNat, by omega⟩
  have hn : n < xs.length := by omega
  exact atI_nat (by simp [hn])
/-! a slot is forgotten -/
theorem er_forget {K : PySem.W.Frag} {n : Nat} (E : ER K T σ H fs) : ER K T σ H (fs.set n .no) := by
  have h := E.setS (i := n) (s := .no) (ov := (σ[n]?).getD none) rfl (by cases (σ[n]?).getD none <;> trivial)
  have e : σ.set n ((σ[n]?).getD none) = σ := by
    by_cases lt : n < σ.length
    · apply List.ext_getElem?
      intro m
      by_cases z : n = m
      · subst z; rw [List.getElem?_set_self lt, List.getElem?_eq_getElem lt]; rfl
      · rw [List.getElem?_set_ne z]
    · exact List.set_eq_of_length_le (by omega)
  rw [e] at h
  exact h
theorem as_no {sts : List Stmt} (n : Nat) (hk : AS X sts cf (fs.set n .no) D) : AS X sts cf fs D := fun σ H S =>
  hk σ H (S.less (er_forget S.er) fun a h => by
    rcases ownL_set h with z | z
    · exact z
    · cases z)
/-! names of the module that are texts -/
theorem konT_txt {K : PySem.W.Frag} {h : Heap} {mg : Str → Option Value} (X : K.In h) (G : h.Ns mainGlobals mg) {x z : Str} (l : List Nat) (c : (He.Fa.str x z).ok K = true) (e : z = ⟨l.toArray⟩ := by decide +kernel) : KonT K mg x (sD l) := by
  subst e; exact konT_str X G c
end
end A3
namespace A3
open PySem PySem.Spec PyProof.Rows L2
/-! ### posts -/
def LET : List Nat := [97, 98, 99, 100, 101, 102, 103, 104, 105, 106, 107, 108, 109, 110, 111, 112, 113, 114, 115, 116, 117, 118, 119, 120, 121, 122]
def isLt (c : Nat) : Bool := decide (c ∈ LET)
theorem lt_iff {c : Nat} : isLt c = true ↔ 97 ≤ c ∧ c ≤ 122 := by
  unfold isLt LET
  simp only [decide_eq_true_eq, List.mem_cons, List.not_mem_nil, or_false]
  omega
theorem lt_no {c : Nat} (h : c < 97 ∨ 122 < c) : isLt c = false := by
  cases e : isLt c with
  | false => rfl
  | true => have := lt_iff.mp e; omega
def partB (p : List Nat) : Bool := p.all isLt && (decide (1 ≤ p.length) && decide (p.length ≤ 8))
def postB (l : List Nat) : Bool := decide ((TL.spl [46] 0 [] l).length ≤ 4) && (TL.spl [46] 0 [] l).all partB
def okP : List Nat → Nat → Nat → Bool
  | [], _, n => decide (1 ≤ n)
  | c :: r, k, n => if c = 46 then decide (1 ≤ n) && (decide (0 < k) && okP r (k - 1) 0) else isLt c && (decide (n < 8) && okP r k (n + 1))
theorem spl46 (acc r : List Nat) (c : Nat) : TL.spl [46] 0 acc (c :: r) = if c = 46 then acc :: TL.spl [46] 0 [] r else TL.spl [46] 0 (acc ++ [c]) r := by
  show (if TL.pre [46] (c :: r) = true then acc :: TL.spl [46] 0 [] r else TL.spl [46] 0 (acc ++ [c]) r) = _
  have : TL.pre [46] (c :: r) = decide (c = 46) := by
    unfold TL.pre
    by_cases h : c = 46 <;> simp [h]
  rw [this]
  by_cases h : c = 46 <;> simp [h]
theorem spl_pos : ∀ (l acc : List Nat), 1 ≤ (TL.spl [46] 0 acc l).length
  | [], acc => by simp [TL.spl_nil]
  | c :: r, acc => by
    rw [spl46]
    split
    · simp
    · exact spl_pos r _
theorem splB : ∀ (l : List Nat) (k : Nat) (acc : List Nat), (decide ((TL.spl [46] 0 acc l).length ≤ k + 1) && (TL.spl [46] 0 acc l).all partB) = (acc.all isLt && (decide (acc.length ≤ 8) && okP l k acc.length))
  | [], k, acc => by
    rw [TL.spl_nil]
    simp only [List.length_singleton, List.all_cons, List.all_nil, partB, okP, Bool.and_true]
    have : decide (1 ≤ k + 1) = true := by simp
    rw [this, Bool.true_and, Bool.and_comm (decide (1 ≤ acc.length))]
  | c :: r, k, acc => by
    rw [spl46]
    by_cases h : c = 46
    · rw [if_pos h]
      cases k with
      | zero =>
        have := spl_pos r []
        have e : decide ((acc :: TL.spl [46] 0 [] r).length ≤ 0 + 1) = false := by
          rw [decide_eq_false_iff_not, List.length_cons]; omega
        rw [e]
        simp [okP, h]
      | succ k =>
        have ih := splB r k []
        have e : decide ((acc :: TL.spl [46] 0 [] r).length ≤ k + 1 + 1) = decide ((TL.spl [46] 0 [] r).length ≤ k + 1) := by
          rw [decide_eq_decide, List.length_cons]; omega
        rw [e, List.all_cons]
        simp only [List.all_nil, List.length_nil, Bool.true_and] at ih
        have e8 : decide (0 ≤ 8) = true := rfl
        rw [e8, Bool.true_and] at ih
        simp only [okP, h, if_true, partB]
        have e3 : decide (0 < k + 1) = true := by simp
        rw [e3, Bool.true_and, Nat.add_sub_cancel, ← ih]
        generalize decide ((TL.spl [46] 0 [] r).length ≤ k + 1) = x1
        generalize (TL.spl [46] 0 [] r).all (fun p => p.all isLt && (decide (1 ≤ p.length) && decide (p.length ≤ 8))) = x2
        generalize acc.all isLt = x3
        generalize decide (1 ≤ acc.length) = x4
        generalize decide (acc.length ≤ 8) = x5
        generalize (TL.spl [46] 0 [] r).all partB = x6
        revert x1 x2 x3 x4 x5 x6
        decide
    · rw [if_neg h, splB r k (acc ++ [c])]
      simp only [okP, h, if_false, List.all_append, List.all_cons, List.all_nil, Bool.and_true, List.length_append, List.length_singleton]
      have e : decide (acc.length + 1 ≤ 8) = (decide (acc.length ≤ 8) && decide (acc.length < 8)) := by
        rw [Bool.eq_iff_iff]; simp; omega
      rw [e]
      generalize acc.all isLt = x1
      generalize isLt c = x2
      generalize decide (acc.length ≤ 8) = x3
      generalize decide (acc.length < 8) = x4
      generalize okP r k (acc.length + 1) = x5
      revert x1 x2 x3 x4 x5
      decide
theorem postB_ok (l : List Nat) : postB l = okP l 3 0 := by
  have h := splB l 3 []
  simpa [postB] using h
structure PartOk (p : List Nat) : Prop where
  pos : 1 ≤ p.length
  le : p.length ≤ 8
  lets : p.all isLt = true
theorem okP_part : ∀ (p r : List Nat) (k n : Nat), p.all isLt = true → n + p.length ≤ 8 → okP (p ++ r) k n = okP r k (n + p.length)
  | [], r, k, n, _, _ => rfl
  | c :: p, r, k, n, h, hn => by
    rw [List.all_cons, Bool.and_eq_true] at h
    have h1 := lt_iff.mp h.1
    have hc : c ≠ 46 := by omega
    have hl : n < 8 := by simp at hn; omega
    have ih := okP_part p r k (n + 1) h.2 (by simp at hn; omega)
    simp only [List.cons_append, okP, hc, if_false, h.1, Bool.true_and, hl, decide_true, ih, List.length_cons]
    rw [show n + 1 + p.length = n + (p.length + 1) by omega]
theorem okP_join : ∀ (ps : List (List Nat)) (k : Nat), ps ≠ [] → ps.length ≤ k + 1 → (∀ p ∈ ps, PartOk p) → okP (TL.joinL [46] ps) k 0 = true
  | [], _, h, _, _ => absurd rfl h
  | [p], k, _, _, hp => by
    have h := hp p (List.mem_singleton.mpr rfl)
    have e := okP_part p [] k 0 h.lets (by have := h.le; omega)
    rw [List.append_nil] at e
    show okP p k 0 = true
    rw [e]
    simp only [okP]
    have := h.pos
    simp; omega
  | p :: q :: r, k, _, hk, hp => by
    have h := hp p List.mem_cons_self
    show okP (p ++ ([46] ++ TL.joinL [46] (q :: r))) k 0 = true
    rw [okP_part p _ k 0 h.lets (by have := h.le; omega)]
    have h1 : 1 ≤ 0 + p.length := by have := h.pos; omega
    have h2 : 0 < k := by simp at hk; omega
    have ih := okP_join (q :: r) (k - 1) (by simp) (by simp at hk ⊢; omega) fun z hz => hp z (List.mem_cons_of_mem _ hz)
    simp only [List.cons_append, List.nil_append, okP, if_true, h1, h2, decide_true, Bool.true_and, ih]
theorem okP_bad : ∀ (l : List Nat) (k n : Nat), (∃ c, c ∈ l ∧ c ≠ 46 ∧ isLt c = false) → okP l k n = false
  | [], _, _, ⟨c, h, _⟩ => by simp at h
  | x :: r, k, n, ⟨c, h, h1, h2⟩ => by
    rcases List.mem_cons.mp h with rfl | h
    · simp [okP, h1, h2]
    · have ih := fun k n => okP_bad r k n ⟨c, h, h1, h2⟩
      by_cases e : x = 46
      · simp [okP, e, ih]
      · simp [okP, e, ih]
theorem okP_app {m : List Nat} : ∀ (l : List Nat) (k n : Nat), (∀ k', k' ≤ k → ∀ n, okP m k' n = false) → okP (l ++ m) k n = false
  | [], k, n, h => h k (Nat.le_refl _) n
  | x :: r, k, n, h => by
    by_cases e : x = 46
    · have ih := okP_app r (k - 1) 0 fun k' hk => h k' (by omega)
      simp [okP, e, ih]
    · have ih := okP_app r k (n + 1) h
      simp [okP, e, ih]
/-- which things are posts -/
def isPostD : PyData → Bool
  | .str x => postB (TL.tl x)
  | _ => false
theorem isPost_s (l : List Nat) : isPostD (sD l) = postB l := rfl
def TxB : PyData → Prop
  | .str x => x.length ≤ 1000
  | _ => True
theorem txB_s {l : List Nat} (h : l.length ≤ 1000) : TxB (sD l) := by show (⟨l.toArray⟩ : Str).length ≤ 1000; rw [SX.S_len]; exact h
theorem post_cases (d : PyData) : (isS d = false ∧ isPostD d = false) ∨ ∃ l, d = sD l := by
  cases d with
  | str x => exact .inr ⟨TL.tl x, congrArg PyData.str (TL.mk_tl x).symm⟩
  | _ => exact .inl ⟨rfl, rfl⟩
/-! ### drawn names -/
theorem let_at {v : Int} (h0 : 0 ≤ v) (h : v < 26) : atI LET v = some (97 + v.toNat) := by
  obtain ⟨n, rfl⟩ : ∃ n : Nat, v = n := ⟨v.toNat, by omega⟩
  have hn : n < 26 := by omega
  refine atI_nat ?_
  have : ∀ n < 26, LET[n]? = some (97 + n) := by decide
  rw [this n hn]; simp
def dr (m : Int) (s : Sd) : Sd := drawS s m
def partN (s : Sd) : Nat := (1 + drawV s 8).toNat
def partV (s : Sd) : List Nat := (List.range (partN s)).map fun i => 97 + (drawV (it (dr 26) i (drawS s 8)) 26).toNat
def partS (s : Sd) : Sd := it (dr 26) (partN s) (drawS s 8)
def nameN (s : Sd) : Nat := (1 + drawV s 4).toNat
def nameP (s : Sd) : List (List Nat) := (List.range (nameN s)).map fun i => partV (it partS i (drawS s 4))
def nameV (s : Sd) : List Nat := TL.joinL [46] (nameP s)
def nameS (s : Sd) : Sd := it partS (nameN s) (drawS s 4)
theorem partN_b (s : Sd) : 1 ≤ partN s ∧ partN s ≤ 8 := by have := drawV_b s (m := 8) (by decide); unfold partN; omega
theorem nameN_b (s : Sd) : 1 ≤ nameN s ∧ nameN s ≤ 4 := by have := drawV_b s (m := 4) (by decide); unfold nameN; omega
theorem partV_len (s : Sd) : (partV s).length = partN s := by simp [partV]
theorem partV_ok (s : Sd) : PartOk (partV s) where
  pos := by rw [partV_len]; exact (partN_b s).1
  le := by rw [partV_len]; exact (partN_b s).2
  lets := by
    rw [List.all_eq_true]
    intro c hc
    obtain ⟨i, _, rfl⟩ := List.mem_map.mp hc
    have := drawV_b (it (dr 26) i (drawS s 8)) (m := 26) (by decide)
    exact lt_iff.mpr (by omega)
theorem nameP_len (s : Sd) : (nameP s).length = nameN s := by simp [nameP]
theorem nameP_ok (s : Sd) : ∀ p ∈ nameP s, PartOk p := fun p hp => by
  obtain ⟨i, _, rfl⟩ := List.mem_map.mp hp
  exact partV_ok _
theorem nameV_ok (s : Sd) : postB (nameV s) = true := by
  rw [postB_ok]
  have := nameN_b s
  exact okP_join _ _ (fun z => by have := nameP_len s; rw [z] at this; simp at this; omega) (by rw [nameP_len]; omega) (nameP_ok s)
theorem joinL_len : ∀ (ps : List (List Nat)), (∀ p ∈ ps, p.length ≤ 8) → (TL.joinL [46] ps).length ≤ 9 * ps.length
  | [], _ => by simp [TL.joinL]
  | [p], h => by have := h p (List.mem_singleton.mpr rfl); show p.length ≤ 9; omega
  | p :: q :: r, h => by
    have h1 := h p List.mem_cons_self
    have ih := joinL_len (q :: r) fun z hz => h z (List.mem_cons_of_mem _ hz)
    show (p ++ ([46] ++ TL.joinL [46] (q :: r))).length ≤ _
    simp only [List.length_append, List.length_cons, List.length_nil] at *
    omega
theorem nameV_len (s : Sd) : (nameV s).length ≤ 36 := by
  have := joinL_len (nameP s) fun p hp => (nameP_ok s p hp).le
  have h2 := nameN_b s
  rw [nameP_len] at this
  unfold nameV; omega
theorem nameV_ne (s : Sd) : nameV s ≠ [] := fun z => by
  have := nameV_ok s
  rw [z, postB_ok] at this
  exact absurd this (by decide)
theorem sum_le_of : ∀ (ls : List (List Nat)) (k : Nat), (∀ p ∈ ls, p.length ≤ k) → (ls.map (·.length)).sum ≤ k * ls.length
  | [], k, _ => by simp
  | p :: r, k, h => by
    have h1 := h p List.mem_cons_self
    have ih := sum_le_of r k fun z hz => h z (List.mem_cons_of_mem _ hz)
    simp only [List.map_cons, List.sum_cons, List.length_cons, Nat.mul_add, Nat.mul_one]
    omega
theorem Bs.drs {n m : Int} : ∀ {i : Nat} {s : Sd}, Bs n s → (i : Int) ≤ n → Bs (n - i) (it (dr m) i s)
  | 0, s, h, _ => by simpa [it] using h
  | i + 1, s, h, hi => by
    have ih := Bs.drs (m := m) (i := i) h (by omega)
    have := ih.draw (m := m) (by omega)
    show Bs _ (drawS (it (dr m) i s) m)
    rw [show n - ((i + 1 : Nat) : Int) = n - (i : Int) - 1 by omega]
    exact this
theorem Bs.part {n : Int} {s : Sd} (h : Bs n s) (hn : 9 ≤ n) : Bs (n - 9) (partS s) := by
  have h2 := partN_b s
  have := (h.draw (m := 8) (by omega)).drs (m := 26) (i := partN s) (by omega)
  exact this.le (by omega)
theorem Bs.parts {n : Int} : ∀ {i : Nat} {s : Sd}, Bs n s → 9 * (i : Int) ≤ n → Bs (n - 9 * i) (it partS i s)
  | 0, s, h, _ => by simpa [it] using h
  | i + 1, s, h, hi => by
    have ih := Bs.parts (i := i) h (by omega)
    have := ih.part (by omega)
    show Bs _ (partS (it partS i s))
    exact this.le (by omega)
theorem Bs.name {n : Int} {s : Sd} (h : Bs n s) (hn : 37 ≤ n) : Bs (n - 37) (nameS s) := by
  have h2 := nameN_b s
  have := (h.draw (m := 4) (by omega)).parts (i := nameN s) (by omega)
  exact this.le (by omega)
/-! ### runs -/
def ltD : PyData → Bool
  | .tuple [.int a, .int _] => decide (0 < a)
  | _ => false
def isRunD : PyData → Bool
  | .tuple [a, b, t] => isPostD a && (isPostD b && (!PyData.eqv a b && (isFrB t && ltD t)))
  | _ => false
def TxR : PyData → Prop
  | .tuple [a, b, _] => TxB a ∧ TxB b
  | _ => True
theorem run_cases (d : PyData) : (isT d = false ∧ isRunD d = false) ∨ (∃ ds, d = .tuple ds ∧ ds.length ≠ 3 ∧ isRunD d = false) ∨ ∃ x y z, d = .tuple [x, y, z] := by
  cases d with
  | tuple ds =>
    right
    match ds with
    | [] => exact .inl ⟨_, rfl, by decide, rfl⟩
    | [x] => exact .inl ⟨_, rfl, by simp, rfl⟩
    | [x, y] => exact .inl ⟨_, rfl, by simp, rfl⟩
    | [x, y, z] => exact .inr ⟨_, _, _, rfl⟩
    | x :: y :: z :: u :: r => exact .inl ⟨_, rfl, by simp, rfl⟩
  | _ => exact .inl ⟨rfl, rfl⟩
theorem post_s {d : PyData} (h : isPostD d = true) : ∃ l, d = sD l := by
  rcases post_cases d with ⟨_, h2⟩ | h2
  · rw [h2] at h; cases h
  · exact h2
theorem fr_of {d : PyData} (h : isFrB d = true) : ∃ p : Fr, d = frD p ∧ IsFr p := by
  rcases fr_cases d with ⟨_, h2⟩ | ⟨_, _, _, h2⟩ | ⟨_, _, _, _, h2⟩ | ⟨_, _, _, _, h2⟩ | ⟨a, b, rfl⟩
  · rw [h2] at h; cases h
  · rw [h2] at h; cases h
  · rw [h2] at h; cases h
  · rw [h2] at h; cases h
  · have h' : (decide (0 < b) && decide ((Int.gcd a b : Int) = 1)) = true := h
    rw [Bool.and_eq_true, decide_eq_true_eq, decide_eq_true_eq] at h'
    exact ⟨(a, b), rfl, h'.1, by have h2 := h'.2; show Int.gcd a b = 1; omega⟩
theorem isFrB_fr {p : Fr} (h : IsFr p) : isFrB (frD p) = true := by
  show (decide (0 < p.2) && decide ((Int.gcd p.1 p.2 : Int) = 1)) = true
  have h1 := h.pos
  have h2 := h.cop
  simp [h1, h2]
theorem eqv_s (l m : List Nat) : PyData.eqv (sD l) (sD m) = decide (l = m) := by
  show decide ((⟨l.toArray⟩ : Str) = ⟨m.toArray⟩) = _
  exact s_eq
theorem nrm_pos {t b : Int} (ht : 0 < t) (hb : 0 < b) : 0 < (nrm t b).1 := by
  have h := (nrm_mul t b).1
  have e : sg t b = (Int.gcd t b : Int) := if_neg (show ¬ b < 0 by omega)
  have hg := (gcd_le_abs (t := t) (b := b) (by omega)).1
  have p : 0 < sg t b := by omega
  rcases Int.lt_trichotomy (nrm t b).1 0 with z | z | z
  · have := Int.mul_neg_of_neg_of_pos z p
    omega
  · rw [z] at h; omega
  · exact z
theorem run_split (d : PyData) : (isT d = false ∧ isRunD d = false) ∨ (∃ ds, d = .tuple ds ∧ ds.length ≠ 3 ∧ isRunD d = false) ∨ (∃ x y z, d = .tuple [x, y, z] ∧ (isPostD x && isPostD y) = false ∧ isRunD d = false) ∨
    (∃ l m z, d = .tuple [sD l, sD m, z] ∧ postB l = true ∧ postB m = true ∧ isFrB z = false ∧ isRunD d = false) ∨ ∃ l m p, d = .tuple [sD l, sD m, frD p] ∧ postB l = true ∧ postB m = true ∧ IsFr p := by
  rcases run_cases d with h | h | ⟨x, y, z, rfl⟩
  · exact .inl h
  · exact .inr (.inl h)
  · cases hx : isPostD x with
    | false => exact .inr (.inr (.inl ⟨x, y, z, rfl, by rw [hx, Bool.false_and], by simp [isRunD, hx]⟩))
    | true =>
      cases hy : isPostD y with
      | false => exact .inr (.inr (.inl ⟨x, y, z, rfl, by rw [hy, Bool.and_false], by simp [isRunD, hy]⟩))
      | true =>
        obtain ⟨l, rfl⟩ := post_s hx
        obtain ⟨m, rfl⟩ := post_s hy
        cases hz : isFrB z with
        | false => exact .inr (.inr (.inr (.inl ⟨l, m, z, rfl, hx, hy, hz, by simp [isRunD, hz]⟩)))
        | true =>
          obtain ⟨p, rfl, hp⟩ := fr_of hz
          exact .inr (.inr (.inr (.inr ⟨l, m, p, rfl, hx, hy, hp⟩)))
theorem mapL_inv {ls : List (List Nat)} {k : Nat} {d : PyData} (h : (ls.map sD)[k]? = some d) : ∃ p, ls[k]? = some p ∧ d = sD p := by
  rw [List.getElem?_map] at h
  obtain ⟨c, h1, h2⟩ := Option.map_eq_some_iff.mp h
  exact ⟨c, h1, h2.symm⟩
theorem getD_of {α : Type} {ls : List α} {k : Nat} {p x : α} (h : ls[k]? = some p) : ls.getD k x = p := by
  rw [List.getD_eq_getElem?_getD, h]; rfl
theorem getD_map_range {α : Type} (ls : List α) (x : α) : (List.range ls.length).map (fun i => ls.getD i x) = ls := by
  apply List.ext_getElem?
  intro i
  rw [List.getElem?_map]
  by_cases h : i < ls.length
  · rw [List.getElem?_range h]
    simp [h]
  · rw [List.getElem?_eq_none (by simpa using h), List.getElem?_eq_none (by simpa using h)]; rfl
theorem made_parts (l : List Nat) : madeC (fun i => some (PyData.bool (partB ((TL.spl [46] 0 [] l).getD i [])))) ((TL.spl [46] 0 [] l).map sD).length = ((TL.spl [46] 0 [] l).map partB).map .bool := by
  rw [madeC_some (fun i => PyData.bool (partB ((TL.spl [46] 0 [] l).getD i []))), List.length_map, List.map_map]
  have := getD_map_range (TL.spl [46] 0 [] l) []
  conv => rhs; rw [← this]
  rw [List.map_map]; rfl
theorem made_map (f : Nat → List Nat) (n : Nat) : madeC (fun i => some (sD (f i))) n = ((List.range n).map f).map sD := by
  rw [madeC_some (fun i => sD (f i)), List.map_map]; rfl
theorem joinL_nil : ∀ ls : List (List Nat), TL.joinL [] ls = ls.flatten
  | [] => rfl
  | [p] => by simp [TL.joinL]
  | p :: q :: r => by
    show p ++ ([] ++ TL.joinL [] (q :: r)) = _
    rw [joinL_nil (q :: r)]; simp
theorem join_one (f : Nat → Nat) (n : Nat) : TL.joinL [] ((List.range n).map fun i => [f i]) = (List.range n).map f := by
  rw [joinL_nil]
  induction n with
  | zero => rfl
  | succ n ih => rw [List.range_succ, List.map_append, List.map_append, List.flatten_append, ih]; rfl
theorem part_sum (s0 : Sd) : (((List.range (partN s0)).map fun i => [97 + (drawV (it (dr 26) i (drawS s0 8)) 26).toNat]).map (·.length)).sum + ((List.range (partN s0)).map fun i => [97 + (drawV (it (dr 26) i (drawS s0 8)) 26).toNat]).length * ([] : List Nat).length ≤ 16777216 := by
  have h := sum_le_of ((List.range (partN s0)).map fun i => [97 + (drawV (it (dr 26) i (drawS s0 8)) 26).toNat]) 1 (fun p hp => by obtain ⟨i, _, rfl⟩ := List.mem_map.mp hp; simp)
  have h2 := partN_b s0
  have h3 : ((List.range (partN s0)).map fun i => [97 + (drawV (it (dr 26) i (drawS s0 8)) 26).toNat]).length = partN s0 := by simp
  rw [h3] at h ⊢
  simp only [List.length_nil, Nat.mul_zero, Nat.add_zero]
  omega
theorem name_sum (s0 : Sd) : ((nameP s0).map (·.length)).sum + (nameP s0).length * ([46] : List Nat).length ≤ 16777216 := by
  have h := sum_le_of (nameP s0) 8 fun p hp => (nameP_ok s0 p hp).le
  have h2 := nameN_b s0
  have h3 := nameP_len s0
  simp only [List.length_singleton]
  omega
theorem spl_bd : ∀ (l acc : List Nat), (TL.spl [46] 0 acc l).length ≤ l.length + 1 ∧ ∀ p ∈ TL.spl [46] 0 acc l, p.length ≤ acc.length + l.length
  | [], acc => by simp [TL.spl_nil]
  | c :: r, acc => by
    rw [spl46]
    split
    · have ih := spl_bd r []
      refine ⟨by simp; omega, fun p hp => ?_⟩
      rcases List.mem_cons.mp hp with rfl | hp
      · simp
      · have := ih.2 p hp
        simp at this ⊢; omega
    · have ih := spl_bd r (acc ++ [c])
      refine ⟨by have := ih.1; simp; omega, fun p hp => ?_⟩
      have := ih.2 p hp
      simp at this ⊢; omega
theorem spl_b (l : List Nat) : (TL.spl [46] 0 [] l).length ≤ l.length + 1 ∧ ∀ p ∈ TL.spl [46] 0 [] l, p.length ≤ l.length := by
  have h := spl_bd l []
  simpa using h
theorem postSum (l : List Nat) : postB l = (decide ((TL.spl [46] 0 [] l).length ≤ 4) && ((TL.spl [46] 0 [] l).map partB).all id) := by
  unfold postB; rw [List.all_map]; rfl
end A3
namespace A3
open PySem PySem.Spec PyProof.Rows L2
/-! ### errors -/
/-- an own class of errors, by its name -/
structure ExN (K : PySem.W.Frag) (mg : Str → Option Value) (x : Str) : Prop where
  at_ : mg x = some (.ref (He.ga K x))
  ex : PySem.W.excIn K (He.ga K x) He.veBase "ValueError.__new__" = true
  kp : PySem.W.keepIn K (.ref (He.ga K x)) = true
  sb : PySem.W.subIn K (.ref (He.ga K x)) (.type "BaseException") = some true
  ty : PySem.W.typeIn K (.ref (He.ga K x)) = some (.type "type")
theorem ExN.of {K : PySem.W.Frag} {h : Heap} {mg : Str → Option Value} (X : K.In h) (G : h.Ns mainGlobals mg) {x : Str} (c1 : (He.Fa.glo x).ok K = true) (c2 : (He.Fa.exc x).ok K = true) : ExN K mg x := by
  obtain ⟨a, b, c, d⟩ := He.exc_ok c2
  exact ⟨He.glo_ok X G c1, a, b, c, d⟩
def never : D3 := ⟨fun _ => False, fun _ _ => False, fun _ => False, fun _ => False⟩
section
variable {X : Cx} {a b e : Expr} {es : List Expr} {sts rest body suite : List Stmt} {c : Cf} {D : D3} {fs f1 f2 f3 : Fm} {d d1 d2 d3 : PyData} {ds dd : List PyData} {r r1 r2 : Res} {pos pos' p p2 apos np : Pos} {T : Addr → Bool} {σ : L2.St} {H : Hp} {W : WX} {x n m : Str} {C E0 : Addr}
/-- raise X('..') -/
theorem as_raise {j : Nat} (tk : L2N.Takes X W) (x1 : ExN X.K X.mg x) (hW : ∀ σ H, S3 X.K c σ H fs → W (.ref (He.ga X.K x)) none σ H) (hc : X.calm = true := by rfl) (hg : Gl X x := by rfl) (hdb : (x == ("__debug__" : Str)) = false := by decide) :
    AS X (.Raise (some (.Call (.Name x p) [.Constant (.str m) j p2] [] pos')) none pos :: rest) c fs D :=
  fun σ H S => bSs_of (pss_cons (L2N.ps_raise hc tk (L2N.pmk_own PySem.F.excBase_ValueError x1.ex x1.at_ x1.kp (raises_own x1.sb x1.ty) hg hdb)) bestSs) (hW σ H S)
/-- an expression that raises -/
def RE (X : Cx) (e : Expr) (c : Cf) (fs : Fm) : Prop := ∀ σ H Q, S3 X.K c σ H fs → bE X e σ H Q
theorem as_exprE (h : RE X e c fs) (hs : swapsWith e none pos.line X.env = pure false := by rfl) : AS X (.Expr e pos :: rest) c fs D := fun σ H S => bSs_of (pss_cons (ps_expr best hs) bestSs) (h σ H _ S)
theorem as_retE (h : RE X e c fs) : AS X (.Return (some e) pos :: rest) c fs D := fun σ H S => bSs_of (pss_cons (ps_ret best) bestSs) (h σ H _ S)
theorem as_setE (n : Nat) (h : RE X e c fs) (hN : X.N.Nodup) (hi : X.N[n]? = some x := by rfl) (hx : Loc X.env.scope x := by first | exact .inl rfl | exact .inr rfl)
    (hs : swapsWith e (some (.Name x pos')) pos.line X.env = pure false := by rfl) (hf : X.fn x = true ∨ X.env.scope.names.lookup x = some .local := by first | exact .inl rfl | exact .inr rfl) : AS X (.Assign [.Name x pos'] e pos :: rest) c fs D :=
  fun σ H S => bSs_of (pss_cons (ps_set hN hi hx best hs hf) bestSs) (h σ H _ S)
/-- a call that raises: with defaults, the wish by the frame's slots -/
theorem pe_raises {CXT' : CXT} {k : Nat} {f : Addr} {fd : FuncData} {ps : List Str} {sp : Sp} {dvs : List V} {dvals : List Value} {t : TA} (F : FnOk X.prog X.w X.K X.mg X.base CXT' k f fd ps sp) (hr : Room k X.A) (hg : Gl X x) (hm : X.mg x = some (.ref f)) (hk : PySem.W.keepIn X.K (.ref f) = true)
    (hb : Binds X.K fd ps dvals) (hd : Vals dvs dvals) {Ew : L2.St → XK} (hx : ∀ σ, PassesAt CXT' X σ (Ew σ))
    (ha : PA X (a :: es) t) (hdb : (x == ("__debug__" : Str)) = false := by decide) (he : starEach (a :: es) X.env = (false, eval a X.env) :: starEach es X.env := by rfl) (hpl : (backTo pos (starEach es X.env)).any (·.1) = false := by rfl) :
    PE X (.Call (.Name x p) (a :: es) [] pos) (fun σ H Q => t σ H fun vs H1 => sp (vs ++ dvs) H1 Q (Ew σ)) := by
  refine ⟨fun pins s σ H Q I h => wpAny_Call_Name_kw (ld_glob I hg hm ?_ hdb)⟩
  refine PySem.W.callWith_K (h₀ := X.base) I.ok.mod.kin hk (thn (ha.run pos pins s σ H _ I h) fun us s1 hh => ?_) he hpl
  obtain ⟨vs, H1, I1, rv, q⟩ := hh
  refine ⟨I1.kIn, ?_⟩
  have lens := F.len _ _ _ _ q
  have all := rv.append hd
  have lenu : (us ++ dvals).length = ps.length := all.length.symm.trans lens
  have bnd := hb s1 us I1.kIn lenu
  refine wpAny_call (codeAny_mono (F.run X.A X.stack s1 H1 ⟨us, []⟩ (us ++ dvals) (vs ++ dvs) Q (Ew σ) hr I1.env0 bnd all q) fun out s2 hq => ?_)
  cases out with
  | error ev => exact hx σ pins H1 s1 ev s2 I1 hq
  | ok fl =>
    cases fl with
    | ret u => exact I1.after hq
    | next => exact hq.elim
    | brk => exact hq.elim
    | cont => exact hq.elim
theorem re_call {k : Nat} {f : Addr} {fd : FuncData} {ps : List Str} {ct : Ct} {cx : Cex} {dvs : List V} (tk : L2N.Takes X W) (G : Fn X (L2N.CX X.prog X.w) k x f fd ps ct cx dvs dd) (hr : Room k X.A) (ha : AD X (a :: es) fs f1 ds) (hc : cx ((ds ++ dd).map .dat) C)
    (hW : ∀ σ H, S3 X.K c σ H f1 → W (.ref C) none σ H) (hg : Gl X x := by rfl)
    (hdb : (x == ("__debug__" : Str)) = false := by decide) (he : starEach (a :: es) X.env = (false, eval a X.env) :: starEach es X.env := by rfl) (hpl : (backTo pos (starEach es X.env)).any (·.1) = false := by rfl) : RE X (.Call (.Name x p) (a :: es) [] pos) c fs := by
  obtain ⟨dvals, hb, hd⟩ := G.bd
  refine fun σ H Q S => bE_of (pe_raises G.ok hr hg G.mg G.kp hb hd (Ew := WE W) (fun σ => L2N.passAt tk σ) bestA hdb he hpl) (ha.run c.T σ H _ S.er fun vs H1 k1 E1 p1 => ?_)
  have g := argR_all (fs := f1) (p1.app (G.df (cut H1 (tt c.T (ownL f1)))))
  have e0 : ownL ((ds ++ dd).map Slot.dat) = [] := ownL_dats
  have E2 := er_args E1 g (by rw [e0]; exact List.nodup_nil)
  have S1 := S.step k1 E1 ha.ow
  exact ⟨_, _, E2, g.nA, .inr ⟨C, hc, e0, fun H' sm => hW σ H' (S1.step (Kp.of sm) (E1.keep sm) rfl)⟩⟩
/-- a def that may raise, called where it does not -/
theorem passN {X : Cx} : Passes (L2N.CX X.prog X.w) X (fun _ _ _ => False) := fun _ _ _ _ _ _ _ h => by
  obtain ⟨_, _, _, _, _, _, _, _, _, _, _, _, z⟩ := h
  exact z.elim
theorem takesN0 {X : Cx} : L2N.Takes X (fun _ _ _ _ => False) := fun _ _ h => by
  obtain ⟨_, _, _, _, _, _, _, _, _, _, _, _, _, _, _, _, z⟩ := h
  exact z.elim
theorem S3.exc {K : PySem.W.Frag} {q : Nat} {l : Addr} (S : S3 K c σ H fs) : S3 K c (σ.set q (some (.ref l))) H (fs.set q (.ref l)) :=
  S.less (S.er.setS (s := .ref l) (ov := some (.ref l)) rfl rfl) fun b h => by
    rcases ownL_set h with z | z
    · exact z
    · cases z
theorem S3.gone {K : PySem.W.Frag} {q : Nat} (S : S3 K c σ H fs) : S3 K c (σ.set q none) H (fs.set q .no) :=
  S.less (er_no S.er) fun b h => by
    rcases ownL_set h with z | z
    · exact z
    · cases z
/-- try: body except x as n: suite; the body raises nothing -/
theorem as_tryT {h0 : ExceptHandler} {hs : List ExceptHandler} (hb : AS X.nox body c fs { D with nx := fun f => AS X rest c f D }) : AS X (.Try body (h0 :: hs) [] [] pos :: rest) c fs D := fun σ H S =>
  bSs_of (pss_cons (ps_try_thru0 (t := bSs X.nox body) bestSs) bestSs) (fun pins s I => thn (hb σ H S pins s I) fun fl s' q => by
    cases fl with
    | next => obtain ⟨σ', H', I', f, S', q⟩ := q; exact ⟨σ', H', I', q σ' H' S'⟩
    | brk => obtain ⟨σ', H', I', f, S', q⟩ := q; exact ⟨σ', H', I', f, S', q⟩
    | cont => obtain ⟨σ', H', I', f, S', q⟩ := q; exact ⟨σ', H', I', f, S', q⟩
    | ret u => obtain ⟨v, σ', H', I', rv, σ4, f4, r4, Hm, R, q⟩ := q; exact ⟨v, σ', H', I', rv, σ4, f4, r4, Hm, R, q⟩)
/-- .. the body raises C, which the clause takes -/
theorem as_tryR {b0 : Stmt} (q : Nat) (gC : X.mg x = some (.ref E0)) (hm : PySem.W.exmOne X.K (.ref C) (.ref E0) = some true)
    (hb : ∀ (W : WX) (pn : List (Addr × Obj)) (xe : Value → Shared → Prop), L2N.Takes (X.tr pn xe) W → (∀ σ H, S3 X.K c σ H fs → W (.ref C) none σ H) → AS (X.tr pn xe) body c fs never)
    (hsu : ∀ (l : Addr) (oe : Obj) (pn : List (Addr × Obj)), L2N.Zn (.ref C) none oe → (∃ vs, oe.data = .fields vs) → AS (X.suite l ((l, oe) :: pn)) (b0 :: suite) c (fs.set q (.ref l)) { nx := fun f => AS X rest c (f.set q .no) D, rt := D.rt })
    (hN : X.N.Nodup) (hi : X.N[q]? = some n := by rfl) (hs : X.stack = X.env :: X.outer := by rfl) (hf : X.env.frame = some X.env.locals := by rfl) (hln : X.env.kindOf n = some .local := by rfl) (hg : Gl X x := by rfl) (hdb : (x == ("__debug__" : Str)) = false := by decide) :
    AS X (.Try body [.ExceptHandler (some (.Name x np)) (some n) (b0 :: suite) pos'] [] [] pos :: rest) c fs D := by
  intro σ H S
  refine bSs_of (pss_cons (L2N.ps_try_as (i := q) (tb := fun W D σ H => ∀ pn xe, L2N.Takes (X.tr pn xe) W → bSs (X.tr pn xe) body D σ H)
    (ts := fun l cls d D σ H => ∀ oe pn, L2N.Zn cls d oe → (∃ vs, oe.data = .fields vs) → bSs (X.suite l ((l, oe) :: pn)) (b0 :: suite) D σ H)
    hs hf hN hi hln ⟨hg, hdb, .inl gC⟩ (takesN0 (X := X)) (fun W pn xe tk _ => ⟨fun pins s σ H D I h => h pn xe tk pins s I⟩) (fun l oe cls d pn hz hf => ⟨fun pins s σ H D I h => h oe pn hz hf pins s I⟩)) bestSs) ?_
  intro pn xe tk
  have B := hb _ pn xe tk (fun σ1 H1 S1 => ⟨true, hm, fun _ l nl oe pn2 hz hfl => ?_, fun z => by cases z⟩) σ H S
  · exact fun pins s I => thn (B pins s I) fun fl s' z => by
      cases fl with
      | next => obtain ⟨_, _, _, _, _, z⟩ := z; exact z.elim
      | brk => obtain ⟨_, _, _, _, _, z⟩ := z; exact z.elim
      | cont => obtain ⟨_, _, _, _, _, z⟩ := z; exact z.elim
      | ret u => obtain ⟨_, _, _, _, _, _, _, _, _, _, z⟩ := z; exact z.elim
  · have Q := hsu l oe pn2 hz hfl (σ1.set q (some (.ref l))) H1 S1.exc
    exact fun pins s I => thn (Q pins s I) fun fl s' z => by
      cases fl with
      | next => obtain ⟨σ', H', I', f, S', z⟩ := z; exact ⟨σ', H', I', z _ H' S'.gone⟩
      | brk => obtain ⟨_, _, _, _, _, z⟩ := z; exact z.elim
      | cont => obtain ⟨_, _, _, _, _, z⟩ := z; exact z.elim
      | ret u => obtain ⟨v, σ', H', I', rv, σ4, f4, r4, Hm, R, z⟩ := z; exact ⟨v, σ', H', I', rv, σ4, f4, r4, Hm, R, z⟩
end
/-- THE RULE for a def that may raise -/
theorem fn3X {P : Program} {w : World} {K : PySem.W.Frag} {mg : Str → Option Value} {base : Heap} {x' qual : Str} {params : Arguments} {bd : List Stmt} {scope : Scope} {dvs : List V} {kws : List (Str × V)} {f : Addr} {fd : FuncData} {N ps : List Str} {k : Nat} {ct : Ct} {cx : Cex}
    (F : FunD K x' qual params bd scope dvs kws f fd) (S : FnScope N ps scope) (len : ∀ ss ss' r, ct ss ss' r → nA ss = ps.length) (lenx : ∀ ss C, cx ss C → nA ss = ps.length)
    (hb : ∀ (cdv : Value) (A : Around) (outer : List Env) (s : Shared) (H : Hp) (E : XK) (c : Cf) (ss ss' : List Slot) (r : Res), Room k (A.deeper (envOfC qual scope s.heap.objs.size f cdv)) → ct ss ss' r → ownL ss = c.ws →
      AS (cxOf (L2N.CX P w) P w K mg base N qual scope f cdv A outer s H E).nox bd c (bodyF N.length ss) (goal3 ss ss' r))
    (hx : ∀ (cdv : Value) (A : Around) (outer : List Env) (s : Shared) (H : Hp) (E : XK) (c : Cf) (ss : List Slot) (C : Addr), Room k (A.deeper (envOfC qual scope s.heap.objs.size f cdv)) → cx ss C → ownL ss = c.ws →
      L2N.Takes (cxOf (L2N.CX P w) P w K mg base N qual scope f cdv A outer s H E) (fun cls d _ H' => E cls d H') → (∀ G σ H' fs, S3 K ⟨c.T, c.H0, c.ws, G⟩ σ H' fs → E (.ref C) none H') →
      AS (cxOf (L2N.CX P w) P w K mg base N qual scope f cdv A outer s H E) bd c (bodyF N.length ss) never) (hN : ps.length ≤ N.length := by decide) : FnOk P w K mg base (L2N.CX P w) (k + 1) f fd ps (Sp3 K ct cx) := by
  refine F.ok S (fun vs H Q E h => ?_) (fun cdv A outer s H vs Q E hr h => ?_)
  · obtain ⟨T, ss, E0, hA, h⟩ := h
    rcases h with ⟨ss', r, hc, _⟩ | ⟨C, hc, _⟩
    · rw [← hA]; exact len _ _ _ hc
    · rw [← hA]; exact lenx _ _ hc
  · obtain ⟨T, ss, E0, hA, h⟩ := h
    have hvN : vs.length ≤ N.length := by
      rcases h with ⟨ss', r, hc, _⟩ | ⟨C, hc, _⟩
      · rw [← hA, len _ _ _ hc]; exact hN
      · rw [← hA, lenx _ _ hc]; exact hN
    have hA' : nA ss = (vs.map some).length := by rw [hA]; simp
    have St : S3 K ⟨T, H, ownL ss, fun _ => none⟩ (L2.start N vs) H (bodyF N.length ss) := by
      refine ⟨start_er E0 hA hvN, Kp.refl _ _, fun b h => h, fun a h => .inl (by rw [bodyF_own] at h; exact h), fun a h => ?_, fun b o h => (by cases h), fun a h => rfl⟩
      obtain ⟨o, ho⟩ := E0.thereL h
      show H a ≠ none
      rw [ho]; exact fun z => by cases z
    rcases h with ⟨ss', r, hc, ho, hq⟩ | ⟨C, hc, ho, hq⟩
    · refine ⟨_, PSs.nox bestSs, fun pins s' I => ?_⟩
      have bdy := hb cdv A outer s H E ⟨T, H, ownL ss, fun _ => none⟩ ss ss' r hr hc rfl _ _ St
      refine thn (bdy pins s' I) fun fl s2 q => ?_
      cases fl with
      | next =>
        obtain ⟨σ', H', I', f', S', rfl, o⟩ := q
        exact ⟨σ', H', I', hq _ H' S'.kp (po_out E0 hA' (Hm := H') (r := .val .none) ⟨S'.er, .non⟩ S'.kp S'.dm o rfl)⟩
      | ret u =>
        obtain ⟨v', σ', H', I', rv, σ4, f4, r4, Hm, R, rfl, o⟩ := q
        exact ⟨v', σ', H', I', rv, hq _ H' R.kp (po_out E0 hA' R.po R.kp R.dm o R.na)⟩
      | brk => obtain ⟨_, _, _, _, _, q⟩ := q; exact q.elim
      | cont => obtain ⟨_, _, _, _, _, q⟩ := q; exact q.elim
    · refine ⟨_, bestSs, fun pins s' I => ?_⟩
      have bdy := hx cdv A outer s H E ⟨T, H, ownL ss, fun _ => none⟩ ss C hr hc rfl (L2N.takes_of rfl rfl rfl rfl) (fun G σ H' fs S' => hq H' fun b o hb => S'.kp b o (by rw [ho]; simp) hb) _ _ St
      refine thn (bdy pins s' I) fun fl s2 q => ?_
      cases fl with
      | next => obtain ⟨_, _, _, _, _, q⟩ := q; exact q.elim
      | ret u => obtain ⟨_, _, _, _, _, _, _, _, _, _, q⟩ := q; exact q.elim
      | brk => obtain ⟨_, _, _, _, _, q⟩ := q; exact q.elim
      | cont => obtain ⟨_, _, _, _, _, q⟩ := q; exact q.elim
/-! ### isinstance of an error that is in hand -/
theorem call_isHeld {X : Cx} {l C : Addr} {oe : Obj} (xc : ExcC X.K C) (hz : L2N.Zn (.ref C) none oe) (hf : ∃ vs, oe.data = .fields vs) (hp : (l, oe) ∈ X.pn) : CallR X (.builtin "isinstance") (rIsE X.K C l) := by
  intro pins s σ H xs us Q I rv h
  obtain ⟨cv, u, ok, rfl, hu, hk, q⟩ := h
  match us, rv with
  | [_, w], .cons r1 (.cons r2 .nil) =>
    obtain rfl := hu _ r2
    cases r1
    obtain ⟨there, _⟩ := I.pin (l, oe) (List.mem_append_left _ hp)
    obtain ⟨vs, hv⟩ := hf
    have inst : PySem.W.InstAt s.heap l oe C none := by
      obtain ⟨o1, o2, o3, o4⟩ := oe
      have z1 : o1 = .ref C := hz.1
      have z2 : o2 = none := hz.2.1
      have z3 : o3 = .fields vs := hv
      subst z1 z2 z3
      exact ⟨there, rfl, rfl, trivial⟩
    exact PySem.W.kia_one (PySem.W.handS_kitx_exc xc.hg xc.hk xc.hs xc.hd xc.ha xc.hn xc.ht xc.hm) I.kIn inst hk (by intro z; cases z) fun tok => ⟨.bl ok, H, I.kept (t' := tok) (fun _ _ g => g), rfl, q⟩
section
variable {X : Cx} {fs : Fm} {pos p px pe : Pos} {l C : Addr} {oe : Obj} {x n : Str} {ok : Bool}
theorem pe_ref {q : Nat} (hs : fs[q]? = some (.ref l)) (hN : X.N[q]? = some n := by rfl) (hv : Vis X.env.scope n := by first | exact .inl rfl | exact .inr (.inl rfl) | exact .inr (.inr rfl)) (hd : (n == ("__debug__" : Str)) = false := by decide) (hcd : (n == ("__classdict__" : Str)) = false := by decide)
    {T : Addr → Bool} {σ : L2.St} {H : Hp} {Q : VK} (E : ER X.K T σ H fs) (h : Q (.ref l) H) : bE X (.Name n p) σ H Q := by
  refine bE_inv fun L => ?_
  obtain ⟨ov, h1, h2⟩ := E.sl q _ hs
  cases ov with
  | none => exact h2.elim
  | some v =>
    have e : v = .ref l := h2
    subst e
    exact bE_of (pe_var hN hv hd hcd) ⟨_, h1 (by rw [L]; exact (List.getElem?_eq_some_iff.mp hN).1), h⟩
/-- isinstance(e, X), X an own class -/
theorem ae_isE (q : Nat) (xc : ExcC X.K C) (hz : L2N.Zn (.ref C) none oe) (hf : ∃ vs, oe.data = .fields vs) (hp : (l, oe) ∈ X.pn) (g : ∃ D, X.mg x = some (.ref D) ∧ PySem.W.kitOne X.K (.ref C) (.ref D) = some ok) (hm : X.mg "isinstance" = none) (hs : fs[q]? = some (.ref l) := by rfl)
    (hN : X.N[q]? = some n := by rfl) (hv : Vis X.env.scope n := by first | exact .inl rfl | exact .inr (.inl rfl) | exact .inr (.inr rfl)) (hd : (n == ("__debug__" : Str)) = false := by decide) (hcd : (n == ("__classdict__" : Str)) = false := by decide)
    (hg : Gl X "isinstance" := by rfl) (hgx : Gl X x := by rfl) (hdx : (x == ("__debug__" : Str)) = false := by decide)
    (he : starEach [.Name n pe, .Name x px] X.env = (false, eval (.Name n pe) X.env) :: starEach [.Name x px] X.env := by rfl) (he2 : starEach [.Name x px] X.env = (false, eval (.Name x px) X.env) :: starEach [] X.env := by rfl) (hpl : (backTo pos (starEach [.Name x px] X.env)).any (·.1) = false := by rfl) :
    AE X (.Call (.Name "isinstance" p) [.Name n pe, .Name x px] [] pos) fs fs (.val (.bool ok)) := by
  obtain ⟨D, hD, hk⟩ := g
  refine ⟨rfl, fun T σ H Q E q' => bE_of (pe_callB (call_isHeld xc hz hf hp) hg hm (by decide +kernel) (pa_cons best (pa_cons (pe_glob hgx hD (v := .ref D) rfl hdx) pa_nil he2) he) (he := he) (hpl := hpl)) ?_⟩
  exact pe_ref hs hN hv hd hcd E ⟨.ref D, .ref D, ok, rfl, fun u hu => hu, hk, q' _ H (Kp.refl _ _) ⟨E, .bl _⟩⟩
/-- .. X a class of Python's own -/
theorem ae_isEb (q : Nat) {tn : String} (xc : ExcC X.K C) (hz : L2N.Zn (.ref C) none oe) (hf : ∃ vs, oe.data = .fields vs) (hp : (l, oe) ∈ X.pn) (hk : PySem.W.kitOne X.K (.ref C) (.type tn) = some ok) (hm : X.mg "isinstance" = none) (hmx : X.mg x = none) (hbx : bootBuiltins x = some (.type tn) := by decide +kernel) (hs : fs[q]? = some (.ref l) := by rfl)
    (hN : X.N[q]? = some n := by rfl) (hv : Vis X.env.scope n := by first | exact .inl rfl | exact .inr (.inl rfl) | exact .inr (.inr rfl)) (hd : (n == ("__debug__" : Str)) = false := by decide) (hcd : (n == ("__classdict__" : Str)) = false := by decide)
    (hg : Gl X "isinstance" := by rfl) (hgx : Gl X x := by rfl) (hdx : (x == ("__debug__" : Str)) = false := by decide) (hnn : x ≠ "__name__" := by decide)
    (he : starEach [.Name n pe, .Name x px] X.env = (false, eval (.Name n pe) X.env) :: starEach [.Name x px] X.env := by rfl) (he2 : starEach [.Name x px] X.env = (false, eval (.Name x px) X.env) :: starEach [] X.env := by rfl) (hpl : (backTo pos (starEach [.Name x px] X.env)).any (·.1) = false := by rfl) :
    AE X (.Call (.Name "isinstance" p) [.Name n pe, .Name x px] [] pos) fs fs (.val (.bool ok)) := by
  refine ⟨rfl, fun T σ H Q E q' => bE_of (pe_callB (call_isHeld xc hz hf hp) hg hm (by decide +kernel) (pa_cons best (pa_cons (pe_bltn (v := .ty tn) hgx hmx hbx rfl hnn hdx) pa_nil he2) he) (he := he) (hpl := hpl)) ?_⟩
  exact pe_ref hs hN hv hd hcd E ⟨.ty tn, .type tn, ok, rfl, fun u hu => hu, hk, q' _ H (Kp.refl _ _) ⟨E, .bl _⟩⟩
end
/-- the head's word of an error's class -/
theorem excC_of {K : PySem.W.Frag} {x : Str} (c : konB K (.isx x) = true) : ExcC K (He.ga K x) := by
  have c' := c
  simp only [konB, Bool.and_eq_true, decide_eq_true_eq] at c'
  obtain ⟨h1, h2, h3, h4, h5, h6, h7, h8⟩ := c'
  exact ⟨h1, h2, h3, h4, h5, h6, h7, h8⟩
end A3
namespace A3
open PySem PySem.Spec PyProof.Rows L2
/-! ### where an error is handled: a comprehension over a range, calls -/
structure Held (X : Cx) (z : Addr × Obj) : Prop where
  hand : L2H.Hot1 X.A z
  pinned : z ∈ X.pn
theorem pe_lcHot {X : Cx} {z : Addr × Obj} {a elt tg : Expr} {ifs : List Expr} {scope : Scope} {own : List (Str × Nat)} {pos p1 p0 : Pos} {g : TG} {tq : TT} {te : TE} (hot : Held X z) (hN : X.N.Nodup) (hm : X.mg "range" = none) (blk : BlkOk X.N X.env.scope scope own)
    (pg : ∀ (s : Shared) (H : Hp) (C : Addr) (cl : List (Str × Addr)) (fp : List Addr), PG (BX X scope s H C cl fp) tg g) (pq : ∀ (s : Shared) (H : Hp) (C : Addr) (cl : List (Str × Addr)) (fp : List Addr), PTs (BX X scope s H C cl fp) ifs tq)
    (pe : ∀ (s : Shared) (H : Hp) (C : Addr) (cl : List (Str × Addr)) (fp : List Addr), PE (BX X scope s H C cl fp) elt te) (hg : Gl X "range" := by rfl) (hst : starEach [a] X.env = [(false, eval a X.env)] := by rfl)
    (hf : ∀ x, foldedSetIterable (.Call (.Name "range" p1) [a] [] p0) X.env x = pure x := by intro _; rfl) :
    PE X (.ListComp elt [⟨tg, .Call (.Name "range" p1) [a] [] p0, ifs, 0⟩] scope pos) (tLc (iRng1 (bA X [a])) g tq te (own.map (·.2))) := by
  refine ⟨fun pins s0 σ H Q J0 rd => ?_⟩
  rw [eval_ListComp]
  have captured : ∀ y ∈ scope.names, y.2 = .free → ∃ c, X.env.cells.lookup y.1 = some c := fun y hy e => (blk.free y hy e).elim (fun k => J0.ok.has _ (.inl k)) (fun k => J0.ok.has _ (.inr k))
  refine wpAny_comprehension_free (use := Option.none) rfl hf (closure_ok captured) blk.kind (fun y hy e => (blk.uniq y hy).trans (congrArg some e)) ?_
  -- the range, its iterator
  refine Call_ (ld_blt J0 hg hm boot_range (callWith_type1 (thn (bestA.run p0 pins s0 σ H _ J0 rd) fun us s1 got => ?_) hst rfl))
  obtain ⟨vs, H1, J1, rv, top, rfl, top1, top2, after⟩ := got
  match us, rv with
  | [_], .cons r0 .nil =>
    obtain ⟨tok, rfl⟩ := r0
    refine call_range_1 ?_
    refine wpAny_pyIter_range (IsRange.new ..) (small_one (by decide) (by decide) top1 top2) ?_
    generalize hs2 : ({ heap := s1.heap.push { cls := .type "range", data := .fields #[.int 0 s1.toks, .int top tok, .int 1 (s1.toks + 1)] }, gens := s1.gens, drawn := s1.drawn, toks := s1.toks + 1 + 1, os := s1.os } : Shared) = s2
    have J2 : Inv X pins σ H1 s2 := by
      rw [← hs2]; exact J1.kept fun b o e => Heap.get?_push_of_some _ e
    generalize hit : s2.heap.objs.size = it
    have fit : FpOk X pins H1 it := J2.fpOk (Nat.le_of_eq hit) (J2.hok.fresh (Nat.le_of_eq hit))
    generalize hs3 : ({ s2 with heap := s2.heap.push { cls := .type "range_iterator", data := .fields #[rawInt 0, rawInt (Builtin.Range.rangeSize 0 top 1), rawInt 1] } } : Shared) = s3
    have J3 : Inv X pins σ H1 s3 := by
      rw [← hs3]; exact J2.kept (t' := s2.toks) fun b o e => Heap.get?_push_of_some _ e
    have walk3 : IsRangeIter s3.heap it 0 ((top.toNat : Int)) 1 := by
      rw [← hs3, ← hit]
      have e1 : Builtin.Range.rangeSize 0 top 1 = (top.toNat : Int) := by rw [rangeSize_one]; split <;> omega
      rw [e1]
      exact Heap.get?_push_size _ rfl
    -- the list that is made
    refine wpAny_newObj_type (newEnv_comp ?_) (Nat.zero_le _)
    generalize hD : s3.heap.objs.size = D
    have freeD : H1 D = none := J3.hok.fresh (Nat.le_of_eq hD)
    obtain ⟨Wt, ⟨start0, wt0⟩, turns⟩ := after D freeD
    generalize hs4 : ({ s3 with heap := s3.heap.push { cls := .type "list", data := .seq ([] : List Value).toArray } } : Shared) = s4
    have eh4 : s4.heap = s3.heap.push { cls := .type "list", data := .seq ([] : List Value).toArray } := by rw [← hs4]
    have J4 : Inv X pins σ (upd H1 D (.lst [])) s4 := by
      rw [← hs4]
      refine J3.laid (t' := s3.toks) (fun b o e => Heap.get?_push_of_some _ e) (Nat.le_of_eq hD) ⟨Nat.zero_le _, [], 0, .nil, ?_⟩
      rw [← hD]
      exact Heap.get?_push_size _ rfl
    have small3 : it < s3.heap.objs.size := Heap.lt_size walk3
    have nitD : it ≠ D := by rw [← hD]; exact Nat.ne_of_lt small3
    have fp4 : ∀ b ∈ [it], FpOk X pins (upd H1 D (.lst [])) b ∧ b < s4.heap.objs.size := fun b hb => by
      obtain rfl : b = it := by simpa using hb
      refine ⟨⟨?_, fit.2⟩, by rw [eh4, Heap.size_push]; exact Nat.lt_succ_of_lt small3⟩
      rw [upd_ne nitD]; exact fit.1
    have walk4 : IsRangeIter s4.heap it 0 ((top.toNat : Int)) 1 := by rw [eh4]; exact Heap.get?_push_of_some _ walk3
    have J5 := block_start J4 blk hN fp4
    have G1 := pg s4 (upd H1 D (.lst [])) s4.heap.objs.size (cellsFrom (s4.heap.objs.size + 1) scope.names (cloFrom X.env.cells scope.names [])) [it]
    have G2 := pq s4 (upd H1 D (.lst [])) s4.heap.objs.size (cellsFrom (s4.heap.objs.size + 1) scope.names (cloFrom X.env.cells scope.names [])) [it]
    have G3 := pe s4 (upd H1 D (.lst [])) s4.heap.objs.size (cellsFrom (s4.heap.objs.size + 1) scope.names (cloFrom X.env.cells scope.names [])) [it]
    show codeAny _ _ (.compStart (.ListComp elt [⟨tg, .Call (.Name "range" p1) [a] [] p0, ifs, 0⟩] scope pos) 0 (.ref it) (.ref D) (compEnvC scope (cellsFrom (s4.heap.objs.size + 1) scope.names (cloFrom X.env.cells scope.names [])) s4.heap.objs.size X.env)) (compPost (model X.prog X.w) X.A X.xe Option.none _ (.ref D) s4.heap.objs.size) { s4 with heap := pushCells (s4.heap.push { cls := .type "dict", data := .dict #[] }) scope.names }
    unfold BX at G1 G2 G3
    generalize hce : compEnvC scope (cellsFrom (s4.heap.objs.size + 1) scope.names (cloFrom X.env.cells scope.names [])) s4.heap.objs.size X.env = ce at J5 G1 G2 G3 ⊢
    have locs : ce.locals = s4.heap.objs.size := by subst hce; rfl
    have none4 : (upd H1 D (.lst [])) it = none := (fp4 it (by simp)).1.1
    have pin4 := J4.pin z (List.mem_append_left _ hot.pinned)
    generalize hH4 : upd H1 D (.lst []) = H4 at J4 J5 G1 G2 G3 wt0 none4 fp4 pin4
    generalize hs5 : ({ s4 with heap := pushCells (s4.heap.push { cls := .type "dict", data := .dict #[] }) scope.names } : Shared) = s5 at J5 ⊢
    have keep5 : ∀ b o, s4.heap.get? b = some o → s5.heap.get? b = some o := fun b o e => by
      rw [← hs5]; exact pushCells_keeps _ _ _ _ (Heap.get?_push_of_some _ e)
    have J5z : Inv (X.blk s4 H4 scope ce [it]) [z] (wipe σ (own.map (·.2))) H4 s5 := J5.pins_of fun q hq => by
      obtain rfl : q = z := by simpa using hq
      refine ⟨keep5 _ _ pin4.1, pin4.2.1, ?_, ?_, pin4.2.2.2.2⟩
      · show q.1 ≠ ce.locals
        rw [locs]; exact Nat.ne_of_lt (Heap.lt_size pin4.1)
      · intro hm
        have hm' : q.1 ∈ frs X.stack := hm
        exact (List.mem_cons.mp (J4.stkSub q.1 hm')).elim pin4.2.2.1 pin4.2.2.2.1
    have nitz : z.1 ≠ it := (fp4 it (by simp)).1.2.2.2.2.2 z (List.mem_append_left _ hot.pinned)
    have okF : ∀ {σ' : L2.St} {H' : Hp} {s' : Shared}, Inv (X.blk s4 H4 scope ce [it]) [z] σ' H' s' → H' it = none → ∀ b ∈ [it], FpOk (X.blk s4 H4 scope ce [it]) [z] H' b := fun {σ' H' s'} J' hn b hb => by
      obtain rfl : b = it := by simpa using hb
      refine ⟨hn, (J'.ok.exf b hb).1, J'.ok.exfs b hb, .inl hb, fun x c e => (J'.ok.exf b hb).2 x c e, fun q hq => ?_⟩
      have hq' : q ∈ ([] : List (Addr × Obj)) ++ [z] := hq
      obtain rfl : q = z := by simpa using hq'
      exact nitz
    have looped : codeAny (model X.prog X.w) X.A (.compLoop (.ListComp elt [⟨tg, .Call (.Name "range" p1) [a] [] p0, ifs, 0⟩] scope pos) 0 (.ref it) (.ref D) ce) (compPost (model X.prog X.w) X.A X.xe Option.none (EP X pins σ Q) (.ref D) s4.heap.objs.size) s5 := by
      refine compLoop_any (fun n s' => ∃ (i : Nat) (H' : Hp), Inv (X.blk s4 H4 scope ce [it]) [z] (wipe σ (own.map (·.2))) H' s' ∧ IsRangeIter s'.heap it (0 + (i : Int) * 1) ((top.toNat : Int) - i) 1 ∧ H' it = none ∧ Wt i n H') ?_ start0 ⟨0, H4, J5z, ?_, none4, wt0⟩
      · rintro n s6 ⟨i, H6, J6, walk6, none6, wt6⟩
        rcases turns i n H6 wt6 with ⟨stop, qq⟩ | ⟨go, Nx, less, step⟩
        · have at6 : HotX.HotAt X.A z.1 s6.heap := by
            obtain ⟨hh, vs', d1, d2⟩ := hot.hand
            exact ⟨hh, z.2, vs', (J6.pin z (List.mem_append_right _ (by simp))).1, d1, d2⟩
          refine HotX.pyNext_range_end_hot at6 walk6 (by have : top.toNat ≤ i := stop; omega) fun h7 k7 => ?_
          obtain ⟨e0, e1, e2, e3, e4, e5⟩ := okF J6 none6 it (by simp)
          have J7 : Inv (X.blk s4 H4 scope ce [it]) [z] (wipe σ (own.map (·.2))) H6 { s6 with heap := h7 } := J6.turned (t' := s6.toks) (fun b o _ e => k7 b o e) e0 e1 e3 e4 e5
          have J8 : Inv X pins σ H6 { s6 with heap := h7 } := J4.call' (ch := [it]) J7.os J7.base J7.hok J7.bare fun b hb => ⟨(fp4 b hb).1.2.2.2.1, (fp4 b hb).1.2.1, (fp4 b hb).1.2.2.2.2.1, (fp4 b hb).1.2.2.2.2.2⟩
          have noC : H6 s4.heap.objs.size = none := by
            have q0 : H6 ce.locals = none := J7.free
            rwa [locs] at q0
          obtain ⟨m, hn, _⟩ := J7.loc
          have hn' : Heap.Ns h7 ce.locals m := hn
          rw [locs] at hn'
          obtain ⟨c0, c1, c2, c3, c4, c5⟩ := J4.fpOk (H' := H6) (Nat.le_refl _) noC
          refine ⟨m, hn', fun h9 sb => ⟨.ref D, H6, J8.turned (t' := s6.toks) (fun b o hb e => (sb.2 b hb).trans e) c0 c1 c3 c4 c5, rfl, qq⟩⟩
        · have lt : i < top.toNat := go
          refine wpAny_pyNext_range_item walk6 (by omega) fun h7 walk7 sb => ?_
          obtain ⟨e0, e1, e2, e3, e4, e5⟩ := okF J6 none6 it (by simp)
          have J7 : Inv (X.blk s4 H4 scope ce [it]) [z] (wipe σ (own.map (·.2))) H6 { s6 with heap := h7, toks := s6.toks + 1 } := J6.turned (fun b o hb e => (sb.2 b hb).trans e) e0 e1 e3 e4 e5
          have walk7' : IsRangeIter h7 it (0 + ((i + 1 : Nat) : Int) * 1) ((top.toNat : Int) - ((i + 1 : Nat) : Int)) 1 := by
            have q1 : 0 + (i : Int) * 1 + 1 = 0 + ((i + 1 : Nat) : Int) * 1 := by omega
            have q2 : (top.toNat : Int) - (i : Int) - 1 = (top.toNat : Int) - ((i + 1 : Nat) : Int) := by omega
            rw [← q1, ← q2]; exact walk7
          refine go_of (s := { s6 with heap := h7, toks := s6.toks + 1 }) (n := "range_iterator") walk7' rfl rfl (by decide) ?_
          have J7p := J7.pinned (okF J7 none6) fun b hb => by
            obtain rfl : b = it := by simpa using hb
            exact ⟨_, walk7', fun v e => by
              have e' : Data.fields _ = Data.cell v := e
              cases e'⟩
          have yld : (Itr 0 top.toNat).yld i H6 (.int (0 + (i : Int))) H6 := ⟨rfl, rfl⟩
          refine thnF (G1.run _ _ _ H6 (.int (0 + (i : Int))) _ _ J7p ⟨s6.toks, by rw [Int.mul_one]⟩ (step (.int (0 + (i : Int))) H6 yld)) fun _ s8 q8 => ?_
          obtain ⟨σ8, H8, J8, keep8, q8⟩ := q8
          refine thnF (G2.run _ s8 σ8 H8 _ J8 q8) fun tb s9 q9 => ?_
          obtain ⟨H9, J9, q9⟩ := q9
          have close : ∀ {s' : Shared} {H' : Hp}, Inv (X.blk s4 H4 scope ce [it]) ([z] ++ pinsAt [it] h7) σ8 H' s' → Nx H' → ∃ m, m < n ∧ ∃ (i : Nat) (H' : Hp), Inv (X.blk s4 H4 scope ce [it]) [z] (wipe σ (own.map (·.2))) H' s' ∧ IsRangeIter s'.heap it (0 + (i : Int) * 1) ((top.toNat : Int) - i) 1 ∧ H' it = none ∧ Wt i m H' := fun {s' H'} J' nx => by
            obtain ⟨m', lessm, w'⟩ := less H' nx
            have at' := J'.pin (it, _) (List.mem_append_right _ (List.mem_append_right _ (mem_pinsAt (List.mem_singleton.mpr rfl) walk7')))
            have len' : (wipe σ (own.map (·.2))).length = σ8.length := by rw [← keep8, wipe_length]
            refine ⟨m', lessm, i + 1, H', (J'.unpinned (pins := [z])).weak len' (fun j v e => ?_), at'.1, at'.2.1, w'⟩
            rw [← keep8] at e
            exact (wipe_some e).1
          cases tb with
          | false =>
            simp only [Bool.false_eq_true, if_false] at q9 ⊢
            exact close J9 q9
          | true =>
            simp only [if_true] at q9 ⊢
            refine thnF (G3.run _ s9 σ8 H9 _ J9 q9) fun u s10 q10 => ?_
            obtain ⟨yv, H10, J10, r10, acc, hD10, hz10, nx⟩ := q10
            exact app_ok (X := X.blk s4 H4 scope ce [it]) J10 hD10 hz10 r10 fun s11 J11 => close J11 nx
      · have w5 := keep5 _ _ walk4
        show IsRangeIter s5.heap it (0 + ((0 : Nat) : Int) * 1) ((top.toNat : Int) - ((0 : Nat) : Int)) 1
        have q1 : 0 + ((0 : Nat) : Int) * 1 = 0 := by omega
        have q2 : (top.toNat : Int) - ((0 : Nat) : Int) = (top.toNat : Int) := by omega
        rw [q1, q2]; exact w5
    refine codeAny_compStart_list looped (wpAny_pyIter_rangeiter (keep5 _ _ walk4) looped)
end A3
namespace A3
open PySem PySem.Spec PyProof.Rows L2
/-- what a def answers that is called where the error z is handled -/
def FnHot (P : Program) (w : World) (K : PySem.W.Frag) (mg : Str → Option Value) (base : Heap) (k : Nat) (f : Addr) (fd : FuncData) (ps : List Str) (z : Addr × Obj) (vs : List V) (ok : Bool) : Prop :=
  ∀ (A : Around) (outer : List Env) (s : Shared) (H : Hp) (args : Args) (us : List Value) (Q : VK) (E : XK), L2H.RoomH k A → L2H.Hot1 A z → L2H.PinOk outer H s z → Env0 P w K mg base A outer s H → BindsTo s fd args (ps.zip us) → Vals vs us →
    (∀ H', Same H H' → Q (.bl ok) H') → codeAny (model P w) A (.call (.ref f) args) (CR CX0 outer P w H s Q E) s
theorem er_two {K : PySem.W.Frag} {H : Hp} {l : Addr} {i : Int} : ER K (fun _ => false) ([V.ref l, V.int i].map some) H [.ref l, .dat (.int i)] := by
  refine ⟨Nat.le_refl _, fun j s h => ?_, List.nodup_nil, fun a h => (by simp [ownL] at h), fun b h => (by cases h)⟩
  match j, h with
  | 0, h => cases Option.some.inj h; exact ⟨_, fun _ => rfl, rfl⟩
  | 1, h => cases Option.some.inj h; exact ⟨_, fun _ => rfl, .int i⟩
  | j + 2, h => simp at h
theorem fnHot {P : Program} {w : World} {K : PySem.W.Frag} {mg : Str → Option Value} {base : Heap} {x' qual : Str} {params : Arguments} {bd : List Stmt} {scope : Scope} {dvs : List V} {kws : List (Str × V)} {f : Addr} {fd : FuncData} {N ps : List Str} {k : Nat} {l : Addr} {oe : Obj} {i : Int} {ok : Bool}
    (F : FunD K x' qual params bd scope dvs kws f fd) (S : FnScope N ps scope) (two : ps.length = 2)
    (hb : ∀ (cdv : Value) (A : Around) (outer : List Env) (s : Shared) (H : Hp) (E : XK) (c : Cf), L2H.RoomH k (A.deeper (envOfC qual scope s.heap.objs.size f cdv)) → Held (L2H.cxH CX0 P w K mg base N qual scope f cdv A outer s H E (l, oe)).nox (l, oe) → c.ws = [] →
      AS (L2H.cxH CX0 P w K mg base N qual scope f cdv A outer s H E (l, oe)).nox bd c (bodyF N.length [.ref l, .dat (.int i)]) ⟨fun _ => False, fun _ r => r = .val (.bool ok), fun _ => False, fun _ => False⟩) :
    FnHot P w K mg base (k + 1) f fd ps (l, oe) [.ref l, .int i] ok := by
  obtain ⟨oc, od, dV, kV, doc, pm, an, cdv, ct, osl, rfl, look, isCode, _, _⟩ := F.ex
  intro A outer s H args us Q E room hot held env bnd rv want
  have lens : [V.ref l, V.int i].length = ps.length := two.symm
  have inK : K.In s.heap := env.mod.kin.keeps fun b o e => (env.bs b o e).1
  have room1 := room.deeper (envOfC qual scope s.heap.objs.size f cdv)
  have kinds : ∀ y ∈ ps.zip us, scope.names.lookup y.1 = some .local ∨ (scope.names.lookup y.1 = some .cell ∧ ((cellsFrom (s.heap.objs.size + 1) scope.names []).lookup y.1).isSome = true) := by
    rintro ⟨y, u⟩ hy
    exact (S.par y (List.of_mem_zip hy).1).elim .inl fun q => .inr ⟨q, PySem.W.cellsFrom_some _ _ _ (.inl q)⟩
  refine codeAny_call_function room.depth (inK _ _ look) rfl S.co S.gen rfl (PySem.W.codeRec_of inK isCode) (bnd _ _ _ _ ?_)
  refine wpAny_newFunctionEnv_cells S.kind kinds fun env1 he s1 x => ?_
  subst he
  refine ⟨(env.mod.nolimit.keeps fun b o e => (env.bs b o e).1).keeps x.toInCall.keep, codeAny_func ?_⟩
  have J : L2.Inv (L2H.cxH CX0 P w K mg base N qual scope f cdv A outer s H E (l, oe)) [] (L2.start N [.ref l, .int i]) H s1 := L2H.inv_startH S held env lens rv x
  have hN : 2 ≤ N.length := by
    have q := congrArg List.length S.pre
    rw [List.length_take, two] at q
    omega
  have St : S3 K ⟨fun _ => false, H, [], fun _ => none⟩ (L2.start N [.ref l, .int i]) H (bodyF N.length [.ref l, .dat (.int i)]) := by
    refine ⟨start_er er_two rfl hN, Kp.refl _ _, fun b h => h, fun a h => (by rw [bodyF_own] at h; cases h), fun a h => (by cases h), fun b o h => (by cases h), fun a h => rfl⟩
  have bdy := hb cdv A outer s H E ⟨fun _ => false, H, [], fun _ => none⟩ room1 ⟨hot, List.mem_singleton.mpr rfl⟩ rfl _ _ St
  refine wpAny_mono ((PSs.nox (bestSs (X := (L2H.cxH CX0 P w K mg base N qual scope f cdv A outer s H E (l, oe)).nox))).run [] s1 _ H _ J bdy) (fun fl s2 q => ?_) fun _ _ q => q
  cases fl with
  | ret u =>
    obtain ⟨v, σ', H', J', rv', σ4, f4, r4, Hm, R, rfl⟩ := q
    have ev : v = .bl ok := R.po.2.bl_inv
    exact ⟨v, H', J'.os, J'.bare, J'.base, J'.hok, rv', by rw [ev]; exact want H' fun b o hb => R.kp b o (by simp) hb⟩
  | next => obtain ⟨_, _, _, _, _, q⟩ := q; exact q.elim
  | brk => obtain ⟨_, _, _, _, _, q⟩ := q; exact q.elim
  | cont => obtain ⟨_, _, _, _, _, q⟩ := q; exact q.elim
/-- .. by its name, for any error of this class -/
def FnHotT (K : PySem.W.Frag) (mg : Str → Option Value) (P : Program) (w : World) (base : Heap) (k : Nat) (x : Str) (C : Addr) (i : Int) (ok : Bool) : Prop :=
  ∃ f fd ps, mg x = some (.ref f) ∧ PySem.W.keepIn K (.ref f) = true ∧ Binds K fd ps [] ∧ ps.length = 2 ∧ ∀ l oe, L2N.Zn (.ref C) none oe → (∃ vs, oe.data = .fields vs) → FnHot P w K mg base k f fd ps (l, oe) [.ref l, .int i] ok
section
variable {X : Cx} {fs f1 f2 : Fm} {pos p p0 p1 pe pc : Pos} {l C : Addr} {oe : Obj} {x n : Str} {ok : Bool} {i : Int} {a elt tg : Expr} {ifs : List Expr} {scope : Scope}
theorem Held.of {l : Addr} {oe : Obj} {pn : List (Addr × Obj)} (hz : L2N.Zn (.ref C) none oe) (hf : ∃ vs, oe.data = .fields vs) : Held (X.suite l ((l, oe) :: pn)) (l, oe) := by
  obtain ⟨vs, h⟩ := hf
  exact ⟨⟨rfl, vs, h, hz.2.2 vs h⟩, List.mem_cons_self⟩
theorem ae_hot {k : Nat} {kk} (q : Nat) (G : FnHotT X.K X.mg X.prog X.w X.base k x C i ok) (hz : L2N.Zn (.ref C) none oe) (hf : ∃ vs, oe.data = .fields vs) (hot : Held X (l, oe)) (hr : L2H.RoomH k X.A) (hs : fs[q]? = some (.ref l) := by rfl)
    (hN : X.N[q]? = some n := by rfl) (hv : Vis X.env.scope n := by first | exact .inl rfl | exact .inr (.inl rfl) | exact .inr (.inr rfl)) (hd : (n == ("__debug__" : Str)) = false := by decide) (hcd : (n == ("__classdict__" : Str)) = false := by decide)
    (hg : Gl X x := by rfl) (hdb : (x == ("__debug__" : Str)) = false := by decide)
    (he : starEach [.Name n pe, .Constant (.int i) kk pc] X.env = (false, eval (.Name n pe) X.env) :: starEach [.Constant (.int i) kk pc] X.env := by rfl) (he2 : starEach [.Constant (.int i) kk pc] X.env = (false, eval (.Constant (.int i) kk pc) X.env) :: starEach [] X.env := by rfl)
    (hpl : (backTo pos (starEach [.Constant (.int i) kk pc] X.env)).any (·.1) = false := by rfl) : AE X (.Call (.Name x p) [.Name n pe, .Constant (.int i) kk pc] [] pos) fs fs (.val (.bool ok)) := by
  obtain ⟨f, fd, ps, gm, gk, gb, two, run⟩ := G
  refine ⟨rfl, fun T σ H Q E want pins s J => ?_⟩
  refine wpAny_Call_Name_kw (ld_glob J hg gm ?_ hdb)
  have args : PA X [.Name n pe, .Constant (.int i) kk pc] (tCons (bE X (.Name n pe)) (tCons (tC (.int i)) tNil)) := pa_cons best (pa_cons pe_int pa_nil he2) he
  refine PySem.W.callWith_K (h₀ := X.base) J.ok.mod.kin gk (thn (args.run pos pins s σ H (fun vs H1 => vs = [V.ref l, V.int i] ∧ H1 = H) J (pe_ref hs hN hv hd hcd E ⟨rfl, rfl⟩)) fun us s1 got => ?_) he hpl
  obtain ⟨vs, H1, J1, rv, rfl, rfl⟩ := got
  refine ⟨J1.kIn, ?_⟩
  have lenu : us.length = ps.length := rv.length.symm.trans two.symm
  have bnd := gb s1 us J1.kIn (by rw [List.append_nil]; exact lenu)
  rw [List.append_nil] at bnd
  have pin := J1.pin (l, oe) (List.mem_append_left _ hot.pinned)
  have held : L2H.PinOk X.stack H1 s1 (l, oe) := ⟨pin.1, pin.2.1, fun hm => (List.mem_cons.mp (J1.stkSub l hm)).elim pin.2.2.1 pin.2.2.2.1, pin.2.2.2.2⟩
  refine wpAny_call (codeAny_mono (run l oe hz hf X.A X.stack s1 H1 ⟨us, []⟩ us Q (fun _ _ _ => False) hr hot.hand held J1.env0 bnd rv fun H' sm => want _ H' (Kp.of sm) ⟨E.keep sm, .bl ok⟩) fun out s2 hq => ?_)
  cases out with
  | error ev => exact False.elim hq
  | ok fl =>
    cases fl with
    | ret u => exact J1.after hq
    | next => exact hq.elim
    | brk => exact hq.elim
    | cont => exact hq.elim
/-- [elt for tg in range(a)] there -/
theorem ae_lcRH {F : Nat → Fm} {m : Int} {z : Addr × Obj} (hot : Held X z) (own : List (Str × Nat)) (y : Nat → Option PyData) (hN : X.N.Nodup) (ha : AD X [a] fs f1 [.int m]) (F0 : F 0 = wipeF f1 (own.map (·.2))) (Fo : ∀ i, ownL (F i) = ownL f1) (hs : ∀ i, i < m.toNat → TurnC X scope (own.map (·.2)) tg ifs elt (.int (0 + (i : Int))) (F i) (F (i + 1)) (y i)) (b : BackL f1 (F m.toNat) f2)
    (hm : X.mg "range" = none) (hn : m ≤ 100000 := by omega) (hn0 : -1000000000000 ≤ m := by omega) (hg : Gl X "range" := by rfl) (hst : starEach [a] X.env = [(false, eval a X.env)] := by rfl) (ok : blkC X.N X.env.scope scope own = true := by first | decide +kernel | rfl) (hf : ∀ x, foldedSetIterable (.Call (.Name "range" p) [a] [] p0) X.env x = pure x := by intro _; rfl) :
    AE X (.ListComp elt [⟨tg, .Call (.Name "range" p) [a] [] p0, ifs, 0⟩] scope pos) fs f2 (.new (.list (madeC y m.toNat))) :=
  let R := compR_range (X := X) (scope := scope) (tg := tg) (ifs := ifs) (elt := elt) ha hn F0 Fo hs b.back hn0
  ⟨R.ow, fun T σ H Q E q => bE_of (pe_lcHot hot hN hm (blkOk_by ok) gB_ok iB_ok eB_ok hg hst hf) (R.run T σ H Q E q)⟩
end
end A3
namespace A3
open PySem PySem.Spec PyProof.Rows L2
/-- a def of the text that may raise -/
def FnTX (K : PySem.W.Frag) (mg : Str → Option Value) (P : Program) (w : World) (base : Heap) (k : Nat) (x : Str) (ps : List Str) (ct : Ct) (cx : Cex) (dfl : List He.Dv) : Prop :=
  ∃ f fd, FnOk P w K mg base (L2N.CX P w) k f fd ps (Sp3 K ct cx) ∧ mg x = some (.ref f) ∧ PySem.W.keepIn K (.ref f) = true ∧ (∃ dvals, Binds K fd ps dvals ∧ Vals (dfl.map (He.Dv.v K)) dvals) ∧ dfl.all dvS = true
section
variable {X : Cx} {P : Program} {w : World} {K : PySem.W.Frag} {mg : Str → Option Value} {base : Heap} {k : Nat} {x : Str} {ps : List Str} {ct : Ct} {cx : Cex} {dfl : List He.Dv} {f : Addr} {fd : FuncData}
theorem FnTX.fn (h : FnTX K mg P w base k x ps ct cx dfl) (h1 : X.prog = P) (h2 : X.w = w) (h3 : X.K = K) (h4 : X.mg = mg) (h5 : X.base = base) : ∃ f fd, Fn X (L2N.CX X.prog X.w) k x f fd ps ct cx (dfl.map (He.Dv.v K)) (dfl.map dvD) := by
  obtain ⟨f, fd, a, b, c, d, e⟩ := h
  subst h1 h2 h3 h4 h5
  exact ⟨f, fd, a, b, c, d, fun S => dvs_rp e⟩
theorem FnTX.mk0 (a : FnOk P w K mg base (L2N.CX P w) k f fd ps (Sp3 K ct cx)) (b : mg x = some (.ref f)) (c : PySem.W.keepIn K (.ref f) = true) (d : Binds K fd ps []) : FnTX K mg P w base k x ps ct cx [] := ⟨f, fd, a, b, c, ⟨[], d, .nil⟩, rfl⟩
theorem FnTX.mkD {dl : List He.Dv} (a : FnOk P w K mg base (L2N.CX P w) k f fd ps (Sp3 K ct cx)) (b : mg x = some (.ref f)) (c : PySem.W.keepIn K (.ref f) = true) (d : ∃ ds, Vals (dl.map (He.Dv.v K)) ds ∧ Binds K fd ps ds) (h : dl.all dvS = true) : FnTX K mg P w base k x ps ct cx dl := by
  obtain ⟨ds, h1, h2⟩ := d
  exact ⟨f, fd, a, b, c, ⟨ds, h2, h1⟩, h⟩
theorem Fn.tr {CXT' : CXT} {k : Nat} {x : Str} {f : Addr} {fd : FuncData} {ps : List Str} {ct : Ct} {cx : Cex} {dvs : List V} {dd : List PyData} {pn : List (Addr × Obj)} {xe : Value → Shared → Prop} (h : Fn X CXT' k x f fd ps ct cx dvs dd) : Fn (X.tr pn xe) CXT' k x f fd ps ct cx dvs dd := ⟨h.ok, h.mg, h.kp, h.bd, h.df⟩
theorem as_frame {sts : List Stmt} {c : Cf} {fs f1 : Fm} {D : D3} (e : fs = f1) (h : AS X sts c f1 D) : AS X sts c fs D := by rw [e]; exact h
theorem roomS {j i : Nat} {A : Around} {v : Option Value} (h : Room j A) (hk : i ≤ j) : L2H.RoomH i (A.mark v) :=
  ⟨(L2H.roomH_of (h.mono hk)).dp, (L2H.roomH_of (h.mono hk)).un⟩
theorem ae_dict0 {fs : Fm} {pos : Pos} : AE X (.Dict [] [] pos) fs fs (.new (.dict [])) := by
  refine ⟨rfl, fun T σ H Q E q => bE_of pe_dnewK fun l n => q _ _ (Kp.of (same_upd n)) ⟨l, rfl, n, ?_, ?_⟩⟩
  · have eh : hide (upd H l (.dK [])) l = hide H l := by
      funext b
      by_cases z : b = l
      · rw [z, hide_self, hide_self]
      · rw [hide_ne z, hide_ne z, upd_ne z]
    rw [eh]
    have eh2 : hide H l = H := by
      funext b
      by_cases z : b = l
      · rw [z, hide_self, n]
      · rw [hide_ne z]
    rw [eh2]; exact E
  · exact ⟨[], upd_same, .nil⟩
end
end A3
namespace A3
open PySem PySem.Spec PyProof.Rows L2
/-! ### data that may be compared -/
def Flat (n : Nat) (d : PyData) : Prop := d.canLay0 = true ∧ d.depth ≤ n
theorem Flat.up {n m : Nat} {d : PyData} (h : Flat n d) (hm : n ≤ m) : Flat m d := ⟨h.1, Nat.le_trans h.2 hm⟩
theorem flat_all {n : Nat} : ∀ {ds : List PyData}, (∀ d ∈ ds, Flat n d) → PyData.canLayAll0 ds = true ∧ PyData.depthAll ds ≤ n
  | [], _ => ⟨by simp [PyData.canLayAll0], by simp [PyData.depthAll]⟩
  | d :: ds, h => by
    obtain ⟨h1, h2⟩ := h d List.mem_cons_self
    obtain ⟨i1, i2⟩ := flat_all (ds := ds) fun x hx => h x (List.mem_cons_of_mem _ hx)
    refine ⟨by simp [PyData.canLayAll0, h1, i1], ?_⟩
    simp only [PyData.depthAll]
    omega
theorem Flat.list {n : Nat} {ds : List PyData} (h : ∀ d ∈ ds, Flat n d) : Flat (n + 1) (.list ds) := by
  obtain ⟨a, b⟩ := flat_all h
  exact ⟨by simpa only [PyData.canLay0] using a, by simp only [PyData.depth]; omega⟩
theorem Flat.tuple {n : Nat} {ds : List PyData} (h : ∀ d ∈ ds, Flat n d) : Flat (n + 1) (.tuple ds) := by
  obtain ⟨a, b⟩ := flat_all h
  exact ⟨by simpa only [PyData.canLay0] using a, by simp only [PyData.depth]; omega⟩
theorem Flat.int {n : Nat} {i : Int} : Flat n (.int i) := ⟨rfl, Nat.zero_le _⟩
theorem strOk_of {l : List Nat} (h : ∀ c ∈ l, c < 1000) : PyData.strOk (⟨l.toArray⟩ : Str) = true := by
  unfold PyData.strOk
  rw [← Array.all_toList, List.all_eq_true]
  intro c hc
  have := h c hc
  exact decide_eq_true (by omega)
theorem Flat.str {n : Nat} {l : List Nat} (h : ∀ c ∈ l, c < 1000) : Flat n (sD l) := ⟨by simp only [PyData.canLay0]; exact strOk_of h, Nat.zero_le _⟩
theorem Flat.non {n : Nat} : Flat n .none := ⟨rfl, Nat.zero_le _⟩
theorem Flat.bl {n : Nat} {b : Bool} : Flat n (.bool b) := ⟨rfl, Nat.zero_le _⟩
theorem Flat.fr {n : Nat} {p : Fr} : Flat (n + 1) (frD p) := Flat.tuple fun d hd => by
  simp only [List.mem_cons, List.not_mem_nil, or_false] at hd
  rcases hd with rfl | rfl <;> exact Flat.int
theorem Flat.shaped {n : Nat} {d : PyData} (h : Flat n d) (hn : n ≤ 64 := by decide) : SeqAt.shaped d = true := by
  unfold SeqAt.shaped
  rw [h.1, Bool.true_and]
  exact decide_eq_true (Nat.le_trans h.2 hn)
theorem Flat.refl {n : Nat} {d : PyData} (h : Flat n d) : PyData.eqv d d = true := SeqAt.eqv_refl d h.1
section
variable {X : Cx} {a b c e elt tg : Expr} {es ifs : List Expr} {body rest : List Stmt} {cf : Cf} {D : D3} {fs f1 f2 f3 : Fm} {d d1 d2 d3 : PyData} {ds ds2 : List PyData} {r r1 r2 : Res} {pos p p0 p2 apos : Pos} {T : Addr → Bool} {σ : L2.St} {H : Hp} {i j k lo hi : Int} {l m : List Nat} {scope : Scope}
/-! ### in, not in: texts, whole numbers -/
theorem inV_str (l : List Nat) (ls : List (List Nat)) : inV (.str (SX.S l)) ((ls.map SX.S).map V.str) = decide (l ∈ ls) := by
  unfold inV
  induction ls with
  | nil => simp
  | cons x r ih =>
    rw [List.map_cons, List.map_cons, List.any_cons, ih]
    have e1 : eqV (.str (SX.S x)) (.str (SX.S l)) = decide (x = l) := SX.S_beq_eq
    rw [e1]
    by_cases h : x = l
    · subst h; simp
    · have h2 : ¬ l = x := fun z => h z.symm
      simp [h, h2]
theorem flat_strs (ls : List (List Nat)) : ((ls.map SX.S).map V.str).all flatV = true := by
  rw [List.all_eq_true]
  intro x hx
  obtain ⟨y, _, rfl⟩ := List.mem_map.mp hx
  rfl
theorem seq_of {K : PySem.W.Frag} {v : V} (h : Rp K H v d) (e : seqD d = some ds) : ∃ q vs, v = .ref q ∧ (SqL K H q vs ∨ SqT K H q vs) ∧ RpAll K H vs ds := by
  cases h with
  | lst s q => cases (show some _ = some ds from e); exact ⟨_, _, rfl, .inl s, q⟩
  | tup s q => cases (show some _ = some ds from e); exact ⟨_, _, rfl, .inr s, q⟩
  | _ => cases e
theorem c_inL {ls : List (List Nat)} (e : seqD r2.d = some (ls.map sD)) (h1 : behindInMarks .In b = false := by rfl) : CmpA X .In b f2 (sD l) r2 (decide (l ∈ ls)) :=
  ⟨_, op_in_seq, h1, fun T σ H1 H2 x y Q rx p q => by
    obtain ⟨g, vs, rfl, s, qv⟩ := seq_of p.rp e
    have ev := rpStrs_inv qv
    subst ev
    refine ⟨g, _, rfl, s, by rw [rx.str_inv]; rfl, flat_strs ls, ?_⟩
    rw [rx.str_inv, if_neg Bool.false_ne_true, inV_str]; exact q⟩
theorem c_ninL {ls : List (List Nat)} (e : seqD r2.d = some (ls.map sD)) (h1 : behindInMarks .NotIn b = false := by rfl) : CmpA X .NotIn b f2 (sD l) r2 (!decide (l ∈ ls)) :=
  ⟨_, op_notIn_seq, h1, fun T σ H1 H2 x y Q rx p q => by
    obtain ⟨g, vs, rfl, s, qv⟩ := seq_of p.rp e
    have ev := rpStrs_inv qv
    subst ev
    refine ⟨g, _, rfl, s, by rw [rx.str_inv]; rfl, flat_strs ls, ?_⟩
    rw [rx.str_inv, if_pos rfl, inV_str]; exact q⟩
/-! ### for i, x in enumerate(xs) -/
def enumD (ds : List PyData) : List PyData := (List.range ds.length).map fun (i : Nat) => PyData.tuple [.int (i : Int), ds.getD i .none]
theorem enumD_len (ds : List PyData) : (enumD ds).length = ds.length := by simp [enumD]
theorem enumD_get {q : Nat} (h : q < ds.length) : (enumD ds)[q]? = some (.tuple [.int (q : Int), ds.getD q .none]) := by
  unfold enumD
  rw [List.getElem?_map, List.getElem?_range h]; rfl
theorem enumD_inv {q : Nat} (h : (enumD ds)[q]? = some d) : q < ds.length ∧ ∃ x, ds[q]? = some x ∧ d = .tuple [.int (q : Int), x] := by
  have lt : q < ds.length := by
    have := (List.getElem?_eq_some_iff.mp h).1
    rw [enumD_len] at this; exact this
  rw [enumD_get lt] at h
  refine ⟨lt, ds[q], List.getElem?_eq_getElem lt, (Option.some.inj h).symm.trans ?_⟩
  rw [List.getD_eq_getElem?_getD, List.getElem?_eq_getElem lt]; rfl
theorem as_forE {elts : List Expr} {kk : Nat} {tpos : Pos} (hp : PassesOwn (model X.prog X.w) X.A X.env X.xe) (P : Nat → Fm → Prop) (he : AE X e fs f1 (.val (.list ds))) (h0 : P 0 f1) (hs : Turn3 X (.Tuple elts kk tpos) body rest cf D (enumD ds) P) (hd : ∀ f, P ds.length f → AS X rest cf f D)
    (hm : X.mg "enumerate" = none) (hg : Gl X "enumerate" := by rfl) (hc : X.calm = true := by rfl) (hst : starEach [e] X.env = [(false, eval e X.env)] := by rfl)
    (hf : ∀ x, foldedSetIterable (.Call (.Name "enumerate" p) [e] [] p2) X.env x = pure x := by intro _; rfl) : AS X (.For (.Tuple elts kk tpos) (.Call (.Name "enumerate" p) [e] [] p2) body [] pos :: rest) cf fs D := by
  refine fun σ H S => bSs_of (pss_cons (ps_for hp hc (pi_enum hg hm (pa_cons best pa_nil hst) hst) bestG bestSs hf) bestSs) (he.run cf.T σ H _ S.er fun v H1 k1 p1 => ?_)
  obtain ⟨E1, rl⟩ := p1
  obtain ⟨g, vs, rfl, s, qv⟩ := rl.lst_inv
  have up : Same (cut H1 (tt cf.T (ownL f1))) (cut H1 fun b => decide (b ∈ ownL f1)) := cut_same fun b o e z => ⟨decide_eq_false (tt_false.mp e).2, z⟩
  have s1 : SqL X.K (cut H1 fun b => decide (b ∈ ownL f1)) g vs := sqL_same up s
  refine ⟨g, vs, rfl, sqL_same (cut_all _ _) s, for_core (ds := enumD ds) (S.step k1 E1 he.ow) h0 (fun G g' q lt => ?_) (fun G g' => ?_) (fun G g' q v G' lt y => ?_) hs (by rw [enumD_len]; exact hd)⟩
  · rw [enumD_len] at lt
    have := qv.length
    exact ⟨vs, vs[q]'(by omega), sqL_same g' s1, by simp⟩
  · exact ⟨vs, sqL_same g' s1, by rw [qv.length, enumD_len]; exact Nat.le_refl _⟩
  · rw [enumD_len] at lt
    obtain ⟨N, x, rfl, nN, rfl, hx⟩ := y
    have hv := hx vs (sqL_same g' s1)
    obtain ⟨dx, hdx, rd⟩ := qv.get2 hv
    refine ⟨same_upd nN, _, enumD_get lt, fun T σ f E dis et => ?_⟩
    have fN := E.free nN
    have gx : ds.getD q .none = dx := by rw [List.getD_eq_getElem?_getD, hdx]; rfl
    rw [gx]
    refine .tup (xs := [.int (q : Nat), x]) (.inl (.inl (cut_of fN upd_same))) (.cons (.int _) (.cons ?_ .nil))
    refine rd.mono fun b o h => ?_
    obtain ⟨e1, e2⟩ := cut_some h
    obtain ⟨e3, e4⟩ := tt_false.mp e1
    have gb := g' b o (cut_of (decide_eq_false e4) e2)
    have bN : b ≠ N := fun z => by rw [z, nN] at gb; cases gb
    refine cut_of (tt_false.mpr ⟨by rw [et]; exact e3, fun z => ?_⟩) (by rw [upd_ne bN]; exact gb)
    have := dis b z
    rw [cut_of (decide_eq_false e4) e2] at this; cases this
/-! ### [.. for x in range(a, b)] -/
theorem rngD_from (lo hi : Int) : (rngD lo (hi - lo).toNat).length = (hi - lo).toNat := rngD_len _ _
theorem compR_range2 {vs : List Nat} {F : Nat → Fm} {y : Nat → Option PyData} (ha : AD X [a, b] fs f1 [.int lo, .int hi]) (hn : hi - lo ≤ 100000) (F0 : F 0 = wipeF f1 vs) (Fo : ∀ i, ownL (F i) = ownL f1) (hs : ∀ i, i < (hi - lo).toNat → TurnC X scope vs tg ifs elt (.int (lo + (i : Int))) (F i) (F (i + 1)) (y i)) (bk : BackR f1 (F (hi - lo).toNat) f2) (h1 : -1000000000000 ≤ lo) (h2 : lo ≤ 1000000000000) (h3 : -1000000000000 ≤ hi) (h4 : hi ≤ 1000000000000) :
    CompR X fs f2 (.list (madeC y (hi - lo).toNat)) (tLc (iRng2 (bA X [a, b])) (gB X scope tg) (iB X scope ifs) (eB X scope elt) vs) := by
  refine ⟨bk.own.trans ha.ow, fun T σ H Q E q => ha.run T σ H _ E fun ws H1 k1 E1 p1 => ?_⟩
  obtain ⟨v, w, rfl, rv, rw'⟩ := p1.two_inv
  refine ⟨lo, hi, by rw [rv.int_inv, rw'.int_inv], ⟨by omega, by omega, by omega, by omega⟩, fun N nN => ?_⟩
  refine comp_core (ds := rngD lo (hi - lo).toNat) (F := F) (y := y) E1 nN (by rw [rngD_len]; omega) F0 Fo (fun G g k lt => by rw [rngD_len] at lt; exact lt) (fun G g => by show (hi - lo).toNat ≤ _; rw [rngD_len]; exact Nat.le_refl _) (fun G g k w G' lt y => ?_) (fun i d hd => ?_) (fun H' k E2 z => ?_)
  · obtain ⟨rfl, rfl⟩ := y
    rw [rngD_len] at lt
    exact ⟨fun _ _ h => h, _, rngD_get lt, fun _ _ _ _ _ _ => .int _⟩
  · obtain ⟨lt, rfl⟩ := rngD_inv hd
    exact hs i lt
  · rw [rngD_len] at E2 z
    obtain ⟨r1, r2⟩ := comp_end E1 k1 ha.ow nN k E2 (Fo _) bk z
    exact q _ _ r1 r2
theorem ae_lcR2 {F : Nat → Fm} (own : List (Str × Nat)) (y : Nat → Option PyData) (hN : X.N.Nodup) (ha : AD X [a, b] fs f1 [.int lo, .int hi]) (F0 : F 0 = wipeF f1 (own.map (·.2))) (Fo : ∀ i, ownL (F i) = ownL f1) (hs : ∀ i, i < (hi - lo).toNat → TurnC X scope (own.map (·.2)) tg ifs elt (.int (lo + (i : Int))) (F i) (F (i + 1)) (y i)) (bk : BackL f1 (F (hi - lo).toNat) f2)
    (hm : X.mg "range" = none) (hz : hi - lo ≤ 100000 ∧ -1000000000000 ≤ lo ∧ lo ≤ 1000000000000 ∧ -1000000000000 ≤ hi ∧ hi ≤ 1000000000000 := by first | omega | (refine ⟨?_, ?_, ?_, ?_, ?_⟩ <;> (repeat' split) <;> omega)) (hg : Gl X "range" := by rfl) (hc : X.calm = true := by rfl)
    (hst : starEach [a, b] X.env = [(false, eval a X.env), (false, eval b X.env)] := by rfl) (hst2 : starEach [b] X.env = [(false, eval b X.env)] := by rfl) (ok : blkC X.N X.env.scope scope own = true := by first | decide +kernel | rfl) (hf : ∀ x, foldedSetIterable (.Call (.Name "range" p) [a, b] [] p0) X.env x = pure x := by intro _; rfl) :
    AE X (.ListComp elt [⟨tg, .Call (.Name "range" p) [a, b] [] p0, ifs, 0⟩] scope pos) fs f2 (.new (.list (madeC y (hi - lo).toNat))) :=
  let R := compR_range2 (X := X) (scope := scope) (tg := tg) (ifs := ifs) (elt := elt) ha hz.1 F0 Fo hs bk.back hz.2.1 hz.2.2.1 hz.2.2.2.1 hz.2.2.2.2
  ⟨R.ow, fun T σ H Q E q => bE_of (pe_lc hc hN (pi_range2 hg hm bestA hst hst2) (blkOk_by ok) gB_ok iB_ok eB_ok hf) (R.run T σ H Q E q)⟩
theorem as_lcR2D {x : Str} {py spos : Pos} {F : Nat → Fm} (n : Nat) (own : List (Str × Nat)) (y : Nat → Option PyData) (hN : X.N.Nodup) (ha : AD X [a, b] fs f1 [.int lo, .int hi]) (F0 : F 0 = wipeF f1 (own.map (·.2))) (Fo : ∀ i, ownL (F i) = ownL f1) (hs : ∀ i, i < (hi - lo).toNat → TurnC X scope (own.map (·.2)) tg ifs elt (.int (lo + (i : Int))) (F i) (F (i + 1)) (y i)) (bk : BackL f1 (F (hi - lo).toNat) f2)
    (hk : AS X rest cf (f2.set n (.dat (.list (madeC y (hi - lo).toNat)))) D) (hm : X.mg "range" = none) (hz : hi - lo ≤ 100000 ∧ -1000000000000 ≤ lo ∧ lo ≤ 1000000000000 ∧ -1000000000000 ≤ hi ∧ hi ≤ 1000000000000 := by first | omega | (refine ⟨?_, ?_, ?_, ?_, ?_⟩ <;> (repeat' split) <;> omega)) (hy : X.N[n]? = some x := by rfl) (hyl : X.env.scope.names.lookup x = some .local := by rfl) (hg : Gl X "range" := by rfl) (hc : X.calm = true := by rfl)
    (hst : starEach [a, b] X.env = [(false, eval a X.env), (false, eval b X.env)] := by rfl) (hst2 : starEach [b] X.env = [(false, eval b X.env)] := by rfl) (ok : blkC X.N X.env.scope scope own = true := by first | decide +kernel | rfl)
    (hsw : swapsWith (.ListComp elt [⟨tg, .Call (.Name "range" p) [a, b] [] p0, ifs, 0⟩] scope pos) (some (.Name x py)) spos.line X.env = pure true := by exact sw_true rfl rfl rfl (by decide +kernel)) (hf : ∀ x, foldedSetIterable (.Call (.Name "range" p) [a, b] [] p0) X.env x = pure x := by intro _; rfl) :
    AS X (.Assign [.Name x py] (.ListComp elt [⟨tg, .Call (.Name "range" p) [a, b] [] p0, ifs, 0⟩] scope pos) spos :: rest) cf fs D :=
  as_compD n (compR_range2 (X := X) (scope := scope) (tg := tg) (ifs := ifs) (elt := elt) ha hz.1 F0 Fo hs bk.back hz.2.1 hz.2.2.1 hz.2.2.2.1 hz.2.2.2.2) (ps_setLc (i := n) hc hN hy hyl hsw (pi_range2 hg hm bestA hst hst2) (blkOk_by ok) gB_ok iB_ok eB_ok hf) hk
/-! ### an owned list that is walked, compared -/
theorem as_forO {tg : Expr} {q : Addr} (n : Nat) (hp : PassesOwn (model X.prog X.w) X.A X.env X.xe) (P : Nat → Fm → Prop) (he : AE X e fs f1 (.at q (.list ds))) (h0 : P 0 f1) (hown : ∀ i f, P i f → f[n]? = some (.own q (.list ds)))
    (hs : Turn3 X tg body rest cf D ds P) (hd : ∀ f, P ds.length f → AS X rest cf f D) (hc : X.calm = true := by rfl) (hf : ∀ x, foldedSetIterable e X.env x = pure x := by intro _; rfl) : AS X (.For tg e body [] pos :: rest) cf fs D := by
  refine fun σ H S => bSs_of (pss_cons (ps_for hp hc (pi_list best) bestG bestSs hf) bestSs) (he.run cf.T σ H _ S.er fun v H1 k1 p1 => ?_)
  obtain ⟨E1, rfl, _⟩ := p1
  have S1 := S.step k1 E1 he.ow
  obtain ⟨S0, g0⟩ := S1.walk
  obtain ⟨vs0, hl0, _⟩ := (E1.own (hown 0 f1 h0)).2
  refine ⟨q, rfl, ⟨vs0, SqL.of hl0⟩, fun i m σ' H' => m = ds.length - i ∧ i ≤ ds.length ∧ ∃ f, S3 X.K { cf with G := cut H1 fun b => decide (b ∈ ownL f1) } σ' H' f ∧ P i f, ⟨_, rfl, Nat.zero_le _, f1, S0, h0⟩, ?_⟩
  rintro i m σ1 H2 ⟨rfl, hi, f, S2, pf⟩
  obtain ⟨vs, hl, qv⟩ := (S2.er.own (hown i f pf)).2
  have lens := qv.length
  by_cases lt : i < ds.length
  · refine .inr ⟨⟨vs, vs[i]'(by omega), SqL.of hl, by simp⟩, fun σ' H' => ∃ f', S3 X.K { cf with G := cut H1 fun b => decide (b ∈ ownL f1) } σ' H' f' ∧ P (i + 1) f', fun σ' H' ⟨f', z⟩ => ⟨ds.length - (i + 1), by omega, rfl, lt, f', z⟩, fun w H3 y => ?_⟩
    obtain ⟨rfl, y⟩ := y
    have hv := y vs (SqL.of hl)
    obtain ⟨dx, hdx, rd⟩ := qv.get2 hv
    obtain ⟨g, ag, asb⟩ := hs (cut H1 fun b => decide (b ∈ ownL f1)) i dx f hdx pf
    refine ag.run cf.T σ1 H3 w _ S2.er rd fun σ3 E3 => ?_
    intro pins s I
    refine thn (asb σ3 H3 (S2.less E3 ag.sub) pins s I) fun fl s' z => ?_
    cases fl with
    | next => obtain ⟨σ', H', I', f', S', z⟩ := z; exact ⟨σ', H', I', f', S', z⟩
    | cont => obtain ⟨σ', H', I', f', S', z⟩ := z; exact ⟨σ', H', I', f', S', z⟩
    | brk => obtain ⟨σ', H', I', f', S', z⟩ := z; exact ⟨σ', H', I', z σ' H' (S'.base g0)⟩
    | ret u =>
      obtain ⟨v', σ', H', I', rv, σ4, f4, r4, Hm, R, z⟩ := z
      exact ⟨v', σ', H', I', rv, σ4, f4, r4, Hm, R.base g0, z⟩
  · have e : i = ds.length := by omega
    subst e
    exact .inl ⟨⟨vs, SqL.of hl, by rw [lens]; exact Nat.le_refl _⟩, hd f pf σ1 H2 (S2.base g0)⟩
theorem ae_neO {q : Addr} (n : Nat) (hu : X.A.units + 64 < cLine) (ha : AE X a fs f1 (.at q d1)) (hb : AE X b f1 f2 r2) (h1 : SeqAt.shaped d1 = true) (h2 : SeqAt.shaped r2.d = true) (hn : f2[n]? = some (.own q d1) := by rfl) : AE X (.Compare a [.NotEq] [b] pos) fs f2 (.val (.bool (!PyData.eqv d1 r2.d))) := by
  refine ⟨hb.ow.trans ha.ow, fun T σ H Q E want => bE_of (pe_cmpR (op_neD hu) best best (nomark _)) (ha.run T σ H _ E fun x H1 k1 p1 => hb.run T σ H1 _ p1.er fun y H2 k2 p2 => ?_)⟩
  obtain ⟨_, rfl, _⟩ := p1
  have k2' : Kp H1 H2 (ownL fs) := by rw [ha.ow] at k2; exact k2
  have E2 := p2.er
  have rl := (E2.own hn).2.rp (cut_all _ _)
  exact ⟨d1, r2.d, Rp.dp _ _ rl (SeqAt.canLay_of_shaped h1), Rp.dp _ _ p2.rp (SeqAt.canLay_of_shaped h2), h1, h2, want _ H2 (k1.trans k2') ⟨E2, .bl _⟩⟩
theorem at_neO {q : Addr} (n : Nat) (hu : X.A.units + 64 < cLine) (ha : AE X a fs f1 (.at q d1)) (hb : AE X b f1 f2 r2) (h1 : SeqAt.shaped d1 = true) (h2 : SeqAt.shaped r2.d = true) (hn : f2[n]? = some (.own q d1) := by rfl) : AT X (.Compare a [.NotEq] [b] pos) fs f2 (!PyData.eqv d1 r2.d) := by
  refine ⟨hb.ow.trans ha.ow, fun T σ H Q E want => bT_of (pt_cmpR (op_neD hu) best best (nomark _)) (ha.run T σ H _ E fun x H1 k1 p1 => hb.run T σ H1 _ p1.er fun y H2 k2 p2 => ?_)⟩
  obtain ⟨_, rfl, _⟩ := p1
  have k2' : Kp H1 H2 (ownL fs) := by rw [ha.ow] at k2; exact k2
  have E2 := p2.er
  have rl := (E2.own hn).2.rp (cut_all _ _)
  exact ⟨d1, r2.d, Rp.dp _ _ rl (SeqAt.canLay_of_shaped h1), Rp.dp _ _ p2.rp (SeqAt.canLay_of_shaped h2), h1, h2, _, rfl, want H2 (k1.trans k2') E2⟩
end
end A3
namespace A3
open PySem PySem.Spec PyProof.Rows L2
section
variable {X : Cx} {a b c e elt tg : Expr} {es ifs : List Expr} {body rest : List Stmt} {cf : Cf} {D : D3} {fs f1 f2 f3 : Fm} {d d1 d2 d3 : PyData} {ds ds2 : List PyData} {r r1 r2 : Res} {pos pos' p p0 p1 p2 p3 apos : Pos} {T : Addr → Bool} {σ : L2.St} {H : Hp} {i j k lo hi : Int} {l m : List Nat} {scope : Scope}
/-! ### in, not in: whole numbers -/
theorem inV_int (v : Int) (ns : List Int) : inV (.int v) (ns.map V.int) = decide (v ∈ ns) := by
  unfold inV
  induction ns with
  | nil => simp
  | cons x r ih =>
    rw [List.map_cons, List.any_cons, ih]
    have e1 : eqV (.int x) (.int v) = (x == v) := rfl
    rw [e1]
    by_cases h : x = v
    · subst h; simp
    · have h2 : ¬ v = x := fun z => h z.symm
      simp [h, h2]
theorem rpInts_inv {K : PySem.W.Frag} {S : Hp} : ∀ {ns : List Int} {vs : List V}, RpAll K S vs (ns.map .int) → vs = ns.map V.int
  | [], _, .nil => rfl
  | x :: r, _, .cons a b => by rw [a.int_inv, rpInts_inv b]; rfl
theorem flat_ints (ns : List Int) : (ns.map V.int).all flatV = true := by
  rw [List.all_eq_true]
  intro x hx
  obtain ⟨y, _, rfl⟩ := List.mem_map.mp hx
  rfl
theorem c_inI {ns : List Int} (e : seqD r2.d = some (ns.map .int)) (h1 : behindInMarks .In b = false := by rfl) : CmpA X .In b f2 (.int i) r2 (decide (i ∈ ns)) :=
  ⟨_, op_in_seq, h1, fun T σ H1 H2 x y Q rx p q => by
    obtain ⟨g, vs, rfl, s, qv⟩ := seq_of p.rp e
    have ev := rpInts_inv qv
    subst ev
    refine ⟨g, _, rfl, s, by rw [rx.int_inv]; rfl, flat_ints ns, ?_⟩
    rw [rx.int_inv, if_neg Bool.false_ne_true, inV_int]; exact q⟩
theorem c_ninI {ns : List Int} (e : seqD r2.d = some (ns.map .int)) (h1 : behindInMarks .NotIn b = false := by rfl) : CmpA X .NotIn b f2 (.int i) r2 (!decide (i ∈ ns)) :=
  ⟨_, op_notIn_seq, h1, fun T σ H1 H2 x y Q rx p q => by
    obtain ⟨g, vs, rfl, s, qv⟩ := seq_of p.rp e
    have ev := rpInts_inv qv
    subst ev
    refine ⟨g, _, rfl, s, by rw [rx.int_inv]; rfl, flat_ints ns, ?_⟩
    rw [rx.int_inv, if_pos rfl, inV_int]; exact q⟩
/-! ### for target in range(a, b) -/
theorem as_forR2 {tg : Expr} (hp : PassesOwn (model X.prog X.w) X.A X.env X.xe) (P : Nat → Fm → Prop) (ha : AD X [a, b] fs f1 [.int lo, .int hi]) (h0 : P 0 f1) (hs : Turn3 X tg body rest cf D (rngD lo (hi - lo).toNat) P) (hd : ∀ f, P (hi - lo).toNat f → AS X rest cf f D)
    (hm : X.mg "range" = none) (hz : -1000000000000 ≤ lo ∧ lo ≤ 1000000000000 ∧ -1000000000000 ≤ hi ∧ hi ≤ 1000000000000 := by omega) (hg : Gl X "range" := by rfl) (hc : X.calm = true := by rfl)
    (hst : starEach [a, b] X.env = [(false, eval a X.env), (false, eval b X.env)] := by rfl) (hst2 : starEach [b] X.env = [(false, eval b X.env)] := by rfl)
    (hf : ∀ x, foldedSetIterable (.Call (.Name "range" p) [a, b] [] pos') X.env x = pure x := by intro _; rfl) : AS X (.For tg (.Call (.Name "range" p) [a, b] [] pos') body [] pos :: rest) cf fs D := by
  obtain ⟨z1, z2, z3, z4⟩ := hz
  refine fun σ H S => bSs_of (pss_cons (ps_for hp hc (pi_range2 hg hm bestA hst hst2) bestG bestSs hf) bestSs) (ha.run cf.T σ H _ S.er fun vs H1 k1 E1 q1 => ?_)
  obtain ⟨v, w, rfl, rv, rw'⟩ := q1.two_inv
  refine ⟨lo, hi, by rw [rv.int_inv, rw'.int_inv], ⟨by omega, by omega, by omega, by omega⟩, for_core (ds := rngD lo (hi - lo).toNat) (S.step k1 E1 ha.ow) h0 (fun G g k lt => ?_) (fun G g => ?_) (fun G g k v G' lt y => ?_) hs (by rw [rngD_len]; exact hd)⟩
  · rw [rngD_len] at lt; exact lt
  · show (hi - lo).toNat ≤ _; rw [rngD_len]; exact Nat.le_refl _
  · obtain ⟨rfl, rfl⟩ := y
    rw [rngD_len] at lt
    exact ⟨fun _ _ h => h, _, rngD_get lt, fun T σ f E dis et => .int _⟩
/-! ### xs[::-1], xs * n -/
theorem RpAll.rev {K : PySem.W.Frag} {S : Hp} {vs : List V} (h : RpAll K S vs ds) : RpAll K S vs.reverse ds.reverse := by
  induction vs generalizing ds with
  | nil => cases h; exact .nil
  | cons v vs ih =>
    cases h with
    | cons a b => rw [List.reverse_cons, List.reverse_cons]; exact (ih b).snoc a
theorem ae_rev {kk : Nat} (ha : AE X a fs f1 r) (e : r.d = .list ds) : AE X (.Subscript a (.Slice none none (some (.UnaryOp .USub (.Constant (.int 1) kk p1) p2)) p3) pos) fs f1 (.new (.list ds.reverse)) := by
  refine ⟨ha.ow, fun T σ H Q E q => bE_of (pe_revL best) (ha.run T σ H _ E fun x H1 k1 q1 => ?_)⟩
  obtain ⟨g, vs, ex, s, qv⟩ := q1.list e
  exact ⟨g, vs, ex, s, fun N n => q _ _ (k1.trans (Kp.of (same_upd n))) (po_lst q1.er k1 ha.ow n qv.rev)⟩
theorem RpAll.rep {K : PySem.W.Frag} {S : Hp} {vs : List V} (h : RpAll K S vs ds) : ∀ n : Nat, RpAll K S (List.replicate n vs).flatten (List.replicate n ds).flatten
  | 0 => .nil
  | n + 1 => by rw [List.replicate_succ, List.replicate_succ, List.flatten_cons, List.flatten_cons]; exact h.app (RpAll.rep h n)
theorem ae_rep (ha : AE X a fs f1 (.new (.list ds))) (hb : AE X b f1 f2 (.val (.int i))) (hz : 0 ≤ i ∧ i ≤ 1000 ∧ ds.length * i.toNat ≤ 1000000 := by decide) : AE X (.BinOp a .Mult b pos) fs f2 (.new (.list (List.replicate i.toNat ds).flatten)) := by
  refine ⟨hb.ow.trans ha.ow, fun T σ H Q E q => bE_of (pe_op op_rep best best) (ha.run T σ H _ E fun x H1 k1 q1 => hb.run T σ H1 _ q1.er fun y H2 k2 q2 => ?_)⟩
  have k2' : Kp H1 H2 (ownL fs) := by rw [ha.ow] at k2; exact k2
  obtain ⟨g, vs, rfl, hl, qv, n0⟩ := rlist q1
  have fr : g ∉ ownL f1 := fun z => by
    obtain ⟨g', e, _, E1, _⟩ := q1
    cases e
    exact (tt_false.mp (E1.free (hide_self H1 g))).2 z
  refine ⟨g, i, vs, rfl, by rw [q2.2.int_inv], k2 g _ fr hl, by omega, by omega, by rw [qv.length, sizeLine_eq]; omega, fun N n => ?_⟩
  exact q _ _ ((k1.trans k2').trans (Kp.of (same_upd n))) (po_lst q2.er (k1.trans k2') (hb.ow.trans ha.ow) n ((qv.mono (k2.up hb.ow)).rep _))
end
end A3
namespace A3
open PySem PySem.Spec PyProof.Rows L2 PySem.Froz

/-! ### texts in order, each once -/
def tle (a b : Str) : Bool := !ltCps b.cps.toList a.cps.toList
theorem tle_iff {a b : Str} : tle a b = true ↔ a.cps.toList ≤ b.cps.toList := by
  unfold tle
  rw [ltCps_eq]
  simp
theorem tle_tot (a b : Str) : (tle a b || tle b a) = true := by
  rw [Bool.or_eq_true, tle_iff, tle_iff]
  exact List.le_total _ _
theorem tle_tr (a b c : Str) (h : tle a b = true) (k : tle b c = true) : tle a c = true := tle_iff.mpr (List.le_trans (tle_iff.mp h) (tle_iff.mp k))
theorem cps_inj {a b : Str} (h : a.cps.toList = b.cps.toList) : a = b := by
  obtain ⟨⟨x⟩⟩ := a
  obtain ⟨⟨y⟩⟩ := b
  have h' : x = y := h
  rw [h']
theorem tle_anti {a b : Str} (h : tle a b = true) (k : tle b a = true) : a = b := cps_inj (List.le_antisymm (tle_iff.mp h) (tle_iff.mp k))
theorem pw_of_rising : ∀ (l : List Str) (p : Str), risingS p l = true → (p :: l).Pairwise fun a b => tle a b = true
  | [], p, _ => List.pairwise_singleton _ _
  | x :: r, p, h => by
    obtain ⟨h1, h2⟩ := Bool.and_eq_true_iff.mp (show (tle p x && risingS x r) = true from h)
    have ih := pw_of_rising r x h2
    refine List.pairwise_cons.mpr ⟨fun y hy => ?_, ih⟩
    rcases List.mem_cons.mp hy with e | hy
    · rw [e]; exact h1
    · exact tle_tr _ _ _ h1 ((List.pairwise_cons.mp ih).1 y hy)
theorem pw_of_sorted : ∀ {l : List Str}, sortedS l = true → l.Pairwise fun a b => tle a b = true
  | [], _ => .nil
  | x :: r, h => pw_of_rising r x h
/-- sorted(..) of texts -/
def srt (xs : List Str) : List Str := xs.mergeSort tle
theorem srt_perm (xs : List Str) : (srt xs).Perm xs := List.mergeSort_perm xs tle
theorem srt_pw (xs : List Str) : (srt xs).Pairwise fun a b => tle a b = true := List.pairwise_mergeSort tle_tr tle_tot xs
theorem perm_pw : ∀ {l m : List Str}, l.Perm m → l.Pairwise (fun a b => tle a b = true) → m.Pairwise (fun a b => tle a b = true) → l = m
  | [], m, p, _, _ => (List.nil_perm.mp p).symm
  | x :: l, [], p, _, _ => absurd p.length_eq (by simp)
  | x :: l, y :: m, p, hl, hm => by
    obtain ⟨h1, h2⟩ := List.pairwise_cons.mp hl
    obtain ⟨k1, k2⟩ := List.pairwise_cons.mp hm
    have e : x = y := by
      rcases List.mem_cons.mp (p.mem_iff.mp List.mem_cons_self) with e | e
      · exact e
      · rcases List.mem_cons.mp (p.symm.mem_iff.mp List.mem_cons_self) with q | q
        · exact q.symm
        · exact tle_anti (h1 y q) (k1 x e)
    subst e
    rw [perm_pw ((List.perm_cons x).mp p) h2 k2]
theorem srt_eq {xs ys : List Str} (p : ys.Perm xs) (h : sortedS ys = true) : ys = srt xs := perm_pw (p.trans (srt_perm xs).symm) (pw_of_sorted h) (srt_pw xs)
theorem srt_congr {xs ys : List Str} (p : ys.Perm xs) : srt ys = srt xs := perm_pw ((srt_perm ys).trans (p.trans (srt_perm xs).symm)) (srt_pw ys) (srt_pw xs)
/-- one more into a set -/
def put1 (l : List Str) (k : Str) : List Str := if k ∈ l then l else k :: l
def setL (xs : List Str) : List Str := xs.foldl put1 []
theorem put1_mem {l : List Str} {k x : Str} : x ∈ put1 l k ↔ x = k ∨ x ∈ l := by
  unfold put1
  by_cases h : k ∈ l
  · rw [if_pos h]
    exact ⟨.inr, fun z => z.elim (fun e => e ▸ h) id⟩
  · rw [if_neg h]; exact List.mem_cons
theorem put1_nd {l : List Str} {k : Str} (n : l.Nodup) : (put1 l k).Nodup := by
  unfold put1
  by_cases h : k ∈ l
  · rw [if_pos h]; exact n
  · rw [if_neg h]; exact List.nodup_cons.mpr ⟨h, n⟩
theorem put1_len (l : List Str) (k : Str) : (put1 l k).length ≤ l.length + 1 := by
  unfold put1
  split <;> simp
theorem setL_snoc (xs : List Str) (k : Str) : setL (xs ++ [k]) = put1 (setL xs) k := by
  unfold setL; rw [List.foldl_append]; rfl
theorem foldl_put1 : ∀ (xs l : List Str) (x : Str), x ∈ xs.foldl put1 l ↔ x ∈ l ∨ x ∈ xs
  | [], l, x => by simp
  | k :: xs, l, x => by
    show x ∈ xs.foldl put1 (put1 l k) ↔ _
    rw [foldl_put1 xs, put1_mem, List.mem_cons]
    constructor
    · rintro ((h | h) | h)
      · exact .inr (.inl h)
      · exact .inl h
      · exact .inr (.inr h)
    · rintro (h | h | h)
      · exact .inl (.inr h)
      · exact .inl (.inl h)
      · exact .inr h
theorem foldl_nd : ∀ (xs l : List Str), l.Nodup → (xs.foldl put1 l).Nodup
  | [], _, h => h
  | _ :: xs, _, h => foldl_nd xs _ (put1_nd h)
theorem foldl_len : ∀ (xs l : List Str), (xs.foldl put1 l).length ≤ l.length + xs.length
  | [], _ => Nat.le_refl _
  | k :: xs, l => by
    have h := foldl_len xs (put1 l k)
    have g := put1_len l k
    show (xs.foldl put1 (put1 l k)).length ≤ l.length + (xs.length + 1)
    omega
theorem setL_mem {xs : List Str} {x : Str} : x ∈ setL xs ↔ x ∈ xs := (foldl_put1 xs [] x).trans (by simp)
theorem setL_nd (xs : List Str) : (setL xs).Nodup := foldl_nd xs [] List.nodup_nil
theorem setL_len (xs : List Str) : (setL xs).length ≤ xs.length := by
  have h := foldl_len xs []
  rw [List.length_nil, Nat.zero_add] at h
  exact h
/-- sorted(set(..)) of texts -/
def sset (xs : List Str) : List Str := srt (setL xs)
theorem sset_mem {xs : List Str} {x : Str} : x ∈ sset xs ↔ x ∈ xs := ((srt_perm _).mem_iff).trans setL_mem
theorem sset_nd (xs : List Str) : (sset xs).Nodup := (srt_perm _).nodup_iff.mpr (setL_nd xs)
theorem sset_len (xs : List Str) : (sset xs).length ≤ xs.length := by rw [sset, (srt_perm _).length_eq]; exact setL_len xs
theorem nd_perm {l m : List Str} (h : l.Nodup) (k : m.Nodup) (e : ∀ x, x ∈ l ↔ x ∈ m) : l.Perm m := (List.perm_ext_iff_of_nodup h k).mpr e
theorem sset_congr {xs ys : List Str} (e : ∀ x, x ∈ xs ↔ x ∈ ys) : sset xs = sset ys := srt_congr (nd_perm (setL_nd xs) (setL_nd ys) fun x => setL_mem.trans ((e x).trans setL_mem.symm))

/-! ### the set's object -/
def SetX (P : Program) (w : World) (h : Heap) (a : Addr) (l : List Str) : Prop :=
  ∃ es ep t, h.get? a = some (sObj "set" (es, ep, t)) ∧ TxOk P w (es, ep, t) l ∧ l.Nodup ∧ Ris t.place.toList ∧ (w.params.followText "set-order" = true ∨ t.led = true)
theorem tail_ris {ep : Nat} {es1 : Array (Int × Value)} {t2 : SetTable} {wd : Bool} (r : Ris t2.place.toList) : Ris (tailTx ep es1 t2 wd).2.2.place.toList ∧ (tailTx ep es1 t2 wd).2.2.led = t2.led := by
  unfold tailTx
  split
  · exact ⟨relayAll_ris _ _ _, relayAll_led _ _ _⟩
  · exact ⟨r, rfl⟩
theorem add_ris {h : Int} {v : Value} {es : Array (Int × Value)} {ep : Nat} {t : SetTable} (r : Ris t.place.toList) : Ris (addTx h v (es, ep, t)).2.2.place.toList ∧ (addTx h v (es, ep, t)).2.2.led = t.led := by
  have r1 := layNew_ris t es h v r
  have l1 := layNew_led t es h v
  unfold addTx
  dsimp only
  split
  · have q := tail_ris (ep := ep) (es1 := (layNew t es h v).1) (t2 := { (layNew t es h v).2.1 with plain := false }) (wd := (layNew t es h v).2.2.1) r1
    exact ⟨q.1, q.2.trans l1⟩
  · have q := tail_ris (ep := ep) (es1 := (layNew t es h v).1) (t2 := (layNew t es h v).2.1) (wd := (layNew t es h v).2.2.1) r1
    exact ⟨q.1, q.2.trans l1⟩
section
variable {P : Program} {w : World} {A : Around} {E : Value → Shared → Prop} {s : Shared} {a : Addr} {l : List Str} {k : Str} {u : Tok}
theorem SetX.at {h h' : Heap} (R : SetX P w h a l) (e : ∀ o, h.get? a = some o → h'.get? a = some o) : SetX P w h' a l := by
  obtain ⟨es, ep, t, ho, q⟩ := R
  exact ⟨es, ep, t, e _ ho, q⟩
theorem old_x {T : String} {D : SD} {Q : Bool → Shared → Prop} (ho : s.heap.get? a = some (sObj T D)) (F : TxOk P w D l) (hk : k ∈ l) (hb : l.length < scanBound) (h : Q false s) :
    wpAny (model P w) A (setAddHashed a (.str k u) (hashStr w k)) Q E s := by
  obtain ⟨es, ep, t⟩ := D
  have dd : (sObj T (es, ep, t)).data = .set es ep t := rfl
  have bb : es.size < scanBound := by have e1 : es.size = l.length := F.sz; omega
  have ek : (strKind P w).is k (.str k u) = true := is_str k u
  obtain ⟨e0, m0, p0⟩ := (F.mem k).mp hk
  unfold setAddHashed; unfold setAddHashedIn
  refine wpAny_holding (wpAny_bind (wpAny_setState_of (o := sObj T (es, ep, t)) ho dd F.fit ?_))
  dsimp only
  rw [byScan_of (x := Value.str k u) rfl bb F.el, if_pos rfl]
  unfold setAddByScan
  refine wpAny_bind (wpAny_bind (wpAny_rule (wpAny_bind (wpAny_setScan_of (knd := strKind P w) (k := k) ek ho dd F.fit F.el ?_))))
  cases q : List.findIdx? (fun e => (strKind P w).is k e.2) es.toList with
  | some j => dsimp only; exact wpAny_pure (wpAny_pure h)
  | none =>
    have z := List.findIdx?_eq_none_iff.mp q e0 m0
    rw [p0] at z
    cases z
theorem setX_add {Q : Bool → Shared → Prop} (R : SetX P w s.heap a l) (room : l.length + 1 < scanBound)
    (hQ : ∀ b h', (∀ c o, c ≠ a → s.heap.get? c = some o → h'.get? c = some o) → SetX P w h' a (put1 l k) → Q b { s with heap := h' }) : wpAny (model P w) A (setAddHashed a (.str k u) (hashStr w k)) Q E s := by
  obtain ⟨es, ep, t, ho, F, nd, ri, le⟩ := R
  by_cases c : k ∈ l
  · refine old_x ho F c (by omega) (hQ _ _ (fun c o _ e => e) ⟨es, ep, t, ho, ?_⟩)
    rw [put1, if_pos c]
    exact ⟨F, nd, ri, le⟩
  · refine add_x ho F c room (hQ _ _ (fun c o n e => PySem.Heap.get?_update_of_ne _ (Ne.symm n) e) ?_)
    have F2 := add_ok (k := k) u F
    have q := add_ris (h := hashStr w k) (v := Value.str k u) (es := es) (ep := ep) ri
    rw [put1, if_neg c]
    exact ⟨_, _, _, get_upd _ ho rfl, F2, List.nodup_cons.mpr ⟨c, nd⟩, q.1, le.imp id fun z => q.2.trans z⟩
end

/-! ### set(xs) -/
section
variable {prog : Program} {w : World} {A : Around} {R : Result → Shared → Prop} {I : Addr} {fp wr : List Addr} {G : Array GenState → Array GenState → Prop} {n : Nat} {P : Nat → Value → Prop} {St : Nat → Shared → Prop}
theorem take_snoc (xs : List Str) (i : Nat) (h : i < xs.length) : xs.take (i + 1) = xs.take i ++ [xs.getD i Str.empty] := by
  rw [List.take_succ, List.getD_eq_getElem?_getD, List.getElem?_eq_getElem h]; rfl
theorem loopX (W : WalksS prog w A.in1 I fp wr G n P St) (S : Addr) (nS : S ∉ fp) (xs : List Str) (hx : xs.length = n) (hv : ∀ i v, P i v → ∃ t, v = .str (xs.getD i Str.empty) t) (hb : n + 1 < scanBound) :
    ∀ (k i : Nat) (s : Shared), n - i = k → i ≤ n → St i s → SetX prog w s.heap S (setL (xs.take i)) →
      (∀ s', Moved (S :: wr) G s s' → SetX prog w s'.heap S (setL xs) → R (.ok (.ret .none)) s') → codeAny (model prog w) A (.builtin "set.update.loop" ⟨[.ref S, .ref I], []⟩) R s := by
  have nW : S ∉ wr := fun h => nS (W.sub _ h)
  have up : ∀ b ∈ wr, b ∈ S :: wr := fun b hb => List.mem_cons_of_mem _ hb
  intro k
  induction k with
  | zero =>
    intro i s hk hi st hS hR
    obtain rfl : i = n := by omega
    refine codeAny_builtin F.entry_set_update_loop (Eq.mpr (congrArg (fun z => wpAny _ z _ _ _ _) (Around.under_plainId F.plain_set_update_loop _)) ?_)
    refine wpAny_bind (W.done s _ _ st fun s' mv => wpAny_pure (hR s' (mv.mono up) ?_))
    rw [List.take_of_length_le (by omega)] at hS
    exact hS.at fun o => mv.heap S o nW
  | succ k ih =>
    intro i s hk hi st hS hR
    have lt : i < n := by omega
    refine codeAny_builtin F.entry_set_update_loop (Eq.mpr (congrArg (fun z => wpAny _ z _ _ _ _) (Around.under_plainId F.plain_set_update_loop _)) ?_)
    refine wpAny_bind (W.item i s _ _ lt st fun v s' hP st' mv => ?_)
    obtain ⟨t, rfl⟩ := hv i v hP
    have hS' := hS.at (h' := s'.heap) fun o => mv.heap S o nW
    refine wpAny_bind (m := holding [Value.str (xs.getD i Str.empty) t] (setAdd S (.str (xs.getD i Str.empty) t))) (wpAny_holding ?_)
    unfold setAdd
    refine wpAny_holding (wpAny_bind ((strKind prog w).pyHash (k := xs.getD i Str.empty) (is_str _ _) ?_))
    have rm : (setL (xs.take i)).length + 1 < scanBound := by
      have := setL_len (xs.take i)
      rw [List.length_take] at this
      omega
    refine setX_add (s := { s' with toks := s'.toks + 1 }) hS' rm fun b h' kp R2 => ?_
    rw [← setL_snoc, ← take_snoc xs i (by omega)] at R2
    refine wpAny_pure ⟨plainId_quiet F.plain_set_update_loop _, ih (i + 1) { s' with heap := h', toks := s'.toks + 1 } (by omega) lt (W.frame _ s' _ _ st' (Nat.le_succ _) fun b hb o e => kp b o (fun z => nS (by rw [← z]; exact hb)) e) R2 fun s2 mv2 R3 => ?_⟩
    exact hR s2 (Moved.trans W.gtrans ((mv.mono up).then_heap (Nat.le_succ _) fun b o hb e => kp b o (fun z => hb (by rw [z]; exact List.mem_cons_self)) e) mv2) R3
end
section
variable {P : Program} {w : World} {A : Around} {E : Value → Shared → Prop} {s : Shared}
def freshS (w : World) : Obj := { cls := .type "set", dict := none, data := .set #[] 0 (.fresh 0 0 (!w.params.followText "set-order")) }
theorem new_led {v : Value} {Q1 : Value → Shared → Prop} (h : Q1 (.ref s.heap.objs.size) { s with heap := s.heap.push (freshS w) }) : codeAny (model P w) A (.call (.builtin "set.__new__") ⟨[.type "set", v], []⟩) (wants Q1 E) s := by
  refine codeAny_of_tree (show wpAny _ A.in1 (do checkBuiltinCall "set.__new__" ⟨[.type "set", v], []⟩; again (.builtin "set.__new__" ⟨[.type "set", v], []⟩)) _ _ s from ?_)
  refine wpAny_bind (wpAny_of_eq (PySem.F.newCall_set_1 v) (wpAny_pure ⟨plainId_quiet F.plain_set_new _, codeAny_builtin F.entry_set_new ?_⟩))
  rw [Around.under_plainId F.plain_set_new _]
  unfold Builtin.«set.__new__»; unfold Builtin.Frozenset.newClass
  have sb := sub_set_self
  obtain ⟨hp, g, d, tk, os⟩ := s
  dsimp only
  wp_walk
  refine wpAny_askSetting (wpAny_pure ?_)
  dsimp only
  simp only [newObj]
  exact wpAny_bind (wpAny_alloc (wpAny_pure (wpAny_pure h)))
theorem fresh_x {h : Heap} : SetX P w (h.push (freshS w)) h.objs.size [] :=
  ⟨#[], 0, _, Heap.get?_push_size _ rfl, TxOk.nil (by rfl), List.nodup_nil, List.Pairwise.nil, by
    show _ ∨ (!w.params.followText "set-order") = true
    cases w.params.followText "set-order"
    · exact .inr rfl
    · exact .inl rfl⟩
theorem strs_get : ∀ {us : List Value} {xs : List Str}, StrsAre us xs → ∀ (i : Nat) (v : Value), us[i]? = some v → ∃ t, v = .str (xs.getD i Str.empty) t
  | _, _, .nil, i, v, h => by simp at h
  | _, _, .cons x t r, 0, v, h => ⟨t, (Option.some.inj h).symm⟩
  | _, _, .cons x t r, i + 1, v, h => strs_get r i v h
/-- set(xs), xs a list of texts -/
theorem set_texts {l : Addr} {items : Array Value} {xs : List Str} {Q : Value → Shared → Prop} (hh : A.handled = none) (hl : s.heap.IsList l items) (hi : StrsAre items.toList xs) (hb : items.size + 1 < scanBound)
    (hq : ∀ h' tk, SetX P w h' s.heap.objs.size (setL xs) → (∀ b o, b < s.heap.objs.size → s.heap.get? b = some o → h'.get? b = some o) → s.heap.objs.size ≤ h'.objs.size → Q (.ref s.heap.objs.size) { s with heap := h', toks := tk }) :
    wpAny (model P w) A (call (.type "set") [.ref l]) Q E s := by
  obtain ⟨c, tl, hmro⟩ := F.called_set.mro
  have z1 := F.called_set.made; have z2 := F.called_set.sub; have z3 := F.called_set.notType; have z4 := F.called_set.canCreate
  have z5 := PySem.F.typeCall_set_1 (.ref l)
  refine wpAny_call (codeAny_of_tree (show wpAny _ _ (callAny (.type "set") _) _ _ _ from wpAny_pure ⟨Code.quiet_builtin _ (by decide +kernel), codeAny_builtin F.entry_type_call ?_⟩))
  rw [Around.under_plain (weight_type_call_type "set" [.ref l] []) rfl]
  repeat (any_goals (first | assumption | wp_step))
  refine codeAny_mono (new_led (v := .ref l) (E := E) (Q1 := fun obj s1 => obj = .ref s.heap.objs.size ∧ s1 = { s with heap := s.heap.push (freshS w) }) ⟨rfl, rfl⟩) fun r s1 hr => ?_
  cases r with
  | error e => exact hr
  | ok fl =>
    cases fl with
    | ret obj =>
      obtain ⟨rfl, rfl⟩ := hr
      have gS : (s.heap.push (freshS w)).get? s.heap.objs.size = some (freshS w) := Heap.get?_push_size _ rfl
      have tS : Shared.TypeIs { s with heap := s.heap.push (freshS w) } (.ref s.heap.objs.size) "set" := ⟨_, gS, rfl⟩
      have y1 := F.called_set.init.lookup; have y2 := F.called_set.init.bind (.ref s.heap.objs.size)
      repeat (any_goals (first | assumption | wp_step))
      refine codeAny_mono (codeAny_call_builtin (R := wants (fun r s2 => r = .none ∧ ∃ h' tk, s2 = { s with heap := h', toks := tk } ∧ SetX P w h' s.heap.objs.size (setL xs) ∧
          (∀ b o, b < s.heap.objs.size → s.heap.get? b = some o → h'.get? b = some o) ∧ s.heap.objs.size ≤ h'.objs.size) E) F.called_set.init.plain F.entry_set_init (check_set_init_1 tS ?_)) fun r2 s2 hr2 => ?_
      · obtain ⟨ol, hol, hcl, nl, hdl⟩ := hl
        obtain ⟨oc, od, odat, osl⟩ := ol
        simp only at hcl hdl
        subst hcl; subst hdl
        have hol' : (s.heap.push (freshS w)).get? l = some { cls := .type "list", dict := od, data := .seq items nl, slots := osl } := Heap.get?_push_of_some _ hol
        have w1 := PySem.F.sub_list_set; have w2 := PySem.F.sub_list_frozenset
        have w3 : (Value.type "list" == Value.type "dict") = false := by decide
        have hl1 : (s.heap.push (freshS w)).IsList l items := ⟨_, hol', rfl, nl, rfl⟩
        unfold Builtin.«set.__init__»; unfold noKeywords; unfold Builtin.Frozenset.updateFrom
        generalize hPI : pyIter = PI
        wp_walk
        subst hPI
        refine wpAny_pyIter_list hl1 (wpAny_bind (wpAny_runValue ?_))
        have lS : l < s.heap.objs.size := Heap.lt_size hol
        have h3 : A.in1.in1.in1.handled = none := by simp [hh]
        have szS : (s.heap.push (freshS w)).objs.size = s.heap.objs.size + 1 := Heap.size_push ..
        have n1 : l ≠ (s.heap.push (freshS w)).objs.size := by rw [szS]; exact Nat.ne_of_lt (Nat.lt_succ_of_lt lS)
        have n2 : s.heap.objs.size ∉ [(s.heap.push (freshS w)).objs.size, l] := by
          rw [szS]; simp only [List.mem_cons, List.not_mem_nil, or_false, not_or]
          exact ⟨Nat.ne_of_lt (Nat.lt_succ_self _), Nat.ne_of_gt lS⟩
        have hlen : xs.length = items.size := by rw [← StrsAre.len_eq hi, Array.length_toList]
        refine loopX ((Walks.list h3 _ l n1 items).toS) s.heap.objs.size n2 xs hlen (fun i v hv => strs_get hi i v (by rw [Array.getElem?_toList]; exact hv)) hb (items.size - 0) 0 _ (by omega) (Nat.zero_le _)
          ⟨⟨_, Heap.get?_push_size _ rfl, rfl, rfl⟩, (hl1.push _)⟩ (fresh_x.at fun o e => Heap.get?_push_of_some _ e) fun s' mv S' => ?_
        obtain ⟨h', g', d', tk', os'⟩ := s'
        obtain rfl : g' = s.gens := mv.gens
        obtain rfl : d' = s.drawn := mv.drawn
        obtain rfl : os' = s.os := mv.os
        have old : ∀ b o, b < s.heap.objs.size → s.heap.get? b = some o → h'.get? b = some o := fun b o lt e => by
          refine mv.heap b o ?_ (Heap.get?_push_of_some _ (Heap.get?_push_of_some _ e))
          rw [szS]; simp only [List.mem_cons, List.not_mem_nil, or_false, not_or]
          exact ⟨Nat.ne_of_lt lt, Nat.ne_of_lt (Nat.lt_succ_of_lt lt)⟩
        refine wpAny_pure (show wpAny _ _ (ret Value.none) _ _ _ from wpAny_pure ⟨rfl, h', tk', rfl, S', old, ?_⟩)
        obtain ⟨_, _, _, ho, _⟩ := S'
        exact Nat.le_of_lt (Heap.lt_size ho)
      · cases r2 with
        | error e => exact hr2
        | ok fl2 =>
          cases fl2 with
          | ret r =>
            obtain ⟨rfl, h', tk, rfl, S', old, sz⟩ := hr2
            repeat (any_goals (first | assumption | wp_step))
            exact hq _ _ S' old sz
          | _ => exact hr2.elim
    | _ => exact hr.elim
theorem strs_back : ∀ (vs : List Value), (∀ v ∈ vs, ∃ x t, v = Value.str x t) → ∃ xs, StrsAre vs xs
  | [], _ => ⟨[], .nil⟩
  | v :: vs, h => by
    obtain ⟨x, t, rfl⟩ := h v List.mem_cons_self
    obtain ⟨xs, q⟩ := strs_back vs fun u hu => h u (List.mem_cons_of_mem _ hu)
    exact ⟨x :: xs, .cons x t q⟩
theorem strs_mem {vs : List Value} {xs : List Str} (h : StrsAre vs xs) (x : Str) : x ∈ xs ↔ ∃ t, Value.str x t ∈ vs := by
  induction h with
  | nil => simp
  | cons y t _ ih =>
    rw [List.mem_cons, ih]
    constructor
    · rintro (rfl | ⟨u, hu⟩)
      · exact ⟨t, List.mem_cons_self⟩
      · exact ⟨u, List.mem_cons_of_mem _ hu⟩
    · rintro ⟨u, hu⟩
      rcases List.mem_cons.mp hu with e | hu
      · injection e with e; exact .inl e
      · exact .inr ⟨u, hu⟩
theorem nd_fold : ∀ (ys l : List Str), (ys.foldl put1 l).length = l.length + ys.length → ys.Nodup ∧ ∀ y ∈ ys, y ∉ l
  | [], _, _ => ⟨List.nodup_nil, fun _ h => nomatch h⟩
  | k :: ys, l, h => by
    have h1 : (ys.foldl put1 (put1 l k)).length = l.length + (ys.length + 1) := h
    have h2 := foldl_len ys (put1 l k)
    have c : k ∉ l := fun c => by
      unfold put1 at h1 h2
      rw [if_pos c] at h1 h2
      omega
    have e : put1 l k = k :: l := by unfold put1; rw [if_neg c]
    rw [e] at h1
    obtain ⟨a, b⟩ := nd_fold ys (k :: l) (by rw [h1, List.length_cons]; omega)
    refine ⟨List.nodup_cons.mpr ⟨fun z => b k z List.mem_cons_self, a⟩, fun y hy => ?_⟩
    rcases List.mem_cons.mp hy with z | z
    · rw [z]; exact c
    · exact fun w => b y z (List.mem_cons_of_mem _ w)
/-- no more of them than there are unlike ones -/
theorem nd_of_len {xs l : List Str} (n : l.Nodup) (e : ∀ x, x ∈ xs ↔ x ∈ l) (h : xs.length = l.length) : xs.Nodup := by
  have q : (setL xs).Perm l := nd_perm (setL_nd xs) n fun x => setL_mem.trans (e x)
  exact (nd_fold xs [] (by rw [List.length_nil, Nat.zero_add]; exact q.length_eq.trans h.symm)).1
/-- sorted(..) of such a set -/
theorem sorted_texts {a : Addr} {l : List Str} {Q : Value → Shared → Prop} (R : SetX P w s.heap a l) (hh : A.handled = none) (hb : l.length < scanBound)
    (hQ : ∀ s' p (out : Array Value) (c : Nat), (∀ b o, s.heap.get? b = some o → s'.heap.get? b = some o) → s'.gens = s.gens → s'.os = s.os → s.heap.objs.size ≤ p → s'.heap.get? p = some (seqObj "list" out c) → StrsAre out.toList (srt l) → Q (.ref p) s') :
    wpAny (model P w) A (call (.builtin "sorted") [.ref a]) Q E s := by
  obtain ⟨es, ep, t, ho, F, nd, ri, le⟩ := R
  refine Calls.call_function_entry kind_sorted plain_sorted entry_sorted (args_sorted1 _) ?_
  have hs : es.size < scanBound := by have e : es.size = l.length := F.sz; omega
  unfold Builtin.«sorted»
  refine wpAny_bind (m := checkCount "sorted" 1 1 _) (wpAny_pure (wpAny_bind (collect_set (A := A.in1) hh ⟨_, ho, rfl, rfl⟩ F.fit hs ri le fun s1 vs k1 hz g1 o1 pm => ?_)))
  have txt : ∀ e ∈ es.toList, ∃ x t, e.2 = Value.str x t := fun e he => by
    obtain ⟨⟨k, hk, _⟩, _⟩ := F.el e he
    obtain ⟨t, ht⟩ := Value.isStrOf_shape (x := k) (v := e.2) hk
    exact ⟨k, t, ht⟩
  obtain ⟨xs, hS⟩ := strs_back vs fun v hv => by
    obtain ⟨e, he, q⟩ := List.mem_map.mp (pm.mem_iff.mp hv)
    obtain ⟨x, t, ht⟩ := txt e he
    exact ⟨x, t, q.symm.trans ht⟩
  have hvl : vs.length = l.length := by
    rw [pm.length_eq, List.length_map, Array.length_toList]; exact F.sz
  have px : xs.Perm l := by
    have same : ∀ x, x ∈ xs ↔ x ∈ l := fun x => by
      rw [strs_mem hS x, F.mem x]
      constructor
      · rintro ⟨t, ht⟩
        obtain ⟨e, he, q⟩ := List.mem_map.mp (pm.mem_iff.mp ht)
        refine ⟨e, he, ?_⟩
        rw [q]; exact is_str x t
      · rintro ⟨e, he, q⟩
        obtain ⟨t, ht⟩ := Value.isStrOf_shape (x := x) (v := e.2) q
        exact ⟨t, pm.mem_iff.mpr (List.mem_map.mpr ⟨e, he, ht⟩)⟩
    exact nd_perm (nd_of_len nd same (by rw [← hvl, StrsAre.len_eq hS])) nd same
  have big : vs.length ≤ sizeLine := by rw [hvl, sizeLine_eq]; unfold scanBound at hb; omega
  refine wpAny_bind (wpAny_newList ?_ big)
  have oL : (s1.heap.push (seqObj "list" vs.toArray 0)).get? s1.heap.objs.size = some (seqObj "list" vs.toArray 0) := Heap.get?_push_size _ rfl
  refine wpAny_bind (wpAny_holding (wpAny_call_entry slot_list_sort ⟨_, oL, rfl⟩ entry_list_sort
    (list_sort_treeKAny strKind_oneLt (s := { s1 with heap := s1.heap.push (seqObj "list" vs.toArray 0) }) oL hS.keysOf (fun _ _ _ e => keyKind_strs (by rw [← e]; exact hS)) big fun st' hp hso => ⟨_, rfl, ?_⟩) (args_list_sort _)))
  obtain ⟨ys, y1, y2, y3⟩ := sorted_out_str hS hp hso
  obtain ⟨c, hc⟩ := sortedHeap_at (vs := vs) (out := (arrOf st').map (·.2)) oL
  rw [srt_eq (xs := l) (y2.trans px) y3] at y1
  refine wpAny_pure ⟨_, rfl, hQ _ s1.heap.objs.size _ c (fun b u e => ?_) g1 o1 hz hc y1⟩
  have q := k1 b u e
  have lt := Heap.lt_size q
  refine (sortedHeap_old (Nat.ne_of_lt lt) (by rw [size_push']; exact Nat.lt_succ_of_lt lt)).trans ?_
  exact Heap.get?_push_of_some _ q
end

/-! ### sorted(set(e)) -/
section
variable {X : Cx}
def tSortSet (K : PySem.W.Frag) (ta : TE) : TE := fun σ H Q => ta σ H fun x H1 => ∃ (l : Addr) (xs : List Str), x = V.ref l ∧ SqL K H1 l (xs.map V.str) ∧ xs.length < 4000 ∧ ∀ p, H1 p = none → Q (.ref p) (upd H1 p (.lst ((sset xs).map V.str)))
theorem pe_sortSet {a : Expr} {ta : TE} {p p2 q pos : Pos} (hc : X.calm = true) (hg : Gl X "sorted") (hm : X.mg "sorted" = none) (hg2 : Gl X "set") (hm2 : X.mg "set" = none) (ha : PE X a ta)
    (na : starEach [a] X.env = (false, eval a X.env) :: starEach [] X.env := by rfl) : PE X (.Call (.Name "sorted" p) [.Call (.Name "set" p2) [a] [] q] [] pos) (tSortSet X.K ta) := by
  refine ⟨fun pins s σ H Q I h => Call_ (ld_blt I hg hm PyProof.Rows.boot_sorted (PyProof.Rows.callWith_builtin1 (PyProof.Rows.args_cons ?_ rfl) rfl rfl))⟩
  refine Call_ (ld_blt I hg2 hm2 PyProof.Rows.boot_set (PyProof.Rows.callWith_type1 (PyProof.Rows.args_cons (thn (ha.run pins s σ H _ I h) fun v s1 ⟨x, H1, I1, r1, q1⟩ => PyProof.Rows.args_nil ?_) na) na rfl))
  obtain ⟨l, xs, rfl, hq, h1, q1⟩ := q1
  cases r1
  obtain ⟨its, rv, pl, hz⟩ := I1.list hq
  have hlen : its.toArray.size + 1 < scanBound := by
    have e := rv.length
    rw [List.length_map] at e
    rw [List.size_toArray, ← e]; unfold scanBound; omega
  refine set_texts (I1.ok.hd hc) pl.isList (by simpa using rv.strs) hlen fun h' tk R kp sz => PyProof.Rows.args_nil ?_
  obtain ⟨s2, es2⟩ : ∃ s2 : Shared, s2 = { s1 with heap := h', toks := tk } := ⟨_, rfl⟩
  have I2 : Inv X pins σ H1 s2 := by rw [es2]; exact I1.kept fun b o e => kp b o (Heap.lt_size e) e
  have R2 : SetX X.prog X.w s2.heap s1.heap.objs.size (setL xs) := by rw [es2]; exact R
  show wpAny _ _ (call (.builtin "sorted") [.ref s1.heap.objs.size]) _ _ { s1 with heap := h', toks := tk }
  rw [← es2]
  refine sorted_texts R2 (I2.ok.hd hc) (by have := setL_len xs; unfold scanBound; omega) fun s' p out c k g o hp hi' hi => ?_
  have hsl : ((sset xs).map V.str).length ≤ sizeLine := by
    have := sset_len xs
    rw [List.length_map, sizeLine_eq]; omega
  have hn : H1 p = none := I2.hok.fresh hp
  have J : Inv X pins σ (upd H1 p (.lst ((sset xs).map V.str))) { s2 with heap := s'.heap, gens := s'.gens, drawn := s'.drawn, toks := s'.toks } :=
    I2.call (ch := []) (Un.laid k hp hn) (I2.hok.laid k hp ⟨hsl, out.toList, c, vals_of_strs hi, hi'⟩) (by rw [g]; exact I2.bare) fun _ z => nomatch z
  have e : s' = { s2 with heap := s'.heap, gens := s'.gens, drawn := s'.drawn, toks := s'.toks } := by
    clear J R2 I2 es2
    cases s'; cases s2; cases o; rfl
  rw [e]
  exact ⟨.ref p, _, J, rfl, q1 p hn⟩
end
/-- sorted(set(..)) of texts by their signs -/
def ssN (ls : List (List Nat)) : List (List Nat) := (sset (ls.map SX.S)).map fun s => s.cps.toList
theorem S_cps (s : Str) : SX.S s.cps.toList = s := cps_inj (by simp [SX.S])
theorem cps_S (l : List Nat) : (SX.S l).cps.toList = l := by simp [SX.S]
theorem ssN_S (ls : List (List Nat)) : (ssN ls).map SX.S = sset (ls.map SX.S) := by
  unfold ssN
  rw [List.map_map]
  exact (List.map_congr_left fun s _ => S_cps s).trans (List.map_id _)
theorem ssN_mem {ls : List (List Nat)} {l : List Nat} : l ∈ ssN ls ↔ l ∈ ls := by
  unfold ssN
  rw [List.mem_map]
  constructor
  · rintro ⟨s, hs, rfl⟩
    obtain ⟨m, hm, e⟩ := List.mem_map.mp (sset_mem.mp hs)
    rw [← e, cps_S]; exact hm
  · intro h
    exact ⟨SX.S l, sset_mem.mpr (List.mem_map_of_mem h), cps_S l⟩
theorem ssN_nd (ls : List (List Nat)) : (ssN ls).Nodup := (sset_nd _).map _ fun a b h e => h (cps_inj e)
theorem ssN_len (ls : List (List Nat)) : (ssN ls).length ≤ ls.length := by
  have := sset_len (ls.map SX.S)
  rw [List.length_map] at this
  rw [ssN, List.length_map]; exact this
theorem ssN_congr {ls ms : List (List Nat)} (e : ∀ x, x ∈ ls ↔ x ∈ ms) : ssN ls = ssN ms := by
  unfold ssN
  rw [sset_congr fun x => ?_]
  rw [List.mem_map, List.mem_map]
  exact ⟨fun ⟨m, hm, q⟩ => ⟨m, (e m).mp hm, q⟩, fun ⟨m, hm, q⟩ => ⟨m, (e m).mpr hm, q⟩⟩
section
variable {X : Cx} {a : Expr} {fs f1 : Fm} {r : Res} {pos p p2 q2 : Pos}
theorem ae_sortSet {ls : List (List Nat)} (hc : X.calm = true) (ha : AE X a fs f1 r) (e : r.d = .list (ls.map sD)) (hz : ls.length < 4000) (hg : Gl X "sorted") (hm : X.mg "sorted" = none) (hg2 : Gl X "set") (hm2 : X.mg "set" = none)
    (na : starEach [a] X.env = (false, eval a X.env) :: starEach [] X.env := by rfl) : AE X (.Call (.Name "sorted" p) [.Call (.Name "set" p2) [a] [] q2] [] pos) fs f1 (.new (.list ((ssN ls).map sD))) := by
  refine ⟨ha.ow, fun T σ H Q E q => bE_of (pe_sortSet hc hg hm hg2 hm2 best na) (ha.run T σ H _ E fun x H1 k1 p1 => ?_)⟩
  obtain ⟨g, vs, ex, sq, qv⟩ := p1.list e
  have ev := rpStrs_inv qv
  subst ev
  refine ⟨g, ls.map SX.S, ex, sq, by rw [List.length_map]; exact hz, fun p n => ?_⟩
  rw [← ssN_S]
  exact q _ _ (k1.trans (Kp.of (same_upd n))) (po_lst p1.er k1 ha.ow n (rpStrs _))
end
end A3
namespace A3
open PySem PySem.Spec PyProof.Rows L2
section
variable {X : Cx} {a b c e : Expr} {es : List Expr} {rest : List Stmt} {cf : Cf} {D : D3} {fs f1 f2 f3 : Fm} {d d1 d2 : PyData} {ds : List PyData} {r : Res} {pos p apos : Pos} {T : Addr → Bool} {σ : L2.St} {H : Hp} {i j k : Int} {q : Addr} {l m : List Nat} {v : V}
/-- a <= b <= c as a test -/
theorem at_chain {o1 o2 : CmpOp} {g1 g2 : Int → Int → Bool} (h1 : OpR X (compareOp o1) (rI0 fun i j => .bl (g1 i j))) (h2 : OpR X (compareOp o2) (rI0 fun i j => .bl (g2 i j))) (ha : AE X a fs f1 (.val (.int i))) (hb : AE X b f1 f2 (.val (.int j))) (hc : AE X c f2 f2 (.val (.int k)))
    (hm : lastMarks [o1, o2] [b, c] = false := by with_unfolding_all rfl) : AT X (.Compare a [o1, o2] [b, c] pos) fs f2 (g1 i j && g2 j k) := by
  refine ⟨hb.ow.trans ha.ow, fun T σ H Q E q => bT_of (pt_chain h1 h2 best best best hm) (ha.run T σ H _ E fun x H1 k1 p1 => hb.run T σ H1 _ p1.er fun y H2 k2 p2 => ?_)⟩
  have k2' : Kp H1 H2 (ownL fs) := by rw [ha.ow] at k2; exact k2
  refine ⟨i, j, p1.2.int_inv, p2.2.int_inv, g1 i j, rfl, ?_⟩
  cases hg : g1 i j with
  | false =>
    rw [hg] at q
    exact ⟨false, rfl, q H2 (k1.trans k2') p2.1⟩
  | true =>
    rw [hg, Bool.true_and] at q
    refine hc.run T σ H2 _ p2.er fun z H3 k3 p3 => ⟨j, k, p2.2.int_inv, p3.2.int_inv, g2 j k, rfl, ?_⟩
    have k3' : Kp H2 H3 (ownL fs) := by rw [hb.ow.trans ha.ow] at k3; exact k3
    exact q H3 ((k1.trans k2').trans k3') p3.1
/-! ### the only owned object, lent to what doesn't change it -/
theorem er_lend {K : PySem.W.Frag} {n : Nat} (E : ER K T σ H fs) (hn : fs[n]? = some (.own q d)) : ER K T σ H (fs.set n (.dat d)) := by
  have h := er_isv_dat (n := n) (er_freeze E hn) (by rw [List.getElem?_set_self (List.getElem?_eq_some_iff.mp hn).1])
  rw [List.set_set] at h; exact h
theorem lend_own {n : Nat} (ho : ownL fs = [q]) (hn : fs[n]? = some (.own q d)) : ownL (fs.set n (.dat d)) = [] := by
  cases h : ownL (fs.set n (.dat d)) with
  | nil => rfl
  | cons x r =>
    exfalso
    have mx : x ∈ ownL (fs.set n (.dat d)) := by rw [h]; exact List.mem_cons_self
    obtain ⟨j, u, hj, eu⟩ := mem_ownL.mp mx
    by_cases e : n = j
    · subst e
      rw [List.getElem?_set_self (List.getElem?_eq_some_iff.mp hn).1] at hj
      cases Option.some.inj hj
      cases eu
    · rw [List.getElem?_set_ne e] at hj
      have m2 : x ∈ ownL fs := mem_ownL.mpr ⟨j, u, hj, eu⟩
      rw [ho, List.mem_singleton] at m2
      subst m2
      exact e (own_injS (by rw [ho]; exact List.nodup_cons.mpr ⟨by simp, List.nodup_nil⟩) hn hj rfl eu)
theorem at_lend {bb : Bool} (n : Nat) (h : AT X e (fs.set n (.dat d)) (fs.set n (.dat d)) bb) (ho : ownL fs = [q] := by rfl) (hn : fs[n]? = some (.own q d) := by rfl) : AT X e fs fs bb := by
  refine ⟨rfl, fun T σ H Q E k => h.run T σ H Q (er_lend E hn) fun H1 k1 E1 => ?_⟩
  rw [lend_own ho hn] at k1
  have sm : Same H H1 := fun b o z => k1 b o (by simp) z
  exact k H1 (Kp.of sm) (E.keep sm)
theorem ae_lend {bb : Bool} (n : Nat) (h : AE X e (fs.set n (.dat d)) (fs.set n (.dat d)) (.val (.bool bb))) (ho : ownL fs = [q] := by rfl) (hn : fs[n]? = some (.own q d) := by rfl) : AE X e fs fs (.val (.bool bb)) := by
  refine ⟨rfl, fun T σ H Q E k => h.run T σ H Q (er_lend E hn) fun v H1 k1 E1 => ?_⟩
  rw [lend_own ho hn] at k1
  have sm : Same H H1 := fun b o z => k1 b o (by simp) z
  rw [E1.2.bl_inv]
  exact k _ H1 (Kp.of sm) ⟨E.keep sm, .bl bb⟩
/-! ### f(..).append(x), the list being nobody's -/
theorem ae_appN (ho : AE X a fs f1 (.new (.list ds))) (pe : PE X e (tC v)) (hz : ds.length ≤ 100000)
    (hpe : ∀ {to : TE} {t : TA}, PE X a to → PA X [e] t → PE X (.Call (.Attribute a "append" apos) [e] [] pos) (tBM X.K "list" rAppend to t) := by exact fun h1 h2 => pe_bm PySem.F.plainAttrs_list PySem.F.slot_list_append PySem.F.type_list_append mt_append h1 h2)
    (hst : starEach [e] X.env = (false, eval e X.env) :: starEach [] X.env := by rfl) : AE X (.Call (.Attribute a "append" apos) [e] [] pos) fs f1 (.val .none) := by
  refine ⟨ho.ow, fun T σ H Q E q => bE_of (hpe best (pa_cons pe pa_nil hst)) (ho.run T σ H _ E fun ov H1 k1 p1 => ?_)⟩
  obtain ⟨x, rfl, n, E1, vs, hl, qv⟩ := p1
  refine ⟨.inl ⟨rfl, _, SqL.of hl⟩, x, vs, v, rfl, rfl, hl, by rw [qv.length]; exact Nat.lt_of_le_of_lt hz (by rw [sizeLine_eq]; decide), ?_⟩
  have sm : Same (hide H1 x) (upd H1 x (.lst (vs ++ [v]))) := fun b o z => by
    by_cases e : b = x
    · subst e; rw [hide_self] at z; cases z
    · rw [hide_ne e] at z; rw [upd_ne e]; exact z
  refine q _ _ (fun b o nb z => ?_) ⟨E1.keep sm, .non⟩
  have e : b ≠ x := fun e => by rw [e, n] at z; cases z
  rw [upd_ne e]
  exact k1 b o nb z
/-- tuple(xs), xs a list -/
theorem ae_tupOf (ha : AE X a fs f1 r) (e : r.d = .list ds) (hg : Gl X "tuple") (hm : X.mg "tuple" = none) (he : starEach [a] X.env = (false, eval a X.env) :: starEach [] X.env := by rfl) : AE X (.Call (.Name "tuple" p) [a] [] pos) fs f1 (.val (.tuple ds)) := by
  refine ⟨ha.ow, fun T σ H Q E q => bE_of (pe_callTy call_tuple_of hg hm (by decide +kernel) (pa_cons best pa_nil he) (he := he)) (ha.run T σ H _ E fun x H1 k1 p1 => ?_)⟩
  obtain ⟨g, vs, ex, sq, qv⟩ := p1.list e
  exact ⟨g, vs, by rw [ex], .inl ⟨sq, fun p n => q _ _ (k1.trans (Kp.of (same_upd n))) (po_tup (H := H) p1.er n qv)⟩⟩
/-! ### text.endswith("..") -/
def endsB (l : List Nat) (c : Nat) : Bool := decide (l.getLast? = some c)
theorem endsS (l : List Nat) (c : Nat) : Txt.endswith (SX.S l) (SX.S [c]) = endsB l c := by
  unfold Txt.endswith
  rw [SX.S_len, SX.S_len]
  unfold endsB
  rcases List.eq_nil_or_concat l with rfl | ⟨r, x, rfl⟩
  · simp
  · have e : Builtin.Str.subAt (SX.S (r ++ [x])) (SX.S [c]) ((r ++ [x]).length - ([c] : List Nat).length) = decide (x = c) := by
      unfold Builtin.Str.subAt
      rw [SX.S_len, Bool.eq_iff_iff, beq_iff_eq, decide_eq_true_iff, ← Array.toList_inj]
      simp [SX.S]
    rw [List.concat_eq_append, e]
    simp
theorem ae_ends {ch : Nat} (ha : AE X a fs f1 (.val (sD l))) (hb : AE X b f1 f2 (.val (sD [ch]))) (hs : starEach [b] X.env = [(false, eval b X.env)] := by rfl)
    (hbase : attributeBase a "endswith" X.env (eval a X.env) = eval a X.env := by rfl) (hline : (apos.endLine == pos.line) = true := by rfl) : AE X (.Call (.Attribute a "endswith" apos) [b] [] pos) fs f2 (.val (.bool (endsB l ch))) := by
  refine ⟨hb.ow.trans ha.ow, fun T σ H Q E q => bE_of (pe_m1 PySem.F.slot_str_endswith PySem.F.type_str_endswith mt_endswith best best hs hbase hline) (ha.run T σ H _ E fun x H1 k1 p1 => ⟨⟨_, p1.2.str_inv⟩, hb.run T σ H1 _ p1.er fun y H2 k2 p2 => ?_⟩)⟩
  have k2' : Kp H1 H2 (ownL fs) := by rw [ha.ow] at k2; exact k2
  refine ⟨_, _, p1.2.str_inv, by rw [p2.2.str_inv], ?_⟩
  rw [endsS]
  exact q _ H2 (k1.trans k2') ⟨p2.1, .bl _⟩
end
end A3
namespace A3
open PySem PySem.Spec PyProof.Rows L2

/-! ### tables of data -/
abbrev Tb := List (Key × PyData)
def dE (t : Tb) : List (PyData × PyData) := t.map fun p => (kD p.1, p.2)
def dD (t : Tb) : PyData := .dict (dE t)
def gV : Tb → Key → Option PyData
  | [], _ => none
  | p :: r, k => if p.1 = k then some p.2 else gV r k
def gKs (t : Tb) : List Key := t.map (·.1)
def gP (t : Tb) (k : Key) (d : PyData) : Tb := if (gV t k).isSome = true then t.map (fun p => if p.1 = k then (p.1, d) else p) else t ++ [(k, d)]
def gX (t : Tb) (k : Key) : Tb := t.filter fun p => decide (p.1 ≠ k)
abbrev kS (l : List Nat) : Key := .inr ⟨l.toArray⟩
abbrev kI (i : Int) : Key := .inl i
theorem kD_inj {a b : Key} (h : kD a = kD b) : a = b := by
  cases a with
  | inl i => cases b with
    | inl j => injection h with h; rw [h]
    | inr y => cases h
  | inr x => cases b with
    | inl j => cases h
    | inr y => injection h with h; rw [h]
theorem gV_mem {t : Tb} {k : Key} : (gV t k).isSome = true ↔ k ∈ gKs t := by
  induction t with
  | nil => simp [gV, gKs]
  | cons p r ih =>
    unfold gKs at ih ⊢
    by_cases e : p.1 = k
    · simp [gV, e]
    · have e2 : ¬ k = p.1 := fun z => e z.symm
      simp only [gV, if_neg e, List.map_cons, List.mem_cons, ih, e2, false_or]
theorem gV_none {t : Tb} {k : Key} : gV t k = none ↔ k ∉ gKs t := by
  rw [← gV_mem]
  cases gV t k <;> simp
theorem gV_map (t : Tb) (k j : Key) (d : PyData) : gV (t.map (fun p => if p.1 = k then (p.1, d) else p)) j = (gV t j).map fun x => if k = j then d else x := by
  induction t with
  | nil => rfl
  | cons p r ih =>
    rw [List.map_cons]
    by_cases e : p.1 = k
    · rw [if_pos e]
      by_cases q : p.1 = j
      · simp [gV, q, e.symm.trans q]
      · simp only [gV, if_neg q, ih]
    · rw [if_neg e]
      by_cases q : p.1 = j
      · have n : ¬ k = j := fun z => e (q.trans z.symm)
        simp [gV, q, n]
      · simp only [gV, if_neg q, ih]
theorem gV_app (t : Tb) (k j : Key) (d : PyData) : gV (t ++ [(k, d)]) j = (gV t j).or (if k = j then some d else none) := by
  induction t with
  | nil => simp [gV]
  | cons p r ih =>
    rw [List.cons_append]
    by_cases q : p.1 = j
    · simp [gV, q]
    · simp only [gV, if_neg q, ih]
theorem gV_P (t : Tb) (k j : Key) (d : PyData) : gV (gP t k d) j = if k = j then some d else gV t j := by
  unfold gP
  by_cases m : (gV t k).isSome = true
  · rw [if_pos m, gV_map]
    by_cases q : k = j
    · rw [if_pos q]
      have h := m
      rw [q] at h
      obtain ⟨x, hx⟩ := Option.isSome_iff_exists.mp h
      rw [hx]; simp [q]
    · rw [if_neg q]
      cases gV t j <;> simp [q]
  · rw [if_neg m, gV_app]
    by_cases q : k = j
    · rw [if_pos q, ← q, Option.not_isSome_iff_eq_none.mp m]; simp
    · rw [if_neg q, if_neg q]; simp
theorem gV_X (t : Tb) (k j : Key) : gV (gX t k) j = if k = j then none else gV t j := by
  induction t with
  | nil => simp [gX, gV]
  | cons p r ih =>
    unfold gX at ih ⊢
    by_cases e : p.1 = k
    · rw [List.filter_cons_of_neg (by simp [e]), ih]
      by_cases q : k = j
      · rw [if_pos q, if_pos q]
      · rw [if_neg q, if_neg q]; simp [gV, e, q]
    · rw [List.filter_cons_of_pos (by simp [e])]
      by_cases q : p.1 = j
      · have n : ¬ k = j := fun z => e (q.trans z.symm)
        simp [gV, q, n]
      · simp only [gV, if_neg q, ih]
theorem gKs_P (t : Tb) (k : Key) (d : PyData) : gKs (gP t k d) = if (gV t k).isSome = true then gKs t else gKs t ++ [k] := by
  unfold gP
  by_cases m : (gV t k).isSome = true
  · rw [if_pos m, if_pos m]
    unfold gKs
    rw [List.map_map]
    refine List.map_congr_left fun p _ => ?_
    show (if p.1 = k then (p.1, d) else p).1 = p.1
    split <;> rfl
  · rw [if_neg m, if_neg m]; simp [gKs]
theorem gP_len (t : Tb) (k : Key) (d : PyData) : (gP t k d).length ≤ t.length + 1 := by
  unfold gP
  split <;> simp
theorem gX_len (t : Tb) (k : Key) : (gX t k).length ≤ t.length := List.length_filter_le _ _
/-- a table of values stands for one of data -/
inductive RK (K : PySem.W.Frag) (H : Hp) : List (Key × V) → Tb → Prop
  | nil : RK K H [] []
  | cons {k : Key} {v : V} {d : PyData} {kvs : List (Key × V)} {t : Tb} : Rp K H v d → RK K H kvs t → RK K H ((k, v) :: kvs) ((k, d) :: t)
section
variable {K : PySem.W.Frag} {H H' : Hp} {kvs : List (Key × V)} {t : Tb} {v : V} {d : PyData} {k : Key}
theorem rk_of : ∀ {t : Tb} {kvs : List (Key × V)}, RpKV K H kvs (dE t) → RK K H kvs t
  | [], _, .nil => .nil
  | (k, d) :: t, _, h => by
    unfold dE at h
    rw [List.map_cons] at h
    generalize e : (kD (k, d).1, (k, d).2) = x at h
    cases h with
    | @cons k2 v d2 kvs es r rr =>
      injection e with e1 e2
      have e3 : k = k2 := kD_inj e1
      subst e3
      cases e2
      exact .cons r (rk_of rr)
theorem RK.kv (h : RK K H kvs t) : RpKV K H kvs (dE t) := by
  induction h with
  | nil => exact .nil
  | cons r _ ih => exact .cons r ih
theorem RK.lk (e : LkR H H') (h : RK K H kvs t) : RK K H' kvs t := rk_of (h.kv.lk e)
theorem RK.mono (e : Same H H') (h : RK K H kvs t) : RK K H' kvs t := h.lk (same_lk e)
theorem RK.len (h : RK K H kvs t) : kvs.length = t.length := by
  induction h with
  | nil => rfl
  | cons _ _ ih => exact congrArg (· + 1) ih
theorem RK.val (h : RK K H kvs t) (k : Key) : (valV kvs k = none ∧ gV t k = none) ∨ ∃ v d, valV kvs k = some v ∧ gV t k = some d ∧ Rp K H v d := by
  induction h with
  | nil => exact .inl ⟨rfl, rfl⟩
  | @cons k2 v d kvs t r _ ih =>
    by_cases e : k2 = k
    · exact .inr ⟨v, d, valV_pos e, by simp [gV, e], r⟩
    · rw [valV_neg (p := (k2, v)) e]
      have : gV ((k2, d) :: t) k = gV t k := by simp [gV, e]
      rw [this]; exact ih
theorem RK.some (h : RK K H kvs t) (e : gV t k = Option.some d) : ∃ v, valV kvs k = Option.some v ∧ Rp K H v d := by
  rcases h.val k with ⟨_, h2⟩ | ⟨v, d2, h1, h2, r⟩
  · rw [h2] at e; cases e
  · rw [h2] at e; cases e; exact ⟨v, h1, r⟩
theorem RK.none (h : RK K H kvs t) (e : gV t k = Option.none) : valV kvs k = Option.none := by
  rcases h.val k with ⟨h1, _⟩ | ⟨v, d2, _, h2, _⟩
  · exact h1
  · rw [h2] at e; cases e
theorem RK.isSome (h : RK K H kvs t) : (valV kvs k).isSome = (gV t k).isSome := by
  rcases h.val k with ⟨h1, h2⟩ | ⟨v, d2, h1, h2, _⟩ <;> rw [h1, h2] <;> rfl
theorem rk_map (h : RK K H kvs t) (r : Rp K H v d) (k : Key) : RK K H (kvs.map fun kv => if kv.1 = k then (kv.1, v) else kv) (t.map fun p => if p.1 = k then (p.1, d) else p) := by
  induction h with
  | nil => exact .nil
  | @cons k2 v2 d2 kvs t r2 _ ih =>
    rw [List.map_cons, List.map_cons]
    by_cases e : k2 = k
    · rw [if_pos e, if_pos e]; exact .cons r ih
    · rw [if_neg e, if_neg e]; exact .cons r2 ih
theorem rk_app (h : RK K H kvs t) (r : Rp K H v d) (k : Key) : RK K H (kvs ++ [(k, v)]) (t ++ [(k, d)]) := by
  induction h with
  | nil => exact .cons r .nil
  | cons r2 _ ih => exact .cons r2 ih
theorem RK.put (h : RK K H kvs t) (r : Rp K H v d) (k : Key) : RK K H (putK kvs k v) (gP t k d) := by
  have e : (kvs.any fun kv => decide (kv.1 = k)) = (gV t k).isSome := by rw [valV_any, h.isSome]
  unfold putK gP
  rw [e]
  by_cases m : (gV t k).isSome = true
  · rw [if_pos m, if_pos m]; exact rk_map h r k
  · rw [if_neg m, if_neg m]; exact rk_app h r k
theorem RK.drop (h : RK K H kvs t) (k : Key) : RK K H (dropK kvs k) (gX t k) := by
  unfold dropK gX
  induction h with
  | nil => exact .nil
  | @cons k2 v2 d2 kvs t r2 _ ih =>
    by_cases e : k2 = k
    · rw [List.filter_cons_of_neg (by simp [e]), List.filter_cons_of_neg (by simp [e])]; exact ih
    · rw [List.filter_cons_of_pos (by simp [e]), List.filter_cons_of_pos (by simp [e])]; exact .cons r2 ih
theorem RK.keys (h : RK K H kvs t) : kvs.map (·.1) = gKs t := by
  induction h with
  | nil => rfl
  | cons _ _ ih => exact congrArg (_ :: ·) ih
theorem RK.get (h : RK K H kvs t) : ∀ {i : Nat} {k : Key} {v : V}, kvs[i]? = Option.some (k, v) → ∃ d, t[i]? = Option.some (k, d) ∧ Rp K H v d := by
  induction h with
  | nil => intro i k v e; simp at e
  | @cons k2 v2 d2 kvs t r2 _ ih =>
    intro i k v e
    cases i with
    | zero => cases Option.some.inj e; exact ⟨d2, rfl, r2⟩
    | succ i => exact ih (by simpa using e)
theorem rp_key (h : Rp K H v (kD k)) : v = kV k := by
  cases k with
  | inl i => exact h.int_inv
  | inr x => exact h.str_inv
theorem Rp.dct_inv (h : Rp K H v (dD t)) : ∃ a kvs, v = .ref a ∧ Rd H a (.dK kvs) ∧ RK K H kvs t := by
  unfold dD at h
  generalize e : PyData.dict (dE t) = x at h
  cases h with
  | @dct a kvs es s q =>
    injection e with e
    subst e
    exact ⟨a, kvs, rfl, s, rk_of q⟩
  | _ => cases e
theorem rp_dct {a : Addr} (h : Rd H a (.dK kvs)) (r : RK K H kvs t) : Rp K H (.ref a) (dD t) := .dct h r.kv
theorem ow_dct {S : Hp} {a : Addr} (h : Ow K S H a (dD t)) : ∃ kvs, H a = Option.some (.dK kvs) ∧ RK K S kvs t := by
  obtain ⟨kvs, h1, h2⟩ := h
  exact ⟨kvs, h1, rk_of h2⟩
theorem ow_of {S : Hp} {a : Addr} (h : H a = Option.some (.dK kvs)) (r : RK K S kvs t) : Ow K S H a (dD t) := ⟨kvs, h, r.kv⟩
/-- a dict, however it lies, a little later -/
theorem Po.dct {T : Addr → Bool} {σ : L2.St} {H0 : Hp} {fs : Fm} {r : Res} (p : Po K T σ H0 H fs v r) (E : ER K T σ H' fs) (k : Kp H H' (ownL fs)) (e : r.d = dD t) : ∃ a kvs, v = .ref a ∧ Rd H' a (.dK kvs) ∧ RK K (cut H' (tt T (ownL fs))) kvs t := by
  have val : ∀ {d : PyData}, d = dD t → Rp K (cut H (tt T (ownL fs))) v d → ∃ a kvs, v = .ref a ∧ Rd H' a (.dK kvs) ∧ RK K (cut H' (tt T (ownL fs))) kvs t := fun e q => by
    rw [e] at q
    obtain ⟨a, kvs, e1, s, q⟩ := (q.mono (k.up rfl)).dct_inv
    exact ⟨a, kvs, e1, rd_same (cut_all _ _) s, q⟩
  cases r with
  | val d => exact val e p.2
  | new d => exact val e (Po.toVal p).2
  | two d e' => cases e
  | tw d e' => cases e
  | «at» a d =>
    obtain ⟨_, rfl, i, hi⟩ := p
    cases (show d = dD t from e)
    obtain ⟨kvs, h1, h2⟩ := ow_dct (E.own hi).2
    exact ⟨a, kvs, rfl, .inl h1, h2⟩
end

/-! ### rules: {}, [], in, get, pop, store, != {} -/
theorem sameUpd {H : Hp} {p : Addr} {o : HO} (n : H p = none) : Same H (upd H p o) := same_upd n
section
variable {X : Cx} {a b c e e2 o ie tg : Expr} {rest body : List Stmt} {cf : Cf} {D : D3} {fs f1 f2 f3 : Fm} {d d1 d2 : PyData} {ds : List PyData} {r r1 r2 : Res} {pos pos' apos p : Pos} {T : Addr → Bool} {σ : L2.St} {H : Hp} {l : Addr} {t t2 : Tb} {k : Key} {x : Str}
theorem po_dct {K : PySem.W.Frag} {H1 : Hp} {p : Addr} {kvs : List (Key × V)} (E : ER K T σ H1 f1) (k : Kp H H1 (ownL fs)) (e : ownL f1 = ownL fs) (n : H1 p = none) (q : RK K (cut H1 (tt T (ownL f1))) kvs t) : Po K T σ H (upd H1 p (.dK kvs)) f1 (.ref p) (.new (dD t)) := by
  have sm : Same H1 (hide (upd H1 p (.dK kvs)) p) := same_hide (same_upd n) n
  exact ⟨p, rfl, none_back E k e n, E.keep sm, ow_of upd_same (q.mono (cut_same fun b o e z => ⟨e, sm b o z⟩))⟩
theorem ae_dnew : AE X (.Dict [] [] pos) fs fs (.new (dD [])) :=
  ⟨rfl, fun T σ H Q E q => bE_of pe_dnewK fun p n => q _ _ (Kp.of (same_upd n)) (po_dct (fs := fs) E (Kp.refl _ _) rfl n .nil)⟩
/-- d[k], it is there -/
theorem ae_dget (hu : X.A.units + 1 < cLine) (ho : AE X a fs f1 r) (hi : AE X b f1 f1 (.val (kD k))) (e : r.d = dD t) (hg : gV t k = some d) (hs : NoSl b := by intro _ _; rfl) : AE X (.Subscript a b pos) fs f1 (.val d) := by
  refine ⟨ho.ow, fun T σ H Q E q => bE_of (pe_dget hu best best hs) (ho.run T σ H _ E fun x H1 k1 p1 => hi.run T σ H1 _ p1.er fun y H2 k2 p2 => ?_)⟩
  obtain ⟨g, kvs, rfl, s, rk⟩ := p1.dct p2.1 k2 e
  obtain ⟨v, hv, rv⟩ := rk.some hg
  have k2' : Kp H1 H2 (ownL fs) := by rw [ho.ow] at k2; exact k2
  exact ⟨g, v, rfl, .inl ⟨kvs, k, s, rp_key p2.2, hv.symm⟩, q v H2 (k1.trans k2') ⟨p2.1, rv⟩⟩
theorem din_core {T : Addr → Bool} {σ : L2.St} {H H1 H2 : Hp} {y x : V} {Q : Bool → Hp → Prop} (k1 : Kp H H1 (ownL fs)) (ho : ownL f1 = ownL fs) (k2 : Kp H1 H2 (ownL f1)) (p1 : Po X.K T σ H H1 f1 y (.val (kD k))) (p2 : Po X.K T σ H1 H2 f2 x r2) (e : r2.d = dD t) (hw : ownL f2 = ownL f1)
    (q : Kp H H2 (ownL fs) → ER X.K T σ H2 f2 → Q (gV t k).isSome H2) : ∃ (g : Addr) (o : Option V), x = .ref g ∧ DGet H2 g y o ∧ Q o.isSome H2 := by
  obtain ⟨g, kvs, rfl, s, rk⟩ := p2.dct p2.er (Kp.refl _ _) e
  have k2' : Kp H1 H2 (ownL fs) := by rw [ho] at k2; exact k2
  exact ⟨g, _, rfl, .inl ⟨kvs, k, s, rp_key p1.2, rfl⟩, by rw [rk.isSome]; exact q (k1.trans k2') p2.er⟩
theorem ae_din (hu : X.A.units + 1 < cLine) (hb : AE X b fs f1 (.val (kD k))) (ha : AE X a f1 f2 r2) (e : r2.d = dD t) (hm : behindInMarks .In a = false := by rfl) : AE X (.Compare b [.In] [a] pos) fs f2 (.val (.bool (gV t k).isSome)) :=
  ⟨ha.ow.trans hb.ow, fun T σ H Q E q => bE_of (pe_cmp (pc_din hu best best) hm) (hb.run T σ H _ E fun y H1 k1 p1 => ha.run T σ H1 _ p1.er fun x H2 k2 p2 => din_core (Q := fun b h => Q (.bl b) h) k1 hb.ow k2 p1 p2 e ha.ow fun k3 E3 => q _ H2 k3 ⟨E3, .bl _⟩)⟩
theorem at_din (hu : X.A.units + 1 < cLine) (hb : AE X b fs f1 (.val (kD k))) (ha : AE X a f1 f2 r2) (e : r2.d = dD t) (hm : behindInMarks .In a = false := by rfl) : AT X (.Compare b [.In] [a] pos) fs f2 (gV t k).isSome :=
  ⟨ha.ow.trans hb.ow, fun T σ H Q E q => bT_of (pt_cmp (pc_din hu best best) hm) (hb.run T σ H _ E fun y H1 k1 p1 => ha.run T σ H1 _ p1.er fun x H2 k2 p2 => din_core (Q := fun b h => ∃ c : Bool, V.bl b = .bl c ∧ Q c h) k1 hb.ow k2 p1 p2 e ha.ow fun k3 E3 => ⟨_, rfl, q H2 k3 E3⟩)⟩
theorem ae_dnin (hu : X.A.units + 1 < cLine) (hb : AE X b fs f1 (.val (kD k))) (ha : AE X a f1 f2 r2) (e : r2.d = dD t) (hm : behindInMarks .NotIn a = false := by rfl) : AE X (.Compare b [.NotIn] [a] pos) fs f2 (.val (.bool (!(gV t k).isSome))) :=
  ⟨ha.ow.trans hb.ow, fun T σ H Q E q => bE_of (pe_cmp (pc_dnotin hu best best) hm) (hb.run T σ H _ E fun y H1 k1 p1 => ha.run T σ H1 _ p1.er fun x H2 k2 p2 => din_core (Q := fun b h => Q (.bl !b) h) k1 hb.ow k2 p1 p2 e ha.ow fun k3 E3 => q _ H2 k3 ⟨E3, .bl _⟩)⟩
theorem at_dnin (hu : X.A.units + 1 < cLine) (hb : AE X b fs f1 (.val (kD k))) (ha : AE X a f1 f2 r2) (e : r2.d = dD t) (hm : behindInMarks .NotIn a = false := by rfl) : AT X (.Compare b [.NotIn] [a] pos) fs f2 (!(gV t k).isSome) :=
  ⟨ha.ow.trans hb.ow, fun T σ H Q E q => bT_of (pt_cmp (pc_dnotin hu best best) hm) (hb.run T σ H _ E fun y H1 k1 p1 => ha.run T σ H1 _ p1.er fun x H2 k2 p2 => din_core (Q := fun b h => ∃ c : Bool, V.bl (!b) = .bl c ∧ Q c h) k1 hb.ow k2 p1 p2 e ha.ow fun k3 E3 => ⟨_, rfl, q H2 k3 E3⟩)⟩
/-- d.get(k) -/
theorem ae_dget1 (hu : X.A.units + 1 < cLine) (ho : AE X a fs f1 r) (hi : AE X b f1 f1 (.val (kD k))) (e : r.d = dD t) (m : M1 X a "get" apos b pos := by exact ⟨rfl, rfl, rfl, rfl⟩) : AE X (.Call (.Attribute a "get" apos) [b] [] pos) fs f1 (.val ((gV t k).getD .none)) := by
  refine ⟨ho.ow, fun T σ H Q E q => bE_of (pe_dget1 hu best best m) (ho.run T σ H _ E fun x H1 k1 p1 => ?_)⟩
  obtain ⟨g, kvs1, rfl, s1, _⟩ := p1.dct p1.er (Kp.refl _ _) e
  refine ⟨g, rfl, .inl ⟨kvs1, s1⟩, hi.run T σ H1 _ p1.er fun y H2 k2 p2 => ?_⟩
  obtain ⟨g2, kvs, e2, s, rk⟩ := p1.dct p2.1 k2 e
  cases e2
  have k2' : Kp H1 H2 (ownL fs) := by rw [ho.ow] at k2; exact k2
  refine ⟨valV kvs k, .inl ⟨kvs, k, s, rp_key p2.2, rfl⟩, q _ H2 (k1.trans k2') ⟨p2.1, ?_⟩⟩
  rcases rk.val k with ⟨h1, h2⟩ | ⟨v, d2, h1, h2, rr⟩
  · rw [h1, h2]; exact .non
  · rw [h1, h2]; exact rr
/-- d.get(k, e) -/
theorem ae_dget2 (hu : X.A.units + 1 < cLine) (ho : AE X a fs f1 r) (hi : AE X b f1 f1 (.val (kD k))) (hx : AE X c f1 f1 (.val d2)) (e : r.d = dD t) (m : M2 X a "get" apos b c pos := by exact ⟨rfl, rfl, rfl, rfl⟩) : AE X (.Call (.Attribute a "get" apos) [b, c] [] pos) fs f1 (.val ((gV t k).getD d2)) := by
  refine ⟨ho.ow, fun T σ H Q E q => bE_of (pe_dget2 hu best best best m) (ho.run T σ H _ E fun x H1 k1 p1 => ?_)⟩
  obtain ⟨g, kvs1, rfl, s1, _⟩ := p1.dct p1.er (Kp.refl _ _) e
  refine ⟨g, rfl, .inl ⟨kvs1, s1⟩, hi.run T σ H1 _ p1.er fun y H2 k2 p2 => hx.run T σ H2 _ p2.1 fun z H3 k3 p3 => ?_⟩
  have k13 : Kp H1 H3 (ownL f1) := k2.trans k3
  obtain ⟨g2, kvs, e2, s, rk⟩ := p1.dct p3.1 k13 e
  cases e2
  have k2' : Kp H1 H3 (ownL fs) := by rw [ho.ow] at k13; exact k13
  refine ⟨valV kvs k, .inl ⟨kvs, k, s, rp_key p2.2, rfl⟩, q _ H3 (k1.trans k2') ⟨p3.1, ?_⟩⟩
  rcases rk.val k with ⟨h1, h2⟩ | ⟨v, d2, h1, h2, rr⟩
  · rw [h1, h2]; exact p3.2
  · rw [h1, h2]; exact rr
theorem small_line {n : Nat} (h : n ≤ 100000) : n < sizeLine := Nat.lt_of_le_of_lt h (by rw [sizeLine_eq]; decide)
/-- an owned dict is written -/
theorem put_dct {K : PySem.W.Frag} {kvs : List (Key × V)} {n : Nat} (E : ER K T σ H fs) (hn : fs[n]? = some (.own l (dD t))) (q : RK K (cut H (tt T (ownL fs))) kvs t2) : ER K T σ (upd H l (.dK kvs)) (fs.set n (.own l (dD t2))) ∧ Same (cut H (tt T (ownL fs))) (cut (upd H l (.dK kvs)) (tt T (ownL fs))) := by
  have il : l ∈ ownL fs := mem_own hn
  have up : Same (cut H (tt T (ownL fs))) (cut (upd H l (.dK kvs)) (tt T (ownL fs))) := cut_same fun b o e z => ⟨e, by rw [upd_ne (fun q => (tt_false.mp e).2 (by rw [q]; exact il))]; exact z⟩
  exact ⟨E.put hn (fun b o nb h => by rw [upd_ne nb]; exact h) (ow_of upd_same (q.mono up)), up⟩
theorem kp_upd {o : HO} (il : l ∈ ownL fs) : Kp H (upd H l o) (ownL fs) := fun b u nb h => by rw [upd_ne (fun z => nb (by rw [z]; exact il))]; exact h
/-- d.pop(k), it is there -/
theorem ae_dpop (n : Nat) (ho : AE X a fs fs (.at l (dD t))) (hi : AE X b fs fs (.val (kD k))) (hg : gV t k = some d) (hn : fs[n]? = some (.own l (dD t)) := by rfl) (m : M1 X a "pop" apos b pos := by exact ⟨rfl, rfl, rfl, rfl⟩) : AE X (.Call (.Attribute a "pop" apos) [b] [] pos) fs (fs.set n (.own l (dD (gX t k)))) (.val d) := by
  refine ⟨ownL_put hn, fun T σ H Q E q => bE_of (pe_dpop1 best best m) (ho.run T σ H _ E fun x H1 k1 p1 => ?_)⟩
  obtain ⟨E1, rfl, _⟩ := p1
  obtain ⟨kvs1, h1, _⟩ := ow_dct (E1.own hn).2
  refine ⟨l, rfl, .inl ⟨kvs1, .inl h1⟩, hi.run T σ H1 _ E1 fun y H2 k2 p2 => ?_⟩
  obtain ⟨kvs, h2, rk⟩ := ow_dct (p2.1.own hn).2
  obtain ⟨v, hv, rv⟩ := rk.some hg
  obtain ⟨E3, up⟩ := put_dct p2.1 hn (rk.drop k)
  refine ⟨kvs, k, v, h2, rp_key p2.2, hv, q v _ ((k1.trans k2).trans (kp_upd (mem_own hn))) ⟨E3, ?_⟩⟩
  rw [ownL_put hn]; exact rv.mono up
/-- d[k] = e -/
theorem as_dset (n : Nat) (hu : X.A.units + 1 < cLine) (he : AE X e fs f1 (.val d)) (ho : AE X o f1 f1 (.at l (dD t))) (hi : AE X ie f1 f1 (.val (kD k))) (hz : t.length ≤ 100000) (hk : AS X rest cf (f1.set n (.own l (dD (gP t k d)))) D) (hn : f1[n]? = some (.own l (dD t)) := by rfl)
    (hs : swapsWith e (some (.Subscript o ie pos')) pos.line X.env = pure false := by rfl) : AS X (.Assign [.Subscript o ie pos'] e pos :: rest) cf fs D :=
  fun σ H S => bSs_of (pss_cons (ps_dput hu best best best hs) bestSs) (he.run cf.T σ H _ S.er fun v H1 k1 p1 => ho.run cf.T σ H1 _ p1.1 fun ov H2 k2 p2 => hi.run cf.T σ H2 _ p2.er fun iv H3 k3 p3 => by
    obtain ⟨_, rfl, _⟩ := p2
    obtain ⟨E3, ri⟩ := p3
    obtain ⟨kvs, hl, rk⟩ := ow_dct (E3.own hn).2
    have k23 : Kp H1 H3 (ownL f1) := k2.trans k3
    have S3' := S.step (k1.trans (by rw [he.ow] at k23; exact k23)) E3 he.ow
    have rv := p1.2.mono (k23.up rfl)
    refine ⟨l, _, rfl, .inl ⟨kvs, k, hl, rp_key ri, by rw [rk.len]; exact small_line hz, rfl⟩, hk _ _ ?_⟩
    exact S3'.step (kp_upd (mem_own hn)) (put_dct E3 hn (rk.put rv k)).1 (ownL_put hn))
/-- d.clear() -/
theorem as_dclear (n : Nat) (ho : AE X o fs fs (.at l (dD t))) (hk : AS X rest cf (fs.set n (.own l (dD []))) D) (hn : fs[n]? = some (.own l (dD t)) := by rfl) (hbase : attributeBase o "clear" X.env (eval o X.env) = eval o X.env := by rfl) (hline : (apos.endLine == p.line) = true := by rfl)
    (hs : swapsWith (.Call (.Attribute o "clear" apos) [] [] p) none pos.line X.env = pure false := by rfl) : AS X (.Expr (.Call (.Attribute o "clear" apos) [] [] p) pos :: rest) cf fs D :=
  fun σ H S => bSs_of (pss_cons (ps_expr (pe_dclear best hbase hline) hs) bestSs) (ho.run cf.T σ H _ S.er fun ov H1 k1 p1 => by
    obtain ⟨E1, rfl, _⟩ := p1
    obtain ⟨kvs, hl, rk⟩ := ow_dct (E1.own hn).2
    refine ⟨?_, l, kvs, rfl, rfl, hl, hk _ _ ?_⟩
    · exact .inr (.inr (.inl ⟨rfl, .inl ⟨_, hl⟩⟩))
    · exact (S.step k1 E1 rfl).step (kp_upd (mem_own hn)) (put_dct E1 hn .nil).1 (ownL_put hn))
/-- d == {}, d != {} -/
theorem op_neE {X : Cx} (hu : X.A.units < cLine) : OpR X (compareOp .NotEq) (fun x y H Q => ∃ a b ks, x = .ref a ∧ y = .ref b ∧ Rd H a (.dK ks) ∧ H b = some (.dK []) ∧ Q (.bl (!ks.isEmpty)) H) := by
  intro pins s σ H x y v u Q I rx ry h
  obtain ⟨a, b, ks, rfl, rfl, ea, eb, q⟩ := h
  obtain rfl : v = Value.ref a := rx
  obtain rfl : u = Value.ref b := ry
  obtain ⟨_, ya, va, ra, da⟩ := dk_rd I.hok ea
  obtain ⟨_, yb, vb, rb, db⟩ := (show ObjOk X.prog X.w H s.heap b (.dK []) from I.hok b _ eb)
  cases rb
  refine PySem.W.keq_ne (knd := mixKind X.prog X.w) (r := true) ya yb da db hu (fun hl => ?_) (fin_bl I q ?_)
  · have : va = [] := List.length_eq_zero_iff.mp hl
    subst this; exact .nil
  · cases ra <;> simp
theorem op_eqE {X : Cx} (hu : X.A.units < cLine) : OpR X (compareOp .Eq) (fun x y H Q => ∃ a b ks, x = .ref a ∧ y = .ref b ∧ Rd H a (.dK ks) ∧ H b = some (.dK []) ∧ Q (.bl ks.isEmpty) H) := by
  intro pins s σ H x y v u Q I rx ry h
  obtain ⟨a, b, ks, rfl, rfl, ea, eb, q⟩ := h
  obtain rfl : v = Value.ref a := rx
  obtain rfl : u = Value.ref b := ry
  obtain ⟨_, ya, va, ra, da⟩ := dk_rd I.hok ea
  obtain ⟨_, yb, vb, rb, db⟩ := (show ObjOk X.prog X.w H s.heap b (.dK []) from I.hok b _ eb)
  cases rb
  refine PySem.W.keq_eq (knd := mixKind X.prog X.w) (r := true) ya yb da db hu (fun hl => ?_) (fin_bl I q ?_)
  · have : va = [] := List.length_eq_zero_iff.mp hl
    subst this; exact .nil
  · cases ra <;> simp
theorem rk_empty {K : PySem.W.Frag} {kvs : List (Key × V)} (h : RK K H kvs t) : kvs.isEmpty = t.isEmpty := by cases h <;> rfl
theorem at_neE (hu : X.A.units < cLine) (ha : AE X a fs f1 r) (e : r.d = dD t) : AT X (.Compare a [.NotEq] [.Dict [] [] p] pos) fs f1 (!t.isEmpty) := by
  refine ⟨ha.ow, fun T σ H Q E q => bT_of (pt_cmpR (op_neE hu) best pe_dnewK (nomark _)) (ha.run T σ H _ E fun x H1 k1 p1 g n => ?_)⟩
  have E2 := p1.er.keep (same_upd n (o := .dK []))
  obtain ⟨g2, kvs, rfl, s, rk⟩ := p1.dct E2 (Kp.of (same_upd n)) e
  exact ⟨g2, g, kvs, rfl, rfl, s, upd_same, _, rfl, by rw [rk_empty rk]; exact q _ (k1.trans (Kp.of (same_upd n))) E2⟩
theorem at_eqE (hu : X.A.units < cLine) (ha : AE X a fs f1 r) (e : r.d = dD t) : AT X (.Compare a [.Eq] [.Dict [] [] p] pos) fs f1 t.isEmpty := by
  refine ⟨ha.ow, fun T σ H Q E q => bT_of (pt_cmpR (op_eqE hu) best pe_dnewK (nomark _)) (ha.run T σ H _ E fun x H1 k1 p1 g n => ?_)⟩
  have E2 := p1.er.keep (same_upd n (o := .dK []))
  obtain ⟨g2, kvs, rfl, s, rk⟩ := p1.dct E2 (Kp.of (same_upd n)) e
  exact ⟨g2, g, kvs, rfl, rfl, s, upd_same, _, rfl, by rw [rk_empty rk]; exact q _ (k1.trans (Kp.of (same_upd n))) E2⟩
end
end A3
namespace A3
open PySem PySem.Spec PyProof.Rows L2

/-! ### all that is owned, lent to what doesn't change it -/
mutual
def immut : PyData → Bool
  | .tuple ds => immutL ds
  | .list _ => false
  | .dict _ => false
  | .none => true
  | .bool _ => true
  | .int _ => true
  | .str _ => true
def immutL : List PyData → Bool
  | [] => true
  | d :: ds => immut d && immutL ds
end
def frzS : Slot → Slot
  | .own _ d => .dat d
  | .raw _ _ => .no
  | .mix _ _ => .no
  | s => s
def frzF (fs : Fm) : Fm := fs.map frzS
def rawM : Slot → Bool
  | .raw _ (.dK _) => true
  | .raw _ (.dT _) => true
  | .raw _ (.lst _) => true
  | .raw _ (.ins _ _ _) => true
  | .raw _ _ => false
  | _ => true
theorem frz_own : ∀ fs : Fm, ownL (frzF fs) = []
  | [] => rfl
  | .no :: r => frz_own r
  | .ref _ :: r => frz_own r
  | .dat _ :: r => frz_own r
  | .own _ _ :: r => frz_own r
  | .raw _ _ :: r => frz_own r
  | .isv _ _ :: r => frz_own r
  | .mix _ _ :: r => frz_own r
theorem rp_cutT {K : PySem.W.Frag} {S S' : Hp} (ht : ∀ a xs, S a = some (.tup xs) → S' a = some (.tup xs)) (hf : ∀ a o xs, S a = some (.frz o (.tup xs)) → S' a = some (.frz o (.tup xs))) {v : V} {d : PyData} (h : Rp K S v d) : immut d = true → Rp K S' v d :=
  Rp.rec (K := K) (H := S) (motive_1 := fun v d _ => immut d = true → Rp K S' v d) (motive_2 := fun vs ds _ => immutL ds = true → RpAll K S' vs ds) (motive_3 := fun _ _ _ => True)
    (fun _ => .non) (fun b _ => .bl b) (fun i _ => .int i) (fun x _ => .str x) (fun s q _ e => by simp [immut] at e)
    (fun s q ih e => .tup (by
      rcases s with (s | ⟨o, s⟩) | s
      · exact .inl (.inl (ht _ _ s))
      · exact .inl (.inr ⟨o, hf _ _ _ s⟩)
      · exact .inr s) (ih (by simpa [immut] using e)))
    (fun s q _ e => by simp [immut] at e)
    (fun _ => .nil) (fun _ _ a b e => by
      simp only [immutL, Bool.and_eq_true] at e
      exact .cons (a e.1) (b e.2)) trivial (fun _ _ _ _ => trivial) h
theorem rpAll_cutT {K : PySem.W.Frag} {S S' : Hp} (ht : ∀ a xs, S a = some (.tup xs) → S' a = some (.tup xs)) (hf : ∀ a o xs, S a = some (.frz o (.tup xs)) → S' a = some (.frz o (.tup xs))) : ∀ {vs : List V} {ds : List PyData}, RpAll K S vs ds → immutL ds = true → RpAll K S' vs ds
  | _, _, .nil, _ => .nil
  | _, _, .cons a b, e => by
    simp only [immutL, Bool.and_eq_true] at e
    exact .cons (rp_cutT ht hf a e.1) (rpAll_cutT ht hf b e.2)
section
variable {X : Cx} {a b c e o ie tg : Expr} {es : List Expr} {rest body : List Stmt} {cf : Cf} {D : D3} {fs f1 f2 f3 : Fm} {d d1 d2 : PyData} {ds : List PyData} {r r1 r2 : Res} {pos pos' apos p : Pos} {T : Addr → Bool} {σ : L2.St} {H H1 : Hp} {l : Addr} {t t2 : Tb} {k : Key} {x : Str}
theorem er_frzAll {K : PySem.W.Frag} (E : ER K T σ H fs) : ER K T σ H (frzF fs) := by
  have up : Same (cut H (tt T (ownL fs))) (cut H (tt T (ownL (frzF fs)))) := cut_same fun b u e z => ⟨tt_false.mpr ⟨(tt_false.mp e).1, by rw [frz_own]; simp⟩, z⟩
  refine ⟨by simpa [frzF] using E.len, fun i s h => ?_, by rw [frz_own]; exact List.nodup_nil, fun a h => by rw [frz_own] at h; simp at h, E.dom⟩
  unfold frzF at h
  rw [List.getElem?_map] at h
  obtain ⟨s0, h0, rfl⟩ := Option.map_eq_some_iff.mp h
  obtain ⟨ov, h1, h2⟩ := E.sl i s0 h0
  refine ⟨ov, h1, ?_⟩
  cases s0 with
  | own q d =>
    cases ov with
    | none => exact h2.elim
    | some v =>
      obtain ⟨rfl, w⟩ := h2
      obtain ⟨u, hu⟩ := w.there
      have tq : T q = false := E.out q (mem_own h0)
      refine Ow.rp (S := cut H (tt T (ownL fs))) up (w.mono (fun _ _ z => z) ?_)
      rw [hu]; exact cut_of (tt_false.mpr ⟨tq, by rw [frz_own]; simp⟩) hu
  | raw q u => cases ov <;> trivial
  | mix q u => cases ov <;> trivial
  | no => exact h2.mono up fun _ z => by cases z
  | ref q => exact h2.mono up fun _ z => by cases z
  | dat d => exact h2.mono up fun _ z => by cases z
  | isv v d => exact h2.mono up fun _ z => by cases z
/-- tuples are never owned -/
theorem tup_free {K : PySem.W.Frag} (E : ER K T σ H fs) (rm : fs.all rawM = true) {g : Addr} (h : (∃ xs, H g = some (.tup xs)) ∨ ∃ o xs, H g = some (.frz o (.tup xs))) : g ∉ ownL fs := fun m => by
  obtain ⟨i, s, hi, eg⟩ := mem_ownL.mp m
  have hm := List.all_eq_true.mp rm s (List.mem_of_getElem? hi)
  obtain ⟨ov, _, h2⟩ := E.sl i s hi
  cases s with
  | own q d =>
    cases Option.some.inj eg
    cases ov with
    | none => exact h2.elim
    | some v =>
      cases d with
      | list ds => obtain ⟨vs, h3, _⟩ := h2.2; rcases h with ⟨xs, h⟩ | ⟨o, xs, h⟩ <;> (rw [h3] at h; cases h)
      | dict ds => obtain ⟨vs, h3, _⟩ := h2.2; rcases h with ⟨xs, h⟩ | ⟨o, xs, h⟩ <;> (rw [h3] at h; cases h)
      | _ => exact h2.2.elim
  | raw q u =>
    cases Option.some.inj eg
    cases ov with
    | none => exact h2.elim
    | some v =>
      have h3 := h2.2
      rcases h with ⟨xs, h⟩ | ⟨o, xs, h⟩ <;> (rw [h3] at h; cases h; cases hm)
  | mix q u =>
    cases Option.some.inj eg
    cases ov with
    | none => exact h2.elim
    | some v =>
      cases u with
      | ins C fs => obtain ⟨dx, vs, h3, _⟩ := h2.2; rcases h with ⟨xs, h⟩ | ⟨o, xs, h⟩ <;> (rw [h3] at h; cases h)
      | dct fs => obtain ⟨vs, h3, _⟩ := h2.2; rcases h with ⟨xs, h⟩ | ⟨o, xs, h⟩ <;> (rw [h3] at h; cases h)
      | seq fs => obtain ⟨vs, h3, _⟩ := h2.2; rcases h with ⟨xs, h⟩ | ⟨o, xs, h⟩ <;> (rw [h3] at h; cases h)
  | _ => cases eg
theorem tup_down {K : PySem.W.Frag} (E : ER K T σ H fs) (rm : fs.all rawM = true) (H2 : Hp) (hs : ∀ b u, H2 b = some u → H b = some u) : (∀ a xs, cut H2 (tt T (ownL (frzF fs))) a = some (.tup xs) → cut H2 (tt T (ownL fs)) a = some (.tup xs)) ∧ (∀ a o xs, cut H2 (tt T (ownL (frzF fs))) a = some (.frz o (.tup xs)) → cut H2 (tt T (ownL fs)) a = some (.frz o (.tup xs))) := by
  constructor
  · intro a xs h
    obtain ⟨e1, e2⟩ := cut_some h
    exact cut_of (tt_false.mpr ⟨(tt_false.mp e1).1, tup_free E rm (.inl ⟨xs, hs _ _ e2⟩)⟩) e2
  · intro a o xs h
    obtain ⟨e1, e2⟩ := cut_some h
    exact cut_of (tt_false.mpr ⟨(tt_false.mp e1).1, tup_free E rm (.inr ⟨o, xs, hs _ _ e2⟩)⟩) e2
theorem same_frz (k : Kp H H1 (ownL (frzF fs))) : Same H H1 := fun b o z => k b o (by rw [frz_own]; simp) z
theorem at_lendA {bb : Bool} (h : AT X e (frzF fs) (frzF fs) bb) : AT X e fs fs bb :=
  ⟨rfl, fun T σ H Q E k => h.run T σ H Q (er_frzAll E) fun H1 k1 E1 => k H1 (Kp.of (same_frz k1)) (E.keep (same_frz k1))⟩
theorem ae_lendA (h : AE X e (frzF fs) (frzF fs) (.val d)) (im : immut d = true := by rfl) (rm : fs.all rawM = true := by rfl) : AE X e fs fs (.val d) := by
  refine ⟨rfl, fun T σ H Q E k => h.run T σ H Q (er_frzAll E) fun v H1 k1 p1 => ?_⟩
  have E1 := E.keep (same_frz k1)
  obtain ⟨q1, q2⟩ := tup_down E1 rm H1 fun _ _ z => z
  exact k v H1 (Kp.of (same_frz k1)) ⟨E1, rp_cutT q1 q2 p1.2 im⟩
theorem ae_lendN (h : AE X e (frzF fs) (frzF fs) (.new (.list ds))) (im : immutL ds = true := by rfl) (rm : fs.all rawM = true := by rfl) : AE X e fs fs (.new (.list ds)) := by
  refine ⟨rfl, fun T σ H Q E k => h.run T σ H Q (er_frzAll E) fun v H1 k1 p1 => ?_⟩
  obtain ⟨g, rfl, n, E2, vs, h3, h4⟩ := p1
  have sm := same_frz k1
  have E1 := E.keep sm
  have sh : Same H (hide H1 g) := same_hide sm n
  obtain ⟨q1, q2⟩ := tup_down E1 rm (hide H1 g) (hide_same H1 g)
  exact k _ H1 (Kp.of sm) ⟨g, rfl, n, E.keep sh, vs, h3, rpAll_cutT q1 q2 h4 im⟩
/-! ### a walk over a dict, which is locked meanwhile -/
def lockH (H0 : Hp) (d : Addr) (u : HO) : Hp := fun b => if b = d then (H0 b).map fun _ => u else H0 b
theorem lockH_ne {H0 : Hp} {d b : Addr} {u : HO} (h : b ≠ d) : lockH H0 d u b = H0 b := by unfold lockH; rw [if_neg h]
theorem lockH_none {H0 : Hp} {d b : Addr} {u : HO} : lockH H0 d u b = none ↔ H0 b = none := by
  unfold lockH
  by_cases e : b = d
  · rw [if_pos e]; cases H0 b <;> simp
  · rw [if_neg e]
theorem er_lk {K : PySem.W.Frag} {H' : Hp} {g : Addr} (E : ER K T σ H fs) (k : ∀ b, b ≠ g → H' b = H b) (n : g ∉ ownL fs) (lk : ∀ t : Addr → Bool, LkR (cut H t) (cut H' t)) (th : H' g ≠ none) : ER K T σ H' fs where
  len := E.len
  sl := fun i s h => by
    obtain ⟨ov, h1, h2⟩ := E.sl i s h
    refine ⟨ov, h1, h2.lk (lk _) fun a e => k a fun z => ?_⟩
    exact n (by rw [← z]; exact mem_ownL.mpr ⟨i, s, h, e⟩)
  nd := E.nd
  out := E.out
  dom := fun b h => by
    by_cases z : b = g
    · rw [z]; exact th
    · rw [k b z]; exact E.dom b h
theorem lk_lock {g : Addr} {kvs : List (Key × V)} {od : Obj} (h : H g = some (.dK kvs)) (t : Addr → Bool) : LkR (cut H t) (cut (upd H g (.frz od (.dK kvs))) t) := fun b o q => by
  obtain ⟨e1, e2⟩ := cut_some q
  by_cases z : b = g
  · subst z
    rw [h] at e2; cases e2
    exact .inr (.inl ⟨kvs, od, rfl, cut_of e1 upd_same⟩)
  · exact .inl (cut_of e1 (by rw [upd_ne z]; exact e2))
theorem lk_unlock {g : Addr} {kvs : List (Key × V)} {od : Obj} (h : H g = some (.frz od (.dK kvs))) (t : Addr → Bool) : LkR (cut H t) (cut (upd H g (.dK kvs)) t) := fun b o q => by
  obtain ⟨e1, e2⟩ := cut_some q
  by_cases z : b = g
  · subst z
    rw [h] at e2; cases e2
    exact .inr (.inr ⟨kvs, od, rfl, cut_of e1 upd_same⟩)
  · exact .inl (cut_of e1 (by rw [upd_ne z]; exact e2))
def lockC (c : Cf) (H : Hp) (fs : Fm) (g : Addr) (u : HO) : Cf := { c with H0 := lockH c.H0 g u, G := cut (upd H g u) fun b => decide (b ∈ ownL fs) }
theorem lockG {g b : Addr} {u o : HO} (h : b ∉ ownL fs) (e : upd H g u b = some o) : (lockC cf H fs g u).G b = some o :=
  show cut (upd H g u) (fun b => decide (b ∈ ownL fs)) b = some o from cut_of (T := fun b => decide (b ∈ ownL fs)) (decide_eq_false h) e
theorem S3.lock {K : PySem.W.Frag} {g : Addr} {kvs : List (Key × V)} (S : S3 K cf σ H fs) (h : H g = some (.dK kvs)) (n : g ∉ ownL fs) (od : Obj) : S3 K (lockC cf H fs g (.frz od (.dK kvs))) σ (upd H g (.frz od (.dK kvs))) fs where
  er := er_lk S.er (H' := upd H g (.frz od (.dK kvs))) (fun b z => upd_ne z) n (lk_lock h) (fun z => by rw [upd_same] at z; cases z)
  kp := fun b o nb hb => by
    by_cases z : b = g
    · subst z
      unfold lockC lockH at hb
      simp only [if_true] at hb
      obtain ⟨o2, ho, rfl⟩ := Option.map_eq_some_iff.mp hb
      exact upd_same
    · rw [upd_ne z]; exact S.kp b o nb ((lockH_ne z).symm.trans hb)
  dm := fun b hb => by
    by_cases z : b = g
    · rw [z, upd_same]; exact fun z => by cases z
    · rw [upd_ne z]; exact S.dm b fun e => hb (lockH_none.mpr e)
  ow := fun a h => (S.ow a h).imp id fun z => lockH_none.mpr z
  wd := fun a h z => S.wd a h (lockH_none.mp z)
  gs := cut_all (upd H g (.frz od (.dK kvs))) _
  gd := fun a h => by
    show cut (upd H g (.frz od (.dK kvs))) (fun b => decide (b ∈ ownL fs)) a = none
    unfold cut; simp [h]
theorem S3.lock_at {K : PySem.W.Frag} {g : Addr} {u : HO} {σ' : L2.St} {H' : Hp} {f : Fm} (S' : S3 K (lockC cf H fs g u) σ' H' f) (n : g ∉ ownL fs) : H' g = some u := S'.gs g u (lockG n upd_same)
theorem lock_gd {g : Addr} {u : HO} {f : Fm} (gd : ∀ a ∈ ownL f, (lockC cf H fs g u).G a = none) (n : g ∉ ownL fs) : g ∉ ownL f := fun z => by
  have h1 := gd g z
  have h2 : (lockC cf H fs g u).G g = some u := lockG n upd_same
  rw [h2] at h1; cases h1
theorem lock_gs {K : PySem.W.Frag} {g : Addr} {kvs : List (Key × V)} {u : HO} {H' : Hp} (S : S3 K cf σ H fs) (h : H g = some (.dK kvs)) (gs : Same (lockC cf H fs g u).G H') : Same cf.G (upd H' g (.dK kvs)) := fun b o hb => by
  have h1 := S.gs b o hb
  by_cases z : b = g
  · rw [z] at h1 ⊢; rw [h] at h1; cases h1; exact upd_same
  · rw [upd_ne z]
    refine gs b o (lockG (fun m => ?_) (by rw [upd_ne z]; exact h1))
    rw [S.gd b m] at hb; cases hb
theorem lock_kp {K : PySem.W.Frag} {g : Addr} {kvs : List (Key × V)} {u : HO} {H' : Hp} (S : S3 K cf σ H fs) (h : H g = some (.dK kvs)) (kp : Kp (lockC cf H fs g u).H0 H' cf.ws) : Kp cf.H0 (upd H' g (.dK kvs)) cf.ws := fun b o nb hb => by
  by_cases z : b = g
  · have h1 := S.kp b o nb hb
    rw [z] at h1 ⊢; rw [h] at h1; cases h1; exact upd_same
  · rw [upd_ne z]; exact kp b o nb (by show lockH _ _ _ b = _; rw [lockH_ne z]; exact hb)
theorem lock_gd2 {K : PySem.W.Frag} {g : Addr} {u : HO} {f : Fm} (S : S3 K cf σ H fs) (hg : H g ≠ none) (gd : ∀ a ∈ ownL f, (lockC cf H fs g u).G a = none) : ∀ a ∈ ownL f, cf.G a = none := fun a h => by
  cases e : cf.G a with
  | none => rfl
  | some o =>
    have h1 := S.gs a o e
    have h2 := gd a h
    have m : a ∉ ownL fs := fun m => by rw [S.gd a m] at e; cases e
    by_cases z : a = g
    · have : (lockC cf H fs g u).G a = some u := by rw [z] at m ⊢; exact lockG m upd_same
      rw [this] at h2; cases h2
    · have : (lockC cf H fs g u).G a = some o := lockG m (by rw [upd_ne z]; exact h1)
      rw [this] at h2; cases h2
theorem S3.unlock {K : PySem.W.Frag} {g : Addr} {kvs : List (Key × V)} {od : Obj} {σ' : L2.St} {H' : Hp} {f : Fm} (S : S3 K cf σ H fs) (h : H g = some (.dK kvs)) (n : g ∉ ownL fs) (S' : S3 K (lockC cf H fs g (.frz od (.dK kvs))) σ' H' f) : S3 K cf σ' (upd H' g (.dK kvs)) f where
  er := er_lk S'.er (fun b z => upd_ne z) (lock_gd S'.gd n) (lk_unlock (S'.lock_at n)) (by rw [upd_same]; exact fun z => by cases z)
  kp := lock_kp S h S'.kp
  dm := fun b hb => by
    by_cases z : b = g
    · rw [z, upd_same]; exact fun z => by cases z
    · rw [upd_ne z]; exact S'.dm b fun e => hb (lockH_none.mp e)
  ow := fun a h => (S'.ow a h).imp id fun z => lockH_none.mp z
  wd := fun a h z => S'.wd a h (lockH_none.mpr z)
  gs := lock_gs S h S'.gs
  gd := lock_gd2 S (by rw [h]; exact fun z => by cases z) S'.gd
theorem R3.unlock {K : PySem.W.Frag} {g : Addr} {kvs : List (Key × V)} {od : Obj} {σ' : L2.St} {H' Hm : Hp} {f : Fm} {v : V} (S : S3 K cf σ H fs) (h : H g = some (.dK kvs)) (n : g ∉ ownL fs) (R : R3 K (lockC cf H fs g (.frz od (.dK kvs))) σ' Hm H' f v r) : H' g = some (.frz od (.dK kvs)) ∧ ∃ Hm', R3 K cf σ' Hm' (upd H' g (.dK kvs)) f v r := by
  have at' : H' g = some (.frz od (.dK kvs)) := R.gs g _ (lockG n upd_same)
  have nf := lock_gd R.gd n
  have th : (upd H' g (.dK kvs)) g ≠ none := by rw [upd_same]; exact fun z => by cases z
  have er := fun (E : ER K cf.T σ' H' f) => er_lk E (fun b z => upd_ne (H := H') (o := .dK kvs) z) nf (lk_unlock at') th
  refine ⟨at', fun b => if b = g then some (.dK kvs) else Hm b, ?_, lock_kp S h R.kp, fun b hb => ?_, R.na, lock_gs S h R.gs, lock_gd2 S (by rw [h]; exact fun z => by cases z) R.gd⟩
  · have po := R.po
    cases r with
    | val d => exact ⟨er po.1, po.2.lk (lk_unlock at' _)⟩
    | «at» a d => exact ⟨er po.1, po.2⟩
    | two d e =>
      obtain ⟨a, g2, v1, rfl, n1, n2, nag, ha, E, r1, w⟩ := po
      have ne1 : a ≠ g := fun z => by subst z; rw [at'] at ha; cases ha
      have ne2 : g2 ≠ g := fun z => by
        subst z
        cases e with
        | list ds => obtain ⟨_, h3, _⟩ := w; rw [at'] at h3; cases h3
        | dict ds => obtain ⟨_, h3, _⟩ := w; rw [at'] at h3; cases h3
        | _ => exact w.elim
      have eh : hide (hide (upd H' g (.dK kvs)) g2) a = upd (hide (hide H' g2) a) g (.dK kvs) := by
        funext b
        by_cases z : b = a
        · rw [z, hide_self, upd_ne ne1, hide_self]
        · rw [hide_ne z]
          by_cases z2 : b = g2
          · rw [z2, hide_self, upd_ne ne2, hide_ne (fun q => nag q.symm), hide_self]
          · rw [hide_ne z2]
            by_cases z3 : b = g
            · rw [z3, upd_same, upd_same]
            · rw [upd_ne z3, upd_ne z3, hide_ne z, hide_ne z2]
      have at2 : hide (hide H' g2) a g = some (.frz od (.dK kvs)) := by rw [hide_ne (fun z => ne1 z.symm), hide_ne (fun z => ne2 z.symm)]; exact at'
      refine ⟨a, g2, v1, rfl, (if_neg ne1).trans n1, (if_neg ne2).trans n2, nag, by rw [upd_ne ne1]; exact ha, ?_, ?_, ?_⟩
      · rw [eh]; exact er_lk E (fun b z => upd_ne z) nf (lk_unlock at2) (by rw [upd_same]; exact fun z => by cases z)
      · rw [eh]; exact r1.lk (lk_unlock at2 _)
      · rw [eh]; exact w.lk (lk_unlock at2 _) (upd_ne ne2)
    | tw d e =>
      obtain ⟨a, g2, g3, rfl, n1, n2, n3, ag, ah, gh, ha, E, r1, w⟩ := po
      have ne1 : a ≠ g := fun z => by subst z; rw [at'] at ha; cases ha
      have nw : ∀ {S : Hp} {x : Addr} {d : PyData}, Ow K S H' x d → x ≠ g := fun {S x d} w z => by
        subst z
        cases d with
        | list ds => obtain ⟨_, h3, _⟩ := w; rw [at'] at h3; cases h3
        | dict ds => obtain ⟨_, h3, _⟩ := w; rw [at'] at h3; cases h3
        | _ => exact w.elim
      have ne2 := nw r1
      have ne3 := nw w
      have eh : hide3 (upd H' g (.dK kvs)) g3 g2 a = upd (hide3 H' g3 g2 a) g (.dK kvs) := by
        funext b
        by_cases z3 : b = g
        · rw [z3, hide3_ne (fun z => ne3 z.symm) (fun z => ne2 z.symm) (fun z => ne1 z.symm), upd_same, upd_same]
        · rw [upd_ne z3]
          by_cases z : b = a
          · rw [z, hide3_a, hide3_a]
          · by_cases z2 : b = g2
            · rw [z2, hide3_g, hide3_g]
            · by_cases z4 : b = g3
              · rw [z4, hide3_h, hide3_h]
              · rw [hide3_ne z4 z2 z, hide3_ne z4 z2 z, upd_ne z3]
      have at2 : hide3 H' g3 g2 a g = some (.frz od (.dK kvs)) := by rw [hide3_ne (fun z => ne3 z.symm) (fun z => ne2 z.symm) (fun z => ne1 z.symm)]; exact at'
      refine ⟨a, g2, g3, rfl, (if_neg ne1).trans n1, (if_neg ne2).trans n2, (if_neg ne3).trans n3, ag, ah, gh, by rw [upd_ne ne1]; exact ha, ?_, ?_, ?_⟩
      · rw [eh]; exact er_lk E (fun b z => upd_ne z) nf (lk_unlock at2) (by rw [upd_same]; exact fun z => by cases z)
      · rw [eh]; exact r1.lk (lk_unlock at2 _) (upd_ne ne2)
      · rw [eh]; exact w.lk (lk_unlock at2 _) (upd_ne ne3)
    | new d =>
      obtain ⟨a, rfl, nn, E, w⟩ := po
      have ne : a ≠ g := fun z => by
        subst z
        cases d with
        | list ds => obtain ⟨_, h3, _⟩ := w; rw [at'] at h3; cases h3
        | dict ds => obtain ⟨_, h3, _⟩ := w; rw [at'] at h3; cases h3
        | _ => exact w.elim
      have eh : hide (upd H' g (.dK kvs)) a = upd (hide H' a) g (.dK kvs) := by
        funext b
        by_cases z : b = a
        · rw [z, hide_self, upd_ne ne, hide_self]
        · rw [hide_ne z]
          by_cases z2 : b = g
          · rw [z2, upd_same, upd_same]
          · rw [upd_ne z2, upd_ne z2, hide_ne z]
      have at2 : hide H' a g = some (.frz od (.dK kvs)) := by rw [hide_ne (fun z => ne z.symm)]; exact at'
      refine ⟨a, rfl, (if_neg ne).trans nn, ?_, ?_⟩
      · rw [eh]; exact er_lk E (fun b z => upd_ne z) nf (lk_unlock at2) (by rw [upd_same]; exact fun z => by cases z)
      · rw [eh]; exact w.lk (lk_unlock at2 _) (upd_ne ne)
  · show (if b = g then some (HO.dK kvs) else Hm b) ≠ none
    by_cases z : b = g
    · rw [if_pos z]; exact fun z => by cases z
    · rw [if_neg z]; exact R.dm b fun e => hb (lockH_none.mp e)
end
end A3
namespace A3
open PySem PySem.Spec PyProof.Rows L2
section
variable {X : Cx} {a b c e o ie tg : Expr} {es : List Expr} {rest body : List Stmt} {cf : Cf} {D : D3} {fs f1 f2 f3 : Fm} {d d1 d2 : PyData} {ds : List PyData} {r r1 r2 : Res} {pos pos' apos p : Pos} {T : Addr → Bool} {σ : L2.St} {H H1 : Hp} {l : Addr} {t t2 : Tb} {k : Key} {x : Str}
/-- the loop's W by any ends -/
theorem for_coreX {P : Nat → Fm → Prop} {PB : Fm → Prop} {J : It} {NX : L2.St → Hp → Prop} {RT : V → Hp → Prop} {Dr : Fm → Res → Prop} (S : S3 X.K cf σ H fs) (h0 : P 0 fs)
    (hgo : ∀ G, Same cf.G G → ∀ k, k < ds.length → J.go k G) (hst : ∀ G, Same cf.G G → J.stop ds.length G)
    (hy : ∀ G, Same cf.G G → ∀ k v G', k < ds.length → J.yld k G v G' → Same G G' ∧ ∃ d, ds[k]? = some d ∧ ∀ (σ : L2.St) (f : Fm), ER X.K cf.T σ G f → (∀ a ∈ ownL f, cf.G a = none) → Rp X.K (cut G' (tt cf.T (ownL f))) v d)
    (hs : ∀ (k : Nat) (d : PyData) (f : Fm), ds[k]? = some d → P k f → ∃ g, AG X tg d f g ∧ AS X body cf g { nx := P (k + 1), ct := P (k + 1), bk := PB, rt := Dr })
    (hd : ∀ σ H f, S3 X.K cf σ H f → (P ds.length f ∨ PB f) → NX σ H) (hr : ∀ v H σ f r Hm, R3 X.K cf σ Hm H f v r → Dr f r → RT v H) :
    ∃ W : Nat → Nat → L2.St → Hp → Prop, (∃ m, W 0 m σ H) ∧ ∀ i m σ H, W i m σ H →
      (J.stop i H ∧ NX σ H) ∨ (J.go i H ∧ ∃ N : L2.St → Hp → Prop, (∀ σ' H', N σ' H' → ∃ m', m' < m ∧ W (i + 1) m' σ' H') ∧ ∀ v H', J.yld i H v H' → bG X tg v σ H' fun σ2 H2 => bSs X body { nx := N, ct := N, bk := NX, rt := RT } σ2 H2) := by
  refine ⟨fun i m σ' H' => m = ds.length - i ∧ i ≤ ds.length ∧ ∃ f, S3 X.K cf σ' H' f ∧ P i f, ⟨_, rfl, Nat.zero_le _, fs, S, h0⟩, ?_⟩
  rintro i m σ1 H1 ⟨rfl, hi, f, S1, p⟩
  by_cases lt : i < ds.length
  · refine .inr ⟨hgo H1 S1.gs i lt, fun σ' H' => ∃ f', S3 X.K cf σ' H' f' ∧ P (i + 1) f', fun σ' H' ⟨f', q⟩ => ⟨ds.length - (i + 1), by omega, rfl, lt, f', q⟩, fun v H2 y => ?_⟩
    obtain ⟨sm, d, hd', rp⟩ := hy H1 S1.gs i v H2 lt y
    have E2 : ER X.K cf.T σ1 H2 f := S1.er.keep sm
    have S2 : S3 X.K cf σ1 H2 f := S1.step (Kp.of sm) E2 rfl
    obtain ⟨g, ag, asb⟩ := hs i d f hd' p
    refine ag.run cf.T σ1 H2 v _ E2 (rp σ1 f S1.er S1.gd) fun σ3 E3 => ?_
    intro pins s I
    refine thn (asb σ3 H2 (S2.less E3 ag.sub) pins s I) fun fl s' q => ?_
    cases fl with
    | next => obtain ⟨σ', H', I', f', S', q⟩ := q; exact ⟨σ', H', I', f', S', q⟩
    | cont => obtain ⟨σ', H', I', f', S', q⟩ := q; exact ⟨σ', H', I', f', S', q⟩
    | brk => obtain ⟨σ', H', I', f', S', q⟩ := q; exact ⟨σ', H', I', hd σ' H' f' S' (.inr q)⟩
    | ret u =>
      obtain ⟨v', σ', H', I', rv, σ4, f4, r4, Hm, R, q⟩ := q
      exact ⟨v', σ', H', I', rv, hr _ _ _ _ _ _ R q⟩
  · have e : i = ds.length := by omega
    subst e
    exact .inl ⟨hst H1 S1.gs, hd σ1 H1 f S1 (.inl p)⟩
theorem bSs_inv {sts : List Stmt} {DE : Ends} (h : σ.length = X.N.length → bSs X sts DE σ H) : bSs X sts DE σ H := fun pins s I => h I.len pins s I
/-- what a walk over the locked dict at g yields -/
structure DWalk (K : PySem.W.Frag) (Jt : Addr → Obj → List (Key × V) → It) (F : Key → PyData → PyData) : Prop where
  go : ∀ {g od kvs G k}, G g = some (.frz od (.dK kvs)) → k < kvs.length → (Jt g od kvs).go k G
  stop : ∀ {g od kvs G}, G g = some (.frz od (.dK kvs)) → (Jt g od kvs).stop kvs.length G
  yld : ∀ {g od kvs G k v G'}, (Jt g od kvs).yld k G v G' → Same G G' ∧ ∃ key w, kvs[k]? = some (key, w) ∧ ∀ {S' : Hp} {d : PyData}, (∀ b o, G b = none → G' b = some o → S' b = some o) → Rp K S' w d → Rp K S' v (F key d)
def walkD (F : Key → PyData → PyData) (t : Tb) : List PyData := t.map fun p => F p.1 p.2
/-- for .. in a dict (its keys, its values, its pairs) -/
theorem as_forDw {Jt : Addr → Obj → List (Key × V) → It} {F : Key → PyData → PyData} {it : Expr} {wi : TI} {PB : Fm → Prop} (W : DWalk X.K Jt F) (hp : PassesOwn (model X.prog X.w) X.A X.env X.xe) (n : Nat) (P : Nat → Fm → Prop) (hpi : PI X tg it wi)
    (hwi : ∀ (σ : L2.St) (H : Hp) (R : It → Hp → Prop) (g : Addr) (od : Obj) (kvs : List (Key × V)), σ[n]? = some (some (.ref g)) → H g = some (.frz od (.dK kvs)) → R (Jt g od kvs) H → wi σ H R)
    (h0 : P 0 fs) (hs : ∀ (H0 G : Hp) (k : Nat) (d : PyData) (f : Fm), (walkD F t)[k]? = some d → P k f → ∃ g, AG X tg d f g ∧ AS X body { cf with H0 := H0, G := G } g { nx := P (k + 1), ct := P (k + 1), bk := PB, rt := D.rt })
    (hd : ∀ f, (P t.length f ∨ PB f) → AS X rest cf f D) (hN : X.N[n]? = some x) (hn : fs[n]? = some (.dat (dD t)) := by rfl) (hc : X.calm = true := by rfl)
    (hf : ∀ x, foldedSetIterable it X.env x = pure x := by intro _; rfl) : AS X (.For tg it body [] pos :: rest) cf fs D := by
  refine fun σ H S => bSs_inv fun L => ?_
  obtain ⟨v, hv, rv⟩ := S.er.dat hn
  replace hv := hv (by rw [L]; exact (List.getElem?_eq_some_iff.mp hN).1)
  obtain ⟨g, kvs, rfl, rd, rk⟩ := rv.dct_inv
  have ng : g ∉ ownL fs := by
    rcases rd with h | ⟨o, h⟩ <;> exact (tt_false.mp (cut_some h).1).2
  have tg0 : cf.T g = false := by
    rcases rd with h | ⟨o, h⟩ <;> exact (tt_false.mp (cut_some h).1).1
  have lw : (walkD F t).length = t.length := List.length_map _
  have lk := rk.len
  -- the walk itself, the dict being locked
  have main : ∀ (c' : Cf) (od : Obj) (Hl : Hp) (NX : L2.St → Hp → Prop) (RT : V → Hp → Prop), (∃ H0 G, c' = { cf with H0 := H0, G := G }) → c'.G = (cut Hl fun b => decide (b ∈ ownL fs)) → S3 X.K c' σ Hl fs → Hl g = some (.frz od (.dK kvs)) → RK X.K (cut Hl (tt cf.T (ownL fs))) kvs t →
      (∀ σ H f, S3 X.K c' σ H f → (P t.length f ∨ PB f) → NX σ H) → (∀ v H σ f r Hm, R3 X.K c' σ Hm H f v r → D.rt f r → RT v H) →
      tFor wi (bG X tg) (bSs X body) ⟨NX, RT, NX, NX⟩ σ Hl := by
    rintro c' od Hl NX RT ⟨H0, G0, rfl⟩ hG S1 hl rk1 hd1 hr1
    have gG : ∀ b o, b ∉ ownL fs → Hl b = some o → G0 b = some o := fun b o nb h => by
      have e : G0 = cut Hl fun b => decide (b ∈ ownL fs) := hG
      rw [e]; exact cut_of (T := fun b => decide (b ∈ ownL fs)) (decide_eq_false nb) h
    refine hwi σ Hl _ g od kvs hv hl ?_
    refine for_coreX (cf := { cf with H0 := H0, G := G0 }) (ds := walkD F t) (PB := PB) (Dr := D.rt) S1 h0 (fun G sg k lt => W.go (sg g _ (gG g _ ng hl)) (by omega)) (fun G sg => ?_) (fun G sg k v G' lt y => ?_) (fun k d f h1 h2 => hs H0 G0 k d f h1 h2) (fun σ H f S2 z => hd1 σ H f S2 (by rw [lw] at z; exact z)) hr1
    · have := W.stop (sg g _ (gG g _ ng hl))
      rw [lw, ← lk]; exact this
    · obtain ⟨sm, key, w, hk, q⟩ := W.yld y
      obtain ⟨d, hd', rw'⟩ := rk1.get hk
      refine ⟨sm, F key d, by unfold walkD; rw [List.getElem?_map, hd']; rfl, fun σ2 f E dis => q (fun b o nb h => cut_of (E.free nb) h) (rw'.mono fun b o h => ?_)⟩
      obtain ⟨e1, e2⟩ := cut_some h
      obtain ⟨e3, e4⟩ := tt_false.mp e1
      have gb := gG b o e4 e2
      refine cut_of (tt_false.mpr ⟨e3, fun z => ?_⟩) (sm b o (sg b o gb))
      have := dis b z
      rw [show ({ cf with H0 := H0, G := G0 } : Cf).G b = G0 b from rfl, gb] at this; cases this
  have at0 : Rd H g (.dK kvs) := rd_same (cut_all _ _) rd
  rcases at0 with h | ⟨od, h⟩
  · -- it is to be locked
    refine bSs_of (pss_cons (ps_lock (ps_for hp hc hpi bestG bestSs hf)) bestSs) ⟨g, .dK kvs, h, trivial, fun od => ?_⟩
    refine main (lockC cf H fs g (.frz od (.dK kvs))) od _ _ _ ⟨_, _, rfl⟩ rfl (S.lock h ng od) upd_same (rk.lk (lk_lock h _)) (fun σ' H' f S' z => ⟨S'.lock_at ng, hd f z _ _ (S.unlock h ng S')⟩) (fun v H' σ' f r Hm R z => ?_)
    obtain ⟨h1, Hm', R'⟩ := R.unlock S h ng
    exact ⟨h1, _, _, _, _, R', z⟩
  · refine bSs_of (pss_cons (ps_for hp hc hpi bestG bestSs hf) bestSs) ?_
    obtain ⟨S0, g0⟩ := S.walk
    exact main { cf with G := cut H fun b => decide (b ∈ ownL fs) } od H _ _ ⟨cf.H0, _, rfl⟩ rfl S0 h rk (fun σ' H' f S' z => hd f z _ _ (S'.base g0)) (fun v H' σ' f r Hm R z => ⟨_, _, _, _, R.base g0, z⟩)
/-- keys, values, pairs -/
theorem dw_keys {K : PySem.W.Frag} : DWalk K Itk (fun k _ => kD k) where
  go := fun h lt => ⟨h, lt⟩
  stop := fun h => ⟨h, Nat.le_refl _⟩
  yld := fun {g od kvs G k v G'} y => by
    obtain ⟨rfl, key, w, hk, rfl⟩ := y
    refine ⟨fun _ _ h => h, key, w, hk, fun {S' d} _ _ => ?_⟩
    cases key with
    | inl i => exact .int i
    | inr x => exact .str x
theorem dw_vals {K : PySem.W.Frag} : DWalk K Itd (fun _ d => d) where
  go := fun h lt => ⟨h, lt⟩
  stop := fun h => ⟨h, Nat.le_refl _⟩
  yld := fun {g od kvs G k v G'} y => by
    obtain ⟨rfl, key, hk⟩ := y
    exact ⟨fun _ _ h => h, key, v, hk, fun {S' d} _ r => r⟩
theorem rp_kV {K : PySem.W.Frag} {S : Hp} (k : Key) : Rp K S (kV k) (kD k) := by
  cases k with
  | inl i => exact .int i
  | inr x => exact .str x
theorem dw_items {K : PySem.W.Frag} : DWalk K Iti (fun k d => .tuple [kD k, d]) where
  go := fun h lt => ⟨h, lt⟩
  stop := fun h => ⟨h, Nat.le_refl _⟩
  yld := fun {g od kvs G k v G'} y => by
    obtain ⟨N, key, w, hk, rfl, nN, rfl⟩ := y
    exact ⟨same_upd nN, key, w, hk, fun {S' d} hs r => .tup (xs := [kV key, w]) (.inl (.inl (hs N _ nN upd_same))) (.cons (rp_kV key) (.cons r .nil))⟩
theorem as_forK {PB : Fm → Prop} (hp : PassesOwn (model X.prog X.w) X.A X.env X.xe) (n : Nat) (P : Nat → Fm → Prop) (h0 : P 0 fs) (hs : ∀ (H0 G : Hp) (k : Nat) (d : PyData) (f : Fm), (walkD (fun k _ => kD k) t)[k]? = some d → P k f → ∃ g, AG X tg d f g ∧ AS X body { cf with H0 := H0, G := G } g { nx := P (k + 1), ct := P (k + 1), bk := PB, rt := D.rt })
    (hd : ∀ f, (P t.length f ∨ PB f) → AS X rest cf f D) (hn : fs[n]? = some (.dat (dD t)) := by rfl) (hc : X.calm = true := by rfl) (hN : X.N[n]? = some x := by rfl) (hv : Vis X.env.scope x := by first | exact Or.inl rfl | exact Or.inr (Or.inl rfl) | exact Or.inr (Or.inr rfl))
    (hdb : (x == ("__debug__" : Str)) = false := by decide) (hcd : (x == ("__classdict__" : Str)) = false := by decide) (hf : ∀ y, foldedSetIterable (.Name x p) X.env y = pure y := by intro _; rfl) : AS X (.For tg (.Name x p) body [] pos :: rest) cf fs D :=
  as_forDw dw_keys hp n P (pi_keys (pe_var hN hv hdb hcd)) (fun σ H R g od kvs h1 h2 h3 => ⟨_, h1, g, od, rfl, .inl ⟨kvs, h2, h3⟩⟩) h0 hs hd hN hn hc hf
/-- for v in d.values() -/
theorem as_forV {PB : Fm → Prop} (hp : PassesOwn (model X.prog X.w) X.A X.env X.xe) (n : Nat) (P : Nat → Fm → Prop) (h0 : P 0 fs) (hs : ∀ (H0 G : Hp) (k : Nat) (d : PyData) (f : Fm), (walkD (fun _ d => d) t)[k]? = some d → P k f → ∃ g, AG X tg d f g ∧ AS X body { cf with H0 := H0, G := G } g { nx := P (k + 1), ct := P (k + 1), bk := PB, rt := D.rt })
    (hd : ∀ f, (P t.length f ∨ PB f) → AS X rest cf f D) (hn : fs[n]? = some (.dat (dD t)) := by rfl) (hc : X.calm = true := by rfl) (hN : X.N[n]? = some x := by rfl) (hv : Vis X.env.scope x := by first | exact Or.inl rfl | exact Or.inr (Or.inl rfl) | exact Or.inr (Or.inr rfl))
    (hdb : (x == ("__debug__" : Str)) = false := by decide) (hcd : (x == ("__classdict__" : Str)) = false := by decide) (hbase : attributeBase (.Name x p) "values" X.env (eval (.Name x p) X.env) = eval (.Name x p) X.env := by rfl) (hline : (apos.endLine == pos'.line) = true := by rfl)
    (hf : ∀ y, foldedSetIterable (.Call (.Attribute (.Name x p) "values" apos) [] [] pos') X.env y = pure y := by intro _; rfl) : AS X (.For tg (.Call (.Attribute (.Name x p) "values" apos) [] [] pos') body [] pos :: rest) cf fs D :=
  as_forDw dw_vals hp n P (pi_values (pe_var hN hv hdb hcd) hbase hline) (fun σ H R g od kvs h1 h2 h3 => ⟨_, h1, g, od, kvs, rfl, h2, h3⟩) h0 hs hd hN hn hc hf
/-- for k, v in d.items() -/
theorem as_forI {PB : Fm → Prop} {kk : Nat} {tpos : Pos} (hp : PassesOwn (model X.prog X.w) X.A X.env X.xe) (n : Nat) (P : Nat → Fm → Prop) (h0 : P 0 fs) (hs : ∀ (H0 G : Hp) (k : Nat) (d : PyData) (f : Fm), (walkD (fun k d => .tuple [kD k, d]) t)[k]? = some d → P k f → ∃ g, AG X (.Tuple es kk tpos) d f g ∧ AS X body { cf with H0 := H0, G := G } g { nx := P (k + 1), ct := P (k + 1), bk := PB, rt := D.rt })
    (hd : ∀ f, (P t.length f ∨ PB f) → AS X rest cf f D) (hn : fs[n]? = some (.dat (dD t)) := by rfl) (hc : X.calm = true := by rfl) (hN : X.N[n]? = some x := by rfl) (hv : Vis X.env.scope x := by first | exact Or.inl rfl | exact Or.inr (Or.inl rfl) | exact Or.inr (Or.inr rfl))
    (hdb : (x == ("__debug__" : Str)) = false := by decide) (hcd : (x == ("__classdict__" : Str)) = false := by decide) (hbase : attributeBase (.Name x p) "items" X.env (eval (.Name x p) X.env) = eval (.Name x p) X.env := by rfl) (hline : (apos.endLine == pos'.line) = true := by rfl)
    (hf : ∀ y, foldedSetIterable (.Call (.Attribute (.Name x p) "items" apos) [] [] pos') X.env y = pure y := by intro _; rfl) : AS X (.For (.Tuple es kk tpos) (.Call (.Attribute (.Name x p) "items" apos) [] [] pos') body [] pos :: rest) cf fs D :=
  as_forDw dw_items hp n P (pi_items (pe_var hN hv hdb hcd) hbase hline) (fun σ H R g od kvs h1 h2 h3 => ⟨_, h1, g, od, kvs, rfl, h2, h3⟩) h0 hs hd hN hn hc hf
/-! ### sorted(d), dict(pairs), x or [] -/
theorem sortedS_ss {ys ks : List Str} (hp : ys.Perm ks) (hs : sortedS ys = true) (nd : ks.Nodup) : ys = sset ks := by
  have h1 : srt (setL ks) = srt ks := srt_congr (nd_perm (setL_nd ks) nd fun x => setL_mem)
  rw [srt_eq hp hs]; exact h1.symm
theorem ae_sortD {ls : List (List Nat)} (hc : X.calm = true) (ha : AE X a fs f1 r) (e : r.d = dD t) (hk : gKs t = ls.map kS) (nd : ls.Nodup) (hz : ls.length < 64) (hg : Gl X "sorted") (hm : X.mg "sorted" = none)
    (na : starEach [a] X.env = (false, eval a X.env) :: starEach [] X.env := by rfl) : AE X (.Call (.Name "sorted" p) [a] [] pos) fs f1 (.new (.list ((ssN ls).map sD))) := by
  refine ⟨ha.ow, fun T σ H Q E q => bE_of (pe_callB (call_sortedD hc) hg hm PyProof.Rows.boot_sorted (pa_cons best pa_nil na) (he := na)) (ha.run T σ H _ E fun x H1 k1 p1 => ?_)⟩
  obtain ⟨g, kvs, rfl, s, rk⟩ := p1.dct p1.er (Kp.refl _ _) e
  refine ⟨g, kvs, ls.map SX.S, rfl, s, by rw [rk.keys, hk, List.map_map]; rfl, by rw [List.length_map]; exact hz, fun ys p hp hs n => ?_⟩
  have ey : ys = sset (ls.map SX.S) := sortedS_ss hp hs (nd.map _ fun a b h e => h (SX.S_inj e))
  rw [ey, ← ssN_S]
  exact q _ _ (k1.trans (Kp.of (same_upd n))) (po_lst p1.er k1 ha.ow n (rpStrs _))
/-- dict(..) of pairs -/
def gM (ps : List (Key × PyData)) : Tb := ps.foldl (fun t p => gP t p.1 p.2) []
def pairD (p : Key × PyData) : PyData := .tuple [kD p.1, p.2]
theorem pairs_inv {K : PySem.W.Frag} {S : Hp} : ∀ {ps : List (Key × PyData)} {vs : List V}, RpAll K S vs (ps.map pairD) → ∃ (as : List Addr) (kvs : List (Key × V)), vs = as.map V.ref ∧ Paired (fun p kv => SqT K S p [kV kv.1, kv.2]) as kvs ∧ RK K S kvs ps
  | [], _, .nil => ⟨[], [], rfl, .nil, .nil⟩
  | p :: ps, _, h => by
    rw [List.map_cons] at h
    cases h with
    | cons r rr =>
      obtain ⟨as, kvs, rfl, q1, q2⟩ := pairs_inv rr
      obtain ⟨g, ws, rfl, s, qw⟩ := (show Rp K S _ (.tuple [kD p.1, p.2]) from r).tup_inv
      obtain ⟨x, y, rfl, rx, ry⟩ := qw.two_inv
      rw [rp_key rx] at s
      exact ⟨g :: as, (p.1, y) :: kvs, rfl, .cons s q1, .cons ry q2⟩
theorem RK.merge {K : PySem.W.Frag} {S : Hp} {more : List (Key × V)} {ps : List (Key × PyData)} (h : RK K S more ps) : ∀ {acc : List (Key × V)} {t : Tb}, RK K S acc t → RK K S (mergeK acc more) (ps.foldl (fun t p => gP t p.1 p.2) t) := by
  induction h with
  | nil => intro acc t q; exact q
  | @cons k v d kvs t r _ ih => intro acc t q; exact ih (q.put r k)
theorem ae_dictP {ps : List (Key × PyData)} (hc : X.calm = true) (ha : AE X a fs f1 r) (e : r.d = .list (ps.map pairD)) (hg : Gl X "dict") (hm : X.mg "dict" = none)
    (na : starEach [a] X.env = (false, eval a X.env) :: starEach [] X.env := by rfl) : AE X (.Call (.Name "dict" p) [a] [] pos) fs f1 (.new (dD (gM ps))) := by
  refine ⟨ha.ow, fun T σ H Q E q => bE_of (pe_callTy (call_dictP hc) hg hm (by decide +kernel) (pa_cons best pa_nil na) (he := na)) (ha.run T σ H _ E fun x H1 k1 p1 => ?_)⟩
  obtain ⟨g, vs, ex, sq, qv⟩ := p1.list e
  obtain ⟨as, kvs, rfl, pp, rk⟩ := pairs_inv qv
  refine ⟨g, as, kvs, by rw [ex], sq, Paired.mapP pp fun _ _ z => sqT_same (cut_all _ _) z, fun p n => q _ _ (k1.trans (Kp.of (same_upd n))) (po_dct p1.er k1 ha.ow n (RK.merge rk .nil))⟩
/-- x or [], x None or a list -/
def orL : PyData → List PyData
  | .list ds => ds
  | _ => []
theorem ae_orL (ha : AE X a fs f1 (.val d)) (hd : d = .none ∨ d = .list (orL d)) : AE X (.BoolOp .Or [a, .List [] p] pos) fs f1 (.val (.list (orL d))) := by
  have hl : AE X (.BoolOp .Or [.List [] p] pos) f1 f1 (.val (.list [])) := ae_one (AE.val (ae_lst ad_nil))
  refine ⟨ha.ow, fun T σ H Q E q => bE_of (pe_orT best best) (ha.run T σ H _ E fun v H1 k1 p1 => ?_)⟩
  have rest : orL d = [] → bE X (.BoolOp .Or [.List [] p] pos) σ H1 Q := fun e => hl.run T σ H1 Q p1.1 fun v2 H2 k2 p2 => by
    rw [ha.ow] at k2
    rw [e] at q
    exact q v2 H2 (k1.trans k2) p2
  rcases hd with rfl | hd
  · have ev := p1.2.non_inv
    subst ev
    exact ⟨false, rfl, rest rfl⟩
  · have r1 := p1.2
    rw [hd] at r1
    obtain ⟨g, vs, rfl, s, qv⟩ := r1.lst_inv
    refine ⟨!vs.isEmpty, .inl ⟨vs, sqL_same (cut_all _ _) s, rfl⟩, ?_⟩
    cases hv : vs with
    | nil =>
      rw [hv] at qv
      exact rest (by cases h : orL d with
        | nil => rfl
        | cons x y => rw [h] at qv; cases qv)
    | cons x y => exact q _ H1 k1 (by rw [← hd]; exact p1)
end
end A3
namespace A3
open PySem PySem.Spec PyProof.Rows L2
theorem un1 {n : Nat} (h : n + 64 < cLine) : n + 1 < cLine := by omega
theorem un0 {n : Nat} (h : n + 64 < cLine) : n < cLine := by omega
theorem walkK_inv {α : Type} {f : α → PyData} {t : List (Key × α)} {k : Nat} {d : PyData} (h : (walkD (fun k _ => kD k) (t.map fun p => (p.1, f p.2)))[k]? = some d) : ∃ p, t[k]? = some p ∧ d = kD p.1 := by
  unfold walkD at h
  rw [List.map_map, List.getElem?_map] at h
  obtain ⟨c, h1, h2⟩ := Option.map_eq_some_iff.mp h
  exact ⟨c, h1, h2.symm⟩
/-! ### a dict of lists that are written: the dict raw, its lists ghosts -/
abbrev GL := List (Key × Addr × List PyData)
def gkv (L : GL) : List (Key × V) := L.map fun p => (p.1, V.ref p.2.1)
def gsl (L : GL) : Fm := L.map fun p => .own p.2.1 (.list p.2.2)
def gtb (L : GL) : Tb := L.map fun p => (p.1, .list p.2.2)
def gup (L : GL) (k : Key) (d : PyData) : GL := L.map fun p => if p.1 = k then (p.1, p.2.1, p.2.2 ++ [d]) else p
theorem gkv_get {L : GL} {i : Nat} {k : Key} {g : Addr} {ds : List PyData} (h : L[i]? = some (k, g, ds)) (nd : (L.map (·.1)).Nodup) : valV (gkv L) k = some (.ref g) := by
  induction L generalizing i with
  | nil => simp at h
  | cons p r ih =>
    have nd' := List.nodup_cons.mp (show (p.1 :: r.map (·.1)).Nodup from nd)
    cases i with
    | zero => cases Option.some.inj h; exact valV_pos (p := (k, V.ref g)) rfl
    | succ i =>
      have h' : r[i]? = some (k, g, ds) := h
      have ne : ¬ p.1 = k := fun z => nd'.1 (by rw [z]; exact List.mem_map.mpr ⟨_, List.mem_of_getElem? h', rfl⟩)
      show valV ((p.1, V.ref p.2.1) :: gkv r) k = _
      rw [valV_neg (p := (p.1, V.ref p.2.1)) ne]; exact ih h' nd'.2
theorem gkv_none {L : GL} {k : Key} (h : k ∉ L.map (·.1)) : valV (gkv L) k = none := by
  induction L with
  | nil => rfl
  | cons p r ih =>
    rw [List.map_cons, List.mem_cons, not_or] at h
    show valV ((p.1, V.ref p.2.1) :: gkv r) k = _
    rw [valV_neg (p := (p.1, V.ref p.2.1)) (fun z => h.1 z.symm)]; exact ih h.2
theorem gup_keys (L : GL) (k : Key) (d : PyData) : (gup L k d).map (·.1) = L.map (·.1) := by
  unfold gup
  rw [List.map_map]
  refine List.map_congr_left fun p _ => ?_
  show (if p.1 = k then (p.1, p.2.1, p.2.2 ++ [d]) else p).1 = p.1
  split <;> rfl
theorem gkv_gup (L : GL) (k : Key) (d : PyData) : gkv (gup L k d) = gkv L := by
  unfold gkv gup
  rw [List.map_map]
  refine List.map_congr_left fun p _ => ?_
  show ((if p.1 = k then (p.1, p.2.1, p.2.2 ++ [d]) else p).1, V.ref (if p.1 = k then (p.1, p.2.1, p.2.2 ++ [d]) else p).2.1) = (p.1, V.ref p.2.1)
  split <;> rfl
theorem set_same {α : Type} {l : List α} {n : Nat} {x : α} (h : l[n]? = some x) : l.set n x = l := by
  apply List.ext_getElem?
  intro m
  by_cases z : n = m
  · subst z; rw [List.getElem?_set_self (List.getElem?_eq_some_iff.mp h).1, h]
  · rw [List.getElem?_set_ne z]
theorem gup_set {L : GL} {i : Nat} {k : Key} {g : Addr} {ds : List PyData} {d : PyData} (h : L[i]? = some (k, g, ds)) (nd : (L.map (·.1)).Nodup) : gup L k d = L.set i (k, g, ds ++ [d]) := by
  induction L generalizing i with
  | nil => simp at h
  | cons p r ih =>
    have nd' := List.nodup_cons.mp (show (p.1 :: r.map (·.1)).Nodup from nd)
    cases i with
    | zero =>
      cases Option.some.inj h
      have : gup r k d = r := by
        unfold gup
        refine (List.map_congr_left fun p hp => ?_).trans (List.map_id _)
        have ne : ¬ p.1 = k := fun z => nd'.1 (by rw [← z]; exact List.mem_map.mpr ⟨_, hp, rfl⟩)
        rw [if_neg ne]; rfl
      show (if k = k then _ else _) :: gup r k d = _
      rw [if_pos rfl, this]; rfl
    | succ i =>
      have h' : r[i]? = some (k, g, ds) := h
      have ne : ¬ p.1 = k := fun z => nd'.1 (by rw [z]; exact List.mem_map.mpr ⟨_, List.mem_of_getElem? h', rfl⟩)
      show (if p.1 = k then _ else p) :: gup r k d = _
      rw [if_neg ne, ih h' nd'.2]; rfl
section
variable {X : Cx} {a b c e o ie tg : Expr} {es : List Expr} {rest body sts : List Stmt} {cf : Cf} {D : D3} {fs f1 f2 f3 nm : Fm} {d d1 d2 : PyData} {ds : List PyData} {r r1 r2 : Res} {pos pos' apos p px py cpos : Pos} {T : Addr → Bool} {σ : L2.St} {H H1 H' : Hp} {l g : Addr} {t t2 : Tb} {k : Key} {x y : Str} {L : GL}
theorem as_own_raw (n : Nat) (hk : AS X sts cf (fs.set n (.raw l (.dK []))) D) (hn : fs[n]? = some (.own l (dD []))) : AS X sts cf fs D := fun σ H S => by
  obtain ⟨kvs, h1, rk⟩ := ow_dct (S.er.own hn).2
  cases rk
  refine hk σ H (S.less (S.er.putS hn rfl rfl (fun b o _ h => h) ⟨rfl, h1⟩) fun a h => ?_)
  rwa [ownL_putS (u := .raw l (.dK [])) hn rfl] at h
/-- x = {}, its values will be lists that are written -/
theorem as_newR (n : Nat) (hk : ∀ l, l ∉ cf.ws → AS X rest cf (fs.set n (.raw l (.dK []))) D) (hN : X.N.Nodup) (hl : n < fs.length := by exact Nat.le_of_ble_eq_true rfl) (hi : X.N[n]? = some x := by rfl) (hx : Loc X.env.scope x := by first | exact .inl rfl | exact .inr rfl)
    (hs : swapsWith (.Dict [] [] p) (some (.Name x pos')) pos.line X.env = pure false := by rfl) (hf : X.fn x = true ∨ X.env.scope.names.lookup x = some .local := by first | exact .inl rfl | exact .inr rfl) : AS X (.Assign [.Name x pos'] (.Dict [] [] p) pos :: rest) cf fs D :=
  as_new n ae_dnew (fun l hw _ => as_own_raw (l := l) n (by rw [List.set_set]; exact hk l hw) (List.getElem?_set_self hl)) hN hi hx hs hf
theorem ownL_push (s : Slot) : ownL (fs ++ [s]) = ownL fs ++ (adr s).toList := by rw [ownL_app]; cases s <;> rfl
theorem er_push {K : PySem.W.Frag} (E : ER K T σ (hide H g) fs) (w : Ow K (cut (hide H g) (tt T (ownL fs))) H g d) (hl : σ.length ≤ fs.length) : ER K T σ H (fs ++ [.own g d]) := by
  have f : tt T (ownL fs) g = false := E.free (hide_self H g)
  obtain ⟨f1, f2⟩ := tt_false.mp f
  have eo : ownL (fs ++ [.own g d]) = ownL fs ++ [g] := ownL_push _
  have up : Same (cut (hide H g) (tt T (ownL fs))) (cut H (tt T (ownL (fs ++ [.own g d])))) := cut_same fun b o e q => by
    have n : b ≠ g := fun z => by rw [z, hide_self] at q; cases q
    rw [hide_ne n] at q
    obtain ⟨e1, e2⟩ := tt_false.mp e
    exact ⟨tt_false.mpr ⟨e1, by rw [eo]; simp [e2, n]⟩, q⟩
  refine ⟨by rw [List.length_append]; exact Nat.le_trans hl (Nat.le_add_right _ _), fun j u h => ?_, ?_, fun b h => ?_, fun b h => ?_⟩
  · by_cases lt : j < fs.length
    · rw [List.getElem?_append_left lt] at h
      obtain ⟨ov, h1, h2⟩ := E.sl j u h
      exact ⟨ov, h1, h2.mono up fun b q => (hide_ne (fun z => f2 (mem_ownL.mpr ⟨j, u, h, by rw [← z]; exact q⟩))).symm⟩
    · have e : j = fs.length := by
        have := (List.getElem?_eq_some_iff.mp h).1
        rw [List.length_append] at this; simp at this; omega
      subst e
      rw [List.getElem?_append_right (Nat.le_refl _), Nat.sub_self] at h
      cases Option.some.inj h
      exact ⟨some (.ref g), fun z => absurd z (by omega), rfl, w.mono up rfl⟩
  · rw [eo]
    exact List.nodup_append.mpr ⟨E.nd, List.nodup_cons.mpr ⟨by simp, List.nodup_nil⟩, fun a ha b hb z => by
      rw [List.mem_singleton] at hb
      exact f2 (by rw [← hb, ← z]; exact ha)⟩
  · rw [eo] at h
    rcases List.mem_append.mp h with z | z
    · exact E.out b z
    · rw [List.mem_singleton.mp z]; exact f1
  · have z := E.dom b h
    by_cases n : b = g
    · rw [n] at z; exact absurd (hide_self H g) z
    · rw [hide_ne n] at z; exact z
theorem S3.push {K : PySem.W.Frag} (S : S3 K cf σ H fs) (k : Kp H H' (ownL fs)) (o : ownL f1 = ownL fs) (na : H l = none) (E : ER K cf.T σ (hide H' l) f1) (w : Ow K (cut (hide H' l) (tt cf.T (ownL f1))) H' l d) (hl : σ.length ≤ f1.length) : S3 K cf σ H' (f1 ++ [.own l d]) where
  er := er_push E w hl
  kp := S.keeps k
  dm := (S.step k (E.keep (hide_same H' l)) o).dm
  ow := fun a h => by
    rw [ownL_push] at h
    rcases List.mem_append.mp h with z | z
    · exact S.ow a (by rw [← o]; exact z)
    · have e : a = l := by simpa [adr] using z
      subst e
      refine .inr ?_
      cases hh : cf.H0 a with
      | none => rfl
      | some u => exact absurd na (S.dm a (by rw [hh]; exact fun z => by cases z))
  wd := S.wd
  gs := (S.step k (E.keep (hide_same H' l)) o).gs
  gd := fun a h => by
    rw [ownL_push] at h
    rcases List.mem_append.mp h with z | z
    · exact S.gd a (by rw [← o]; exact z)
    · have e : a = l := by simpa [adr] using z
      subst e
      cases hh : cf.G a with
      | none => rfl
      | some u => rw [S.gs a u hh] at na; cases na
/-- x[k] = e, a new list: it is the dict's -/
theorem as_gset (n j : Nat) (hu : X.A.units + 1 < cLine) (he : AE X e (nm ++ gsl L) (nm ++ gsl L) (.new (.list ds))) (hnew : k ∉ L.map (·.1)) (hz : L.length ≤ 100000) (hk : ∀ g, AS X rest cf (nm.set n (.raw l (.dK (gkv (L ++ [(k, g, ds)])))) ++ gsl (L ++ [(k, g, ds)])) D)
    (hn : nm[n]? = some (.raw l (.dK (gkv L))) := by rfl) (hj : nm[j]? = some (.dat (kD k)) := by rfl) (hlen : X.N.length = nm.length := by rfl) (hN : X.N[n]? = some x := by rfl) (hv : Vis X.env.scope x := by first | exact Or.inl rfl | exact Or.inr (Or.inl rfl) | exact Or.inr (Or.inr rfl))
    (hdb : (x == ("__debug__" : Str)) = false := by decide) (hcd : (x == ("__classdict__" : Str)) = false := by decide) (hNj : X.N[j]? = some y := by rfl) (hvj : Vis X.env.scope y := by first | exact Or.inl rfl | exact Or.inr (Or.inl rfl) | exact Or.inr (Or.inr rfl))
    (hdbj : (y == ("__debug__" : Str)) = false := by decide) (hcdj : (y == ("__classdict__" : Str)) = false := by decide)
    (hs : swapsWith e (some (.Subscript (.Name x px) (.Name y py) pos')) pos.line X.env = pure false := by rfl) : AS X (.Assign [.Subscript (.Name x px) (.Name y py) pos'] e pos :: rest) cf (nm ++ gsl L) D := by
  refine fun σ H S => bSs_inv fun L0 => bSs_of (pss_cons (ps_dput hu (pe_var hN hv hdb hcd) (pe_var hNj hvj hdbj hcdj) best hs) bestSs) (he.run cf.T σ H _ S.er fun v H1 k1 p1 => ?_)
  obtain ⟨g, rfl, na, E1, w⟩ := p1
  have ln : n < nm.length := (List.getElem?_eq_some_iff.mp hn).1
  have lj : j < nm.length := (List.getElem?_eq_some_iff.mp hj).1
  have hn' : (nm ++ gsl L)[n]? = some (.raw l (.dK (gkv L))) := by rw [List.getElem?_append_left ln]; exact hn
  have hj' : (nm ++ gsl L)[j]? = some (.dat (kD k)) := by rw [List.getElem?_append_left lj]; exact hj
  obtain ⟨r1, r2⟩ := E1.raw hn'
  obtain ⟨u, r3, r4⟩ := E1.dat hj'
  have ng : l ≠ g := fun z => by rw [z, hide_self] at r2; cases r2
  rw [hide_ne ng] at r2
  have eu := rp_key r4
  subst eu
  have S1 := S.push k1 rfl na E1 w (by rw [L0, hlen, List.length_append]; exact Nat.le_add_right _ _)
  refine ⟨_, r1 (by rw [L0, hlen]; exact ln), _, r3 (by rw [L0, hlen]; exact lj), l, _, rfl, .inl ⟨gkv L, k, r2, rfl, by unfold gkv; rw [List.length_map]; exact small_line hz, rfl⟩, hk g _ _ ?_⟩
  have hn2 : (nm ++ gsl L ++ [.own g (.list ds)])[n]? = some (.raw l (.dK (gkv L))) := by rw [List.getElem?_append_left (by rw [List.length_append]; omega)]; exact hn'
  have il : l ∈ ownL (nm ++ gsl L ++ [.own g (.list ds)]) := mem_raw hn2
  have e1 : putK (gkv L) k (.ref g) = gkv (L ++ [(k, g, ds)]) := by rw [putK_new _ (gkv_none hnew)]; simp [gkv]
  have E2 := S1.er.putS (u := .raw l (.dK (gkv (L ++ [(k, g, ds)])))) (H' := upd H1 l (.dK (putK (gkv L) k (.ref g)))) hn2 rfl rfl (fun b o nb h => by rw [upd_ne nb]; exact h) ⟨rfl, by rw [upd_same, e1]⟩
  have ef : (nm ++ gsl L ++ [Slot.own g (.list ds)]).set n (.raw l (.dK (gkv (L ++ [(k, g, ds)])))) = nm.set n (.raw l (.dK (gkv (L ++ [(k, g, ds)])))) ++ gsl (L ++ [(k, g, ds)]) := by
    rw [List.append_assoc, List.set_append_left _ _ ln]; simp [gsl]
  rw [ef] at E2
  exact S1.step (kp_upd il) E2 (by rw [← ef]; exact ownL_putS hn2 rfl)
/-- x[k], as a list that is written -/
theorem ae_gget (n m : Nat) (hu : X.A.units + 1 < cLine) (hi : AE X ie fs fs (.val (kD k))) (hg : valV (gkv L) k = some (.ref g)) (hm : fs[m]? = some (.own g d)) (hn : fs[n]? = some (.raw l (.dK (gkv L)))) (hN : X.N[n]? = some x) (hv : Vis X.env.scope x)
    (hdb : (x == ("__debug__" : Str)) = false) (hcd : (x == ("__classdict__" : Str)) = false) (hs : NoSl ie) : AE X (.Subscript (.Name x px) ie pos) fs fs (.at g d) := by
  refine ⟨rfl, fun T σ H Q E q => bE_inv fun L0 => bE_of (pe_dget hu (pe_var hN hv hdb hcd) best hs) ?_⟩
  obtain ⟨r1, _⟩ := E.raw hn
  refine ⟨_, r1 (by rw [L0]; exact (List.getElem?_eq_some_iff.mp hN).1), hi.run T σ H _ E fun u H2 k2 p2 => ?_⟩
  obtain ⟨_, r2⟩ := p2.1.raw hn
  exact ⟨l, _, rfl, .inl ⟨gkv L, k, .inl r2, rp_key p2.2, hg.symm⟩, q _ H2 k2 ⟨p2.1, rfl, m, hm⟩⟩
/-- x[k].append(e) -/
theorem as_gapp (n : Nat) (hu : X.A.units + 1 < cLine) (hi : AE X ie (nm ++ gsl L) (nm ++ gsl L) (.val (kD k))) (he : AE X e (nm ++ gsl L) (nm ++ gsl L) (.val d)) (hm : k ∈ L.map (·.1)) (nd : (L.map (·.1)).Nodup) (hz : ∀ p ∈ L, p.2.2.length ≤ 100000) (hk : AS X rest cf (nm.set n (.raw l (.dK (gkv (gup L k d)))) ++ gsl (gup L k d)) D)
    (hn : nm[n]? = some (.raw l (.dK (gkv L))) := by rfl) (hN : X.N[n]? = some x := by rfl) (hv : Vis X.env.scope x := by first | exact Or.inl rfl | exact Or.inr (Or.inl rfl) | exact Or.inr (Or.inr rfl))
    (hdb : (x == ("__debug__" : Str)) = false := by decide) (hcd : (x == ("__classdict__" : Str)) = false := by decide) (hns : NoSl ie := by intro _ _; rfl)
    (hpe : ∀ {to : TE} {t : TA}, PE X (.Subscript (.Name x px) ie pos') to → PA X [e] t → PE X (.Call (.Attribute (.Subscript (.Name x px) ie pos') "append" apos) [e] [] cpos) (tBM X.K "list" rAppend to t) := by exact fun h1 h2 => pe_bm PySem.F.plainAttrs_list PySem.F.slot_list_append PySem.F.type_list_append mt_append h1 h2)
    (hst : starEach [e] X.env = (false, eval e X.env) :: starEach [] X.env := by rfl) (hs : swapsWith (.Call (.Attribute (.Subscript (.Name x px) ie pos') "append" apos) [e] [] cpos) none pos.line X.env = pure false := by rfl) : AS X (.Expr (.Call (.Attribute (.Subscript (.Name x px) ie pos') "append" apos) [e] [] cpos) pos :: rest) cf (nm ++ gsl L) D := by
  obtain ⟨⟨k2, g, ds⟩, hp, e2⟩ := List.mem_map.mp hm
  obtain rfl : k2 = k := e2
  obtain ⟨i, hiL⟩ := List.mem_iff_getElem?.mp hp
  have ln : n < nm.length := (List.getElem?_eq_some_iff.mp hn).1
  have hn' : (nm ++ gsl L)[n]? = some (.raw l (.dK (gkv L))) := by rw [List.getElem?_append_left ln]; exact hn
  have hg' : (nm ++ gsl L)[nm.length + i]? = some (.own g (.list ds)) := by
    rw [List.getElem?_append_right (Nat.le_add_right _ _), Nat.add_sub_cancel_left]; simp [gsl, hiL]
  refine as_app (nm.length + i) (ae_gget n (nm.length + i) hu hi (gkv_get hiL nd) hg' hn' hN hv hdb hcd hns) he (hz _ hp) ?_ hg' hpe hst hs
  have ef : (nm ++ gsl L).set (nm.length + i) (.own g (.list (ds ++ [d]))) = nm ++ gsl (gup L k2 d) := by
    rw [List.set_append_right _ _ (Nat.le_add_right _ _), Nat.add_sub_cancel_left, gup_set hiL nd]
    simp [gsl]
  rw [gkv_gup, set_same hn] at hk
  rw [ef]; exact hk
/-- the dict is whole: its lists are no longer written -/
theorem as_gclose (n : Nat) (hk : AS X sts cf (nm.set n (.own l (dD (gtb L)))) D) (hn : nm[n]? = some (.raw l (.dK (gkv L))) := by rfl) (hlen : X.N.length = nm.length := by rfl) : AS X sts cf (nm ++ gsl L) D := by
  refine fun σ H S => bSs_inv fun L0 => ?_
  have ln : n < nm.length := (List.getElem?_eq_some_iff.mp hn).1
  have hn' : (nm ++ gsl L)[n]? = some (.raw l (.dK (gkv L))) := by rw [List.getElem?_append_left ln]; exact hn
  have eo : ownL (nm.set n (.own l (dD (gtb L)))) = ownL nm := ownL_putS hn rfl
  have ea : ownL (nm ++ gsl L) = ownL nm ++ ownL (gsl L) := ownL_app
  have sub : ∀ a ∈ ownL (nm.set n (.own l (dD (gtb L)))), a ∈ ownL (nm ++ gsl L) := fun a h => by rw [ea]; rw [eo] at h; exact List.mem_append_left _ h
  refine hk σ H (S.less ?_ sub)
  have E := S.er
  have up : Same (cut H (tt cf.T (ownL (nm ++ gsl L)))) (cut H (tt cf.T (ownL (nm.set n (.own l (dD (gtb L))))))) := cut_same fun b o e q => by
    obtain ⟨e1, e2⟩ := tt_false.mp e
    exact ⟨tt_false.mpr ⟨e1, fun z => e2 (sub b z)⟩, q⟩
  obtain ⟨_, hl⟩ := E.raw hn'
  have rk : ∀ M : GL, (∀ p ∈ M, p ∈ L) → RK X.K (cut H (tt cf.T (ownL (nm.set n (.own l (dD (gtb L))))))) (gkv M) (gtb M) := by
    intro M
    induction M with
    | nil => intro _; exact .nil
    | cons p M ih =>
      intro h
      refine .cons ?_ (ih fun q hq => h q (List.mem_cons_of_mem _ hq))
      obtain ⟨i, hi⟩ := List.mem_iff_getElem?.mp (h p List.mem_cons_self)
      have hs : (nm ++ gsl L)[nm.length + i]? = some (.own p.2.1 (.list p.2.2)) := by
        rw [List.getElem?_append_right (Nat.le_add_right _ _), Nat.add_sub_cancel_left]; simp [gsl, hi]
      obtain ⟨vs, h3, h4⟩ := (E.own hs).2
      have m1 : p.2.1 ∈ ownL (gsl L) := mem_ownL.mpr ⟨i, .own p.2.1 (.list p.2.2), by simp [gsl, hi], rfl⟩
      have nd := E.nd
      rw [ea] at nd
      have m2 : p.2.1 ∉ ownL nm := fun z => (List.nodup_append.mp nd).2.2 _ z _ m1 rfl
      have t0 : cf.T p.2.1 = false := E.out _ (by rw [ea]; exact List.mem_append_right _ m1)
      exact .lst (SqL.of (cut_of (tt_false.mpr ⟨t0, by rw [eo]; exact m2⟩) h3)) (h4.mono up)
  refine ⟨by rw [L0, hlen, List.length_set]; exact Nat.le_refl _, fun j s h => ?_, ?_, fun a h => E.out a (sub a h), E.dom⟩
  · by_cases e : n = j
    · subst e
      rw [List.getElem?_set_self ln] at h
      cases Option.some.inj h
      obtain ⟨r1, _⟩ := E.raw hn'
      exact ⟨_, r1, rfl, ow_of hl (rk L fun _ h => h)⟩
    · rw [List.getElem?_set_ne e] at h
      have lj : j < nm.length := (List.getElem?_eq_some_iff.mp h).1
      obtain ⟨ov, h1, h2⟩ := E.sl j s (by rw [List.getElem?_append_left lj]; exact h)
      exact ⟨ov, h1, h2.mono up fun _ _ => rfl⟩
  · rw [eo]; have nd := E.nd; rw [ea] at nd; exact (List.nodup_append.mp nd).1
end
end A3
namespace A3
open PySem PySem.Spec PyProof.Rows L2
/-! ### a sign's place among the letters -/
theorem let_occ : ∀ n : Fin 26, Builtin.Str.occurrences (SX.S LET) (SX.S [97 + n.val]) 0 (SX.S LET).length 1 = [n.val] := by decide +kernel
section
variable {X : Cx} {a b c e : Expr} {es : List Expr} {fs f1 f2 : Fm} {d d2 : PyData} {ds : List PyData} {r : Res} {pos p apos : Pos} {T : Addr → Bool} {σ : L2.St} {H H' : Hp} {x : Str} {s : Slot}
theorem ae_letIx {n : Nat} (ha : AE X a fs f1 (.val (sD LET))) (hb : AE X b f1 f2 (.val (sD [97 + n]))) (hn : n < 26) (hs : starEach [b] X.env = [(false, eval b X.env)] := by rfl)
    (hbase : attributeBase a "index" X.env (eval a X.env) = eval a X.env := by rfl) (hline : (apos.endLine == pos.line) = true := by rfl) : AE X (.Call (.Attribute a "index" apos) [b] [] pos) fs f2 (.val (.int (n : Int))) := by
  refine ⟨hb.ow.trans ha.ow, fun T σ H Q E q => bE_of (pe_m1 PySem.F.slot_str_index PySem.F.type_str_index mt_sindex best best hs hbase hline) (ha.run T σ H _ E fun x H1 k1 p1 => ⟨⟨_, p1.2.str_inv⟩, hb.run T σ H1 _ p1.er fun y H2 k2 p2 => ?_⟩)⟩
  have k2' : Kp H1 H2 (ownL fs) := by rw [ha.ow] at k2; exact k2
  refine ⟨_, _, n, [], p1.2.str_inv, by rw [p2.2.str_inv], let_occ ⟨n, hn⟩, ?_⟩
  exact q _ H2 (k1.trans k2') ⟨p2.1, .int _⟩
/-! ### f(.., ..), the first argument a new object that is lent, and then nobody's -/
theorem er_pop {K : PySem.W.Frag} (E : ER K T σ H (f1 ++ [s])) (hl : σ.length ≤ f1.length) : ER K T σ H f1 := by
  have sub : ∀ b ∈ ownL f1, b ∈ ownL (f1 ++ [s]) := fun b h => by rw [ownL_app]; exact List.mem_append_left _ h
  refine ⟨hl, fun j u h => ?_, ?_, fun a h => E.out a (sub a h), E.dom⟩
  · obtain ⟨ov, h1, h2⟩ := E.sl j u (by rw [List.getElem?_append_left (List.getElem?_eq_some_iff.mp h).1]; exact h)
    exact ⟨ov, h1, h2.mono (cut_same fun b o e q => ⟨tt_false.mpr ⟨(tt_false.mp e).1, fun z => (tt_false.mp e).2 (sub b z)⟩, q⟩) fun _ _ => rfl⟩
  · have nd := E.nd
    rw [ownL_app] at nd; exact (List.nodup_append.mp nd).1
theorem po_pop {K : PySem.W.Frag} {H0 : Hp} {v : V} (p : Po K T σ H0 H (f1 ++ [s]) v r) (hl : σ.length ≤ f1.length) (hat : isAt r = false) : Po K T σ H0 H f1 v r := by
  have up : ∀ G : Hp, Same (cut G (tt T (ownL (f1 ++ [s])))) (cut G (tt T (ownL f1))) := fun G => cut_same fun b o e q => ⟨tt_false.mpr ⟨(tt_false.mp e).1, fun z => (tt_false.mp e).2 (by rw [ownL_app]; exact List.mem_append_left _ z)⟩, q⟩
  cases r with
  | val d => exact ⟨er_pop p.1 hl, p.2.mono (up H)⟩
  | new d =>
    obtain ⟨a, e, n, E, w⟩ := p
    exact ⟨a, e, n, er_pop E hl, w.mono (up _) rfl⟩
  | two d e =>
    obtain ⟨a, g, v1, e1, n1, n2, ne, ha, E, r1, w⟩ := p
    exact ⟨a, g, v1, e1, n1, n2, ne, ha, er_pop E hl, r1.mono (up _), w.mono (up _) rfl⟩
  | tw d e =>
    obtain ⟨a, g, h, e1, n1, n2, n3, ag, ah, gh, ha, E, r1, w⟩ := p
    exact ⟨a, g, h, e1, n1, n2, n3, ag, ah, gh, ha, er_pop E hl, r1.mono (up _) rfl, w.mono (up _) rfl⟩
  | «at» l d => cases hat
variable {CX : CXT} {k : Nat} {f : Addr} {fd : FuncData} {ps : List Str} {ct : Ct} {cx : Cex} {dvs : List V} {W : XK} {ss2 : List Slot} {dd : List PyData}
theorem ae_callG (G : Fn X CX k x f fd ps ct cx dvs dd) (hr : Room k X.A) (hx : Passes CX X W) (ha : AE X a fs f1 (.new d)) (hb : ∀ g, AD X es (f1 ++ [.own g d]) (f1 ++ [.own g d]) ds) (hc : ∀ g, ct ((.own g d :: ds.map .dat) ++ dd.map .dat) (.own g d2 :: ss2) r)
    (ho : ownL ss2 = [] := by rfl) (hlen : X.N.length ≤ f1.length := by exact Nat.le_of_ble_eq_true rfl) (hat : isAt r = false := by rfl) (hg : Gl X x := by rfl)
    (hdb : (x == ("__debug__" : Str)) = false := by decide) (he : starEach (a :: es) X.env = (false, eval a X.env) :: starEach es X.env := by rfl) (hpl : (backTo pos (starEach es X.env)).any (·.1) = false := by rfl) :
    AE X (.Call (.Name x p) (a :: es) [] pos) fs f1 r := by
  obtain ⟨dvals, hb', hd⟩ := G.bd
  refine ⟨ha.ow, fun T σ H Q E q => bE_inv fun L0 => bE_of (pe_call (E := W) G.ok hr hg G.mg G.kp hb' hd hx (pa_cons best bestA he) hdb he hpl) (ha.run T σ H _ E fun v H1 k1 p1 => ?_)⟩
  obtain ⟨g, rfl, na, E1, w⟩ := p1
  have hl : σ.length ≤ f1.length := by rw [L0]; exact hlen
  have E1' := er_push E1 w hl
  have oa : ownL (f1 ++ [.own g d]) = ownL f1 ++ [g] := ownL_push _
  refine (hb g).run T σ H1 _ E1' fun vs H2 k2 E2 p2 => ?_
  have hn : (f1 ++ [Slot.own g d])[f1.length]? = some (.own g d) := by rw [List.getElem?_append_right (Nat.le_refl _), Nat.sub_self]; rfl
  have ga : ArgR X.K (cut H2 (tt T (ownL (f1 ++ [.own g d])))) (f1 ++ [.own g d]) (.ref g :: vs) (.own g d :: ds.map .dat) := .own f1.length hn (argR_all p2)
  have ga2 := ga.app (G.df (cut H2 (tt T (ownL (f1 ++ [.own g d])))))
  have e0 : ownL ((.own g d :: ds.map Slot.dat) ++ dd.map Slot.dat) = [g] := by rw [ownL_app, ownL_dats]; show g :: ownL (ds.map Slot.dat) ++ [] = _; rw [ownL_dats]; rfl
  have e1 : ownL (.own g d2 :: ss2) = [g] := by show g :: ownL ss2 = _; rw [ho]
  have E3 := er_args E2 ga2 (by rw [e0]; simp)
  have kH2 : Kp H H2 (ownL fs) := fun b o nb h => by
    have h1 := k1 b o nb h
    refine k2 b o (fun z => ?_) h1
    rw [oa, ha.ow] at z
    rcases List.mem_append.mp z with z | z
    · exact nb z
    · rw [List.mem_singleton.mp z, na] at h; cases h
  refine ⟨_, _, E3, ga2.nA, .inl ⟨.own g d2 :: ss2, r, hc g, by rw [e0]; exact e1, fun v H' kk pp => ?_⟩⟩
  rw [e0] at kk pp
  have pb := po_back1 (n := f1.length) (m := 0) E2 pp e1 kk (isAt_no hat) hn rfl
  have es : (f1 ++ [Slot.own g d]).set f1.length (.own g d2) = f1 ++ [.own g d2] := by
    rw [List.set_append_right _ _ (Nat.le_refl _), Nat.sub_self]; rfl
  rw [es] at pb
  exact q v H' (fun b o nb h => kk b o (by
    have : b ≠ g := fun z => by rw [z, na] at h; cases h
    simpa using this) (kH2 b o nb h)) ((po_pop pb hl hat).back kH2 (er_pop E2 hl) ha.ow)
/-! ### a dict as it is written -/
structure APs (X : Cx) (pos : Pos) (keys : List (Option Expr)) (vals : List Expr) (fs : Fm) (ps : List (Key × PyData)) : Prop where
  run : ∃ trs, PPs X pos keys vals trs ∧ ∀ (T : Addr → Bool) (σ : L2.St) (H : Hp) (Q : List (V × V) → Hp → Prop), ER X.K T σ H fs → (∀ kvs H', Kp H H' (ownL fs) → ER X.K T σ H' fs → RK X.K (cut H' (tt T (ownL fs))) kvs ps → Q (kvs.map fun kv => (kV kv.1, kv.2)) H') → tPairs trs σ H Q
theorem aps_nil : APs X pos [] [] fs [] := ⟨[], pps_nil, fun T σ H Q E q => q [] H (Kp.refl _ _) E .nil⟩
theorem aps_cons {ks : List (Option Expr)} {vs : List Expr} {key : Key} {qs : List (Key × PyData)} (hk : AE X a fs fs (.val (kD key))) (hv : AE X b fs fs (.val d)) (hr : APs X pos ks vs fs qs) : APs X pos (some a :: ks) (b :: vs) fs ((key, d) :: qs) := by
  obtain ⟨trs, pp, h⟩ := hr.run
  refine ⟨_, pps_cons best best pp, fun T σ H Q E q => hk.run T σ H _ E fun x H1 k1 p1 => hv.run T σ H1 _ p1.1 fun y H2 k2 p2 => h T σ H2 _ p2.1 fun kvs H3 k3 E3 r3 => ?_⟩
  rw [rp_key p1.2]
  exact q ((key, y) :: kvs) H3 ((k1.trans k2).trans k3) E3 (.cons (p2.2.mono (k3.up rfl)) r3)
theorem ae_disp {keys : List (Option Expr)} {vals : List Expr} {qs : List (Key × PyData)} (h : APs X pos keys vals fs qs) (hz : qs.length ≤ 15 := by decide) (hall : keys.all (·.isSome) = true := by rfl) (hl : keys.length = vals.length := by rfl) (h0 : keys ≠ [] := by exact fun z => by cases z) (hk : keys.length ≤ 15 := by decide) : AE X (.Dict keys vals pos) fs fs (.new (dD (gM qs))) := by
  obtain ⟨trs, pp, h⟩ := h.run
  refine ⟨rfl, fun T σ H Q E q => bE_of (pe_disp pp hall hl h0 hk) fun p n => ?_⟩
  have Tp : tt T (ownL fs) p = false := E.free n
  have E1 : ER X.K (with1 T p) σ (upd H p (.dK [])) fs := er_with (E.keep (same_hide (same_upd n) n)) (by rw [upd_same]; exact fun z => by cases z)
  refine h (with1 T p) σ (upd H p (.dK [])) _ E1 fun kvs H2 k2 E2 rk => ⟨k2 p _ (tt_false.mp Tp).2 upd_same, kvs, rfl, by rw [rk.len]; exact hz, ?_⟩
  have E3 := er_unwith E2 (tt_false.mp Tp).1
  have kH : Kp H H2 (ownL fs) := fun b o nb hb => k2 b o nb (by rw [upd_ne (fun z => by rw [z, n] at hb; cases hb)]; exact hb)
  have eh : hide (upd H2 p (.dK (mergeK [] kvs))) p = hide H2 p := by
    funext b
    by_cases z : b = p
    · rw [z, hide_self, hide_self]
    · rw [hide_ne z, hide_ne z, upd_ne z]
  refine q _ _ (fun b o nb hb => ?_) ⟨p, rfl, n, by rw [eh]; exact E3, ow_of upd_same (RK.merge (rk.mono ?_) .nil)⟩
  · have ne : b ≠ p := fun z => by rw [z, n] at hb; cases hb
    rw [upd_ne ne]; exact kH b o nb hb
  · rw [eh, with1_cut]; exact fun _ _ z => z
end
end A3
namespace A3
open PySem PySem.Spec PyProof.Rows L2
/-! ### f(.., k = v): the last parameters told by name -/
theorem kbinds1 {K : PySem.W.Frag} {x qual : Str} {params : Arguments} {body : List Stmt} {scope : Scope} {dvs : List V} {kws : List (Str × V)} {f : Addr} {fd : FuncData} {ps : List Str}
    (F : FunD K x qual params body scope dvs kws f fd) (n : Nat) (ks : List Str) (hd : dvs ≠ [])
    (h : ∀ (T : Addr) (kV doc pm : Value) (an : Option Addr) (cdv ct : Value) (us its ws : List Value), us.length = n → its.length = dvs.length → ws.length = ks.length →
      ∃ k, bindArgs (PySem.W.fnOf x qual params body scope (.ref T) kV doc pm an cdv ct) ⟨us, ks.zip ws⟩ = seqItems? (.ref T) >>= k ∧ k (some its.toArray) = pure (ps.zip (us ++ ws))) : KBn K fd ps n ks (fun us ws => us ++ ws) (fun vs zs => vs ++ zs) := by
  obtain ⟨oc, od, dV, kV, doc, pm, an, cdv, ct, osl, rfl, lk, hcd, hD, hK⟩ := F.ex
  rcases hD with ⟨e, _⟩ | ⟨_, T, o, its, m, rfl, lT, oT, rT⟩
  · exact absurd e hd
  · refine ⟨fun s us ws X l1 l2 => ?_, fun r1 r2 => r1.append r2⟩
    obtain ⟨k, e1, e2⟩ := h T kV doc pm an cdv ct us its ws l1 rT.length.symm l2
    refine BindsTo.of_looks fun M => ?_
    rw [e1]
    exact looks_items X lT oT (.of_pure e2)
structure FnK (X : Cx) (CX : CXT) (k : Nat) (x : Str) (f : Addr) (fd : FuncData) (ps : List Str) (ct : Ct) (cx : Cex) (n : Nat) (ks : List Str) : Prop where
  ok : FnOk X.prog X.w X.K X.mg X.base CX k f fd ps (Sp3 X.K ct cx)
  mg : X.mg x = some (.ref f)
  kp : PySem.W.keepIn X.K (.ref f) = true
  kb : KBn X.K fd ps n ks (fun us ws => us ++ ws) (fun vs zs => vs ++ zs)
theorem FnK.blk {X : Cx} {CX : CXT} {k : Nat} {x : Str} {f : Addr} {fd : FuncData} {ps : List Str} {ct : Ct} {cx : Cex} {n : Nat} {ks : List Str} {s : Shared} {H : Hp} {C : Addr} {cl : List (Str × Addr)} {fp : List Addr} (h : FnK X CX k x f fd ps ct cx n ks) : FnK (BX X scope s H C cl fp) CX k x f fd ps ct cx n ks := ⟨h.ok, h.mg, h.kp, h.kb⟩
def FnKT (K : PySem.W.Frag) (mg : Str → Option Value) (P : Program) (w : World) (base : Heap) (k : Nat) (x : Str) (ps : List Str) (ct : Ct) (cx : Cex) (n : Nat) (ks : List Str) : Prop :=
  ∃ f fd, FnOk P w K mg base CX0 k f fd ps (Sp3 K ct cx) ∧ mg x = some (.ref f) ∧ PySem.W.keepIn K (.ref f) = true ∧ KBn K fd ps n ks (fun us ws => us ++ ws) (fun vs zs => vs ++ zs)
theorem FnKT.fn {X : Cx} {P : Program} {w : World} {K : PySem.W.Frag} {mg : Str → Option Value} {base : Heap} {k : Nat} {x : Str} {ps : List Str} {ct : Ct} {cx : Cex} {n : Nat} {ks : List Str} (h : FnKT K mg P w base k x ps ct cx n ks)
    (h1 : X.prog = P) (h2 : X.w = w) (h3 : X.K = K) (h4 : X.mg = mg) (h5 : X.base = base) : ∃ f fd, FnK X CX0 k x f fd ps ct cx n ks := by
  obtain ⟨f, fd, a, b, c, d⟩ := h
  subst h1 h2 h3 h4 h5
  exact ⟨f, fd, a, b, c, d⟩
section
variable {X : Cx} {a b c e : Expr} {es : List Expr} {fs f1 f2 : Fm} {d d2 : PyData} {ds : List PyData} {r : Res} {pos p apos kpos : Pos} {T : Addr → Bool} {σ : L2.St} {H H' : Hp} {x nm : Str} {s : Slot} {CX : CXT} {k n : Nat} {f : Addr} {fd : FuncData} {ps ks : List Str} {ct : Ct} {cx : Cex} {W : XK} {ss2 : List Slot}
theorem ae_callK (G : FnK X CX k x f fd ps ct cx n [nm]) (hr : Room k X.A) (hx : Passes CX X W) (ha : AD X (a :: es) fs f1 ds) (hb : AE X b f1 f2 (.val d)) (hc : ct ((ds ++ [d]).map .dat) ss2 r) (hn : ds.length = n := by rfl) (ho : ownL ss2 = [] := by rfl) (hat : isAt r = false := by rfl) (hg : Gl X x := by rfl)
    (hdb : (x == ("__debug__" : Str)) = false := by decide) (he : starEach (a :: es) X.env = (false, eval a X.env) :: starEach es X.env := by rfl)
    (hall : (backToKw pos (keywordEach [⟨some nm, b, kpos⟩] X.env)).all (·.1.isSome) = true := by rfl) (hks : (backToKw pos (keywordEach [⟨some nm, b, kpos⟩] X.env)).filterMap (·.1) = [nm] := by rfl)
    (hpl : ((backTo pos (starEach (a :: es) X.env)).any (·.1) || (backToKw pos (keywordEach [⟨some nm, b, kpos⟩] X.env)).any (·.1.isNone)) = false := by rfl) :
    AE X (.Call (.Name x p) (a :: es) [⟨some nm, b, kpos⟩] pos) fs f2 r := by
  refine ⟨hb.ow.trans ha.ow, fun T σ H Q E q => bE_of (pe_callN (E := W) G.ok hr hg G.mg G.kp G.kb hx bestA (pk_cons best pk_nil) hall hks hdb he hpl) (ha.run T σ H _ E fun vs H1 k1 E1 p1 => hb.run T σ H1 _ E1 fun u H2 k2 p2 => ?_)⟩
  have k2' : Kp H1 H2 (ownL fs) := by rw [ha.ow] at k2; exact k2
  refine ⟨p1.length.trans hn, rfl, ?_⟩
  have g := argR_all (fs := f2) ((p1.mono (by rw [← hb.ow] at k2 ⊢; exact k2.up rfl)).app (RpAll.cons p2.2 RpAll.nil))
  have e0 : ownL ((ds ++ [d]).map Slot.dat) = [] := ownL_dats
  have E2 := er_args p2.1 g (by rw [e0]; exact List.nodup_nil)
  refine ⟨_, _, E2, g.nA, .inl ⟨ss2, r, hc, by rw [ho, e0], fun v H' kk pp => ?_⟩⟩
  rw [e0] at kk pp
  exact q v H' ((k1.trans k2').trans (Kp.of fun b o h => kk b o (by simp) h)) ((po_back0 p2.1 pp ho kk (isAt_no hat)).back (k1.trans k2') p2.1 (hb.ow.trans ha.ow))
/-! ### max of a tuple of two whole numbers -/
def rMaxT2 (K : PySem.W.Frag) : List V → Hp → VK → Prop := fun vs H Q => ∃ (p : Addr) (i j : Int), vs = [.ref p] ∧ SqT K H p [.int i, .int j] ∧ Q (.int (if j > i then j else i)) H
theorem call_maxT2 (hc : X.calm = true) (hu : X.A.units + 64 < cLine) : CallR X (.builtin "max") (rMaxT2 X.K) := by
  intro pins s σ H vs us Q I r h
  obtain ⟨p, i, j, rfl, hs, q⟩ := h
  obtain ⟨its, rv, hl, _⟩ := I.tuple hs
  rw [Vals.ref1 r]
  obtain ⟨u1, u2, rfl, ⟨t1, rfl⟩, ⟨t2, rfl⟩⟩ : ∃ u1 u2, its = [u1, u2] ∧ RelV (.int i) u1 ∧ RelV (.int j) u2 := by
    cases rv with
    | cons a b =>
      cases b with
      | cons b c => cases c; exact ⟨_, _, rfl, a, b⟩
  have hd : PySem.W.HoldAll s.heap (#[Value.int i t1, Value.int j t2] : Array Value).toList ([i, j] : List Int) := ⟨_, .cons (.int i t1) (.cons (.int j t2) .nil)⟩
  refine PySem.W.max_tuple_datum (α := Int) (I.ok.hd hc) (show s.heap.IsTuple p _ from hl) hd (by show X.A.units + 1 + 0 < cLine; omega) fun k v h' tk hk hv kp => ?_
  have e : PySem.W.maxOf i [j] = if j > i then j else i := by
    show (if PySem.W.DatumOrd.lt i j = true then j else i) = _
    show (if decide (i < j) = true then j else i) = _
    by_cases z : i < j
    · rw [if_pos (decide_eq_true z), if_pos z]
    · rw [if_neg (by simp [z]), if_neg (show ¬ j > i from z)]
  rw [e] at hv
  obtain ⟨as, rd⟩ := hv
  cases rd
  exact ⟨.int _, H, I.kept kp, ⟨_, rfl⟩, q⟩
theorem ae_maxT2 {i j : Int} (hca : X.calm = true) (hu : X.A.units + 64 < cLine) (ha : AE X a fs f1 (.val (.tuple [.int i, .int j]))) (hg : Gl X "max") (hm : X.mg "max" = none) (he : starEach [a] X.env = (false, eval a X.env) :: starEach [] X.env := by rfl) :
    AE X (.Call (.Name "max" p) [a] [] pos) fs f1 (.val (.int (if j > i then j else i))) :=
  ae_callB (call_maxT2 hca hu) (ad_cons ha ad_nil he) (fun S H2 vs Q e pv q => by
    obtain ⟨v, rfl, rv⟩ := pv.one_inv
    obtain ⟨g, ws, rfl, s2, qw⟩ := rv.tup_inv
    obtain ⟨v1, v2, rfl, r1, r2⟩ := qw.two_inv
    rw [r1.int_inv, r2.int_inv] at s2
    exact ⟨g, i, j, rfl, sqT_same e s2, q _ fun _ => .int _⟩) hg hm (by decide +kernel) (he := he)
/-! ### list + list, both data -/
section
open PySem.AutoSeq1
theorem add_gen (l : Addr) (items : Array Value) (n : Nat) (b : Addr) (items2 : Array Value) (n2 : Nat) (s1 s2 : Array (Option Value)) (hc0 : items.size + items2.size ≤ sizeLine) :
    Meets (Builtin.«list.__add__» ⟨[.ref l, .ref b], []⟩) (fun _ R s => s.heap.get? l = some { cls := .type "list", dict := none, data := .seq items n, slots := s1 } ∧ s.heap.get? b = some { cls := .type "list", dict := none, data := .seq items2 n2, slots := s2 } ∧ R (.ok (.ret (Value.ref s.heap.objs.size))) { s with heap := s.heap.push { cls := Value.type "list", data := Data.seq (items ++ items2) }, toks := s.toks }) :=
  .of_wp fun prog w A R s h => by obtain ⟨hp, g, d, tk, os⟩ := s; obtain ⟨hl, hb, h⟩ := h; have f1 := PySem.AutoSeq1.idx_int; have f2 := PySem.AutoSeq1.sub_tuple_tuple; have f3 := PySem.AutoSeq1.sub_list_list; have f4 := PySem.AutoSeq1.sub_tuple_list; have f5 := PySem.AutoSeq1.sub_list_tuple; wp_walk using PySem.AutoSeq1.wpAny_loadPart' hl, PySem.AutoSeq1.wpAny_loadPart' hb; exact ⟨_, rfl, h⟩
end
def rCatV (K : PySem.W.Frag) : R2 := fun x y H Q => ∃ l b xs zs, x = .ref l ∧ y = .ref b ∧ SqL K H l xs ∧ SqL K H b zs ∧ xs.length + zs.length ≤ sizeLine ∧ ∀ p, H p = none → Q (.ref p) (upd H p (.lst (xs ++ zs)))
theorem op_catV : OpR X (binaryOp .Add) (rCatV X.K) := by
  intro pins s σ H x y v u Q I rx ry h
  obtain ⟨l, b, xs, zs, rfl, rfl, hH, hB, hz, q⟩ := h
  cases rx
  cases ry
  obtain ⟨its, r, ⟨o, n, e, c1, c2, c3⟩, _⟩ := I.list hH
  obtain ⟨its2, r2, ⟨o2, n2, e2, d1, d2, d3⟩, _⟩ := I.list hB
  obtain ⟨oc, od, ox, os⟩ := o
  obtain ⟨pc, pd, px, ps⟩ := o2
  cases (show oc = .type "list" from c1)
  cases (show od = none from c2)
  cases (show ox = .seq its.toArray n from c3)
  cases (show pc = .type "list" from d1)
  cases (show pd = none from d2)
  cases (show px = .seq its2.toArray n2 from d3)
  refine PySem.concat_meets ⟨_, e, rfl⟩ ⟨_, e2, rfl⟩ noFill_list_add seq_list_add PySem.F.slot_list_add PySem.F.entry_list_add (PySem.F.args_list_add_2 _ _) (add_gen l its.toArray n b its2.toArray n2 os ps (by rw [List.size_toArray, List.size_toArray, ← r.length, ← r2.length]; exact hz)) ⟨e, e2, ?_⟩
  have ea : its.toArray ++ its2.toArray = (its ++ its2).toArray := by simp
  rw [ea]
  exact ⟨.ref _, _, I.lnew (t' := s.toks) (r.append r2) (by rw [List.length_append]; omega), rfl, q _ I.fresh⟩
theorem ae_addV {ds2 : List PyData} (ha : AE X a fs f1 (.val (.list ds))) (hb : AE X b f1 f2 (.val (.list ds2))) (hz : ds.length + ds2.length ≤ 100000 := by first | exact Nat.le_of_ble_eq_true rfl | omega | (simp; omega)) : AE X (.BinOp a .Add b pos) fs f2 (.new (.list (ds ++ ds2))) := by
  refine ⟨hb.ow.trans ha.ow, fun T σ H Q E q => bE_of (pe_op op_catV best best) (two ha hb E fun x y H1 H2 k k1 rx p => ?_)⟩
  obtain ⟨l, vs, rfl, s1, q1⟩ := rx.lst_inv
  obtain ⟨m, ws, rfl, s2, q2⟩ := p.2.lst_inv
  refine ⟨l, m, vs, ws, rfl, rfl, sqL_same (cut_all _ _) s1, sqL_same (cut_all _ _) s2, by rw [q1.length, q2.length]; exact Nat.le_trans hz (by rw [sizeLine_eq]; decide), fun g n => ?_⟩
  exact q _ _ (k.trans (Kp.of (same_upd n))) (po_lst p.1 k (hb.ow.trans ha.ow) n (q1.app q2))
/-! ### x = a display of constants (the elaborator would run the statement: the step stands behind a structure) -/
structure Imp (P Q : Prop) : Prop where
  run : P → Q
theorem Imp.goTo {P Q G : Prop} (h : Q = G) (i : Imp P Q) (p : P) : G := by
  rw [← h]; exact i.run p
theorem as_setW {rest : List Stmt} {cf : Cf} {D : D3} {pos' : Pos} (n : Nat) (he : AE X e fs f1 (.val d)) (hN : X.N.Nodup) (hi : X.N[n]? = some x := by rfl) (hx : Loc X.env.scope x := by first | exact .inl rfl | exact .inr rfl)
    (hs : swapsWith e (some (.Name x pos')) pos.line X.env = pure false := by rfl) (hf : X.fn x = true ∨ X.env.scope.names.lookup x = some .local := by first | exact .inl rfl | exact .inr rfl) : Imp (AS X rest cf (f1.set n (.dat d)) D) (AS X (.Assign [.Name x pos'] e pos :: rest) cf fs D) :=
  ⟨fun hk => as_set n he hk hN hi hx hs hf⟩
end
end A3
namespace A3
open PySem PySem.Spec PyProof.Rows L2
/-! ### in, for a list of any data -/
section
variable {X : Cx}
def rInD (K : PySem.W.Frag) : R2 := fun x y H Q => ∃ d ds, Dp K H x d ∧ Dp K H y (.list ds) ∧ d.canLay0 = true ∧ (PyData.list ds).canLay0 = true ∧ d.depth ≤ 60 ∧ Q (.bl (ds.any fun z => PyData.eqv z d)) H
def rNinD (K : PySem.W.Frag) : R2 := fun x y H Q => ∃ d ds, Dp K H x d ∧ Dp K H y (.list ds) ∧ d.canLay0 = true ∧ (PyData.list ds).canLay0 = true ∧ d.depth ≤ 60 ∧ Q (.bl (!ds.any fun z => PyData.eqv z d)) H
theorem room_inD {A : Around} {ds : List PyData} {d : PyData} (h : d.depth ≤ 60) (hu : A.units + 64 < cLine) : A.units + 1 + min (PyData.depthAll ds) d.depth < cLine := by
  have h2 : min (PyData.depthAll ds) d.depth ≤ d.depth := Nat.min_le_right _ _
  omega
theorem op_inD (hu : X.A.units + 64 < cLine) : OpR X (compareOp .In) (rInD X.K) := by
  intro pins s σ H x y v u Q I rx ry h
  obtain ⟨d, ds, hd, he, cd, ce, dp, q⟩ := h
  obtain ⟨as, r1⟩ := Dp.reads I d x v hd rx
  obtain ⟨bs, r2⟩ := Dp.reads I _ y u he ry
  exact PySem.SeqAt.in_list_reads r2 r1 ce cd (room_inD dp hu) ⟨.bl _, H, I, rfl, q⟩
theorem op_ninD (hu : X.A.units + 64 < cLine) : OpR X (compareOp .NotIn) (rNinD X.K) := by
  intro pins s σ H x y v u Q I rx ry h
  obtain ⟨d, ds, hd, he, cd, ce, dp, q⟩ := h
  obtain ⟨as, r1⟩ := Dp.reads I d x v hd rx
  obtain ⟨bs, r2⟩ := Dp.reads I _ y u he ry
  exact PySem.SeqAt.notIn_list_reads r2 r1 ce cd (room_inD dp hu) ⟨.bl _, H, I, rfl, q⟩
variable {a b : Expr} {f2 : Fm} {d1 : PyData} {r2 : Res} {ds : List PyData}
theorem c_inD (hu : X.A.units + 64 < cLine) (h1 : SeqAt.shaped d1 = true) (h2 : SeqAt.shaped r2.d = true) (e : r2.d = .list ds := by rfl) (hz : d1.depth ≤ 60 := by exact Nat.le_of_ble_eq_true rfl) (hm : behindInMarks .In b = false := by rfl) : CmpA X .In b f2 d1 r2 (ds.any fun z => PyData.eqv z d1) :=
  ⟨_, op_inD hu, hm, fun T σ H1 H2 x y Q rx p q => by
    have c2 := SeqAt.canLay_of_shaped h2
    have dp2 := Rp.dp _ _ p.rp c2
    rw [e] at c2 dp2
    exact ⟨d1, ds, Rp.dp _ _ (rx.mono (cut_all _ _)) (SeqAt.canLay_of_shaped h1), dp2, SeqAt.canLay_of_shaped h1, c2, hz, q⟩⟩
theorem c_ninD (hu : X.A.units + 64 < cLine) (h1 : SeqAt.shaped d1 = true) (h2 : SeqAt.shaped r2.d = true) (e : r2.d = .list ds := by rfl) (hz : d1.depth ≤ 60 := by exact Nat.le_of_ble_eq_true rfl) (hm : behindInMarks .NotIn b = false := by rfl) : CmpA X .NotIn b f2 d1 r2 (!ds.any fun z => PyData.eqv z d1) :=
  ⟨_, op_ninD hu, hm, fun T σ H1 H2 x y Q rx p q => by
    have c2 := SeqAt.canLay_of_shaped h2
    have dp2 := Rp.dp _ _ p.rp c2
    rw [e] at c2 dp2
    exact ⟨d1, ds, Rp.dp _ _ (rx.mono (cut_all _ _)) (SeqAt.canLay_of_shaped h1), dp2, SeqAt.canLay_of_shaped h1, c2, hz, q⟩⟩
end
end A3
namespace A3
open PySem PySem.Spec PyProof.Rows L2
/-! ### lists: insert, remove, pop(i); ranges from the end; list(range(n)) -/
section
variable {X : Cx} {a b e o tg : Expr} {fs f1 f2 : Fm} {d : PyData} {ds : List PyData} {pos pos' apos cpos : Pos} {l : Addr} {rest body : List Stmt} {c : Cf} {D : D3}
theorem RpAll.ints_inv {K : PySem.W.Frag} {H : Hp} : ∀ {vs : List V} {ns : List Int}, RpAll K H vs (ns.map PyData.int) → vs = ns.map V.int
  | _, [], h => by cases h; rfl
  | _, n :: ns, h => by
    cases h with
    | cons r q => rw [r.int_inv, q.ints_inv]; rfl
/-- what an owned list in the slot n comes to -/
theorem own_upd {K : PySem.W.Frag} {T : Addr → Bool} {σ : L2.St} {H : Hp} {n : Nat} {vs : List V} {ds es : List PyData} (E2 : ER K T σ H f1) (hn : f1[n]? = some (.own l (.list ds))) (q : RpAll K (cut H (tt T (ownL f1))) vs es) : ER K T σ (upd H l (.lst vs)) (f1.set n (.own l (.list es))) := by
  have il : l ∈ ownL f1 := mem_own hn
  have up : Same (cut H (tt T (ownL f1))) (cut (upd H l (.lst vs)) (tt T (ownL f1))) := cut_same fun b o e z => ⟨e, by rw [upd_ne (fun q => (tt_false.mp e).2 (by rw [q]; exact il))]; exact z⟩
  exact E2.put hn (fun b o nb h => by rw [upd_ne nb]; exact h) ⟨_, upd_same, q.mono up⟩
def rIns : V → List V → Hp → VK → Prop := fun x vs H Q => ∃ (l : Addr) (xs : List V) (i : Int) (y : V), x = .ref l ∧ vs = [.int i, y] ∧ H l = some (.lst xs) ∧ xs.length < sizeLine ∧ 0 ≤ i ∧ i < 2 ^ 63 ∧
    Q .non (upd H l (.lst (xs.take i.toNat ++ [y] ++ xs.drop i.toNat)))
/-- l.insert(i, e) -/
theorem as_ins {i : Int} (n : Nat) (ho : AE X o fs fs (.at l (.list ds))) (ha : AD X [a, e] fs f1 [.int i, d]) (hz : ds.length ≤ 100000) (h0 : 0 ≤ i) (h9 : i < 1000000000) (hk : AS X rest c (f1.set n (.own l (.list (ds.take i.toNat ++ [d] ++ ds.drop i.toNat)))) D) (hn : f1[n]? = some (.own l (.list ds)) := by rfl)
    (hpe : ∀ {to : TE} {t : TA}, PE X o to → PA X [a, e] t → PE X (.Call (.Attribute o "insert" apos) [a, e] [] cpos) (tBM X.K "list" rIns to t) := by exact fun h1 h2 => pe_bm PySem.F.plainAttrs_list PySem.F.slot_list_insert PySem.F.type_list_insert mt_insert h1 h2)
    (hs : swapsWith (.Call (.Attribute o "insert" apos) [a, e] [] cpos) none pos.line X.env = pure false := by rfl) : AS X (.Expr (.Call (.Attribute o "insert" apos) [a, e] [] cpos) pos :: rest) c fs D :=
  fun σ H S => bSs_of (pss_cons (ps_expr (hpe best bestA) hs) bestSs) (ho.run c.T σ H _ S.er fun ov H1 k1 p1 => by
    obtain ⟨E1, rfl, i1, hi⟩ := p1
    refine ⟨?_, ha.run c.T σ H1 _ E1 fun vs H2 k2 E2 p2 => ?_⟩
    · obtain ⟨vs, hl, _⟩ := (E1.own hi).2
      exact .inl ⟨rfl, _, SqL.of hl⟩
    · obtain ⟨vi, v, rfl, ri, rv⟩ := p2.two_inv
      obtain ⟨vs, hl, qv⟩ := (E2.own hn).2
      have S2 := S.step (k1.trans k2) E2 ha.ow
      refine ⟨l, vs, i, v, rfl, by rw [ri.int_inv], hl, by rw [qv.length]; exact Nat.lt_of_le_of_lt hz (by rw [sizeLine_eq]; decide), h0, by omega, hk _ _ ?_⟩
      have il : l ∈ ownL f1 := mem_own hn
      exact S2.step (fun b o nb h => by rw [upd_ne (fun z => nb (by rw [z]; exact il))]; exact h) (own_upd E2 hn (((qv.take i.toNat).snoc rv).app (qv.drop i.toNat))) (ownL_put hn))
/-- l.pop(i), not asked for -/
theorem as_popAt {i : Int} {k : Nat} (n : Nat) (ho : AE X o fs fs (.at l (.list ds))) (ha : AD X [a] fs f1 [.int i]) (hz : ds.length ≤ 100000) (hi : i = (k : Int)) (hlt : k < ds.length) (hk : AS X rest c (f1.set n (.own l (.list (ds.eraseIdx k)))) D) (hn : f1[n]? = some (.own l (.list ds)) := by rfl)
    (hpe : ∀ {to : TE} {t : TA}, PE X o to → PA X [a] t → PE X (.Call (.Attribute o "pop" apos) [a] [] cpos) (tBM X.K "list" rPopAt to t) := by exact fun h1 h2 => pe_bm PySem.F.plainAttrs_list PySem.F.slot_list_pop PySem.F.type_list_pop mt_popAt h1 h2)
    (hs : swapsWith (.Call (.Attribute o "pop" apos) [a] [] cpos) none pos.line X.env = pure false := by rfl) : AS X (.Expr (.Call (.Attribute o "pop" apos) [a] [] cpos) pos :: rest) c fs D :=
  fun σ H S => bSs_of (pss_cons (ps_expr (hpe best bestA) hs) bestSs) (ho.run c.T σ H _ S.er fun ov H1 k1 p1 => by
    obtain ⟨E1, rfl, i1, hi1⟩ := p1
    refine ⟨?_, ha.run c.T σ H1 _ E1 fun vs H2 k2 E2 p2 => ?_⟩
    · obtain ⟨vs, hl, _⟩ := (E1.own hi1).2
      exact .inl ⟨rfl, _, SqL.of hl⟩
    · obtain ⟨vi, rfl, ri⟩ := p2.one_inv
      obtain ⟨vs, hl, qv⟩ := (E2.own hn).2
      have S2 := S.step (k1.trans k2) E2 ha.ow
      have hlen := qv.length
      have hkv : k < vs.length := by omega
      refine ⟨l, vs, i, k, vs[k], rfl, by rw [ri.int_inv], hl, by omega, by omega, ?_, List.getElem?_eq_getElem hkv, hk _ _ ?_⟩
      · subst hi
        unfold seqIndex?
        simp
        omega
      have il : l ∈ ownL f1 := mem_own hn
      have qe : RpAll X.K (cut H2 (tt c.T (ownL f1))) (vs.eraseIdx k) (ds.eraseIdx k) := by
        rw [List.eraseIdx_eq_take_drop_succ, List.eraseIdx_eq_take_drop_succ]
        exact (qv.take k).app (qv.drop (k + 1))
      exact S2.step (fun b o nb h => by rw [upd_ne (fun z => nb (by rw [z]; exact il))]; exact h) (own_upd E2 hn qe) (ownL_put hn))
/-- l.remove(e), a list of whole numbers -/
theorem as_rem {k : Int} {j : Nat} {ns : List Int} (n : Nat) (ho : AE X o fs fs (.at l (.list (ns.map .int)))) (ha : AD X [a] fs f1 [.int k]) (hj : ns[j]? = some k) (hno : ∀ m : Nat, m < j → ns[m]? ≠ some k) (hk : AS X rest c (f1.set n (.own l (.list ((ns.eraseIdx j).map .int)))) D) (hn : f1[n]? = some (.own l (.list (ns.map .int))) := by rfl)
    (hpe : ∀ {to : TE} {t : TA}, PE X o to → PA X [a] t → PE X (.Call (.Attribute o "remove" apos) [a] [] cpos) (tBM X.K "list" rRemI to t) := by exact fun h1 h2 => pe_bm PySem.F.plainAttrs_list PySem.F.slot_list_remove PySem.F.type_list_remove mt_remove h1 h2)
    (hs : swapsWith (.Call (.Attribute o "remove" apos) [a] [] cpos) none pos.line X.env = pure false := by rfl) : AS X (.Expr (.Call (.Attribute o "remove" apos) [a] [] cpos) pos :: rest) c fs D :=
  fun σ H S => bSs_of (pss_cons (ps_expr (hpe best bestA) hs) bestSs) (ho.run c.T σ H _ S.er fun ov H1 k1 p1 => by
    obtain ⟨E1, rfl, i1, hi1⟩ := p1
    refine ⟨?_, ha.run c.T σ H1 _ E1 fun vs H2 k2 E2 p2 => ?_⟩
    · obtain ⟨vs, hl, _⟩ := (E1.own hi1).2
      exact .inl ⟨rfl, _, SqL.of hl⟩
    · obtain ⟨vi, rfl, ri⟩ := p2.one_inv
      obtain ⟨vs, hl, qv⟩ := (E2.own hn).2
      have S2 := S.step (k1.trans k2) E2 ha.ow
      have ev := qv.ints_inv
      subst ev
      refine ⟨l, ns, k, j, rfl, by rw [ri.int_inv], hl, hj, hno, hk _ _ ?_⟩
      have il : l ∈ ownL f1 := mem_own hn
      exact S2.step (fun b o nb h => by rw [upd_ne (fun z => nb (by rw [z]; exact il))]; exact h) (own_upd E2 hn (RpAll.ints _)) (ownL_put hn))
/-! ranges with a step of -1 -/
def dwnD (lo : Int) (n : Nat) : List PyData := (List.range n).map fun (k : Nat) => PyData.int (lo - (k : Int))
theorem dwnD_len (lo : Int) (n : Nat) : (dwnD lo n).length = n := by simp [dwnD]
theorem dwnD_get {lo : Int} {n k : Nat} (h : k < n) : (dwnD lo n)[k]? = some (.int (lo - (k : Int))) := by simp [dwnD, h]
theorem dwnD_inv {lo : Int} {n k : Nat} {d : PyData} (h : (dwnD lo n)[k]? = some d) : k < n ∧ d = .int (lo - (k : Int)) := by
  have lt : k < n := by
    have := (List.getElem?_eq_some_iff.mp h).1
    rw [dwnD_len] at this; exact this
  rw [dwnD_get lt] at h
  exact ⟨lt, (Option.some.inj h).symm⟩
/-- for target in reversed(range(a)) -/
theorem as_forRv {p p2 pos2 : Pos} {n : Int} (hp : PassesOwn (model X.prog X.w) X.A X.env X.xe) (P : Nat → Fm → Prop) (ha : AE X a fs f1 (.val (.int n))) (hn : n ≤ 1000000000000) (h0 : P 0 f1) (hs : Turn3 X tg body rest c D (dwnD (n - 1) n.toNat) P) (hd : ∀ f, P n.toNat f → AS X rest c f D)
    (hm : X.mg "reversed" = none) (hm2 : X.mg "range" = none) (hn0 : 0 ≤ n := by first | omega | ((repeat' split) <;> omega)) (hg : Gl X "reversed" := by rfl) (hg2 : Gl X "range" := by rfl) (hc : X.calm = true := by rfl) (hst : starEach [a] X.env = (false, eval a X.env) :: starEach [] X.env := by rfl)
    (hst2 : starEach [.Call (.Name "range" p2) [a] [] pos2] X.env = (false, eval (.Call (.Name "range" p2) [a] [] pos2) X.env) :: starEach [] X.env := by rfl)
    (hf : ∀ x, foldedSetIterable (.Call (.Name "reversed" p) [.Call (.Name "range" p2) [a] [] pos2] [] pos') X.env x = pure x := by intro _; rfl) : AS X (.For tg (.Call (.Name "reversed" p) [.Call (.Name "range" p2) [a] [] pos2] [] pos') body [] pos :: rest) c fs D := by
  refine fun σ H S => bSs_of (pss_cons (ps_for hp hc (pi_revR hg hm (prg_1 hg2 hm2 best hst) hst2) bestG bestSs hf) bestSs) (ha.run c.T σ H _ S.er fun v H1 k1 p1 => ?_)
  obtain ⟨E1, rv⟩ := p1
  have e1 : (n - 0).toNat = n.toNat := by rw [Int.sub_zero]
  refine ⟨n, rv.int_inv, by omega, by omega, by omega, by omega, ?_⟩
  rw [e1]
  refine for_core (ds := dwnD (n - 1) n.toNat) (S.step k1 E1 ha.ow) h0 (fun G g k lt => ?_) (fun G g => ?_) (fun G g k v G' lt y => ?_) hs (by rw [dwnD_len]; exact hd)
  · rw [dwnD_len] at lt; exact lt
  · show n.toNat ≤ _; rw [dwnD_len]; exact Nat.le_refl _
  · obtain ⟨rfl, rfl⟩ := y
    rw [dwnD_len] at lt
    refine ⟨fun _ _ h => h, _, dwnD_get lt, fun T σ f E dis et => ?_⟩
    have e2 : (0 + ((n.toNat : Nat) : Int) - 1 + ((k : Nat) : Int) * (-1)) = n - 1 - (k : Int) := by omega
    rw [e2]; exact .int _
/-- for target in range(a, b, -1) -/
theorem as_forR3 {s2 : Expr} {p : Pos} {lo hi : Int} (hp : PassesOwn (model X.prog X.w) X.A X.env X.xe) (P : Nat → Fm → Prop) (ha : AD X [a, b, s2] fs f1 [.int lo, .int hi, .int (-1)]) (h0 : P 0 f1) (hs : Turn3 X tg body rest c D (dwnD lo (lo - hi).toNat) P) (hd : ∀ f, P (lo - hi).toNat f → AS X rest c f D)
    (hm : X.mg "range" = none) (hb : -1000000000000 ≤ lo ∧ lo ≤ 1000000000000 ∧ -1000000000000 ≤ hi ∧ hi ≤ 1000000000000 := by first | omega | ((repeat' split) <;> omega)) (hg : Gl X "range" := by rfl) (hc : X.calm = true := by rfl)
    (hst : starEach [a, b, s2] X.env = (false, eval a X.env) :: starEach [b, s2] X.env := by rfl) (hpl : (backTo pos' (starEach [b, s2] X.env)).any (·.1) = false := by rfl)
    (hf : ∀ x, foldedSetIterable (.Call (.Name "range" p) [a, b, s2] [] pos') X.env x = pure x := by intro _; rfl) : AS X (.For tg (.Call (.Name "range" p) [a, b, s2] [] pos') body [] pos :: rest) c fs D := by
  refine fun σ H S => bSs_of (pss_cons (ps_for hp hc (pi_range3 hg hm bestA hst hpl) bestG bestSs hf) bestSs) (ha.run c.T σ H _ S.er fun vs H1 k1 E1 p1 => ?_)
  have ev : vs = [lo, hi, -1].map V.int := RpAll.ints_inv p1
  refine ⟨lo, hi, -1, (lo - hi).toNat, ev, RgC.neg (by omega) (by omega) (by omega) (by omega), ?_⟩
  refine for_core (ds := dwnD lo (lo - hi).toNat) (S.step k1 E1 ha.ow) h0 (fun G g k lt => ?_) (fun G g => ?_) (fun G g k v G' lt y => ?_) hs (by rw [dwnD_len]; exact hd)
  · rw [dwnD_len] at lt; exact lt
  · show (lo - hi).toNat ≤ _; rw [dwnD_len]; exact Nat.le_refl _
  · obtain ⟨rfl, rfl⟩ := y
    rw [dwnD_len] at lt
    refine ⟨fun _ _ h => h, _, dwnD_get lt, fun T σ f E dis et => ?_⟩
    have e2 : (lo + ((k : Nat) : Int) * (-1)) = lo - (k : Int) := by omega
    rw [e2]; exact .int _
/-- list(range(a)) -/
theorem ae_listR {p p2 pos2 : Pos} {n : Int} (ha : AE X a fs f1 (.val (.int n))) (h0 : 0 ≤ n) (hn : n ≤ 100000) (hm : X.mg "list" = none) (hm2 : X.mg "range" = none) (hg : Gl X "list" := by rfl) (hg2 : Gl X "range" := by rfl) (hc : X.calm = true := by rfl) (hst : starEach [a] X.env = (false, eval a X.env) :: starEach [] X.env := by rfl)
    (hst2 : starEach [.Call (.Name "range" p2) [a] [] pos2] X.env = (false, eval (.Call (.Name "range" p2) [a] [] pos2) X.env) :: starEach [] X.env := by rfl) : AE X (.Call (.Name "list" p) [.Call (.Name "range" p2) [a] [] pos2] [] pos) fs f1 (.new (.list (rngD 0 n.toNat))) := by
  refine ⟨ha.ow, fun T σ H Q E q => bE_of (pe_listRg hc hg hm (prg_1 hg2 hm2 best hst) hst2) (ha.run T σ H _ E fun x H1 k1 p1 => ?_)⟩
  refine ⟨n, p1.2.int_inv, RgOk.of_le (by decide) (by omega) (by decide) h0, fun l nl => q _ _ (k1.trans (Kp.of (same_upd nl))) ?_⟩
  refine po_lst p1.er k1 ha.ow nl ?_
  have e1 : rgV 0 n = ((List.range n.toNat).map fun (k : Nat) => (0 + (k : Int))).map V.int := by
    unfold rgV
    rw [Int.sub_zero, List.map_map]; rfl
  have e2 : rngD 0 n.toNat = ((List.range n.toNat).map fun (k : Nat) => (0 + (k : Int))).map PyData.int := by
    unfold rngD
    rw [List.map_map]; rfl
  rw [e1, e2]
  exact RpAll.ints _
end
/-! ### [.. for x in l], l an owned list -/
section
variable {X : Cx} {a b e elt tg iter : Expr} {es ifs : List Expr} {sts rest : List Stmt} {c : Cf} {D3' : D3} {fs f1 f2 f3 g1 g2 : Fm} {d d1 d2 : PyData} {ds : List PyData} {r : Res} {pos pos' spos : Pos} {T : Addr → Bool} {σ : L2.St} {H : Hp} {x : Str} {v : V} {scope : Scope} {own : List (Str × Nat)}
theorem comp_core2 {vs : List Nat} {J : It} {F : Nat → Fm} {y : Nat → Option PyData} {D : Addr} {Q : VK} (E1 : ER X.K T σ H f1) (nD : H D = none) (hz : ds.length ≤ 100000) (F0 : F 0 = wipeF f1 vs) (Fo : ∀ i, ownL (F i) = ownL f1)
    (hgo : ∀ G k, ER X.K (with1 T D) (wipe σ vs) G (F k) → k < ds.length → J.go k G) (hst : ∀ G, ER X.K (with1 T D) (wipe σ vs) G (F ds.length) → J.stop ds.length G)
    (hy : ∀ G k w G', ER X.K (with1 T D) (wipe σ vs) G (F k) → k < ds.length → J.yld k G w G' → Same G G' ∧ ∃ d, ds[k]? = some d ∧ Rp X.K (cut G' (tt (with1 T D) (ownL f1))) w d)
    (hs : ∀ i d, ds[i]? = some d → TurnC X scope vs tg ifs elt d (F i) (F (i + 1)) (y i))
    (hq : ∀ H', Kp H H' (ownL f1) → ER X.K (with1 T D) (wipe σ vs) H' (F ds.length) → (∃ acc, H' D = some (.lst acc) ∧ RpAll X.K (cut H' (tt (with1 T D) (ownL f1))) acc (madeC y ds.length)) → Q (.ref D) H') :
    ∃ W : Nat → Nat → Hp → Prop, (∃ m, W 0 m (upd H D (.lst []))) ∧ ∀ i m H, W i m H →
      (J.stop i H ∧ Q (.ref D) H) ∨ (J.go i H ∧ ∃ Nx : Hp → Prop, (∀ H', Nx H' → ∃ m', m' < m ∧ W (i + 1) m' H') ∧ ∀ x H', J.yld i H x H' → gB X scope tg x (wipe σ vs) H' fun σ2 H2 => wipe σ2 vs = wipe σ vs ∧ iB X scope ifs σ2 H2 fun b H3 =>
        if b = true then eB X scope elt σ2 H3 fun z H4 => ∃ acc, H4 D = some (.lst acc) ∧ acc.length < sizeLine ∧ Nx (upd H4 D (.lst (acc ++ [z]))) else Nx H3) := by
  have fD : tt T (ownL f1) D = false := E1.free nD
  have dD : D ∉ ownL f1 := (tt_false.mp fD).2
  refine ⟨fun i m H' => m = ds.length - i ∧ i ≤ ds.length ∧ Kp H H' (ownL f1) ∧ ER X.K (with1 T D) (wipe σ vs) H' (F i) ∧ ∃ acc, H' D = some (.lst acc) ∧ RpAll X.K (cut H' (tt (with1 T D) (ownL f1))) acc (madeC y i), ⟨_, rfl, Nat.zero_le _, Kp.of (same_upd nD), ?_, [], upd_same, .nil⟩, ?_⟩
  · have E2 : ER X.K T (wipe σ vs) (hide (upd H D (.lst [])) D) (F 0) := by
      rw [F0]
      exact er_wipe (E1.keep (same_hide (same_upd nD) nD)) vs
    exact er_with E2 (by rw [upd_same]; exact fun z => by cases z)
  · rintro i m H1 ⟨rfl, hi, k1, E2, acc, hacc, qacc⟩
    by_cases lt : i < ds.length
    · refine .inr ⟨hgo H1 i E2 lt, fun H' => Kp H H' (ownL f1) ∧ ER X.K (with1 T D) (wipe σ vs) H' (F (i + 1)) ∧ ∃ acc, H' D = some (.lst acc) ∧ RpAll X.K (cut H' (tt (with1 T D) (ownL f1))) acc (madeC y (i + 1)), fun H' q => ⟨ds.length - (i + 1), by omega, rfl, lt, q⟩, fun w H2 yl => ?_⟩
      obtain ⟨sm, d, hd, rp⟩ := hy H1 i w H2 E2 lt yl
      have E3 : ER X.K (with1 T D) (wipe σ vs) H2 (F i) := E2.keep sm
      have rw' : Rp X.K (cut H2 (tt (with1 T D) (ownL (F i)))) w d := by rw [Fo i]; exact rp
      have k2 : Kp H H2 (ownL f1) := k1.trans (Kp.of sm)
      have hacc2 : H2 D = some (.lst acc) := sm _ _ hacc
      have qacc2 : RpAll X.K (cut H2 (tt (with1 T D) (ownL f1))) acc (madeC y i) := qacc.mono (cut_same fun b o e h => ⟨e, sm b o h⟩)
      obtain ⟨g1, g2, bb, ag, ai, h1, h2⟩ := hs i d hd
      have nD' : ∀ {H' : Hp} {g : Fm}, Kp H2 H' (ownL (F i)) → H' D = some (.lst acc) := fun k => k _ _ (by rw [Fo i]; exact dD) hacc2
      intro s H0 C cl fp
      refine (ag s H0 C cl fp).run (with1 T D) (wipe σ vs) H2 w _ E3 rw' fun σ2 E4 ww => ?_
      have e1 : ownL g1 = ownL f1 := (ag s H0 C cl fp).ow.trans (Fo i)
      have ww2 : wipe σ2 vs = wipe σ vs := by
        rw [ww]
        apply List.ext_getElem?
        intro j
        rw [wipe_get (wipe σ vs) vs j, wipe_get σ vs j]
        by_cases mj : j ∈ vs
        · rw [if_pos mj, if_pos mj]
          cases σ[j]? <;> rfl
        · rw [if_neg mj, if_neg mj]
      refine ⟨ww2, fun s H0 C cl fp => ?_⟩
      refine (ai s H0 C cl fp).run (with1 T D) σ2 H2 _ E4 fun H3 k3 E5 => ?_
      have e2 : ownL g2 = ownL f1 := (ai s H0 C cl fp).ow.trans e1
      rw [e1] at k3
      have hacc3 : H3 D = some (.lst acc) := k3 _ _ dD hacc2
      have qacc3 : RpAll X.K (cut H3 (tt (with1 T D) (ownL f1))) acc (madeC y i) := qacc2.mono (k3.up rfl)
      cases bb with
      | true =>
        obtain ⟨g3, z, he, hyz, hw⟩ := h1 rfl
        show eB X scope elt σ2 H3 _
        intro s H0 C cl fp
        refine (he s H0 C cl fp).run (with1 T D) σ2 H3 _ E5 fun v H4 k4 p4 => ?_
        obtain ⟨E6, rv⟩ := p4
        have e3 : ownL g3 = ownL f1 := (he s H0 C cl fp).ow.trans e2
        rw [e2] at k4
        have hacc4 : H4 D = some (.lst acc) := k4 _ _ dD hacc3
        have la : acc.length ≤ 100000 := by rw [qacc.length]; exact Nat.le_trans (madeC_len y i) (by omega)
        refine ⟨acc, hacc4, Nat.lt_of_le_of_lt la (by rw [sizeLine_eq]; decide), ?_⟩
        have up : Same (cut H4 (tt (with1 T D) (ownL f1))) (cut (upd H4 D (.lst (acc ++ [v]))) (tt (with1 T D) (ownL f1))) := cut_same fun b o e h => ⟨e, by
          rw [upd_ne (fun q => by rw [q] at e; simp [tt, with1] at e)]; exact h⟩
        have k5 : Kp H4 (upd H4 D (.lst (acc ++ [v]))) (ownL f1 ++ [D]) := fun b o n h => by
          rw [upd_ne (fun q => n (by rw [q]; simp))]; exact h
        have E7 : ER X.K (with1 T D) (wipe σ2 vs) H4 (wipeF g3 vs) := er_wipe E6 vs
        rw [hw, ww2] at E7
        refine ⟨fun b o n h => ?_, ?_, acc ++ [v], upd_same, ?_⟩
        · rw [upd_ne (fun q => by rw [q, nD] at h; cases h)]
          exact k4 b o n (k3 b o n (k2 b o n h))
        · have u := er_unwith E7 (by have := (tt_false.mp fD).1; exact this)
          refine er_with (D := D) ?_ (by rw [upd_same]; exact fun z => by cases z)
          have eh : hide (upd H4 D (.lst (acc ++ [v]))) D = hide H4 D := by
            funext b
            by_cases q : b = D
            · rw [q, hide_self, hide_self]
            · rw [hide_ne q, hide_ne q, upd_ne q]
          rw [eh]; exact u
        · rw [madeC_succ, hyz]
          rw [e3] at rv
          exact ((qacc3.mono (k4.up rfl)).mono up).snoc (rv.mono up)
      | false =>
        obtain ⟨hyn, hw⟩ := h2 rfl
        have E7 : ER X.K (with1 T D) (wipe σ2 vs) H3 (wipeF g2 vs) := er_wipe E5 vs
        rw [hw, ww2] at E7
        refine ⟨k2.trans k3, E7, acc, hacc3, ?_⟩
        rw [madeC_succ, hyn]
        simpa using qacc3
    · have e : i = ds.length := by omega
      subst e
      exact .inl ⟨hst H1 E2, hq H1 k1 E2 ⟨acc, hacc, qacc⟩⟩
theorem compR_listO {q : Addr} (n : Nat) {vs : List Nat} {F : Nat → Fm} {y : Nat → Option PyData} (ha : AE X iter fs f1 (.at q (.list ds))) (hz : ds.length ≤ 100000) (F0 : F 0 = wipeF f1 vs) (Fo : ∀ i, ownL (F i) = ownL f1) (hown : ∀ i, (F i)[n]? = some (.own q (.list ds))) (hs : ∀ i d, ds[i]? = some d → TurnC X scope vs tg ifs elt d (F i) (F (i + 1)) (y i)) (b : BackR f1 (F ds.length) f2) :
    CompR X fs f2 (.list (madeC y ds.length)) (tLc (iList X.K (bE X iter)) (gB X scope tg) (iB X scope ifs) (eB X scope elt) vs) := by
  refine ⟨b.own.trans ha.ow, fun T σ H Q E qq => ha.run T σ H _ E fun v H1 k1 p1 => ?_⟩
  obtain ⟨E1, rfl, i0, hi0⟩ := p1
  obtain ⟨ws0, hl0, _⟩ := (E1.own hi0).2
  refine ⟨q, rfl, ⟨ws0, SqL.of hl0⟩, fun D nD => ?_⟩
  refine comp_core2 (ds := ds) (F := F) (y := y) E1 nD hz F0 Fo (fun G k E lt => ?_) (fun G E => ?_) (fun G k w G' E lt y => ?_) hs (fun H' k E2 z => ?_)
  · obtain ⟨ws, hl, qv⟩ := (E.own (hown k)).2
    have := qv.length
    exact ⟨ws, ws[k]'(by omega), SqL.of hl, by simp⟩
  · obtain ⟨ws, hl, qv⟩ := (E.own (hown _)).2
    exact ⟨ws, SqL.of hl, by rw [qv.length]; exact Nat.le_refl _⟩
  · obtain ⟨rfl, y⟩ := y
    obtain ⟨ws, hl, qv⟩ := (E.own (hown k)).2
    have hv := y ws (SqL.of hl)
    obtain ⟨d, hd', rd⟩ := qv.get2 hv
    rw [Fo k] at rd
    exact ⟨fun _ _ h => h, d, hd', rd⟩
  · obtain ⟨r1, r2⟩ := comp_end E1 k1 ha.ow nD k E2 (Fo _) b z
    exact qq _ _ r1 r2
theorem ae_lcLO {q : Addr} {F : Nat → Fm} (n : Nat) (own : List (Str × Nat)) (y : Nat → Option PyData) (hN : X.N.Nodup) (ha : AE X iter fs f1 (.at q (.list ds))) (F0 : F 0 = wipeF f1 (own.map (·.2))) (Fo : ∀ i, ownL (F i) = ownL f1) (hown : ∀ i, (F i)[n]? = some (.own q (.list ds))) (hs : ∀ i d, ds[i]? = some d → TurnC X scope (own.map (·.2)) tg ifs elt d (F i) (F (i + 1)) (y i)) (b : BackL f1 (F ds.length) f2)
    (hz : ds.length ≤ 100000) (hc : X.calm = true := by rfl) (ok : blkC X.N X.env.scope scope own = true := by first | decide +kernel | rfl) (hf : ∀ x, foldedSetIterable iter X.env x = pure x := by intro _; rfl) :
    AE X (.ListComp elt [⟨tg, iter, ifs, 0⟩] scope pos) fs f2 (.new (.list (madeC y ds.length))) :=
  let R := compR_listO (X := X) (scope := scope) (tg := tg) (ifs := ifs) (elt := elt) n ha hz F0 Fo hown hs b.back
  ⟨R.ow, fun T σ H Q E q => bE_of (pe_lc hc hN (pi_list best) (blkOk_by ok) gB_ok iB_ok eB_ok hf) (R.run T σ H Q E q)⟩
theorem madeC_none (n : Nat) : madeC (fun _ => none) n = [] := by simp [madeC]
end
end A3
namespace A3
open PySem PySem.Spec PyProof.Rows L2
/-! ### [.. for x in t], t a tuple -/
section
variable {X : Cx} {a b e elt tg iter : Expr} {es ifs : List Expr} {sts rest : List Stmt} {c : Cf} {D3' : D3} {fs f1 f2 f3 g1 g2 : Fm} {d d1 d2 : PyData} {ds : List PyData} {r : Res} {pos pos' spos : Pos} {T : Addr → Bool} {σ : L2.St} {H : Hp} {x : Str} {v : V} {scope : Scope} {own : List (Str × Nat)}
theorem compR_tup {vs : List Nat} {F : Nat → Fm} {y : Nat → Option PyData} (ha : AE X iter fs f1 (.val (.tuple ds))) (hz : ds.length ≤ 100000) (F0 : F 0 = wipeF f1 vs) (Fo : ∀ i, ownL (F i) = ownL f1) (hs : ∀ i d, ds[i]? = some d → TurnC X scope vs tg ifs elt d (F i) (F (i + 1)) (y i)) (b : BackR f1 (F ds.length) f2) :
    CompR X fs f2 (.list (madeC y ds.length)) (tLc (iTup X.K (bE X iter)) (gB X scope tg) (iB X scope ifs) (eB X scope elt) vs) := by
  refine ⟨b.own.trans ha.ow, fun T σ H Q E q => ha.run T σ H _ E fun v H1 k1 p1 => ?_⟩
  obtain ⟨E1, rl⟩ := p1
  obtain ⟨l, ws, rfl, s, qv⟩ := rl.tup_inv
  have up : Same (cut H1 (tt T (ownL f1))) (cut H1 fun b => decide (b ∈ ownL f1)) := cut_same fun b o e z => ⟨decide_eq_false (tt_false.mp e).2, z⟩
  have s1 : SqT X.K (cut H1 fun b => decide (b ∈ ownL f1)) l ws := sqT_same up s
  refine ⟨l, rfl, ⟨ws, sqT_same (cut_all _ _) s⟩, fun D nD => ?_⟩
  refine comp_core (ds := ds) (F := F) (y := y) E1 nD hz F0 Fo (fun G g k lt => ?_) (fun G g => ?_) (fun G g k w G' lt y => ?_) hs (fun H' k E2 z => ?_)
  · have := qv.length
    exact ⟨ws, ws[k]'(by omega), sqT_same g s1, by simp⟩
  · exact ⟨ws, sqT_same g s1, by rw [qv.length]; exact Nat.le_refl _⟩
  · obtain ⟨rfl, y⟩ := y
    have hv := y ws (sqT_same g s1)
    obtain ⟨d, hd', rd⟩ := qv.get2 hv
    refine ⟨fun _ _ h => h, d, hd', fun T' τ f E2 ef et => rd.mono fun b o h => ?_⟩
    obtain ⟨e1, e2⟩ := cut_some h
    obtain ⟨e3, e4⟩ := tt_false.mp e1
    have gb := g b o (cut_of (decide_eq_false e4) e2)
    refine cut_of (tt_false.mpr ⟨?_, by rw [ef]; exact e4⟩) gb
    cases hT : T' b with
    | false => rfl
    | true =>
      rcases et b hT with z | z
      · rw [e3] at z; cases z
      · rw [e2] at z; cases z
  · obtain ⟨r1, r2⟩ := comp_end E1 k1 ha.ow nD k E2 (Fo _) b z
    exact q _ _ r1 r2
theorem ae_lcT {F : Nat → Fm} (own : List (Str × Nat)) (y : Nat → Option PyData) (hN : X.N.Nodup) (ha : AE X iter fs f1 (.val (.tuple ds))) (F0 : F 0 = wipeF f1 (own.map (·.2))) (Fo : ∀ i, ownL (F i) = ownL f1) (hs : ∀ i d, ds[i]? = some d → TurnC X scope (own.map (·.2)) tg ifs elt d (F i) (F (i + 1)) (y i)) (b : BackL f1 (F ds.length) f2)
    (hz : ds.length ≤ 100000) (hc : X.calm = true := by rfl) (ok : blkC X.N X.env.scope scope own = true := by first | decide +kernel | rfl) (hf : ∀ x, foldedSetIterable iter X.env x = pure x := by intro _; rfl) :
    AE X (.ListComp elt [⟨tg, iter, ifs, 0⟩] scope pos) fs f2 (.new (.list (madeC y ds.length))) :=
  let R := compR_tup (X := X) (scope := scope) (tg := tg) (ifs := ifs) (elt := elt) ha hz F0 Fo hs b.back
  ⟨R.ow, fun T σ H Q E q => bE_of (pe_lc hc hN (pi_tup best) (blkOk_by ok) gB_ok iB_ok eB_ok hf) (R.run T σ H Q E q)⟩
end
end A3
namespace A3
open PySem PySem.Spec PyProof.Rows L2
/-! ### == and != of two dicts of like data -/
section
variable {X : Cx} {a b : Expr} {fs f1 f2 : Fm} {pos : Pos} {r1 r2 : Res} {t : Tb}
/-- flat enough, and known each once -/
structure DcOk (t : Tb) : Prop where
  nd : (gKs t).Nodup
  sh : ∀ p ∈ t, p.2.canLay0 = true ∧ p.2.depth ≤ 60
theorem dc_hits {P : Program} {w : World} {pins : List (Addr × Obj)} {σ : L2.St} {H : Hp} {s : Shared} {A : Around} (I : Inv X pins σ H s) (hu : A.units + 60 < cLine) {ls : List (Key × V)} {vb : List (Key × Value)} (rk : RK X.K H ls t) (rb : KV ls vb) (nd : (gKs t).Nodup) :
    ∀ {t' : Tb} {ks : List (Key × V)} {va : List (Key × Value)}, RK X.K H ks t' → KV ks va → (∀ p ∈ t', p ∈ t ∧ p.2.canLay0 = true ∧ p.2.depth ≤ 60) → PySem.W.KeqHits A s vb va true := by
  intro t' ks va rk' ra
  unfold KV at ra
  induction ra generalizing t' with
  | nil => intro _; exact .nil
  | @cons p q ps qs h tl ih =>
    intro hp
    cases rk' with
    | @cons k v d kvs t2 rv rr =>
      obtain ⟨h1, h2⟩ := h
      obtain ⟨hm, hc, hd⟩ := hp (k, d) List.mem_cons_self
      have hg : gV t k = some d := by
        clear ih hp rk rb
        induction t with
        | nil => cases hm
        | cons x r ih2 =>
          have nd2 := List.nodup_cons.mp nd
          rcases List.mem_cons.mp hm with e | e
          · subst e; simp [gV]
          · have hne : ¬ x.1 = k := fun z => nd2.1 (by show x.1 ∈ _; rw [z]; exact List.mem_map.mpr ⟨(k, d), e, rfl⟩)
            rw [gV, if_neg hne]
            exact ih2 nd2.2 e
      obtain ⟨u, hu1, hu2⟩ := rk.some hg
      have rr2 : RelO (some u) (valueAt vb k) := by rw [← hu1]; exact rb.val k
      obtain ⟨y, hy, ry⟩ := rr2.some_of
      obtain ⟨key, v'⟩ := q
      have h1' : k = key := h1
      subst h1'
      obtain ⟨as, e1⟩ := Dp.reads I d v v' (Rp.dp _ _ rv hc) h2
      obtain ⟨bs, e2⟩ := Dp.reads I d u y (Rp.dp _ _ hu2 hc) ry
      have eq := SeqAt.eqAt_reads d d A s v' y as bs e1 e2 hc hc (by rw [Nat.min_self]; have h60 : d.depth ≤ 60 := hd; omega)
      rw [SeqAt.eqv_refl d hc] at eq
      exact .hit hy eq (ih rr fun p' hm' => hp p' (List.mem_cons_of_mem _ hm'))
def rEqDD (K : PySem.W.Frag) : R2 := fun x y H Q => ∃ t, Rp K H x (dD t) ∧ Rp K H y (dD t) ∧ DcOk t ∧ Q (.bl true) H
def rNeDD (K : PySem.W.Frag) : R2 := fun x y H Q => ∃ t, Rp K H x (dD t) ∧ Rp K H y (dD t) ∧ DcOk t ∧ Q (.bl false) H
theorem op_neDD (hu : X.A.units + 64 < cLine) : OpR X (compareOp .NotEq) (rNeDD X.K) := by
  intro pins s σ H x y v u Q I rx ry h
  obtain ⟨t, hx, hy, ok, q⟩ := h
  obtain ⟨g1, ks, rfl, s1, k1⟩ := hx.dct_inv
  obtain ⟨g2, ls, rfl, s2, k2⟩ := hy.dct_inv
  obtain rfl : v = Value.ref g1 := rx
  obtain rfl : u = Value.ref g2 := ry
  obtain ⟨_, ya, va, ra, da⟩ := dk_rd I.hok s1
  obtain ⟨_, yb, vb, rb, db⟩ := dk_rd I.hok s2
  have hl : va.length = vb.length := by rw [← ra.length, ← rb.length, k1.len, k2.len]
  exact PySem.W.keq_ne (knd := mixKind X.prog X.w) (r := true) ya yb da db (by omega) (fun _ => dc_hits (P := X.prog) (w := X.w) I (by show X.A.units + 1 + 60 < cLine; omega) k2 rb ok.nd k1 ra fun p m => ⟨m, ok.sh p m⟩) (fin_bl I q (by simp [hl]))
theorem op_eqDD (hu : X.A.units + 64 < cLine) : OpR X (compareOp .Eq) (rEqDD X.K) := by
  intro pins s σ H x y v u Q I rx ry h
  obtain ⟨t, hx, hy, ok, q⟩ := h
  obtain ⟨g1, ks, rfl, s1, k1⟩ := hx.dct_inv
  obtain ⟨g2, ls, rfl, s2, k2⟩ := hy.dct_inv
  obtain rfl : v = Value.ref g1 := rx
  obtain rfl : u = Value.ref g2 := ry
  obtain ⟨_, ya, va, ra, da⟩ := dk_rd I.hok s1
  obtain ⟨_, yb, vb, rb, db⟩ := dk_rd I.hok s2
  have hl : va.length = vb.length := by rw [← ra.length, ← rb.length, k1.len, k2.len]
  exact PySem.W.keq_eq (knd := mixKind X.prog X.w) (r := true) ya yb da db (by omega) (fun _ => dc_hits (P := X.prog) (w := X.w) I (by show X.A.units + 1 + 60 < cLine; omega) k2 rb ok.nd k1 ra fun p m => ⟨m, ok.sh p m⟩) (fin_bl I q (by simp [hl]))
theorem c_neDD (hu : X.A.units + 64 < cLine) (ok : DcOk t) (e : r2.d = dD t := by rfl) : CmpA X .NotEq b f2 (dD t) r2 false :=
  ⟨_, op_neDD hu, nomark _, fun T σ H1 H2 x y Q rx p q => ⟨t, rx.mono (cut_all _ _), e ▸ p.rp, ok, q⟩⟩
theorem c_eqDD (hu : X.A.units + 64 < cLine) (ok : DcOk t) (e : r2.d = dD t := by rfl) : CmpA X .Eq b f2 (dD t) r2 true :=
  ⟨_, op_eqDD hu, nomark _, fun T σ H1 H2 x y Q rx p q => ⟨t, rx.mono (cut_all _ _), e ▸ p.rp, ok, q⟩⟩
end
end A3
/-! ### list(reversed(xs)) -/
namespace RT
open PySem PySem.Spec PyProof.Rows
section
variable {prog : Program} {w : World} {A : Around} {E : Value → Shared → Prop} {s : Shared}
theorem init_list_rev {R : Result → Shared → Prop} {it l : Addr} {items : Array Value} (hh : A.handled = none) (hit : s.heap.IsRevIter it l ((items.size : Int) - 1)) (hl : s.heap.IsList l items) (hne : l ≠ it) (hn : items.size ≤ sizeLine)
    (S : Addr) (hSi : S ≠ it) (hSl : S ≠ l) (hS : s.heap.get? S = some { cls := .type "list", data := .seq #[] })
    (hR : ∀ (h' : Heap) (tk : Nat) (acc' : Array Value) (c' : Nat), (∀ b o, b ≠ S → b ≠ it → s.heap.get? b = some o → h'.get? b = some o) → h'.get? S = some { cls := .type "list", dict := none, data := .seq acc' c', slots := #[] } →
      ItemsOf (fun i v => items[items.size - 1 - i]? = some v) acc' items.size → R (.ok (.ret .none)) { s with heap := h', toks := tk }) :
    wpAny (model prog w) A.in1 (Builtin.«list.__init__» ⟨[.ref S, .ref it], []⟩)
      (fun fin s' => match fin with | .done f => R (.ok f) s' | .again c' => c'.quiet = true ∧ codeAny (model prog w) A c' R s') (fun e s' => R (.error e) s') s := by
  have W := (Walks.listRev (prog := prog) (w := w) (A := A.in1) hh it l hne items).toS
  have hSf : S ∉ [it, l] := by simp only [List.mem_cons, List.not_mem_nil, or_false, not_or]; exact ⟨hSi, hSl⟩
  show wpAny _ _ (do let old ← Builtin.List.listItems (.ref S); Builtin.List.listUpdate (.ref S) (fun _ => #[]); letGo old.toList.reverse; Builtin.List.listExtendWith (.ref S) (.ref it) .none) _ _ s
  refine wpAny_bind ?_
  unfold Builtin.List.listItems
  refine wpAny_bind (wpAny_seqItems hS rfl (wpAny_pure ?_))
  show wpAny _ _ (updateSeq S (fun _ => #[]) >>= fun _ => letGo (#[] : Array Value).toList.reverse >>= fun _ => Builtin.List.listExtendWith (.ref S) (.ref it) .none) _ _ s
  refine wpAny_bind (wpAny_updateSeq hS rfl ?_)
  have hS₂ := Heap.get?_update_self (Obj.mapSeq (fun _ => (#[] : Array Value))) hS rfl
  have oth : ∀ b o, b ≠ S → s.heap.get? b = some o → (s.heap.update S (Obj.mapSeq (fun _ => (#[] : Array Value)))).get? b = some o :=
    fun b o hb e => (Heap.get?_update_other _ _ (Ne.symm hb)).trans e
  refine wpAny_bind (wpAny_letGo ?_)
  have hit1 : (s.heap.update S (Obj.mapSeq (fun _ => (#[] : Array Value)))).IsRevIter it l ((items.size : Int) - 1) := hit.at fun o e => oth _ o (Ne.symm hSi) e
  have hl1 : (s.heap.update S (Obj.mapSeq (fun _ => (#[] : Array Value)))).IsList l items := by
    obtain ⟨o, ho, hr⟩ := hl
    exact ⟨o, oth _ o (Ne.symm hSl) ho, hr⟩
  have hT : ({ s with heap := s.heap.update S (Obj.mapSeq (fun _ => (#[] : Array Value))) } : Shared).TypeIs (.ref it) "list_reverseiterator" := Heap.IsRevIter.typeIs (s := { s with heap := s.heap.update S (Obj.mapSeq (fun _ => (#[] : Array Value))) }) hit1
  have h1 : Builtin.List.listSameRef (.ref S) (.ref it) = false := by simp [Builtin.List.listSameRef, hSi]
  have h2 : (Value.type "list_reverseiterator" == Value.type "list") = false := by decide
  have h3 : (Value.type "list_reverseiterator" == Value.type "tuple") = false := by decide
  unfold Builtin.List.listExtendWith
  refine wpAny_bind (wpAny_typeOf hT ?_)
  simp only [h1, h2, h3, Bool.or_false, Bool.false_eq_true, if_false]
  refine wpAny_bind (wpAny_pyIter_revIter (s := { s with heap := s.heap.update S (Obj.mapSeq (fun _ => (#[] : Array Value))) }) hit1 ?_)
  refine wpAny_bind (wpAny_holding ?_)
  unfold Builtin.List.listLengthHint
  refine wpAny_bind (wpAny_specialOf hT nolen_lri ?_)
  show wpAny _ A.in1 (specialOf (Value.ref it) (Str.ofString "__length_hint__") >>= _) _ _ _
  refine wpAny_bind (wpAny_specialOf hT hint_lri ?_)
  generalize hid : ("list_reverseiterator.__length_hint__" : String) = id0
  wp_delta
  rw [show splitId id0 = some ("list_reverseiterator", "__length_hint__") from by subst hid; decide +kernel]
  subst hid
  refine wpAny_bind (wpAny_isInstance (b := true) hT (by rw [isSubtype_type]; kernel_rfl) ?_)
  refine wpAny_pure ?_
  rw [if_neg (by decide)]
  have e0 : ((items.size : Nat) : Int) - 1 - ((0 : Nat) : Int) = (items.size : Int) - 1 := by omega
  refine wpAny_pure ⟨plainId_quiet F.plain_extend_loop _, codeAny_extend_loopS W hn _ hSf _ items.size 0 _ _ _ rfl (Nat.zero_le _) ⟨Nat.zero_le _, by rw [e0]; exact hit1, hl1⟩ hS₂ (ItemsOf.nil _) fun s' acc' c' hm hS' hacc => ?_⟩
  rw [Moved.eq_with hm]
  refine hR s'.heap s'.toks acc' c' (fun b o hb hb2 e => hm.heap b o (fun hmem => ?_) (oth b o hb e)) hS' hacc
  rcases List.mem_cons.mp hmem with e' | hmem
  · exact hb e'
  · exact hb2 (List.mem_singleton.mp hmem)
theorem call_list_rev {it l : Addr} {items : Array Value} {Q : Value → Shared → Prop} (hh : A.handled = none) (hit : s.heap.IsRevIter it l ((items.size : Int) - 1)) (hl : s.heap.IsList l items) (hne : l ≠ it) (hn : items.size ≤ sizeLine)
    (hQ : ∀ (h' : Heap) (tk : Nat) (acc' : Array Value) (c' : Nat), (∀ b o, b ≠ it → s.heap.get? b = some o → h'.get? b = some o) →
      h'.get? s.heap.objs.size = some { cls := .type "list", dict := none, data := .seq acc' c', slots := #[] } → ItemsOf (fun i v => items[items.size - 1 - i]? = some v) acc' items.size → Q (.ref s.heap.objs.size) { s with heap := h', toks := tk }) :
    wpAny (model prog w) A (call (.type "list") [.ref it]) Q E s := by
  refine callType_codes (Q₁ := fun obj s₁ => obj = .ref s.heap.objs.size ∧ s₁ = { s with heap := s.heap.push { cls := .type "list", data := .seq #[] } }) F.called_list (F.typeCall_list_1 _) F.entry_list_init
    (code_list_new _ ⟨rfl, rfl⟩) fun obj s₁ h₁ => ?_
  obtain ⟨rfl, rfl⟩ := h₁
  have hS : (s.heap.push { cls := .type "list", data := .seq #[] }).get? s.heap.objs.size = some { cls := .type "list", data := .seq #[] } := Heap.get?_push_size _ rfl
  obtain ⟨oi, hoi, _⟩ := id hit
  obtain ⟨ol, hol, _⟩ := id hl
  have hSi : s.heap.objs.size ≠ it := Nat.ne_of_gt (Heap.lt_size hoi)
  have hSl : s.heap.objs.size ≠ l := Nat.ne_of_gt (Heap.lt_size hol)
  refine ⟨⟨_, hS, rfl⟩, F.args_list_init_2 _ _, init_list_rev (A := A.in1) (s := { s with heap := s.heap.push { cls := .type "list", data := .seq #[] } }) hh (hit.at fun o e => Heap.get?_push_of_some _ e) (hl.push _) hne hn _ hSi hSl hS fun h' tk acc' c' hk hS' hacc => ?_⟩
  exact ⟨rfl, hQ h' tk acc' c' (fun b o hb e => hk b o (Nat.ne_of_lt (Heap.lt_size e)) hb (Heap.get?_push_of_some _ e)) hS' hacc⟩
end
end RT
namespace A3
open PySem PySem.Spec PyProof.Rows L2
section
variable {X : Cx}
def tLstRev (K : PySem.W.Frag) (te : TE) : TE := fun σ H Q => te σ H fun v H1 => ∃ (a : Addr) (xs : List V), v = .ref a ∧ SqL K H1 a xs ∧ ∀ q, H1 q = none → Q (.ref q) (upd H1 q (.lst xs.reverse))
theorem pe_lstRev {e : Expr} {te : TE} {p p2 pos pos2 : Pos} (hc : X.calm = true) (hg : Gl X "list") (hm : X.mg "list" = none) (hg2 : Gl X "reversed") (hm2 : X.mg "reversed" = none) (he : PE X e te)
    (hs : starEach [e] X.env = (false, eval e X.env) :: starEach [] X.env := by rfl)
    (hs2 : starEach [.Call (.Name "reversed" p2) [e] [] pos2] X.env = (false, eval (.Call (.Name "reversed" p2) [e] [] pos2) X.env) :: starEach [] X.env := by rfl) :
    PE X (.Call (.Name "list" p) [.Call (.Name "reversed" p2) [e] [] pos2] [] pos) (tLstRev X.K te) := by
  refine ⟨fun pins s σ H Q I h => ?_⟩
  refine Call_ (ld_blt I hg hm boot_list (PyProof.Rows.callWith_type1 (args_cons (Call_ (ld_blt I hg2 hm2 PyProof.Rows.boot_reversed (PyProof.Rows.callWith_type1 (args_cons (thn (he.run pins s σ H _ I h) fun u s1 ⟨v, H1, I1, r1, q1⟩ => args_nil ?_) hs) hs rfl))) hs2) hs2 rfl))
  obtain ⟨a, xs, ev, hq, q⟩ := q1
  subst ev
  obtain rfl : u = Value.ref a := r1
  obtain ⟨its, rv, p', hz⟩ := I1.list hq
  refine call_reversed_list p'.isList (args_nil ?_)
  have hl := p'.isList
  obtain ⟨ol, hol, _⟩ := id hl
  have hne : a ≠ s1.heap.objs.size := Nat.ne_of_lt (Heap.lt_size hol)
  have hn : its.toArray.size ≤ sizeLine := by rw [List.size_toArray, ← rv.length]; exact hz
  refine RT.call_list_rev (s := { s1 with heap := s1.heap.push (revObj a ((its.toArray.size : Int) - 1)) }) (I1.ok.hd hc) ⟨_, Heap.get?_push_size _ rfl, rfl, rfl⟩ (hl.push _) hne hn fun h' tk acc c' hk e' hi => ?_
  have kk : ∀ b u, s1.heap.get? b = some u → h'.get? b = some u := fun b o e => hk b o (Nat.ne_of_lt (Heap.lt_size e)) (Heap.get?_push_of_some _ e)
  have hsz : s1.heap.objs.size ≤ (s1.heap.push (revObj a ((its.toArray.size : Int) - 1))).objs.size := by simp [Heap.push]
  refine ⟨.ref _, upd H1 (s1.heap.push (revObj a ((its.toArray.size : Int) - 1))).objs.size (.lst xs.reverse), I1.laid kk hsz (show ObjOk X.prog X.w _ _ _ (.lst xs.reverse) from ⟨by rw [List.length_reverse]; exact hz, acc.toList, c', RT.vals_rev rv hi, ?_⟩), rfl, q _ (I1.hok.fresh hsz)⟩
  rw [Array.toArray_toList]; exact e'
variable {a e : Expr} {fs f1 : Fm} {ds : List PyData} {r : Res} {pos p p2 pos2 : Pos}
theorem ae_lstRev (ha : AE X a fs f1 r) (e : r.d = .list ds) (hm : X.mg "list" = none) (hm2 : X.mg "reversed" = none) (hg : Gl X "list" := by rfl) (hg2 : Gl X "reversed" := by rfl) (hc : X.calm = true := by rfl)
    (hs : starEach [a] X.env = (false, eval a X.env) :: starEach [] X.env := by rfl)
    (hs2 : starEach [.Call (.Name "reversed" p2) [a] [] pos2] X.env = (false, eval (.Call (.Name "reversed" p2) [a] [] pos2) X.env) :: starEach [] X.env := by rfl) :
    AE X (.Call (.Name "list" p) [.Call (.Name "reversed" p2) [a] [] pos2] [] pos) fs f1 (.new (.list ds.reverse)) := by
  refine ⟨ha.ow, fun T σ H Q E q => bE_of (pe_lstRev hc hg hm hg2 hm2 best hs hs2) (ha.run T σ H _ E fun x H1 k1 p1 => ?_)⟩
  obtain ⟨g, vs, ex, s, qv⟩ := p1.list e
  exact ⟨g, vs, ex, s, fun l n => q _ _ (k1.trans (Kp.of (same_upd n))) (po_lst p1.er k1 ha.ow n qv.rev)⟩
end
end A3
namespace A3
open PySem PySem.Spec PyProof.Rows L2
/-! ### a new pair whose second part is new, kept, asked, and written at last -/
section
variable {X : Cx} {a b e ie o : Expr} {rest : List Stmt} {c : Cf} {D : D3} {fs f1 f2 F : Fm} {d d1 d2 : PyData} {ds : List PyData} {pos pos' p px apos cpos : Pos} {T : Addr → Bool} {σ σ' : L2.St} {H H' : Hp} {l g : Addr} {v1 : V} {x : Str} {bb : Bool}
theorem hide_comm (H : Hp) (a g : Addr) : hide (hide H g) a = hide (hide H a) g := by
  funext b
  by_cases h1 : b = a
  · by_cases h2 : b = g
    · rw [h1] at h2 ⊢; rw [h2]
    · rw [hide_ne h2, h1, hide_self, hide_self]
  · by_cases h2 : b = g
    · rw [hide_ne h1, h2, hide_self, hide_self]
    · rw [hide_ne h1, hide_ne h2, hide_ne h2, hide_ne h1]
/-- (a, b), b a new list or dict -/
theorem ae_pair {k} (ha : AE X a fs f1 (.val d1)) (hb : AE X b f1 f2 (.new d2)) (hs : starEach [a, b] X.env = (false, eval a X.env) :: starEach [b] X.env := by rfl) (hs2 : starEach [b] X.env = (false, eval b X.env) :: starEach [] X.env := by rfl) : AE X (.Tuple [a, b] k pos) fs f2 (.two d1 d2) := by
  refine ⟨hb.ow.trans ha.ow, fun T σ H Q E q => bE_of (pe_tup (pa_cons best (pa_cons best pa_nil hs2) hs)) (ha.run T σ H _ E fun x H1 k1 p1 => hb.run T σ H1 _ p1.1 fun y H2 k2 p2 => ?_)⟩
  obtain ⟨g, rfl, n, E2, w⟩ := p2
  have k2' : Kp H1 H2 (ownL fs) := by rw [ha.ow] at k2; exact k2
  refine ⟨by show 2 ≤ sizeLine; rw [sizeLine_eq]; decide, fun l nl => q _ _ ((k1.trans k2').trans (Kp.of (same_upd nl))) ?_⟩
  have sm : Same H2 (upd H2 l (.tup [x, .ref g])) := same_upd nl
  have ng : l ≠ g := fun z => by
    subst z
    obtain ⟨o, ho⟩ := w.there
    rw [nl] at ho; cases ho
  have nH : ∀ z, H2 z = none → H z = none := fun z n2 => by
    cases hh : H z with
    | none => rfl
    | some u =>
      exfalso
      by_cases hz : z ∈ ownL fs
      · rw [← ha.ow, ← hb.ow] at hz
        obtain ⟨o2, h2⟩ := E2.thereL hz
        have := hide_same H2 g _ _ h2
        rw [n2] at this; cases this
      · rw [(k1.trans k2') z u hz hh] at n2; cases n2
  have ngH : H g = none := by
    cases hh : H g with
    | none => rfl
    | some u =>
      exfalso
      by_cases hz : g ∈ ownL fs
      · have fg := E2.free (hide_self H2 g)
        rw [← ha.ow, ← hb.ow] at hz
        exact (tt_false.mp fg).2 hz
      · rw [k1 g u hz hh] at n; cases n
  have e1 : hide (hide (upd H2 l (.tup [x, .ref g])) g) l = hide H2 g := by
    funext b
    by_cases h1 : b = l
    · rw [h1, hide_self, hide_ne ng, nl]
    · rw [hide_ne h1]
      by_cases h2 : b = g
      · rw [h2, hide_self, hide_self]
      · rw [hide_ne h2, hide_ne h2, upd_ne h1]
  refine ⟨l, g, x, rfl, nH l nl, ngH, ng, upd_same, by rw [e1]; exact E2, ?_, ?_⟩
  · rw [e1]
    have fr : tt T (ownL f2) g = false := E2.free (hide_self H2 g)
    have r1 := p1.2
    have up : Same (cut H1 (tt T (ownL f1))) (cut (hide H2 g) (tt T (ownL f2))) := fun b o z => by
      obtain ⟨z1, z2⟩ := cut_some z
      have bg : b ≠ g := fun q => by rw [q, n] at z2; cases z2
      rw [← hb.ow] at z1
      exact cut_of z1 (by rw [hide_ne bg]; exact k2 b o (by rw [← hb.ow]; exact (tt_false.mp z1).2) z2)
    exact r1.mono up
  · rw [e1]; exact w.mono (fun _ _ z => z) (by rw [upd_ne (fun z => ng z.symm)])
theorem er_pushIsv {K : PySem.W.Frag} (E : ER K T σ H fs) (r : Rp K (cut H (tt T (ownL fs))) v1 d1) (hl : σ.length ≤ fs.length) : ER K T σ H (fs ++ [.isv v1 d1]) := by
  have eo : ownL (fs ++ [.isv v1 d1]) = ownL fs := by rw [ownL_push]; simp [adr]
  have up : Same (cut H (tt T (ownL fs))) (cut H (tt T (ownL (fs ++ [.isv v1 d1])))) := by rw [eo]; exact fun _ _ z => z
  refine ⟨by rw [List.length_append]; exact Nat.le_trans hl (Nat.le_add_right _ _), fun j u h => ?_, by rw [eo]; exact E.nd, fun b h => E.out b (by rw [← eo]; exact h), E.dom⟩
  by_cases lt : j < fs.length
  · rw [List.getElem?_append_left lt] at h
    obtain ⟨ov, h1, h2⟩ := E.sl j u h
    exact ⟨ov, h1, h2.mono up fun _ _ => rfl⟩
  · have e : j = fs.length := by
      have := (List.getElem?_eq_some_iff.mp h).1
      rw [List.length_append] at this; simp at this; omega
    subst e
    rw [List.getElem?_append_right (Nat.le_refl _), Nat.sub_self] at h
    cases Option.some.inj h
    exact ⟨some v1, fun z => absurd z (by omega), rfl, r.mono up⟩
theorem S3.pair {K : PySem.W.Frag} (S : S3 K c σ H fs) (k : Kp H H' (ownL fs)) (ow : ownL f1 = ownL fs) (na : H l = none) (ng : H g = none) (E1 : ER K c.T σ H' f1) (E : ER K c.T σ' H' F) (sub : ∀ z ∈ ownL F, z ∈ ownL f1 ∨ z = l ∨ z = g) : S3 K c σ' H' F where
  er := E
  kp := S.keeps k
  dm := (S.step k E1 ow).dm
  ow := fun z h => by
    have nn : ∀ y, H y = none → c.H0 y = none := fun y n => by
      cases hh : c.H0 y with
      | none => rfl
      | some u => exact absurd n (S.dm y (by rw [hh]; exact fun z => by cases z))
    rcases sub z h with q | q | q
    · exact S.ow z (by rw [← ow]; exact q)
    · rw [q]; exact .inr (nn l na)
    · rw [q]; exact .inr (nn g ng)
  wd := S.wd
  gs := (S.step k E1 ow).gs
  gd := fun z h => by
    have nn : ∀ y, H y = none → c.G y = none := fun y n => by
      cases hh : c.G y with
      | none => rfl
      | some u => rw [S.gs y u hh] at n; cases n
    rcases sub z h with q | q | q
    · exact S.gd z (by rw [← ow]; exact q)
    · rw [q]; exact nn l na
    · rw [q]; exact nn g ng
/-- x = e, a new pair whose second part is new: two ghosts behind the frame -/
theorem as_setP (n : Nat) (he : AE X e fs f1 (.two d1 d2)) (hk : ∀ l g v1, AS X rest c ((f1 ++ [Slot.isv v1 d1, Slot.own g d2]).set n (Slot.raw l (.tup [v1, .ref g]))) D) (hN : X.N.Nodup) (hlen : X.N.length ≤ f1.length := by exact Nat.le_of_ble_eq_true rfl) (hi : X.N[n]? = some x := by rfl) (hx : Loc X.env.scope x := by first | exact .inl rfl | exact .inr rfl)
    (hs : swapsWith e (some (.Name x pos')) pos.line X.env = pure false := by rfl) (hf : X.fn x = true ∨ X.env.scope.names.lookup x = some .local := by first | exact .inl rfl | exact .inr rfl) : AS X (.Assign [.Name x pos'] e pos :: rest) c fs D :=
  fun σ H S => bSs_inv fun L0 => bSs_of (pss_cons (ps_set hN hi hx best hs hf) bestSs) (he.run c.T σ H _ S.er fun v H1 k1 p1 => by
    have Eer := p1.er
    obtain ⟨l, g, v1, rfl, n1, n2, ne, ha, E1, r1, w⟩ := p1
    have hl : σ.length ≤ f1.length := by rw [L0]; exact hlen
    have A1 := er_pushIsv E1 r1 hl
    rw [hide_comm] at A1
    have eo1 : ownL (f1 ++ [Slot.isv v1 d1]) = ownL f1 := by rw [ownL_push]; simp [adr]
    have A2 := er_push (d := d2) A1 (by rw [eo1, ← hide_comm]; exact w.mono (fun _ _ z => z) (by rw [hide_ne (fun z => ne z.symm)])) (by rw [List.length_append]; exact Nat.le_trans hl (Nat.le_add_right _ _))
    have A3 := A2.setAt (i := n) (s := .raw l (.tup [v1, .ref g])) rfl ⟨rfl, ha⟩
    rw [List.append_assoc] at A3
    refine hk l g v1 _ _ (S.pair k1 he.ow n1 n2 Eer A3 fun z hz => ?_)
    rcases ownL_set hz with q | q
    · rw [← List.singleton_append (l := [Slot.own g d2]), ← List.append_assoc, ownL_push, eo1] at q
      rcases List.mem_append.mp q with q | q
      · exact .inl q
      · exact .inr (.inr (by simpa [adr] using q))
    · exact .inr (.inl (Option.some.inj q).symm))
theorem er_pairD {K : PySem.W.Frag} {n i j : Nat} (E : ER K T σ H F) (hn : F[n]? = some (.raw l (.tup [v1, .ref g]))) (hi : F[i]? = some (.isv v1 d1)) (hj : F[j]? = some (.own g d2)) : ER K T σ H ((frzF F).set n (.dat (.tuple [d1, d2]))) := by
  have E1 := er_frzAll E
  obtain ⟨r1, r2⟩ := E.raw hn
  have sn : ownL ((frzF F).set n (.dat (.tuple [d1, d2]))) = [] := by
    have h := ownL_set_sub (fs := frzF F) (i := n) (s := .dat (.tuple [d1, d2])) rfl
    rw [frz_own] at h
    exact List.sublist_nil.mp h
  have es : σ.set n (some (.ref l)) = σ := by
    by_cases h : n < σ.length
    · have := r1 h
      apply List.ext_getElem?
      intro m
      by_cases e : n = m
      · subst e; rw [List.getElem?_set_self h, this]
      · rw [List.getElem?_set_ne e]
    · exact List.set_eq_of_length_le (by omega)
  have up : Same (cut H (tt T (ownL F))) (cut H (tt T (ownL ((frzF F).set n (.dat (.tuple [d1, d2])))))) := cut_same fun b o e z => ⟨tt_false.mpr ⟨(tt_false.mp e).1, by rw [sn]; simp⟩, z⟩
  have fl : tt T (ownL ((frzF F).set n (.dat (.tuple [d1, d2])))) l = false := tt_false.mpr ⟨E.out l (mem_raw hn), by rw [sn]; simp⟩
  have fg : tt T (ownL ((frzF F).set n (.dat (.tuple [d1, d2])))) g = false := tt_false.mpr ⟨E.out g (mem_own hj), by rw [sn]; simp⟩
  obtain ⟨_, rv⟩ := E.isv hi
  obtain ⟨_, w⟩ := E.own hj
  obtain ⟨o, ho⟩ := w.there
  have rg : Rp K (cut H (tt T (ownL ((frzF F).set n (.dat (.tuple [d1, d2])))))) (.ref g) d2 := Ow.rp (S := cut H (tt T (ownL F))) up (w.mono (fun _ _ z => z) (by rw [ho]; exact cut_of fg ho))
  have := E1.setS (i := n) (s := .dat (.tuple [d1, d2])) (ov := some (.ref l)) rfl (.tup (xs := [v1, .ref g]) (.inl (.inl (cut_of fl r2))) (.cons (rv.mono up) (.cons rg .nil)))
  rw [es] at this; exact this
/-- a test that asks the pair -/
theorem at_lendP (n i j : Nat) (h : AT X e ((frzF F).set n (.dat (.tuple [d1, d2]))) ((frzF F).set n (.dat (.tuple [d1, d2]))) bb) (hn : F[n]? = some (.raw l (.tup [v1, .ref g])) := by rfl) (hi : F[i]? = some (.isv v1 d1) := by rfl) (hj : F[j]? = some (.own g d2) := by rfl) : AT X e F F bb :=
  ⟨rfl, fun T σ H Q E k => h.run T σ H Q (er_pairD E hn hi hj) fun H1 k1 E1 => by
    have sn : ownL ((frzF F).set n (.dat (.tuple [d1, d2]))) = [] := by
      have h := ownL_set_sub (fs := frzF F) (i := n) (s := .dat (.tuple [d1, d2])) rfl
      rw [frz_own] at h
      exact List.sublist_nil.mp h
    have sm : Same H H1 := fun b o z => k1 b o (by rw [sn]; simp) z
    exact k H1 (Kp.of sm) (E.keep sm)⟩
/-- x[1], the pair's second part -/
theorem ae_pairIx (n j : Nat) (hi : AE X ie F F (.val (.int 1))) (hn : F[n]? = some (.raw l (.tup [v1, .ref g])) := by rfl) (hj : F[j]? = some (.own g d2) := by rfl) (hN : X.N[n]? = some x := by rfl) (hv : Vis X.env.scope x := by first | exact Or.inl rfl | exact Or.inr (Or.inl rfl) | exact Or.inr (Or.inr rfl))
    (hdb : (x == ("__debug__" : Str)) = false := by decide) (hcd : (x == ("__classdict__" : Str)) = false := by decide) (hs : PlainIx ie := by intro _ _; rfl) : AE X (.Subscript (.Name x px) ie pos) F F (.at g d2) := by
  refine ⟨rfl, fun T σ H Q E q => bE_inv fun L0 => bE_of (pe_ix ix_tup (pe_var hN hv hdb hcd) best hs) ?_⟩
  obtain ⟨r1, _⟩ := E.raw hn
  refine ⟨_, r1 (by rw [L0]; exact (List.getElem?_eq_some_iff.mp hN).1), hi.run T σ H _ E fun u H2 k2 p2 => ?_⟩
  obtain ⟨_, r2⟩ := p2.1.raw hn
  exact ⟨l, [v1, .ref g], 1, .ref g, rfl, p2.2.int_inv, .inl (.inl r2), rfl, q _ H2 k2 ⟨p2.1, rfl, j, hj⟩⟩
/-- a ghost is forgotten -/
theorem as_pop {s : Slot} {sts : List Stmt} (hk : AS X sts c fs D) (hlen : X.N.length ≤ fs.length := by exact Nat.le_of_ble_eq_true rfl) : AS X sts c (fs ++ [s]) D :=
  fun σ H S => bSs_inv fun L0 => hk σ H (S.less (er_pop S.er (by rw [L0]; exact hlen)) fun a h => by rw [ownL_app]; exact List.mem_append_left _ h)
end
end A3
namespace A3
open PySem PySem.Spec PyProof.Rows L2
/-! ### d.setdefault(k, e) of an owned dict -/
def gS (t : Tb) (k : Key) (d : PyData) : Tb := if (gV t k).isSome = true then t else gP t k d
section
variable {X : Cx} {a b c : Expr} {fs : Fm} {d : PyData} {pos apos : Pos} {l : Addr} {t : Tb} {k : Key}
theorem ae_setd (n : Nat) (ho : AE X a fs fs (.at l (dD t))) (hi : AE X b fs fs (.val (kD k))) (hx : AE X c fs fs (.val d)) (hz : t.length ≤ 100000) (hn : fs[n]? = some (.own l (dD t)) := by rfl) (m : M2 X a "setdefault" apos b c pos := by exact ⟨rfl, rfl, rfl, rfl⟩) :
    AE X (.Call (.Attribute a "setdefault" apos) [b, c] [] pos) fs (fs.set n (.own l (dD (gS t k d)))) (.val ((gV t k).getD d)) := by
  refine ⟨ownL_put hn, fun T σ H Q E q => bE_of (pe_dsetd best best best m) (ho.run T σ H _ E fun x H1 k1 p1 => ?_)⟩
  obtain ⟨E1, rfl, _⟩ := p1
  obtain ⟨kvs1, h1, _⟩ := ow_dct (E1.own hn).2
  refine ⟨l, rfl, .inl ⟨kvs1, .inl h1⟩, hi.run T σ H1 _ E1 fun y H2 k2 p2 => hx.run T σ H2 _ p2.1 fun z H3 k3 p3 => ?_⟩
  obtain ⟨kvs, h2, rk⟩ := ow_dct (p3.1.own hn).2
  refine ⟨kvs, k, h2, rp_key p2.2, by rw [rk.len]; exact small_line hz, fun v hv => ?_, fun hv => ?_⟩
  · rcases rk.val k with ⟨g1, _⟩ | ⟨v', d', g1, g2, rr⟩
    · rw [g1] at hv; cases hv
    · rw [g1] at hv
      cases hv
      have e : fs.set n (.own l (dD (gS t k d))) = fs := by
        unfold gS
        rw [if_pos (by rw [g2]; rfl)]
        exact List.ext_getElem? fun i => by
          rw [List.getElem?_set]
          split
          · rename_i h; subst h
            split
            · exact hn.symm
            · rename_i h2; rw [List.getElem?_eq_none (by omega)]
          · rfl
      rw [g2, e] at q
      exact q v H3 ((k1.trans k2).trans k3) ⟨p3.1, rr⟩
  · rcases rk.val k with ⟨_, g2⟩ | ⟨v', d', g1, _, _⟩
    · have e : gS t k d = gP t k d := by unfold gS; rw [if_neg (by rw [g2]; decide)]
      rw [e, g2] at q
      obtain ⟨E4, up⟩ := put_dct p3.1 hn (rk.put p3.2 k)
      refine q z _ (((k1.trans k2).trans k3).trans (kp_upd (mem_own hn))) ⟨E4, ?_⟩
      rw [ownL_put hn]; exact p3.2.mono up
    · rw [g1] at hv; cases hv
end
/-! ### return (a, x), x a local's own -/
section
variable {X : Cx} {a b : Expr} {rest : List Stmt} {c : Cf} {D : D3} {fs f1 : Fm} {d1 d2 : PyData} {pos pos' : Pos} {l : Addr}
theorem as_retP (n : Nat) {k} (ha : AE X a fs f1 (.val d1)) (hb : AE X b f1 f1 (.at l d2)) (hr : D.rt (f1.set n .no) (.two d1 d2)) (hw : l ∉ c.ws) (hn : f1[n]? = some (.own l d2) := by rfl)
    (hs : starEach [a, b] X.env = (false, eval a X.env) :: starEach [b] X.env := by rfl) (hs2 : starEach [b] X.env = (false, eval b X.env) :: starEach [] X.env := by rfl) : AS X (.Return (some (.Tuple [a, b] k pos)) pos' :: rest) c fs D :=
  fun σ H S => bSs_of (pss_cons (ps_ret (pe_tup (pa_cons best (pa_cons best pa_nil hs2) hs))) bestSs) (ha.run c.T σ H _ S.er fun x H1 k1 p1 => hb.run c.T σ H1 _ p1.1 fun y H2 k2 p2 => by
    obtain ⟨E2, rfl, _⟩ := p2
    have k2' : Kp H1 H2 (ownL fs) := by rw [ha.ow] at k2; exact k2
    have k12 := k1.trans k2'
    have S2 := S.step k12 E2 ha.ow
    refine ⟨by show 2 ≤ sizeLine; rw [sizeLine_eq]; decide, fun q nq => ?_⟩
    obtain ⟨q1, q2⟩ := er_drop E2 hn
    have il : l ∈ ownL f1 := mem_own hn
    have h0 : c.H0 l = none := by
      rcases S2.ow l il with z | z
      · exact absurd z hw
      · exact z
    have ng : q ≠ l := fun z => by
      subst z
      obtain ⟨o, ho⟩ := E2.thereL il
      rw [nq] at ho; cases ho
    have e1 : hide (hide (upd H2 q (.tup [x, .ref l])) l) q = hide H2 l := by
      funext b
      by_cases h1 : b = q
      · rw [h1, hide_self, hide_ne ng, nq]
      · rw [hide_ne h1]
        by_cases h2 : b = l
        · rw [h2, hide_self, hide_self]
        · rw [hide_ne h2, hide_ne h2, upd_ne h1]
    have up : Same (cut H1 (tt c.T (ownL f1))) (cut (hide H2 l) (tt c.T (ownL (f1.set n .no)))) := fun b o z => by
      obtain ⟨z1, z2⟩ := cut_some z
      obtain ⟨e1, e2⟩ := tt_false.mp z1
      have bl : b ≠ l := fun z => e2 (by rw [z]; exact il)
      refine cut_of (tt_false.mpr ⟨e1, fun z => ?_⟩) (by rw [hide_ne bl]; exact k2 b o e2 z2)
      rcases ownL_set z with z | z
      · exact e2 z
      · cases z
    refine ⟨σ, _, .two d1 d2, hide H2 l, ⟨⟨q, l, x, rfl, by rw [hide_ne ng]; exact nq, hide_self H2 l, ng, upd_same, by rw [e1]; exact q1, by rw [e1]; exact p1.2.mono up, by rw [e1]; exact q2.mono (fun _ _ z => z) (by rw [upd_ne (fun z => ng z.symm)])⟩,
      S2.kp.trans (Kp.of (same_upd nq)), fun b h => by rw [hide_ne (fun z => h (by rw [z]; exact h0))]; exact S2.dm b h, rfl, fun b o z => same_upd nq b o (S2.gs b o z), fun a h => S2.gd a (by
        rcases ownL_set h with z | z
        · exact z
        · cases z)⟩, hr⟩)
end
/-! ### len of a dict -/
theorem call_lenR {X : Cx} : CallR X (.builtin "len") (fun xs H Q => ∃ a kvs, xs = [V.ref a] ∧ Rd H a (.dK kvs) ∧ Q (.int kvs.length) H) := by
  intro pins s σ H xs us Q I r h
  obtain ⟨a, kvs, rfl, ha, q⟩ := h
  obtain ⟨u, rfl, ru⟩ := vals1 r
  cases ru
  exact d_len I ha fun t s' I' => ⟨.int kvs.length, H, I', ⟨t, rfl⟩, q⟩
section
variable {X : Cx} {a : Expr} {fs f1 : Fm} {pos : Pos} {r : Res} {t : Tb}
theorem ae_lenD {p : Pos} (ha : AE X a fs f1 r) (e : r.d = dD t) (hg : Gl X "len") (hm : X.mg "len" = none) (he : starEach [a] X.env = (false, eval a X.env) :: starEach [] X.env := by rfl) :
    AE X (.Call (.Name "len" p) [a] [] pos) fs f1 (.val (.int (t.length : Int))) := by
  refine ⟨ha.ow, fun T σ H Q E q => bE_of (pe_callB call_lenR hg hm PySem.boot_len (pa_cons best pa_nil he) (he := he)) (ha.run T σ H _ E fun v H1 k1 p1 => ?_)⟩
  obtain ⟨l, kvs, rfl, h1, rk⟩ := p1.dct p1.er (Kp.refl _ _) e
  refine ⟨l, kvs, rfl, h1, ?_⟩
  rw [rk.len]
  exact q _ H1 k1 ⟨p1.er, .int _⟩
end
/-! ### l.clear() -/
section
variable {X : Cx} {o : Expr} {fs : Fm} {ds : List PyData} {pos apos cpos : Pos} {l : Addr} {rest : List Stmt} {c : Cf} {D : D3}
theorem as_lclear (n : Nat) (ho : AE X o fs fs (.at l (.list ds))) (hk : AS X rest c (fs.set n (.own l (.list []))) D) (hn : fs[n]? = some (.own l (.list ds)) := by rfl)
    (hpe : ∀ {to : TE}, PE X o to → PE X (.Call (.Attribute o "clear" apos) [] [] cpos) (tBM0 X.K "list" rClear to) := by exact fun h1 => pe_bm0 PySem.F.plainAttrs_list PySem.F.slot_list_clear PySem.F.type_list_clear mt_clear h1)
    (hs : swapsWith (.Call (.Attribute o "clear" apos) [] [] cpos) none pos.line X.env = pure false := by rfl) : AS X (.Expr (.Call (.Attribute o "clear" apos) [] [] cpos) pos :: rest) c fs D :=
  fun σ H S => bSs_of (pss_cons (ps_expr (hpe best) hs) bestSs) (ho.run c.T σ H _ S.er fun ov H1 k1 p1 => by
    obtain ⟨E1, rfl, i, hi⟩ := p1
    obtain ⟨vs, hl, _⟩ := (E1.own hn).2
    refine ⟨.inl ⟨rfl, _, SqL.of hl⟩, l, vs, rfl, rfl, hl, hk _ _ ?_⟩
    exact (S.step k1 E1 rfl).step (kp_upd (mem_own hn)) (own_upd E1 hn .nil) (ownL_put hn))
end
/-- a new pair as data -/
theorem AE.pval {X : Cx} {e : Expr} {fs f1 : Fm} {d1 d2 : PyData} (h : AE X e fs f1 (.two d1 d2)) : AE X e fs f1 (.val (.tuple [d1, d2])) :=
  ⟨h.ow, fun T σ H Q E q => h.run T σ H Q E fun v H' k p => q v H' k (Po.pairVal p)⟩
end A3
namespace A3
open PySem PySem.Spec PyProof.Rows L2
/-! ### list(d), sorted(texts) -/
section
variable {X : Cx} {a : Expr} {fs f1 : Fm} {r : Res} {t : Tb} {pos p : Pos}
theorem rpKeys {K : PySem.W.Frag} {S : Hp} : ∀ ks : List Key, RpAll K S (ks.map kV) (ks.map kD)
  | [] => .nil
  | k :: ks => .cons (rp_kV k) (rpKeys ks)
theorem ae_listK (hc : X.calm = true) (ha : AE X a fs f1 r) (e : r.d = dD t) (hg : Gl X "list") (hm : X.mg "list" = none)
    (na : starEach [a] X.env = (false, eval a X.env) :: starEach [] X.env := by rfl) : AE X (.Call (.Name "list" p) [a] [] pos) fs f1 (.new (.list ((gKs t).map kD))) := by
  refine ⟨ha.ow, fun T σ H Q E q => bE_of (pe_callTy (call_listD hc) hg hm (by decide +kernel) (pa_cons best pa_nil na) (he := na)) (ha.run T σ H _ E fun x H1 k1 p1 => ?_)⟩
  obtain ⟨g, kvs, rfl, s, rk⟩ := p1.dct p1.er (Kp.refl _ _) e
  refine ⟨g, kvs, rfl, s, fun p n => ?_⟩
  have ek : (kvs.map fun kv => kV kv.1) = (gKs t).map kV := by rw [← rk.keys, List.map_map]; rfl
  rw [ek]
  exact q _ _ (k1.trans (Kp.of (same_upd n))) (po_lst p1.er k1 ha.ow n (rpKeys _))
theorem ae_sortL {ls : List (List Nat)} (ha : AE X a fs f1 r) (e : r.d = .list (ls.map sD)) (nd : ls.Nodup) (hz : ls.length < 64) (hg : Gl X "sorted") (hm : X.mg "sorted" = none)
    (na : starEach [a] X.env = (false, eval a X.env) :: starEach [] X.env := by rfl) : AE X (.Call (.Name "sorted" p) [a] [] pos) fs f1 (.new (.list ((ssN ls).map sD))) := by
  refine ⟨ha.ow, fun T σ H Q E q => bE_of (pe_callB cr_sortedS hg hm PyProof.Rows.boot_sorted (pa_cons best pa_nil na) (he := na)) (ha.run T σ H _ E fun x H1 k1 p1 => ?_)⟩
  obtain ⟨g, vs, ex, sq, qv⟩ := p1.list e
  have ev := rpStrs_inv qv
  subst ev
  refine ⟨g, ls.map SX.S, by rw [ex], sq, by rw [List.length_map]; exact hz, fun ys p hp hs n => ?_⟩
  have ey : ys = sset (ls.map SX.S) := sortedS_ss hp hs (nd.map _ fun a b h e => h (SX.S_inj e))
  rw [ey, ← ssN_S]
  exact q _ _ (k1.trans (Kp.of (same_upd n))) (po_lst p1.er k1 ha.ow n (rpStrs _))
end
/-! ### [elt for k in d if ..], d a dict that isn't owned -/
section
variable {X : Cx} {elt tg : Expr} {ifs : List Expr} {fs f2 : Fm} {t : Tb} {pos p : Pos} {x : Str} {scope : Scope}
theorem lcK_run {F : Nat → Fm} (n : Nat) (own : List (Str × Nat)) (y : Nat → Option PyData) (hND : X.N.Nodup) (F0 : F 0 = wipeF fs (own.map (·.2))) (Fo : ∀ i, ownL (F i) = ownL fs)
    (hs : ∀ i d, ((gKs t).map kD)[i]? = some d → TurnC X scope (own.map (·.2)) tg ifs elt d (F i) (F (i + 1)) (y i)) (b : BackL fs (F ((gKs t).map kD).length) f2)
    (hz : ((gKs t).map kD).length ≤ 100000) (hn : fs[n]? = some (.dat (dD t))) {T : Addr → Bool} {σ : L2.St} {H : Hp} {Q : VK} (E : ER X.K T σ H fs) (L : n < σ.length)
    (q : ∀ v H', Kp H H' (ownL fs) → Po X.K T σ H H' f2 v (.new (.list (madeC y ((gKs t).map kD).length))) → Q v H') :
    (∃ g kvs, H g = some (.dK kvs) ∧ ∀ od, tLc (iKeys (tVar n)) (gB X scope tg) (iB X scope ifs) (eB X scope elt) (own.map (·.2)) σ (upd H g (.frz od (.dK kvs))) (fun v H' => H' g = some (.frz od (.dK kvs)) ∧ Q v (upd H' g (.dK kvs)))) ∨
      tLc (iKeys (tVar n)) (gB X scope tg) (iB X scope ifs) (eB X scope elt) (own.map (·.2)) σ H Q := by
  have bR := b.back
  obtain ⟨v, hvv, rv⟩ := E.dat hn
  replace hvv := hvv L
  obtain ⟨g, kvs, rfl, rd, rk⟩ := rv.dct_inv
  have ng : g ∉ ownL fs := by
    rcases rd with h | ⟨o, h⟩ <;> exact (tt_false.mp (cut_some h).1).2
  have lk := rk.len
  have lks : ((gKs t).map kD).length = kvs.length := by rw [List.length_map, ← rk.keys, List.length_map]
  have main : ∀ (od : Obj) (Hl : Hp) (Q' : VK), Hl g = some (.frz od (.dK kvs)) → ER X.K T σ Hl fs → (∀ v H', Kp Hl H' (ownL fs) → Po X.K T σ Hl H' f2 v (.new (.list (madeC y ((gKs t).map kD).length))) → Q' v H') →
      tLc (iKeys (tVar n)) (gB X scope tg) (iB X scope ifs) (eB X scope elt) (own.map (·.2)) σ Hl Q' := by
    intro od Hl Q' hl El q'
    have gG : ∀ {G : Hp}, Same (cut Hl fun b => decide (b ∈ ownL fs)) G → G g = some (.frz od (.dK kvs)) := fun sg => sg g _ (cut_of (T := fun b => decide (b ∈ ownL fs)) (decide_eq_false ng) hl)
    refine ⟨_, hvv, g, od, rfl, .inl ⟨kvs, hl, fun D nD => ?_⟩⟩
    refine comp_core (ds := (gKs t).map kD) (F := F) (y := y) (J := Itk g od kvs) El nD hz F0 Fo (fun G sg k lt => dw_keys (K := X.K).go (gG sg) (by omega)) (fun G sg => ?_) (fun G sg k w G' lt yl => ?_) hs (fun H' k E2 z => ?_)
    · rw [lks]; exact dw_keys (K := X.K).stop (gG sg)
    · obtain ⟨rfl, key, w2, hk, rfl⟩ := yl
      refine ⟨fun _ _ h => h, kD key, ?_, fun T' τ f E2 ef et => ?_⟩
      · rw [List.getElem?_map, ← rk.keys, List.getElem?_map, hk]; rfl
      · cases key with
        | inl i => exact .int i
        | inr x => exact .str x
    · obtain ⟨r1, r2⟩ := comp_end (fs := fs) El (Kp.refl _ _) rfl nD k E2 (Fo _) bR z
      exact q' _ _ r1 r2
  have at0 : Rd H g (.dK kvs) := rd_same (cut_all _ _) rd
  rcases at0 with h | ⟨od, h⟩
  · refine .inl ⟨g, kvs, h, fun od => ?_⟩
    have El : ER X.K T σ (upd H g (.frz od (.dK kvs))) fs := er_lk E (fun b z => upd_ne z) ng (lk_lock h) (by rw [upd_same]; exact fun z => by cases z)
    refine main od _ _ upd_same El fun v H' kp po => ?_
    have at' : H' g = some (.frz od (.dK kvs)) := kp g _ ng upd_same
    refine ⟨at', q v _ (fun b o nb hb => ?_) ?_⟩
    · by_cases z : b = g
      · rw [z] at hb ⊢; rw [h] at hb; cases hb; exact upd_same
      · rw [upd_ne z]; exact kp b o nb (by rw [upd_ne z]; exact hb)
    · obtain ⟨a, rfl, nn, E3, w⟩ := po
      have ne : a ≠ g := fun z => by rw [z, upd_same] at nn; cases nn
      have eh : hide (upd H' g (.dK kvs)) a = upd (hide H' a) g (.dK kvs) := by
        funext b
        by_cases z : b = a
        · rw [z, hide_self, upd_ne ne, hide_self]
        · rw [hide_ne z]
          by_cases z2 : b = g
          · rw [z2, upd_same, upd_same]
          · rw [upd_ne z2, upd_ne z2, hide_ne z]
      have at2 : hide H' a g = some (.frz od (.dK kvs)) := by rw [hide_ne (fun z => ne z.symm)]; exact at'
      refine ⟨a, rfl, by rw [upd_ne ne] at nn; exact nn, ?_, ?_⟩
      · rw [eh]; exact er_lk E3 (fun b z => upd_ne z) (by rw [bR.own]; exact ng) (lk_unlock at2) (by rw [upd_same]; exact fun z => by cases z)
      · rw [eh]; exact w.lk (lk_unlock at2 _) (upd_ne ne)
  · exact .inr (main od H Q h E q)
theorem ae_lcK {F : Nat → Fm} (n : Nat) (own : List (Str × Nat)) (y : Nat → Option PyData) (hND : X.N.Nodup) (F0 : F 0 = wipeF fs (own.map (·.2))) (Fo : ∀ i, ownL (F i) = ownL fs)
    (hs : ∀ i d, ((gKs t).map kD)[i]? = some d → TurnC X scope (own.map (·.2)) tg ifs elt d (F i) (F (i + 1)) (y i)) (b : BackL fs (F ((gKs t).map kD).length) f2)
    (hz : ((gKs t).map kD).length ≤ 100000) (hn : fs[n]? = some (.dat (dD t)) := by rfl) (hc : X.calm = true := by rfl) (ok : blkC X.N X.env.scope scope own = true := by first | decide +kernel | rfl)
    (hN : X.N[n]? = some x := by rfl) (hv : Vis X.env.scope x := by first | exact Or.inl rfl | exact Or.inr (Or.inl rfl) | exact Or.inr (Or.inr rfl))
    (hdb : (x == ("__debug__" : Str)) = false := by decide) (hcd : (x == ("__classdict__" : Str)) = false := by decide) (hf : ∀ y, foldedSetIterable (.Name x p) X.env y = pure y := by intro _; rfl) :
    AE X (.ListComp elt [⟨tg, .Name x p, ifs, 0⟩] scope pos) fs f2 (.new (.list (madeC y ((gKs t).map kD).length))) := by
  refine ⟨b.back.own, fun T σ H Q E q => bE_inv fun L => ?_⟩
  have hP : PE X (.ListComp elt [⟨tg, .Name x p, ifs, 0⟩] scope pos) (tLc (iKeys (tVar n)) (gB X scope tg) (iB X scope ifs) (eB X scope elt) (own.map (·.2))) :=
    pe_lc hc hND (pi_keys (pe_var hN hv hdb hcd)) (blkOk_by ok) gB_ok iB_ok eB_ok hf
  rcases lcK_run n own y hND F0 Fo hs b hz hn E (by rw [L]; exact (List.getElem?_eq_some_iff.mp hN).1) q with ⟨g, kvs, h, w⟩ | w
  · exact bE_of (pe_lock hP) ⟨g, .dK kvs, h, trivial, w⟩
  · exact bE_of hP w
/-- x = [..], not owned -/
theorem as_lcKD {py spos : Pos} {z : Str} {rest : List Stmt} {c : Cf} {D3' : D3} (m : Nat) {F : Nat → Fm} (n : Nat) (own : List (Str × Nat)) (y : Nat → Option PyData) (hND : X.N.Nodup) (F0 : F 0 = wipeF fs (own.map (·.2))) (Fo : ∀ i, ownL (F i) = ownL fs)
    (hs : ∀ i d, ((gKs t).map kD)[i]? = some d → TurnC X scope (own.map (·.2)) tg ifs elt d (F i) (F (i + 1)) (y i)) (b : BackL fs (F ((gKs t).map kD).length) f2)
    (hz : ((gKs t).map kD).length ≤ 100000)
    (hk : AS X rest c (f2.set m (.dat (.list (madeC y ((gKs t).map kD).length)))) D3') (hn : fs[n]? = some (.dat (dD t)) := by rfl) (hy : X.N[m]? = some z := by rfl) (hyl : X.env.scope.names.lookup z = some .local := by rfl) (hc : X.calm = true := by rfl) (ok : blkC X.N X.env.scope scope own = true := by first | decide +kernel | rfl)
    (hN : X.N[n]? = some x := by rfl) (hv : Vis X.env.scope x := by first | exact Or.inl rfl | exact Or.inr (Or.inl rfl) | exact Or.inr (Or.inr rfl))
    (hdb : (x == ("__debug__" : Str)) = false := by decide) (hcd : (x == ("__classdict__" : Str)) = false := by decide) (hf : ∀ y, foldedSetIterable (.Name x p) X.env y = pure y := by intro _; rfl)
    (hsw : swapsWith (.ListComp elt [⟨tg, .Name x p, ifs, 0⟩] scope pos) (some (.Name z py)) spos.line X.env = pure true := by exact sw_true rfl rfl rfl (by decide +kernel)) :
    AS X (.Assign [.Name z py] (.ListComp elt [⟨tg, .Name x p, ifs, 0⟩] scope pos) spos :: rest) c fs D3' := by
  refine fun σ H S => bSs_inv fun L => ?_
  have hP : PS X (.Assign [.Name z py] (.ListComp elt [⟨tg, .Name x p, ifs, 0⟩] scope pos) spos) (tAsg (tLc (iKeys (tVar n)) (gB X scope tg) (iB X scope ifs) (eB X scope elt) (own.map (·.2))) (gName m)) :=
    ps_setLc hc hND hy hyl hsw (pi_keys (pe_var hN hv hdb hcd)) (blkOk_by ok) gB_ok iB_ok eB_ok hf
  have fin : ∀ v H', Kp H H' (ownL fs) → Po X.K c.T σ H H' f2 v (.new (.list (madeC y ((gKs t).map kD).length))) → bSs X rest (ends X.K c D3') (σ.set m (some v)) H' := fun v H1 k1 p1 => by
    have p2 := p1.toVal
    exact hk _ _ ((S.step k1 p2.1 b.back.own).setDat p2.2)
  rcases lcK_run n own y hND F0 Fo hs b hz hn S.er (by rw [L]; exact (List.getElem?_eq_some_iff.mp hN).1) fin with ⟨g, kvs, h, w⟩ | w
  · exact bSs_of (pss_cons (ps_lock hP) bestSs) ⟨g, .dK kvs, h, trivial, w⟩
  · exact bSs_of (pss_cons hP bestSs) w
end
/-! ### for over a tuple -/
section
variable {X : Cx} {e : Expr} {body rest : List Stmt} {c : Cf} {D : D3} {fs f1 : Fm} {ds : List PyData} {pos : Pos}
theorem as_forT {tg : Expr} (hp : PassesOwn (model X.prog X.w) X.A X.env X.xe) (P : Nat → Fm → Prop) (he : AE X e fs f1 (.val (.tuple ds))) (h0 : P 0 f1) (hs : Turn3 X tg body rest c D ds P) (hd : ∀ f, P ds.length f → AS X rest c f D) (hc : X.calm = true := by rfl)
    (hf : ∀ x, foldedSetIterable e X.env x = pure x := by intro _; rfl) : AS X (.For tg e body [] pos :: rest) c fs D := by
  refine fun σ H S => bSs_of (pss_cons (ps_for hp hc (pi_tup best) bestG bestSs hf) bestSs) (he.run c.T σ H _ S.er fun v H1 k1 p1 => ?_)
  obtain ⟨E1, rl⟩ := p1
  obtain ⟨l, vs, rfl, s, qv⟩ := rl.tup_inv
  have up : Same (cut H1 (tt c.T (ownL f1))) (cut H1 fun b => decide (b ∈ ownL f1)) := cut_same fun b o e z => ⟨decide_eq_false (tt_false.mp e).2, z⟩
  have s1 : SqT X.K (cut H1 fun b => decide (b ∈ ownL f1)) l vs := sqT_same up s
  refine ⟨l, rfl, ⟨vs, sqT_same (cut_all _ _) s⟩, for_core (ds := ds) (S.step k1 E1 he.ow) h0 (fun G g k lt => ?_) (fun G g => ?_) (fun G g k v G' lt y => ?_) hs hd⟩
  · have := qv.length
    exact ⟨vs, vs[k]'(by omega), sqT_same g s1, by simp⟩
  · exact ⟨vs, sqT_same g s1, by rw [qv.length]; exact Nat.le_refl _⟩
  · obtain ⟨rfl, y⟩ := y
    have hv := y vs (sqT_same g s1)
    obtain ⟨d, hd', rd⟩ := qv.get2 hv
    refine ⟨fun _ _ h => h, d, hd', fun T σ f E dis et => rd.mono fun b o h => ?_⟩
    obtain ⟨e1, e2⟩ := cut_some h
    obtain ⟨e3, e4⟩ := tt_false.mp e1
    have gb := g b o (cut_of (decide_eq_false e4) e2)
    refine cut_of (tt_false.mpr ⟨by rw [et]; exact e3, fun z => ?_⟩) gb
    have := dis b z
    rw [cut_of (decide_eq_false e4) e2] at this; cases this
end
end A3
namespace A3
open PySem PySem.Spec PyProof.Rows L2
/-! ### for k in t[i], a dict within a tuple -/
section
variable {X : Cx} {a b c e o ie tg : Expr} {es : List Expr} {rest body : List Stmt} {cf : Cf} {D : D3} {fs f1 f2 f3 : Fm} {d d1 d2 : PyData} {ds : List PyData} {r r1 r2 : Res} {pos pos' apos p px : Pos} {T : Addr → Bool} {σ : L2.St} {H H1 : Hp} {l : Addr} {t t2 : Tb} {k : Key} {x : Str}
theorem as_forDwG {Jt : Addr → Obj → List (Key × V) → It} {F : Key → PyData → PyData} {it : Expr} {wi : TI} {PB : Fm → Prop} (W : DWalk X.K Jt F) (hp : PassesOwn (model X.prog X.w) X.A X.env X.xe) (P : Nat → Fm → Prop) (hpi : PI X tg it wi)
    (get : ∀ (σ : L2.St) (H : Hp), ER X.K cf.T σ H fs → σ.length = X.N.length → ∃ (g : Addr) (kvs : List (Key × V)), Rd (cut H (tt cf.T (ownL fs))) g (.dK kvs) ∧ RK X.K (cut H (tt cf.T (ownL fs))) kvs t ∧
      ∀ (Hl : Hp) (R : It → Hp → Prop) (od : Obj), (∀ b o, b ≠ g → H b = some o → Hl b = some o) → Hl g = some (.frz od (.dK kvs)) → R (Jt g od kvs) Hl → wi σ Hl R)
    (h0 : P 0 fs) (hs : ∀ (H0 G : Hp) (k : Nat) (d : PyData) (f : Fm), (walkD F t)[k]? = some d → P k f → ∃ g, AG X tg d f g ∧ AS X body { cf with H0 := H0, G := G } g { nx := P (k + 1), ct := P (k + 1), bk := PB, rt := D.rt })
    (hd : ∀ f, (P t.length f ∨ PB f) → AS X rest cf f D) (hc : X.calm = true := by rfl)
    (hf : ∀ x, foldedSetIterable it X.env x = pure x := by intro _; rfl) : AS X (.For tg it body [] pos :: rest) cf fs D := by
  refine fun σ H S => bSs_inv fun L => ?_
  obtain ⟨g, kvs, rd, rk, hwi⟩ := get σ H S.er L
  have ng : g ∉ ownL fs := by
    rcases rd with h | ⟨o, h⟩ <;> exact (tt_false.mp (cut_some h).1).2
  have lw : (walkD F t).length = t.length := List.length_map _
  have lk := rk.len
  have main : ∀ (c' : Cf) (od : Obj) (Hl : Hp) (NX : L2.St → Hp → Prop) (RT : V → Hp → Prop), (∃ H0 G, c' = { cf with H0 := H0, G := G }) → c'.G = (cut Hl fun b => decide (b ∈ ownL fs)) → S3 X.K c' σ Hl fs → Hl g = some (.frz od (.dK kvs)) → (∀ b o, b ≠ g → H b = some o → Hl b = some o) → RK X.K (cut Hl (tt cf.T (ownL fs))) kvs t →
      (∀ σ H f, S3 X.K c' σ H f → (P t.length f ∨ PB f) → NX σ H) → (∀ v H σ f r Hm, R3 X.K c' σ Hm H f v r → D.rt f r → RT v H) →
      tFor wi (bG X tg) (bSs X body) ⟨NX, RT, NX, NX⟩ σ Hl := by
    rintro c' od Hl NX RT ⟨H0, G0, rfl⟩ hG S1 hl hup rk1 hd1 hr1
    have gG : ∀ b o, b ∉ ownL fs → Hl b = some o → G0 b = some o := fun b o nb h => by
      have e : G0 = cut Hl fun b => decide (b ∈ ownL fs) := hG
      rw [e]; exact cut_of (T := fun b => decide (b ∈ ownL fs)) (decide_eq_false nb) h
    refine hwi Hl _ od hup hl ?_
    refine for_coreX (cf := { cf with H0 := H0, G := G0 }) (ds := walkD F t) (PB := PB) (Dr := D.rt) S1 h0 (fun G sg k lt => W.go (sg g _ (gG g _ ng hl)) (by omega)) (fun G sg => ?_) (fun G sg k v G' lt y => ?_) (fun k d f h1 h2 => hs H0 G0 k d f h1 h2) (fun σ H f S2 z => hd1 σ H f S2 (by rw [lw] at z; exact z)) hr1
    · have := W.stop (sg g _ (gG g _ ng hl))
      rw [lw, ← lk]; exact this
    · obtain ⟨sm, key, w, hk, q⟩ := W.yld y
      obtain ⟨d, hd', rw'⟩ := rk1.get hk
      refine ⟨sm, F key d, by unfold walkD; rw [List.getElem?_map, hd']; rfl, fun σ2 f E dis => q (fun b o nb h => cut_of (E.free nb) h) (rw'.mono fun b o h => ?_)⟩
      obtain ⟨e1, e2⟩ := cut_some h
      obtain ⟨e3, e4⟩ := tt_false.mp e1
      have gb := gG b o e4 e2
      refine cut_of (tt_false.mpr ⟨e3, fun z => ?_⟩) (sm b o (sg b o gb))
      have := dis b z
      rw [show ({ cf with H0 := H0, G := G0 } : Cf).G b = G0 b from rfl, gb] at this; cases this
  have at0 : Rd H g (.dK kvs) := rd_same (cut_all _ _) rd
  rcases at0 with h | ⟨od, h⟩
  · refine bSs_of (pss_cons (ps_lock (ps_for hp hc hpi bestG bestSs hf)) bestSs) ⟨g, .dK kvs, h, trivial, fun od => ?_⟩
    refine main (lockC cf H fs g (.frz od (.dK kvs))) od _ _ _ ⟨_, _, rfl⟩ rfl (S.lock h ng od) upd_same (fun b o nb hb => by rw [upd_ne nb]; exact hb) (rk.lk (lk_lock h _)) (fun σ' H' f S' z => ⟨S'.lock_at ng, hd f z _ _ (S.unlock h ng S')⟩) (fun v H' σ' f r Hm R z => ?_)
    obtain ⟨h1, Hm', R'⟩ := R.unlock S h ng
    exact ⟨h1, _, _, _, _, R', z⟩
  · refine bSs_of (pss_cons (ps_for hp hc hpi bestG bestSs hf) bestSs) ?_
    obtain ⟨S0, g0⟩ := S.walk
    exact main { cf with G := cut H fun b => decide (b ∈ ownL fs) } od H _ _ ⟨cf.H0, _, rfl⟩ rfl S0 h (fun b o _ hb => hb) rk (fun σ' H' f S' z => hd f z _ _ (S'.base g0)) (fun v H' σ' f r Hm R z => ⟨_, _, _, _, R.base g0, z⟩)
/-- for k in x[1], x a pair whose second part is a dict -/
theorem as_forK1 {PB : Fm → Prop} {kk} {p1 p2 : Pos} (hp : PassesOwn (model X.prog X.w) X.A X.env X.xe) (n : Nat) (P : Nat → Fm → Prop) (h0 : P 0 fs) (hs : ∀ (H0 G : Hp) (k : Nat) (d : PyData) (f : Fm), (walkD (fun k _ => kD k) t)[k]? = some d → P k f → ∃ g, AG X tg d f g ∧ AS X body { cf with H0 := H0, G := G } g { nx := P (k + 1), ct := P (k + 1), bk := PB, rt := D.rt })
    (hd : ∀ f, (P t.length f ∨ PB f) → AS X rest cf f D) (hn : fs[n]? = some (.dat (.tuple [d1, dD t])) := by rfl) (hc : X.calm = true := by rfl) (hN : X.N[n]? = some x := by rfl) (hv : Vis X.env.scope x := by first | exact Or.inl rfl | exact Or.inr (Or.inl rfl) | exact Or.inr (Or.inr rfl))
    (hdb : (x == ("__debug__" : Str)) = false := by decide) (hcd : (x == ("__classdict__" : Str)) = false := by decide) (hsx : PlainIx (.Constant (.int 1) kk p1) := by intro _ _; rfl) (hf : ∀ y, foldedSetIterable (.Subscript (.Name x p) (.Constant (.int 1) kk p1) p2) X.env y = pure y := by intro _; rfl) :
    AS X (.For tg (.Subscript (.Name x p) (.Constant (.int 1) kk p1) p2) body [] pos :: rest) cf fs D := by
  refine as_forDwG dw_keys hp P (pi_keys (pe_ix ix_tup (pe_var hN hv hdb hcd) pe_int hsx)) (fun σ H E L => ?_) h0 hs hd hc hf
  obtain ⟨v, hv', rv⟩ := E.dat hn
  replace hv' := hv' (by rw [L]; exact (List.getElem?_eq_some_iff.mp hN).1)
  obtain ⟨q, vs, rfl, s, qv⟩ := rv.tup_inv
  obtain ⟨v1, v2, rfl, r1, r2⟩ := qv.two_inv
  obtain ⟨g, kvs, rfl, rd, rk⟩ := r2.dct_inv
  refine ⟨g, kvs, rd, rk, fun Hl R od hup hl z => ?_⟩
  have s2 : SqT X.K Hl q [v1, .ref g] := by
    rcases s with (s | ⟨o, s⟩) | s
    · refine .inl (.inl (hup _ _ (fun e => ?_) (cut_some s).2))
      subst e
      rcases rd with r | ⟨o, r⟩ <;> (rw [s] at r; cases r)
    · refine .inl (.inr ⟨o, hup _ _ (fun e => ?_) (cut_some s).2⟩)
      subst e
      rcases rd with r | ⟨o, r⟩ <;> (rw [s] at r; cases r)
    · exact .inr s
  exact ⟨_, hv', q, [v1, .ref g], 1, .ref g, rfl, rfl, s2, rfl, g, od, rfl, .inl ⟨kvs, hl, z⟩⟩
end
/-! ### t + u, list(range(a, b, c)) -/
section
variable {X : Cx} {a b c : Expr} {fs f1 f2 : Fm} {ds es : List PyData} {pos p p2 pos2 : Pos}
theorem ae_addTG (ha : AE X a fs f1 (.val (.tuple ds))) (hb : AE X b f1 f2 (.val (.tuple es))) (h1 : ds ≠ []) (h2 : es ≠ []) (hz : ds.length + es.length ≤ 1000) : AE X (.BinOp a .Add b pos) fs f2 (.val (.tuple (ds ++ es))) := by
  cases ds with
  | nil => exact (h1 rfl).elim
  | cons d ds => cases es with
    | nil => exact (h2 rfl).elim
    | cons e es => exact ae_addT ha hb hz
def rgC (i k : Int) (n : Nat) : List Int := (List.range n).map fun m => i + (m : Nat) * k
def tLstRg3 (ta : TA) : TE := fun σ H Q => ta σ H fun vs H1 => ∃ (i j k : Int) (n : Nat), vs = [.int i, .int j, .int k] ∧ RgC i j k n ∧ n ≤ 100000 ∧ ∀ q, H1 q = none → Q (.ref q) (upd H1 q (.lst ((rgC i k n).map V.int)))
theorem vals_rgC {i k : Int} {n : Nat} {acc : Array Value} (h : ItemsOf (fun m v => ∃ t, v = .int (i + m * k) t) acc n) : Vals ((rgC i k n).map V.int) acc.toList := by
  have e : acc.toList.length = n := by rw [Array.length_toList]; exact h.1
  unfold rgC
  rw [List.map_map, ← e]
  refine vals_of_get acc.toList _ fun j u hj => ?_
  obtain ⟨t, rfl⟩ := h.2 j u (by rw [← hj, Array.getElem?_toList])
  exact ⟨t, rfl⟩
theorem pe_listRg3 {ta : TA} (hc : X.calm = true) (hg : Gl X "list") (hm : X.mg "list" = none) (hg2 : Gl X "range") (hm2 : X.mg "range" = none) (ha : PA X [a, b, c] ta)
    (hs : starEach [a, b, c] X.env = (false, eval a X.env) :: starEach [b, c] X.env) (hpl : (backTo pos2 (starEach [b, c] X.env)).any (·.1) = false)
    (na : starEach [.Call (.Name "range" p2) [a, b, c] [] pos2] X.env = (false, eval (.Call (.Name "range" p2) [a, b, c] [] pos2) X.env) :: starEach [] X.env) :
    PE X (.Call (.Name "list" p) [.Call (.Name "range" p2) [a, b, c] [] pos2] [] pos) (tLstRg3 ta) := by
  refine ⟨fun pins s σ H Q I h => ?_⟩
  refine Call_ (ld_blt I hg hm boot_list (PyProof.Rows.callWith_type1 (args_cons ?_ na) na))
  refine Call_ (ld_blt I hg2 hm2 boot_range (PyProof.Rows.callWith_type1 (thn (ha.run pos2 pins s σ H _ I h) fun us s1 ⟨vs, H1, I1, r1, q1⟩ => ?_) hs hpl))
  obtain ⟨i, j, k, n, e, ⟨c0, c1, c2, c3⟩, hn, q⟩ := q1
  subst e
  cases r1 with
  | cons r rr =>
    cases rr with
    | cons r' rr =>
      cases rr with
      | cons r'' rr =>
        cases rr
        obtain ⟨t, rfl⟩ := r
        obtain ⟨t', rfl⟩ := r'
        obtain ⟨t'', rfl⟩ := r''
        refine call_range_3 c0 ?_ (.inl (PyProof.noPylong_small c1))
        refine args_nil ?_
        have I2 : Inv X pins σ H1 { s1 with heap := s1.heap.push { cls := .type "range", data := .fields #[.int i t, .int j t', .int k t''] } } := I1.kept (t' := s1.toks) fun b o e => Heap.get?_push_of_some _ e
        refine call_list_range (n := n) (I2.ok.hd hc) (IsRange.new ..) c2 c3 (by omega) fun h' tk acc c' hk e' hi => ?_
        refine ⟨.ref _, upd H1 _ (.lst ((rgC i k n).map V.int)), I2.laid hk (Nat.le_refl _) (show ObjOk X.prog X.w _ _ _ (.lst ((rgC i k n).map V.int)) from ⟨?_, acc.toList, c', vals_rgC hi, ?_⟩), rfl, q _ (I2.hok.fresh (Nat.le_refl _))⟩
        · rw [List.length_map, rgC, List.length_map, List.length_range, sizeLine_eq]; omega
        · rw [Array.toArray_toList]; exact e'
theorem ae_listR3 {i j k : Int} {n : Nat} (ha : AD X [a, b, c] fs f1 [.int i, .int j, .int k]) (hr : RgC i j k n) (hn : n ≤ 100000) (hm : X.mg "list" = none) (hm2 : X.mg "range" = none) (hg : Gl X "list" := by rfl) (hg2 : Gl X "range" := by rfl) (hc : X.calm = true := by rfl)
    (hs : starEach [a, b, c] X.env = (false, eval a X.env) :: starEach [b, c] X.env := by rfl) (hpl : (backTo pos2 (starEach [b, c] X.env)).any (·.1) = false := by rfl)
    (na : starEach [.Call (.Name "range" p2) [a, b, c] [] pos2] X.env = (false, eval (.Call (.Name "range" p2) [a, b, c] [] pos2) X.env) :: starEach [] X.env := by rfl) : AE X (.Call (.Name "list" p) [.Call (.Name "range" p2) [a, b, c] [] pos2] [] pos) fs f1 (.new (.list ((rgC i k n).map .int))) := by
  refine ⟨ha.ow, fun T σ H Q E q => bE_of (pe_listRg3 hc hg hm hg2 hm2 bestA hs hpl na) (ha.run T σ H _ E fun vs H1 k1 E1 p1 => ?_)⟩
  have ev : vs = [i, j, k].map V.int := RpAll.ints_inv p1
  exact ⟨i, j, k, n, ev, hr, hn, fun l nl => q _ _ (k1.trans (Kp.of (same_upd nl))) (po_lst E1 k1 ha.ow nl (RpAll.ints _))⟩
end
end A3
namespace A3
open PySem PySem.Spec PyProof.Rows L2
/-! ### lists of whole numbers: min with a default, max, sorted, index -/
def rMinI (K : PySem.W.Frag) : List V → List V → Hp → VK → Prop := fun vs zs H Q => ∃ (a : Addr) (ns : List Int), vs = [V.ref a] ∧ zs = [.non] ∧ SqL K H a (ns.map V.int) ∧ (ns = [] → Q .non H) ∧ ∀ n r, ns = n :: r → Q (.int (r.foldl min n)) H
theorem alike_ints (ns : List Int) : PySem.W.AlikeAll (ns.map PyData.int) := ⟨fun x hx y hy => by
  obtain ⟨a, _, rfl⟩ := List.mem_map.mp hx
  obtain ⟨b, _, rfl⟩ := List.mem_map.mp hy
  rfl, fun x hx => by
  obtain ⟨a, _, rfl⟩ := List.mem_map.mp hx
  intro h; cases h⟩
theorem depth_ints (ns : List Int) : PyData.depthAll (ns.map PyData.int) = 0 := by
  induction ns with
  | nil => rfl
  | cons n r ih => rw [List.map_cons]; simp only [PyData.depthAll, PyData.depth, ih]; rfl
theorem cr_minDef {X : Cx} (hc : X.calm = true) (hu : X.A.units + 64 < cLine) : CallRK X (.builtin "min") [Str.ofString "default"] (rMinI X.K) := by
  intro pins s σ H vs zs us ws Q I r rz h
  obtain ⟨a, ns, rfl, rfl, hs, q0, q1⟩ := h
  obtain rfl := Vals.ref1 r
  obtain ⟨w1, rfl, e1⟩ := L2.vals1 rz
  obtain rfl : w1 = Value.none := e1
  obtain ⟨its, rv, hl, _⟩ := I.list hs
  refine PySem.W.min_list_default (I.ok.hd hc) hl.isList (xs := ns.map PyData.int) (as := []) (by rw [List.toList_toArray]; exact ints_readAll _ rv.ints) (alike_ints ns) (by rw [depth_ints]; omega) (fun e h' tk hk => ?_) (fun y ys i v h' tk bs e hv hr hk => ?_)
  · exact ⟨.non, H, I.kept hk, rfl, q0 (List.map_eq_nil_iff.mp e)⟩
  · cases ns with
    | nil => cases e
    | cons n r =>
      rw [List.map_cons] at e
      injection e with e1 e2
      subst e1 e2
      rw [PySem.W.minD_ints] at hr
      cases hr
      exact ⟨.int _, H, I.kept hk, ⟨_, rfl⟩, q1 n r rfl⟩
def minO : List Int → PyData
  | [] => .none
  | n :: r => .int (r.foldl min n)
section
variable {X : Cx} {a b o : Expr} {fs f1 f2 : Fm} {r : Res} {ns ms : List Int} {pos p apos kp p1 : Pos} {k m : Int} {j : Nat}
theorem ae_minDef (hc : X.calm = true) (hu : X.A.units + 64 < cLine) (ha : AE X a fs f1 r) (e : r.d = .list (ns.map .int)) (hg : Gl X "min") (hm : X.mg "min" = none)
    (he : backTo pos (starEach [a] X.env) = (false, eval a X.env) :: backTo pos (starEach [] X.env) := by rfl) (hpl : (backTo pos (starEach [a] X.env)).any (·.1) = false := by rfl) (he0 : starEach [a] X.env = (false, eval a X.env) :: starEach [] X.env := by rfl)
    {kk} (hall : (backToKw pos (keywordEach [⟨some "default", .Constant .none kk p1, kp⟩] X.env)).all (·.1.isSome) = true := by rfl) (hnone : (backToKw pos (keywordEach [⟨some "default", .Constant .none kk p1, kp⟩] X.env)).any (·.1.isNone) = false := by rfl) (hks : (backToKw pos (keywordEach [⟨some "default", .Constant .none kk p1, kp⟩] X.env)).filterMap (·.1) = [Str.ofString "default"] := by rfl) :
    AE X (.Call (.Name "min" p) [a] [⟨some "default", .Constant .none kk p1, kp⟩] pos) fs f1 (.val (minO ns)) := by
  refine ⟨ha.ow, fun T σ H Q E q => bE_of (pe_callBK (cr_minDef hc hu) hg hm PyProof.Rows.boot_min (pa_cons best pa_nil he0) (pk_cons pe_non pk_nil) (he := he) (hpl := hpl) (hall := hall) (hnone := hnone) (hks := hks)) (ha.run T σ H _ E fun x H1 k1 p1 => ?_)⟩
  obtain ⟨g, vs, ex, sq, qv⟩ := p1.list e
  have ev := rpInts_inv qv
  subst ev
  refine ⟨g, ns, by rw [ex], rfl, sq, fun e => ?_, fun n r e => ?_⟩
  · subst e; exact q _ H1 k1 ⟨p1.er, .non⟩
  · subst e; exact q _ H1 k1 ⟨p1.er, .int _⟩
theorem ae_maxI (hc : X.calm = true) (ha : AE X a fs f1 r) (e : r.d = .list (ns.map .int)) (h1 : m ∈ ns) (h2 : ∀ y ∈ ns, y ≤ m) (hg : Gl X "max") (hm : X.mg "max" = none)
    (na : starEach [a] X.env = (false, eval a X.env) :: starEach [] X.env := by rfl) : AE X (.Call (.Name "max" p) [a] [] pos) fs f1 (.val (.int m)) := by
  refine ⟨ha.ow, fun T σ H Q E q => bE_of (pe_callB (cr_max hc) hg hm PyProof.Rows.boot_max (pa_cons best pa_nil na) (he := na)) (ha.run T σ H _ E fun x H1 k1 p1 => ?_)⟩
  obtain ⟨g, vs, ex, sq, qv⟩ := p1.list e
  have ev := rpInts_inv qv
  subst ev
  refine ⟨g, ns, by rw [ex], sq, List.length_pos_of_mem h1, fun m' g1 g2 => ?_⟩
  have : m' = m := Int.le_antisymm (h2 m' g1) (g2 m h1)
  subst this
  exact q _ H1 k1 ⟨p1.er, .int _⟩
theorem perm_pwI : ∀ {l m : List Int}, l.Perm m → l.Pairwise (· ≤ ·) → m.Pairwise (· ≤ ·) → l = m
  | [], m, p, _, _ => (List.nil_perm.mp p).symm
  | x :: l, [], p, _, _ => absurd p.length_eq (by simp)
  | x :: l, y :: m, p, hl, hm => by
    obtain ⟨h1, h2⟩ := List.pairwise_cons.mp hl
    obtain ⟨k1, k2⟩ := List.pairwise_cons.mp hm
    have e : x = y := by
      rcases List.mem_cons.mp (p.mem_iff.mp List.mem_cons_self) with e | e
      · exact e
      · rcases List.mem_cons.mp (p.symm.mem_iff.mp List.mem_cons_self) with q | q
        · exact q.symm
        · exact Int.le_antisymm (h1 y q) (k1 x e)
    subst e
    rw [perm_pwI ((List.perm_cons x).mp p) h2 k2]
def srtI (ns : List Int) : List Int := ns.mergeSort fun a b => decide (a ≤ b)
theorem srtI_perm (ns : List Int) : (srtI ns).Perm ns := List.mergeSort_perm ns _
theorem srtI_pw (ns : List Int) : (srtI ns).Pairwise (· ≤ ·) := by
  have := List.pairwise_mergeSort (le := fun a b : Int => decide (a ≤ b)) (fun a b c h1 h2 => by simp at *; omega) (fun a b => by simp; omega) ns
  exact this.imp fun {a b} h => of_decide_eq_true h
theorem ae_sortI (ha : AE X a fs f1 r) (e : r.d = .list (ns.map .int)) (hg : Gl X "sorted") (hm : X.mg "sorted" = none)
    (na : starEach [a] X.env = (false, eval a X.env) :: starEach [] X.env := by rfl) : AE X (.Call (.Name "sorted" p) [a] [] pos) fs f1 (.new (.list ((srtI ns).map .int))) := by
  refine ⟨ha.ow, fun T σ H Q E q => bE_of (pe_callB cr_sortedI hg hm PyProof.Rows.boot_sorted (pa_cons best pa_nil na) (he := na)) (ha.run T σ H _ E fun x H1 k1 p1 => ?_)⟩
  obtain ⟨g, vs, ex, sq, qv⟩ := p1.list e
  have ev := rpInts_inv qv
  subst ev
  refine ⟨g, ns, by rw [ex], sq, fun ys p hp hs n => ?_⟩
  rw [perm_pwI (hp.trans (srtI_perm ns).symm) hs (srtI_pw ns)]
  exact q _ _ (k1.trans (Kp.of (same_upd n))) (po_lst p1.er k1 ha.ow n (RpAll.ints _))
theorem ae_index (ha : AE X o fs f1 (.val (.list (ns.map .int)))) (hb : AD X [a] f1 f2 [.int k]) (hj : ns[j]? = some k) (hno : ∀ m : Nat, m < j → ns[m]? ≠ some k)
    (hpe : ∀ {to : TE} {t : TA}, PE X o to → PA X [a] t → PE X (.Call (.Attribute o "index" apos) [a] [] pos) (tBM X.K "list" (rIndex X.K) to t) := by exact fun h1 h2 => pe_bm PySem.F.plainAttrs_list PySem.F.slot_list_index PySem.F.type_list_index mt_index h1 h2) :
    AE X (.Call (.Attribute o "index" apos) [a] [] pos) fs f2 (.val (.int (j : Int))) := by
  refine ⟨hb.ow.trans ha.ow, fun T σ H Q E q => bE_of (hpe best bestA) (ha.run T σ H _ E fun x H1 k1 p1 => ?_)⟩
  obtain ⟨l0, vs0, e0, s0, qv0⟩ := p1.2.lst_inv
  refine ⟨by rw [e0]; exact .inl ⟨rfl, _, sqL_same (cut_all _ _) s0⟩, hb.run T σ H1 _ p1.1 fun vs H2 k2 E2 p2 => ?_⟩
  obtain ⟨vi, rfl, ri⟩ := p2.one_inv
  have ev := rpInts_inv qv0
  subst ev e0
  refine ⟨l0, ns.map V.int, .int k, j, .int k, rfl, by rw [ri.int_inv], sqL_same (cut_all _ _) (sqL_same (k2.up hb.ow) s0), rfl, flat_ints ns, by rw [List.getElem?_map, hj]; rfl, ?_, fun m z' hm hz => ?_, ?_⟩
  · show (k == k) = true
    simp
  · rw [List.getElem?_map] at hz
    obtain ⟨i, h1, rfl⟩ := Option.map_eq_some_iff.mp hz
    show (i == k) = false
    simp only [beq_eq_false_iff_ne]
    intro e
    subst e
    exact hno m hm h1
  · have k2' : Kp H1 H2 (ownL fs) := by rw [ha.ow] at k2; exact k2
    exact q _ H2 (k1.trans k2') ⟨E2, .int _⟩
end
end A3
namespace A3
open PySem PySem.Spec PyProof.Rows L2
/-! ### (text, dict) == (text, dict); dict(d) -/
section
variable {X : Cx} {a b : Expr} {fs f1 f2 : Fm} {pos p : Pos} {r r1 r2 : Res} {t : Tb}
theorem dc_trees {P : Program} {w : World} {pins : List (Addr × Obj)} {σ : L2.St} {H : Hp} {s : Shared} (I : Inv X pins σ H s) {ls : List (Key × V)} {vb : List (Key × Value)} (rk : RK X.K H ls t) (rb : KV ls vb) (nd : (gKs t).Nodup) :
    ∀ {t' : Tb} {ks : List (Key × V)} {va : List (Key × Value)}, RK X.K H ks t' → KV ks va → (∀ p ∈ t', p ∈ t ∧ p.2.canLay0 = true ∧ p.2.depth ≤ 60) → ∀ q ∈ va, ∃ y, valueAt vb q.1 = some y ∧ PySem.W.EqTree P w s 60 q.2 y true := by
  intro t' ks va rk' ra
  unfold KV at ra
  induction ra generalizing t' with
  | nil => intro _ q hq; cases hq
  | @cons p q ps qs h tl ih =>
    intro hp q' hq'
    cases rk' with
    | @cons k v d kvs t2 rv rr =>
      rcases List.mem_cons.mp hq' with rfl | hq'
      · obtain ⟨h1, h2⟩ := h
        obtain ⟨hm, hc, hd⟩ := hp (k, d) List.mem_cons_self
        have hg : gV t k = some d := by
          clear ih hp rk rb
          induction t with
          | nil => cases hm
          | cons x r ih2 =>
            have nd2 := List.nodup_cons.mp nd
            rcases List.mem_cons.mp hm with e | e
            · subst e; simp [gV]
            · have hne : ¬ x.1 = k := fun z => nd2.1 (by show x.1 ∈ _; rw [z]; exact List.mem_map.mpr ⟨(k, d), e, rfl⟩)
              rw [gV, if_neg hne]
              exact ih2 nd2.2 e
        obtain ⟨u, hu1, hu2⟩ := rk.some hg
        have rr2 : RelO (some u) (valueAt vb k) := by rw [← hu1]; exact rb.val k
        obtain ⟨y, hy, ry⟩ := rr2.some_of
        obtain ⟨key, v'⟩ := q'
        have h1' : k = key := h1
        subst h1'
        obtain ⟨as, e1⟩ := Dp.reads I d v v' (Rp.dp _ _ rv hc) h2
        obtain ⟨bs, e2⟩ := Dp.reads I d u y (Rp.dp _ _ hu2 hc) ry
        refine ⟨y, hy, .leaf fun A hu => ?_⟩
        have eq := SeqAt.eqAt_reads d d A s v' y as bs e1 e2 hc hc (by rw [Nat.min_self]; have h60 : d.depth ≤ 60 := hd; omega)
        rw [SeqAt.eqv_refl d hc] at eq
        exact eq
      · exact ih rr (fun p' hm' => hp p' (List.mem_cons_of_mem _ hm')) q' hq'
def rEqPD (K : PySem.W.Frag) : R2 := fun x y H Q => ∃ (l : List Nat) (t : Tb), Rp K H x (.tuple [sD l, dD t]) ∧ Rp K H y (.tuple [sD l, dD t]) ∧ (∀ c ∈ l, c < 1000) ∧ DcOk t ∧ Q (.bl true) H
theorem op_eqPD (hu : X.A.units + 64 < cLine) : OpR X (compareOp .Eq) (rEqPD X.K) := by
  intro pins s σ H x y v u Q I rx ry h
  obtain ⟨l, t, hx, hy, sm, ok, q⟩ := h
  obtain ⟨p1, vs1, rfl, s1, q1⟩ := hx.tup_inv
  obtain ⟨p2, vs2, rfl, s2, q2⟩ := hy.tup_inv
  obtain ⟨a1, b1, rfl, ra1, rb1⟩ := q1.two_inv
  obtain ⟨a2, b2, rfl, ra2, rb2⟩ := q2.two_inv
  obtain rfl : v = Value.ref p1 := rx
  obtain rfl : u = Value.ref p2 := ry
  obtain ⟨i1, rv1, t1, _⟩ := I.tuple s1
  obtain ⟨i2, rv2, t2, _⟩ := I.tuple s2
  have Lx := ra1.str_inv
  have Ly := ra2.str_inv
  subst Lx Ly
  obtain ⟨g1, ks, rfl, d1, k1⟩ := rb1.dct_inv
  obtain ⟨g2, ls, rfl, d2, k2⟩ := rb2.dct_inv
  obtain ⟨w1, w2, rfl, e11, e12⟩ := L2.vals2 rv1
  obtain ⟨z1, z2, rfl, e21, e22⟩ := L2.vals2 rv2
  obtain rfl : w2 = Value.ref g1 := e12
  obtain rfl : z2 = Value.ref g2 := e22
  have hfl : Flat 0 (sD l) := Flat.str sm
  refine PySem.W.eq_tuplesT (n := 61) (e := fun _ => true) t1 t2 (fun j h1 h2 => ?_) (by omega) (fin_bl I q (by simp))
  have hj : j = 0 ∨ j = 1 := by
    have : j < 2 := h1
    omega
  rcases hj with rfl | rfl
  · obtain ⟨as, r1⟩ := Dp.reads I (sD l) _ w1 (Rp.dp _ _ ra1 hfl.1) e11
    obtain ⟨bs, r2⟩ := Dp.reads I (sD l) _ z1 (Rp.dp _ _ ra2 hfl.1) e21
    refine .leaf fun A hu => ?_
    have eq := SeqAt.eqAt_reads (sD l) (sD l) A s w1 z1 as bs r1 r2 hfl.1 hfl.1 (by rw [Nat.min_self]; have := hfl.2; omega)
    rw [SeqAt.eqv_refl (sD l) hfl.1] at eq
    exact eq
  · show PySem.W.EqTree X.prog X.w s 61 (.ref g1) (.ref g2) true
    by_cases hne : g1 = g2
    · subst hne; exact .same
    · obtain ⟨_, ya, va, ra, da⟩ := dk_rd I.hok d1
      obtain ⟨_, yb, vb, rb, db⟩ := dk_rd I.hok d2
      have hl : va.length = vb.length := by rw [← ra.length, ← rb.length, k1.len, k2.len]
      have tr := dc_trees (P := X.prog) (w := X.w) I k2 rb ok.nd k1 ra fun p m => ⟨m, ok.sh p m⟩
      have e : (va.length == vb.length && va.all fun p => (valueAt vb p.1).isSome && (fun _ : Key => true) p.1) = true := by
        rw [hl]
        simp only [beq_self_eq_true, Bool.and_true, Bool.true_and, List.all_eq_true]
        intro p hp
        obtain ⟨y, hy, _⟩ := tr p hp
        rw [hy]; rfl
      have T := PySem.W.EqTree.dicts (prog := X.prog) (w := X.w) (s := s) (knd := mixKind X.prog X.w) (n := 60) (e := fun _ => true) hne ya yb da db fun k v y hm hv => by
        obtain ⟨y', hy, t'⟩ := tr (k, v) hm
        rw [show valueAt vb k = some y' from hy] at hv
        cases hv
        exact t'
      rw [e] at T
      exact T
theorem c_eqPD {l : List Nat} (hu : X.A.units + 64 < cLine) (sm : ∀ c ∈ l, c < 1000) (ok : DcOk t) (e : r2.d = .tuple [sD l, dD t] := by rfl) : CmpA X .Eq b f2 (.tuple [sD l, dD t]) r2 true :=
  ⟨_, op_eqPD hu, nomark _, fun T σ H1 H2 x y Q rx p q => ⟨l, t, rx.mono (cut_all _ _), e ▸ p.rp, sm, ok, q⟩⟩
theorem ae_dictD (ha : AE X a fs f1 r) (e : r.d = dD t) (hg : Gl X "dict") (hm : X.mg "dict" = none)
    (na : starEach [a] X.env = (false, eval a X.env) :: starEach [] X.env := by rfl) : AE X (.Call (.Name "dict" p) [a] [] pos) fs f1 (.new (dD t)) := by
  refine ⟨ha.ow, fun T σ H Q E q => bE_of (pe_callTy call_dictD hg hm (by decide +kernel) (pa_cons best pa_nil na) (he := na)) (ha.run T σ H _ E fun x H1 k1 p1 => ?_)⟩
  obtain ⟨g, kvs, rfl, s, rk⟩ := p1.dct p1.er (Kp.refl _ _) e
  exact ⟨g, kvs, rfl, s, fun p n => q _ _ (k1.trans (Kp.of (same_upd n))) (po_dct p1.er k1 ha.ow n rk)⟩
end
end A3
namespace A3
open PySem PySem.Spec PyProof.Rows L2
/-! ### for k in x[1], x a told pair whose second part is an owned dict -/
section
variable {X : Cx} {a b c e o ie tg : Expr} {es : List Expr} {rest body : List Stmt} {cf : Cf} {D : D3} {fs F f1 f2 f3 : Fm} {d d1 d2 dm : PyData} {ds : List PyData} {r r1 r2 : Res} {pos pos' apos p px : Pos} {T : Addr → Bool} {σ : L2.St} {H H1 : Hp} {l g : Addr} {t t2 : Tb} {k : Key} {x : Str} {v v1 : V}
theorem forDw_run {Jt : Addr → Obj → List (Key × V) → It} {Fk : Key → PyData → PyData} {it : Expr} {wi : TI} {PB : Fm → Prop} {Dr : Fm → Res → Prop} {DE : Ends} (W : DWalk X.K Jt Fk) (hp : PassesOwn (model X.prog X.w) X.A X.env X.xe) (P : Nat → Fm → Prop) (hpi : PI X tg it wi)
    (S : S3 X.K cf σ H fs) (hnil : ownL fs = []) {g : Addr} {kvs : List (Key × V)} (rd : Rd (cut H (tt cf.T (ownL fs))) g (.dK kvs)) (rk : RK X.K (cut H (tt cf.T (ownL fs))) kvs t)
    (hwi : ∀ (Hl : Hp) (R : It → Hp → Prop) (od : Obj), (∀ b o, b ≠ g → H b = some o → Hl b = some o) → Hl g = some (.frz od (.dK kvs)) → R (Jt g od kvs) Hl → wi σ Hl R)
    (h0 : P 0 fs) (hs : ∀ (H0 G : Hp) (k : Nat) (d : PyData) (f : Fm), (walkD Fk t)[k]? = some d → P k f → ∃ g, AG X tg d f g ∧ AS X body { cf with H0 := H0, G := G } g { nx := P (k + 1), ct := P (k + 1), bk := PB, rt := Dr })
    (hd : ∀ σ' H' f, S3 X.K cf σ' H' f → Same H H' → (P t.length f ∨ PB f) → bSs X rest DE σ' H') (hr : ∀ v H' σ' f r Hm, R3 X.K cf σ' Hm H' f v r → Dr f r → DE.rt v H') (hc : X.calm = true)
    (hf : ∀ x, foldedSetIterable it X.env x = pure x) : bSs X (.For tg it body [] pos :: rest) DE σ H := by
  have ng : g ∉ ownL fs := by rw [hnil]; simp
  have lw : (walkD Fk t).length = t.length := List.length_map _
  have lk := rk.len
  have main : ∀ (c' : Cf) (od : Obj) (Hl : Hp) (NX : L2.St → Hp → Prop) (RT : V → Hp → Prop), (∃ H0 G, c' = { cf with H0 := H0, G := G }) → c'.G = (cut Hl fun b => decide (b ∈ ownL fs)) → S3 X.K c' σ Hl fs → Hl g = some (.frz od (.dK kvs)) → (∀ b o, b ≠ g → H b = some o → Hl b = some o) → RK X.K (cut Hl (tt cf.T (ownL fs))) kvs t →
      (∀ σ H f, S3 X.K c' σ H f → (P t.length f ∨ PB f) → NX σ H) → (∀ v H σ f r Hm, R3 X.K c' σ Hm H f v r → Dr f r → RT v H) →
      tFor wi (bG X tg) (bSs X body) ⟨NX, RT, NX, NX⟩ σ Hl := by
    rintro c' od Hl NX RT ⟨H0, G0, rfl⟩ hG S1 hl hup rk1 hd1 hr1
    have gG : ∀ b o, b ∉ ownL fs → Hl b = some o → G0 b = some o := fun b o nb h => by
      have e : G0 = cut Hl fun b => decide (b ∈ ownL fs) := hG
      rw [e]; exact cut_of (T := fun b => decide (b ∈ ownL fs)) (decide_eq_false nb) h
    refine hwi Hl _ od hup hl ?_
    refine for_coreX (cf := { cf with H0 := H0, G := G0 }) (ds := walkD Fk t) (PB := PB) (Dr := Dr) S1 h0 (fun G sg k lt => W.go (sg g _ (gG g _ ng hl)) (by omega)) (fun G sg => ?_) (fun G sg k v G' lt y => ?_) (fun k d f h1 h2 => hs H0 G0 k d f h1 h2) (fun σ H f S2 z => hd1 σ H f S2 (by rw [lw] at z; exact z)) hr1
    · have := W.stop (sg g _ (gG g _ ng hl))
      rw [lw, ← lk]; exact this
    · obtain ⟨sm, key, w, hk, q⟩ := W.yld y
      obtain ⟨d, hd', rw'⟩ := rk1.get hk
      refine ⟨sm, Fk key d, by unfold walkD; rw [List.getElem?_map, hd']; rfl, fun σ2 f E dis => q (fun b o nb h => cut_of (E.free nb) h) (rw'.mono fun b o h => ?_)⟩
      obtain ⟨e1, e2⟩ := cut_some h
      obtain ⟨e3, e4⟩ := tt_false.mp e1
      have gb := gG b o e4 e2
      refine cut_of (tt_false.mpr ⟨e3, fun z => ?_⟩) (sm b o (sg b o gb))
      have := dis b z
      rw [show ({ cf with H0 := H0, G := G0 } : Cf).G b = G0 b from rfl, gb] at this; cases this
  have at0 : Rd H g (.dK kvs) := rd_same (cut_all _ _) rd
  rcases at0 with h | ⟨od, h⟩
  · refine bSs_of (pss_cons (ps_lock (ps_for hp hc hpi bestG bestSs hf)) bestSs) ⟨g, .dK kvs, h, trivial, fun od => ?_⟩
    refine main (lockC cf H fs g (.frz od (.dK kvs))) od _ _ _ ⟨_, _, rfl⟩ rfl (S.lock h ng od) upd_same (fun b o nb hb => by rw [upd_ne nb]; exact hb) (rk.lk (lk_lock h _)) (fun σ' H' f S' z => ⟨S'.lock_at ng, hd _ _ f (S.unlock h ng S') (fun b o hb => ?_) z⟩) (fun v H' σ' f r Hm R z => ?_)
    · by_cases e : b = g
      · rw [e] at hb ⊢; rw [h] at hb; cases hb; exact upd_same
      · rw [upd_ne e]
        exact S'.gs b o (lockG (by rw [hnil]; simp) (by rw [upd_ne e]; exact hb))
    · obtain ⟨h1, Hm', R'⟩ := R.unlock S h ng
      exact ⟨h1, hr _ _ _ _ _ _ R' z⟩
  · refine bSs_of (pss_cons (ps_for hp hc hpi bestG bestSs hf) bestSs) ?_
    obtain ⟨S0, g0⟩ := S.walk
    refine main { cf with G := cut H fun b => decide (b ∈ ownL fs) } od H _ _ ⟨cf.H0, _, rfl⟩ rfl S0 h (fun b o _ hb => hb) rk (fun σ' H' f S' z => hd _ _ f (S'.base g0) (fun b o hb => ?_) z) (fun v H' σ' f r Hm R z => hr _ _ _ _ _ _ (R.base g0) z)
    exact S'.gs b o (cut_of (T := fun b => decide (b ∈ ownL fs)) (decide_eq_false (by rw [hnil]; simp)) hb)
theorem er_setIsv0 {K : PySem.W.Frag} {i : Nat} (E : ER K T σ H fs) (hσ : i < σ.length → σ[i]? = some (some v)) (r : Rp K (cut H (tt T (ownL fs))) v d) : ER K T σ H (fs.set i (.isv v d)) := by
  have es : σ.set i (some v) = σ := by
    by_cases h : i < σ.length
    · have := hσ h
      apply List.ext_getElem?
      intro m
      by_cases e : i = m
      · subst e; rw [List.getElem?_set_self h, this]
      · rw [List.getElem?_set_ne e]
    · exact List.set_eq_of_length_le (by omega)
  have := E.setIsv (i := i) r
  rw [es] at this; exact this
def lendI (F : Fm) (n j m : Nat) (l g : Addr) (v v1 : V) (d1 d2 dm : PyData) : Fm := (((frzF F).set n (.isv (.ref l) (.tuple [d1, d2]))).set j (.isv (.ref g) d2)).set m (.isv v dm)
theorem lendI_own (F : Fm) (n j m : Nat) (l g : Addr) (v v1 : V) (d1 d2 dm : PyData) : ownL (lendI F n j m l g v v1 d1 d2 dm) = [] := by
  have s1 : ∀ {fs : Fm} {i : Nat} {w : V} {d : PyData}, ownL fs = [] → ownL (fs.set i (.isv w d)) = [] := fun {fs i w d} h => by
    have := ownL_set_sub (fs := fs) (i := i) (s := .isv w d) rfl
    rw [h] at this
    exact List.sublist_nil.mp this
  exact s1 (s1 (s1 (frz_own F)))
theorem er_lendI {K : PySem.W.Frag} {n i j m : Nat} (E : ER K T σ H F) (hn : F[n]? = some (.raw l (.tup [v1, .ref g]))) (hi : F[i]? = some (.isv v1 d1)) (hj : F[j]? = some (.own g d2)) (hm : F[m]? = some (.dat dm)) (hv : m < σ.length → σ[m]? = some (some v)) (rv : Rp K (cut H (tt T (ownL F))) v dm) : ER K T σ H (lendI F n j m l g v v1 d1 d2 dm) := by
  have E1 := er_frzAll E
  obtain ⟨r1, r2⟩ := E.raw hn
  obtain ⟨_, ri⟩ := E.isv hi
  obtain ⟨g1, w⟩ := E.own hj
  obtain ⟨o, ho⟩ := w.there
  have s1 : ∀ {fs : Fm} {i : Nat} {w : V} {d : PyData}, ownL fs = [] → ownL (fs.set i (.isv w d)) = [] := fun {fs i w d} h => by
    have := ownL_set_sub (fs := fs) (i := i) (s := .isv w d) rfl
    rw [h] at this
    exact List.sublist_nil.mp this
  have up : ∀ {fs : Fm}, ownL fs = [] → Same (cut H (tt T (ownL F))) (cut H (tt T (ownL fs))) := fun {fs} h => cut_same fun b o e z => ⟨tt_false.mpr ⟨(tt_false.mp e).1, by rw [h]; simp⟩, z⟩
  have fl : ∀ {fs : Fm}, ownL fs = [] → tt T (ownL fs) l = false := fun {fs} h => tt_false.mpr ⟨E.out l (mem_raw hn), by rw [h]; simp⟩
  have fg : ∀ {fs : Fm}, ownL fs = [] → tt T (ownL fs) g = false := fun {fs} h => tt_false.mpr ⟨E.out g (mem_own hj), by rw [h]; simp⟩
  have rg : ∀ {fs : Fm}, ownL fs = [] → Rp K (cut H (tt T (ownL fs))) (.ref g) d2 := fun {fs} h => Ow.rp (S := cut H (tt T (ownL F))) (up h) (w.mono (fun _ _ z => z) (by rw [ho]; exact cut_of (fg h) ho))
  have z0 := frz_own F
  have E2 := er_setIsv0 (i := n) (v := .ref l) (d := .tuple [d1, d2]) E1 r1 (.tup (xs := [v1, .ref g]) (.inl (.inl (cut_of (fl z0) r2))) (.cons (ri.mono (up z0)) (.cons (rg z0) .nil)))
  have E3 := er_setIsv0 (i := j) (v := .ref g) (d := d2) E2 g1 (rg (s1 z0))
  exact er_setIsv0 (i := m) E3 hv (rv.mono (up (s1 (s1 z0))))
def keepI (F : Fm) (n i j m : Nat) : Fm := (List.range F.length).map fun k => if k = n ∨ k = i ∨ k = j ∨ k = m then F.getD k .no else .no
theorem keepI_at {n i j m k : Nat} {s : Slot} (h : (keepI F n i j m)[k]? = some s) : s = .no ∨ (F[k]? = some s ∧ (k = n ∨ k = i ∨ k = j ∨ k = m)) := by
  unfold keepI at h
  rw [List.getElem?_map] at h
  obtain ⟨q, h1, h2⟩ := Option.map_eq_some_iff.mp h
  have hk : k < F.length := by have := (List.getElem?_eq_some_iff.mp h1).1; rw [List.length_range] at this; exact this
  rw [List.getElem?_range hk] at h1
  cases h1
  split at h2
  · rename_i c
    refine .inr ⟨?_, c⟩
    rw [List.getD_eq_getElem?_getD, List.getElem?_eq_getElem hk] at h2
    rw [List.getElem?_eq_getElem hk, ← h2]; rfl
  · exact .inl h2.symm
theorem keepI_mem {n i j m : Nat} {a : Addr} (h : a ∈ ownL (keepI F n i j m)) : a ∈ ownL F := by
  obtain ⟨k, s, h1, h2⟩ := mem_ownL.mp h
  rcases keepI_at h1 with rfl | ⟨h3, _⟩
  · cases h2
  · exact mem_ownL.mpr ⟨k, s, h3, h2⟩
theorem keepI_nd {n i j m : Nat} (nd : (ownL F).Nodup) : (ownL (keepI F n i j m)).Nodup := by
  have key : ∀ q, q ≤ F.length → (ownL ((List.range q).map fun k => if k = n ∨ k = i ∨ k = j ∨ k = m then F.getD k .no else .no)).Sublist (ownL (F.take q)) := fun q => by
    induction q with
    | zero => exact fun _ => List.Sublist.slnil
    | succ q ih =>
      intro hq
      have hx : F[q]? = some F[q] := List.getElem?_eq_getElem (by omega)
      rw [List.range_succ, List.map_append, ownL_app, List.take_succ, hx, ownL_app]
      refine List.Sublist.append (ih (by omega)) ?_
      show (ownL [if q = n ∨ q = i ∨ q = j ∨ q = m then F.getD q .no else .no]).Sublist (ownL [F[q]])
      split
      · rw [List.getD_eq_getElem?_getD, hx]; exact List.Sublist.refl _
      · exact List.nil_sublist _
  have := key F.length (Nat.le_refl _)
  rw [List.take_length] at this
  exact this.nodup nd
theorem as_forKP {kk} {p1 p2 : Pos} (n i j m : Nat) (hp : PassesOwn (model X.prog X.w) X.A X.env X.xe) (P : V → Nat → Fm → Prop)
    (h0 : ∀ v, P v 0 (lendI F n j m l g v v1 d1 (dD t) dm))
    (hs : ∀ (v : V) (H0 G : Hp) (k : Nat) (d : PyData) (f : Fm), (walkD (fun k _ => kD k) t)[k]? = some d → P v k f → ∃ g, AG X tg d f g ∧ AS X body { cf with H0 := H0, G := G } g { nx := P v (k + 1), ct := P v (k + 1), bk := fun _ => False, rt := fun _ _ => False })
    (hk : AS X rest cf (keepI F n i j m) D)
    (hg : ∀ v k f, P v k f → f[n]? = some (.isv (.ref l) (.tuple [d1, dD t])) ∧ f[j]? = some (.isv (.ref g) (dD t)) ∧ f[m]? = some (.isv v dm) ∧ f[i]? = some (.isv v1 d1) ∧ f.length = F.length)
    (hn : F[n]? = some (.raw l (.tup [v1, .ref g])) := by rfl) (hi : F[i]? = some (.isv v1 d1) := by rfl) (hj : F[j]? = some (.own g (dD t)) := by rfl) (hm : F[m]? = some (.dat dm) := by rfl)
    (hc : X.calm = true := by rfl) (hN : X.N[n]? = some x := by rfl) (hv : Vis X.env.scope x := by first | exact Or.inl rfl | exact Or.inr (Or.inl rfl) | exact Or.inr (Or.inr rfl))
    (hdb : (x == ("__debug__" : Str)) = false := by decide) (hcd : (x == ("__classdict__" : Str)) = false := by decide) (hsx : PlainIx (.Constant (.int 1) kk p1) := by intro _ _; rfl) (hf : ∀ y, foldedSetIterable (.Subscript (.Name x p) (.Constant (.int 1) kk p1) p2) X.env y = pure y := by intro _; rfl) :
    AS X (.For tg (.Subscript (.Name x p) (.Constant (.int 1) kk p1) p2) body [] pos :: rest) cf F D := by
  refine fun σ H S => bSs_inv fun L => ?_
  obtain ⟨v, hvv, rv⟩ := S.er.dat hm
  have E1 := er_lendI (v := v) S.er hn hi hj hm hvv rv
  have nil := lendI_own F n j m l g v v1 d1 (dD t) dm
  have S1 : S3 X.K cf σ H (lendI F n j m l g v v1 d1 (dD t) dm) := S.less E1 fun a h => by rw [nil] at h; cases h
  obtain ⟨r1, r2⟩ := S.er.raw hn
  obtain ⟨q1, q2, q3, q4, q5⟩ := hg v 0 _ (h0 v)
  obtain ⟨_, rg⟩ := E1.isv q2
  obtain ⟨g', kvs, e, rd, rk⟩ := rg.dct_inv
  cases e
  refine forDw_run (t := t) (PB := fun _ => False) (Dr := fun _ _ => False) dw_keys hp (P v) (pi_keys (pe_ix ix_tup (pe_var hN hv hdb hcd) pe_int hsx)) S1 nil rd rk (fun Hl R od hup hl z => ?_) (h0 v) (hs v) (fun σ' H' f S' sm z => ?_) (fun _ _ _ _ _ _ _ z => z.elim) hc hf
  · have ne : l ≠ g := fun e => by
      subst e
      rcases rd with r | ⟨o, r⟩ <;> (have := (cut_some r).2; rw [r2] at this; cases this)
    exact ⟨_, r1 (by rw [L]; exact (List.getElem?_eq_some_iff.mp hN).1), l, [v1, .ref g], 1, .ref g, rfl, rfl, .inl (.inl (hup _ _ ne r2)), rfl, g, od, rfl, .inl ⟨kvs, hl, z⟩⟩
  · rcases z with z | z
    rotate_left
    · exact z.elim
    obtain ⟨f1, f2, f3, f4, f5⟩ := hg v _ f z
    have E' := S'.er
    have up : Same (cut H (tt cf.T (ownL F))) (cut H' (tt cf.T (ownL (keepI F n i j m)))) := cut_same fun b o e z => ⟨tt_false.mpr ⟨(tt_false.mp e).1, fun z => (tt_false.mp e).2 (keepI_mem z)⟩, sm b o z⟩
    have klen : (keepI F n i j m).length = F.length := by unfold keepI; rw [List.length_map, List.length_range]
    refine hk _ _ ⟨⟨by rw [klen, ← f5]; exact E'.len, fun q s hq => ?_, keepI_nd S.er.nd, fun a h => S.er.out a (keepI_mem h), E'.dom⟩, S'.kp, S'.dm, fun a h => S.ow a (keepI_mem h), S.wd, S'.gs, fun a h => S.gd a (keepI_mem h)⟩
    rcases keepI_at hq with rfl | ⟨hF, rfl | rfl | rfl | rfl⟩
    · cases hqv : σ'[q]? with
      | none => exact ⟨none, fun h => by rw [List.getElem?_eq_none_iff] at hqv; omega, trivial⟩
      | some w => exact ⟨w, fun _ => rfl, trivial⟩
    · rw [hn] at hF; cases hF
      exact ⟨some (.ref l), (E'.isv f1).1, rfl, sm _ _ r2⟩
    · rw [hi] at hF; cases hF
      exact ⟨some v1, (E'.isv f4).1, rfl, (S.er.isv hi).2.mono up⟩
    · rw [hj] at hF; cases hF
      obtain ⟨_, w⟩ := S.er.own hj
      obtain ⟨o, ho⟩ := w.there
      exact ⟨some (.ref g), (E'.isv f2).1, rfl, w.mono up (by rw [ho]; exact sm _ _ ho)⟩
    · rw [hm] at hF; cases hF
      exact ⟨some v, (E'.isv f3).1, rv.mono up⟩
end
end A3
namespace A3
open PySem PySem.Spec PyProof.Rows L2
/-! ### a dict of which some values are lists that are written: the dict raw, its values ghosts -/
/-- what a dict is told to hold: data, or a new empty list -/
inductive Mk : List (Key × Option PyData) → List (Key × V) → Fm → Prop
  | nil : Mk [] [] []
  | dat {k : Key} {d : PyData} {v : V} {sp : List (Key × Option PyData)} {kvs : List (Key × V)} {gs : Fm} : Mk sp kvs gs → Mk ((k, some d) :: sp) ((k, v) :: kvs) (.isv v d :: gs)
  | new {k : Key} {g : Addr} {sp : List (Key × Option PyData)} {kvs : List (Key × V)} {gs : Fm} : Mk sp kvs gs → Mk ((k, none) :: sp) ((k, .ref g) :: kvs) (.own g (.list []) :: gs)
theorem Mk.len {sp : List (Key × Option PyData)} {kvs : List (Key × V)} {gs : Fm} (h : Mk sp kvs gs) : kvs.length = sp.length := by
  induction h with
  | nil => rfl
  | dat _ ih => rw [List.length_cons, List.length_cons, ih]
  | new _ ih => rw [List.length_cons, List.length_cons, ih]
theorem Mk.keys {sp : List (Key × Option PyData)} {kvs : List (Key × V)} {gs : Fm} (h : Mk sp kvs gs) : kvs.map (·.1) = sp.map (·.1) := by
  induction h with
  | nil => rfl
  | dat _ ih => rw [List.map_cons, List.map_cons, ih]
  | new _ ih => rw [List.map_cons, List.map_cons, ih]
theorem valV_no {kvs : List (Key × V)} {k : Key} (h : k ∉ kvs.map (·.1)) : valV kvs k = none := by
  induction kvs with
  | nil => rfl
  | cons p r ih =>
    rw [List.map_cons, List.mem_cons, not_or] at h
    rw [valV_neg (p := p) (fun z => h.1 z.symm)]; exact ih h.2
theorem merge_nd : ∀ (more acc : List (Key × V)), ((acc ++ more).map (·.1)).Nodup → mergeK acc more = acc ++ more
  | [], acc, _ => by rw [List.append_nil]; rfl
  | p :: r, acc, h => by
    have hn : p.1 ∉ acc.map (·.1) := fun z => by
      rw [List.map_append, List.nodup_append] at h
      exact h.2.2 _ z p.1 (by rw [List.map_cons]; exact List.mem_cons_self) rfl
    show mergeK (putK acc p.1 p.2) r = _
    rw [putK_new _ (valV_no hn), merge_nd r _ (by rw [List.append_assoc]; exact h), List.append_assoc]; rfl
section
variable {X : Cx} {a b c e o ie tg : Expr} {es : List Expr} {rest body sts : List Stmt} {cf : Cf} {D : D3} {fs F f1 f2 f3 nm : Fm} {d d1 d2 : PyData} {ds : List PyData} {r r1 r2 : Res} {pos pos' apos p px py cpos : Pos} {T : Addr → Bool} {σ σ' : L2.St} {H H1 H' : Hp} {l g : Addr} {t t2 : Tb} {k : Key} {x y : Str}
theorem S3.many {K : PySem.W.Frag} (S : S3 K cf σ H fs) (k : Kp H H' (ownL fs)) (ow : ownL f1 = ownL fs) (E1 : ER K cf.T σ H' f1) (E : ER K cf.T σ' H' F) (sub : ∀ z ∈ ownL F, z ∈ ownL f1 ∨ H z = none) : S3 K cf σ' H' F where
  er := E
  kp := S.keeps k
  dm := (S.step k E1 ow).dm
  ow := fun z h => by
    rcases sub z h with q | q
    · exact S.ow z (by rw [← ow]; exact q)
    · refine .inr ?_
      cases hh : cf.H0 z with
      | none => rfl
      | some u => exact absurd q (S.dm z (by rw [hh]; exact fun z => by cases z))
  wd := S.wd
  gs := (S.step k E1 ow).gs
  gd := fun z h => by
    rcases sub z h with q | q
    · exact S.gd z (by rw [← ow]; exact q)
    · cases hh : cf.G z with
      | none => rfl
      | some u => rw [S.gs z u hh] at q; cases q
structure APm (X : Cx) (pos : Pos) (keys : List (Option Expr)) (vals : List Expr) (sp : List (Key × Option PyData)) (fs : Fm) : Prop where
  run : ∃ trs, PPs X pos keys vals trs ∧ ∀ (T : Addr → Bool) (σ : L2.St) (H : Hp) (g0 : Fm) (Q : List (V × V) → Hp → Prop), ER X.K T σ H (fs ++ g0) → σ.length ≤ fs.length →
    (∀ kvs gs H', Kp H H' (ownL (fs ++ g0)) → ER X.K T σ H' (fs ++ g0 ++ gs) → Mk sp kvs gs → (∀ a ∈ ownL gs, H a = none) → Q (kvs.map fun kv => (kV kv.1, kv.2)) H') → tPairs trs σ H Q
theorem apm_nil : APm X pos [] [] [] fs := ⟨[], pps_nil, fun T σ H g0 Q E hl q => q [] [] H (Kp.refl _ _) (by rw [List.append_nil]; exact E) .nil (fun a h => by cases h)⟩
theorem kp_none {K : PySem.W.Frag} {z : Addr} (E : ER K T σ H1 f1) (k : Kp H H1 (ownL f1)) (n : H1 z = none) : H z = none := by
  cases hh : H z with
  | none => rfl
  | some u =>
    by_cases hz : z ∈ ownL f1
    · obtain ⟨o, ho⟩ := E.thereL hz
      rw [n] at ho; cases ho
    · rw [k z u hz hh] at n; cases n
theorem apm_dat {ks : List (Option Expr)} {vs : List Expr} {sp : List (Key × Option PyData)} (hk : ∀ g0, AE X a (fs ++ g0) (fs ++ g0) (.val (kD k))) (hv : ∀ g0, AE X b (fs ++ g0) (fs ++ g0) (.val d)) (hr : APm X pos ks vs sp fs) : APm X pos (some a :: ks) (b :: vs) ((k, some d) :: sp) fs := by
  obtain ⟨trs, pp, h⟩ := hr.run
  refine ⟨_, pps_cons best best pp, fun T σ H g0 Q E hl q => (hk g0).run T σ H _ E fun x H1 k1 p1 => (hv g0).run T σ H1 _ p1.1 fun y H2 k2 p2 => ?_⟩
  have E2 := er_pushIsv p2.1 p2.2 (by rw [List.length_append]; exact Nat.le_trans hl (Nat.le_add_right _ _))
  rw [List.append_assoc] at E2
  have eo : ownL (fs ++ (g0 ++ [Slot.isv y d])) = ownL (fs ++ g0) := by rw [← List.append_assoc, ownL_push]; simp [adr]
  refine h T σ H2 (g0 ++ [.isv y d]) _ E2 hl fun kvs gs H3 k3 E3 m fr => ?_
  rw [rp_key p1.2]
  rw [eo] at k3
  have k12 : Kp H H2 (ownL (fs ++ g0)) := k1.trans k2
  refine q ((k, y) :: kvs) (.isv y d :: gs) H3 (k12.trans k3) (by simpa [List.append_assoc] using E3) (.dat m) (fun z hz => kp_none p2.1 k12 (fr z (by simpa [ownL] using hz)))
theorem apm_new {ks : List (Option Expr)} {vs : List Expr} {sp : List (Key × Option PyData)} (hk : ∀ g0, AE X a (fs ++ g0) (fs ++ g0) (.val (kD k))) (hr : APm X pos ks vs sp fs) : APm X pos (some a :: ks) (.List [] p :: vs) ((k, none) :: sp) fs := by
  obtain ⟨trs, pp, h⟩ := hr.run
  refine ⟨_, pps_cons best best pp, fun T σ H g0 Q E hl q => (hk g0).run T σ H _ E fun x H1 k1 p1 => (ae_lst (fs := fs ++ g0) (pos := p) ad_nil).run T σ H1 _ p1.1 fun y H2 k2 p2 => ?_⟩
  obtain ⟨g, rfl, na, E1, w⟩ := p2
  have E2 := er_push E1 w (by rw [List.length_append]; exact Nat.le_trans hl (Nat.le_add_right _ _))
  rw [List.append_assoc] at E2
  have eo : ownL (fs ++ (g0 ++ [Slot.own g (.list [])])) = ownL (fs ++ g0) ++ [g] := by rw [← List.append_assoc, ownL_push]; simp [adr]
  have k12 : Kp H H2 (ownL (fs ++ g0)) := k1.trans k2
  have ng : H g = none := kp_none p1.1 k1 na
  have nn : ∀ z, H2 z = none → H z = none := fun z n2 => kp_none p1.1 k1 (by
    cases hh : H1 z with
    | none => rfl
    | some u =>
      by_cases hz : z ∈ ownL (fs ++ g0)
      · obtain ⟨o, ho⟩ := E2.thereL (show z ∈ ownL (fs ++ (g0 ++ [Slot.own g (.list [])])) from by rw [eo]; exact List.mem_append_left _ hz)
        rw [n2] at ho; cases ho
      · rw [k2 z u hz hh] at n2; cases n2)
  refine h T σ H2 (g0 ++ [.own g (.list [])]) _ E2 hl fun kvs gs H3 k3 E3 m fr => ?_
  rw [rp_key p1.2]
  rw [eo] at k3
  have k3' : Kp H H3 (ownL (fs ++ g0)) := fun z u nz hz => k3 z u (fun hm => by
    rcases List.mem_append.mp hm with q | q
    · exact nz q
    · rw [List.mem_singleton.mp q, ng] at hz; cases hz) (k12 z u nz hz)
  refine q ((k, .ref g) :: kvs) (.own g (.list []) :: gs) H3 k3' (by simpa [List.append_assoc] using E3) (.new m) (fun z hz => ?_)
  have hz : z ∈ g :: ownL gs := hz
  rcases List.mem_cons.mp hz with rfl | hz
  · exact ng
  · exact nn z (fr z hz)
/-- x = {..}, of data and of new lists that will be written -/
theorem as_newM {keys : List (Option Expr)} {vals : List Expr} {sp : List (Key × Option PyData)} (n : Nat) (hm : APm X pos keys vals sp fs) (hnd : (sp.map (·.1)).Nodup) (hk : ∀ l kvs gs, l ∉ cf.ws → Mk sp kvs gs → AS X rest cf ((fs ++ gs).set n (.raw l (.dK kvs))) D) (hN : X.N.Nodup) (hlen : X.N.length ≤ fs.length := by exact Nat.le_of_ble_eq_true rfl) (hi : X.N[n]? = some x := by rfl) (hx : Loc X.env.scope x := by first | exact .inl rfl | exact .inr rfl)
    (hz : sp.length ≤ 15 := by exact Nat.le_of_ble_eq_true rfl) (hall : keys.all (·.isSome) = true := by rfl) (hl : keys.length = vals.length := by rfl) (h0 : keys ≠ [] := by exact fun z => by cases z) (hk15 : keys.length ≤ 15 := by exact Nat.le_of_ble_eq_true rfl)
    (hs : swapsWith (.Dict keys vals pos) (some (.Name x pos')) p.line X.env = pure false := by rfl) (hf : X.fn x = true ∨ X.env.scope.names.lookup x = some .local := by first | exact .inl rfl | exact .inr rfl) : AS X (.Assign [.Name x pos'] (.Dict keys vals pos) p :: rest) cf fs D := by
  obtain ⟨trs, pp, h⟩ := hm.run
  refine fun σ H S => bSs_inv fun L0 => bSs_of (pss_cons (ps_set hN hi hx (pe_disp pp hall hl h0 hk15) hs hf) bestSs) fun q nq => ?_
  have E := S.er
  have hσ : σ.length ≤ fs.length := by rw [L0]; exact hlen
  have Tq : tt cf.T (ownL fs) q = false := E.free nq
  have E1 : ER X.K (with1 cf.T q) σ (upd H q (.dK [])) (fs ++ []) := by rw [List.append_nil]; exact er_with (E.keep (same_hide (same_upd nq) nq)) (by rw [upd_same]; exact fun z => by cases z)
  refine h (with1 cf.T q) σ (upd H q (.dK [])) [] _ E1 hσ fun kvs gs H2 k2 E2 m fr => ?_
  rw [List.append_nil] at k2 E2
  have nd : (([] ++ kvs : List (Key × V)).map (·.1)).Nodup := by rw [List.nil_append, m.keys]; exact hnd
  have em : mergeK [] kvs = kvs := merge_nd kvs [] nd
  refine ⟨k2 q _ (tt_false.mp Tq).2 upd_same, kvs, rfl, by rw [m.len]; exact hz, ?_⟩
  rw [em]
  have E3 := er_unwith E2 (tt_false.mp Tq).1
  have kH : Kp H H2 (ownL fs) := fun b o nb hb => k2 b o nb (by rw [upd_ne (fun z => by rw [z, nq] at hb; cases hb)]; exact hb)
  have eh : hide (upd H2 q (.dK kvs)) q = hide H2 q := by
    funext b
    by_cases z : b = q
    · rw [z, hide_self, hide_self]
    · rw [hide_ne z, hide_ne z, upd_ne z]
  have kU : Kp H (upd H2 q (.dK kvs)) (ownL fs) := fun b o nb hb => by
    have ne : b ≠ q := fun z => by rw [z, nq] at hb; cases hb
    rw [upd_ne ne]; exact kH b o nb hb
  have nqg : q ∉ ownL gs := fun z => by
    have := fr q z
    rw [upd_same] at this; cases this
  have E4 : ER X.K cf.T (σ.set n (some (.ref q))) (upd H2 q (.dK kvs)) ((fs ++ gs).set n (.raw q (.dK kvs))) := ER.setAt (s := .raw q (.dK kvs)) (by rw [eh]; exact E3) rfl ⟨rfl, upd_same⟩
  have nH : ∀ z ∈ ownL gs, H z = none := fun z hz => by
    have := fr z hz
    rw [upd_ne (fun e => nqg (by rw [← e]; exact hz))] at this; exact this
  have E5 : ER X.K cf.T σ (upd H2 q (.dK kvs)) fs := by
    have E6 : ER X.K cf.T σ (upd H2 q (.dK kvs)) (fs ++ gs) := by
      refine E3.keep fun b o hb => ?_
      have ne : b ≠ q := fun z => by rw [z, hide_self] at hb; cases hb
      rw [hide_ne ne] at hb
      rw [upd_ne ne]; exact hb
    have pop : ∀ (k : Nat) (g2 : Fm), g2.length = k → ER X.K cf.T σ (upd H2 q (.dK kvs)) (fs ++ g2) → ER X.K cf.T σ (upd H2 q (.dK kvs)) fs := fun k => by
      induction k with
      | zero => intro g2 h; rw [List.length_eq_zero_iff.mp h, List.append_nil]; exact id
      | succ k ih =>
        intro g2 h
        rcases List.eq_nil_or_concat g2 with rfl | ⟨B, s, rfl⟩
        · cases h
        · intro E
          rw [List.concat_eq_append, ← List.append_assoc] at E
          exact ih B (by simpa using h) (er_pop E (by rw [List.length_append]; exact Nat.le_trans hσ (Nat.le_add_right _ _)))
    exact pop _ gs rfl E6
  refine hk q kvs gs (S.not_ws nq) m _ _ (S.many kU rfl E5 E4 fun z hz => ?_)
  rcases ownL_set hz with w | w
  · rw [ownL_app] at w
    rcases List.mem_append.mp w with w | w
    · exact .inl w
    · exact .inr (nH z w)
  · have : q = z := Option.some.inj w
    rw [← this]; exact .inr nq
/-- x[k], the list that is written -/
theorem ae_mget {kvs : List (Key × V)} (n m : Nat) (hu : X.A.units + 1 < cLine) (hi : AE X ie fs fs (.val (kD k))) (hg : valV kvs k = some (.ref g)) (hm : fs[m]? = some (.own g d) := by rfl) (hn : fs[n]? = some (.raw l (.dK kvs)) := by rfl) (hN : X.N[n]? = some x := by rfl) (hv : Vis X.env.scope x := by first | exact Or.inl rfl | exact Or.inr (Or.inl rfl) | exact Or.inr (Or.inr rfl))
    (hdb : (x == ("__debug__" : Str)) = false := by decide) (hcd : (x == ("__classdict__" : Str)) = false := by decide) (hs : NoSl ie := by intro _ _; rfl) : AE X (.Subscript (.Name x px) ie pos) fs fs (.at g d) := by
  refine ⟨rfl, fun T σ H Q E q => bE_inv fun L0 => bE_of (pe_dget hu (pe_var hN hv hdb hcd) best hs) ?_⟩
  obtain ⟨r1, _⟩ := E.raw hn
  refine ⟨_, r1 (by rw [L0]; exact (List.getElem?_eq_some_iff.mp hN).1), hi.run T σ H _ E fun u H2 k2 p2 => ?_⟩
  obtain ⟨_, r2⟩ := p2.1.raw hn
  exact ⟨l, _, rfl, .inl ⟨kvs, k, .inl r2, rp_key p2.2, hg.symm⟩, q _ H2 k2 ⟨p2.1, rfl, m, hm⟩⟩
/-- the ghosts as the dict's data -/
inductive Mg : Fm → Nat → List (Key × V) → Tb → Prop
  | nil {F : Fm} {i : Nat} : Mg F i [] []
  | dat {F : Fm} {i : Nat} {k : Key} {d : PyData} {v : V} {kvs : List (Key × V)} {t : Tb} : F[i]? = some (.isv v d) → Mg F (i + 1) kvs t → Mg F i ((k, v) :: kvs) ((k, d) :: t)
  | own {F : Fm} {i : Nat} {k : Key} {g : Addr} {ds : List PyData} {kvs : List (Key × V)} {t : Tb} : F[i]? = some (.own g (.list ds)) → Mg F (i + 1) kvs t → Mg F i ((k, .ref g) :: kvs) ((k, .list ds) :: t)
theorem mg_rk {K : PySem.W.Frag} {i : Nat} {kvs : List (Key × V)} (E : ER K T σ H F) (m : Mg F i kvs t) {S : Hp} (up : Same (cut H (tt T (ownL F))) S) (hg : ∀ a o, a ∈ ownL F → H a = some o → (∃ j s, F[j]? = some s ∧ adr s = some a ∧ i ≤ j) → S a = some o) : RK K S kvs t := by
  induction m with
  | nil => exact .nil
  | dat h _ ih => exact .cons ((E.isv h).2.mono up) (ih fun a o h1 h2 ⟨j, s, h3, h4, h5⟩ => hg a o h1 h2 ⟨j, s, h3, h4, by omega⟩)
  | own h _ ih =>
    obtain ⟨vs, h3, h4⟩ := (E.own h).2
    exact .cons (.lst (SqL.of (hg _ _ (mem_own h) h3 ⟨_, _, h, rfl, Nat.le_refl _⟩)) (h4.mono up)) (ih fun a o h1 h2 ⟨j, s, h3, h4, h5⟩ => hg a o h1 h2 ⟨j, s, h3, h4, by omega⟩)
/-- a test, an expression that asks the dict -/
theorem er_mixD {K : PySem.W.Frag} {n i : Nat} {kvs : List (Key × V)} (E : ER K T σ H F) (hn : F[n]? = some (.raw l (.dK kvs))) (m : Mg F i kvs t) : ER K T σ H ((frzF F).set n (.dat (dD t))) := by
  have E1 := er_frzAll E
  obtain ⟨r1, r2⟩ := E.raw hn
  have sn : ownL ((frzF F).set n (.dat (dD t))) = [] := by
    have h := ownL_set_sub (fs := frzF F) (i := n) (s := .dat (dD t)) rfl
    rw [frz_own] at h
    exact List.sublist_nil.mp h
  have es : σ.set n (some (.ref l)) = σ := by
    by_cases h : n < σ.length
    · have := r1 h
      apply List.ext_getElem?
      intro m
      by_cases e : n = m
      · subst e; rw [List.getElem?_set_self h, this]
      · rw [List.getElem?_set_ne e]
    · exact List.set_eq_of_length_le (by omega)
  have up : Same (cut H (tt T (ownL F))) (cut H (tt T (ownL ((frzF F).set n (.dat (dD t)))))) := cut_same fun b o e z => ⟨tt_false.mpr ⟨(tt_false.mp e).1, by rw [sn]; simp⟩, z⟩
  have rk := mg_rk E m up fun a o h1 h2 _ => cut_of (tt_false.mpr ⟨E.out a h1, by rw [sn]; simp⟩) h2
  have hl : cut H (tt T (ownL ((frzF F).set n (.dat (dD t))))) l = some (.dK kvs) := cut_of (tt_false.mpr ⟨E.out l (mem_raw hn), by rw [sn]; simp⟩) r2
  have := E1.setS (i := n) (s := .dat (dD t)) (ov := some (.ref l)) rfl (show Rp K _ (.ref l) (dD t) from .dct (.inl hl) rk.kv)
  rw [es] at this; exact this
theorem at_lendM {bb : Bool} {kvs : List (Key × V)} (n i : Nat) (h : AT X e ((frzF F).set n (.dat (dD t))) ((frzF F).set n (.dat (dD t))) bb) (m : Mg F i kvs t) (hn : F[n]? = some (.raw l (.dK kvs)) := by rfl) : AT X e F F bb :=
  ⟨rfl, fun T σ H Q E k => h.run T σ H Q (er_mixD E hn m) fun H1 k1 E1 => by
    have sn : ownL ((frzF F).set n (.dat (dD t))) = [] := by
      have h := ownL_set_sub (fs := frzF F) (i := n) (s := .dat (dD t)) rfl
      rw [frz_own] at h
      exact List.sublist_nil.mp h
    have sm : Same H H1 := fun b o z => k1 b o (by rw [sn]; simp) z
    exact k H1 (Kp.of sm) (E.keep sm)⟩
/-- a value that is asked of the dict -/
theorem ae_lendM {kvs : List (Key × V)} (n i : Nat) (h : AE X e ((frzF F).set n (.dat (dD t))) ((frzF F).set n (.dat (dD t))) (.val d)) (m : Mg F i kvs t) (hn : F[n]? = some (.raw l (.dK kvs)) := by rfl) (im : immut d = true := by rfl) (rm : F.all rawM = true := by rfl) : AE X e F F (.val d) := by
  refine ⟨rfl, fun T σ H Q E k => h.run T σ H Q (er_mixD E hn m) fun v H1 k1 p1 => ?_⟩
  have sn : ownL ((frzF F).set n (.dat (dD t))) = [] := by
    have h := ownL_set_sub (fs := frzF F) (i := n) (s := .dat (dD t)) rfl
    rw [frz_own] at h
    exact List.sublist_nil.mp h
  have sm : Same H H1 := fun b o z => k1 b o (by rw [sn]; simp) z
  have E1 := E.keep sm
  obtain ⟨ht, hf⟩ := tup_down E1 rm H1 (fun _ _ z => z)
  refine k v H1 (Kp.of sm) ⟨E1, rp_cutT (S := cut H1 (tt T (ownL (frzF F)))) ht hf ?_ im⟩
  have := p1.2
  rw [sn] at this
  rw [frz_own]; exact this
/-- the dict is whole: its lists are no longer written -/
theorem as_mclose {kvs : List (Key × V)} {gs : Fm} (n : Nat) (hk : AS X sts cf (nm.set n (.own l (dD t))) D) (m : Mg (nm ++ gs) nm.length kvs t) (hn : nm[n]? = some (.raw l (.dK kvs)) := by rfl) (hlen : X.N.length = nm.length := by rfl) : AS X sts cf (nm ++ gs) D := by
  refine fun σ H S => bSs_inv fun L0 => ?_
  have ln : n < nm.length := (List.getElem?_eq_some_iff.mp hn).1
  have hn' : (nm ++ gs)[n]? = some (.raw l (.dK kvs)) := by rw [List.getElem?_append_left ln]; exact hn
  have eo : ownL (nm.set n (.own l (dD t))) = ownL nm := ownL_putS hn rfl
  have ea : ownL (nm ++ gs) = ownL nm ++ ownL gs := ownL_app
  have sub : ∀ a ∈ ownL (nm.set n (.own l (dD t))), a ∈ ownL (nm ++ gs) := fun a h => by rw [ea]; rw [eo] at h; exact List.mem_append_left _ h
  refine hk σ H (S.less ?_ sub)
  have E := S.er
  have up : Same (cut H (tt cf.T (ownL (nm ++ gs)))) (cut H (tt cf.T (ownL (nm.set n (.own l (dD t)))))) := cut_same fun b o e q => by
    obtain ⟨e1, e2⟩ := tt_false.mp e
    exact ⟨tt_false.mpr ⟨e1, fun z => e2 (sub b z)⟩, q⟩
  obtain ⟨r1, hl⟩ := E.raw hn'
  have rk : RK X.K (cut H (tt cf.T (ownL (nm.set n (.own l (dD t)))))) kvs t := mg_rk E m up fun a o h1 h2 ⟨j, s, h3, h4, h5⟩ => by
    have hj : gs[j - nm.length]? = some s := by rw [List.getElem?_append_right h5] at h3; exact h3
    have m1 : a ∈ ownL gs := mem_ownL.mpr ⟨_, s, hj, h4⟩
    have nd := E.nd
    rw [ea] at nd
    have m2 : a ∉ ownL nm := fun z => (List.nodup_append.mp nd).2.2 _ z _ m1 rfl
    exact cut_of (tt_false.mpr ⟨E.out a h1, by rw [eo]; exact m2⟩) h2
  refine ⟨by rw [L0, hlen, List.length_set]; exact Nat.le_refl _, fun j s h => ?_, ?_, fun a h => E.out a (sub a h), E.dom⟩
  · by_cases e : n = j
    · subst e
      rw [List.getElem?_set_self ln] at h
      cases Option.some.inj h
      exact ⟨_, r1, rfl, ow_of hl rk⟩
    · rw [List.getElem?_set_ne e] at h
      have lj : j < nm.length := (List.getElem?_eq_some_iff.mp h).1
      obtain ⟨ov, h1, h2⟩ := E.sl j s (by rw [List.getElem?_append_left lj]; exact h)
      exact ⟨ov, h1, h2.mono up fun _ _ => rfl⟩
  · rw [eo]; have nd := E.nd; rw [ea] at nd; exact (List.nodup_append.mp nd).1
end
end A3
namespace A3
open PySem PySem.Spec PyProof.Rows L2
/-! ### a dict that holds a list which a name holds too; defs to which such a dict is lent -/
section
variable {X : Cx} {a b c e o ie tg : Expr} {es : List Expr} {rest body sts : List Stmt} {cf : Cf} {D : D3} {fs F f1 f2 f3 nm : Fm} {d d1 d2 : PyData} {ds : List PyData} {r r1 r2 : Res} {pos pos' apos p px py cpos : Pos} {T : Addr → Bool} {σ σ' : L2.St} {H H1 H' : Hp} {l g : Addr} {t t2 : Tb} {k : Key} {x y : Str}
/-- a name's own list, told aside; the name tells its place -/
theorem as_ghost {g : Addr} (n : Nat) (hk : AS X sts cf (fs.set n (.ref g) ++ [.own g d]) D) (hn : fs[n]? = some (.own g d) := by rfl) (hlen : X.N.length ≤ fs.length := by exact Nat.le_of_ble_eq_true rfl) : AS X sts cf fs D := by
  refine fun σ H S => bSs_inv fun L0 => hk σ H ?_
  have E := S.er
  have ln : n < fs.length := (List.getElem?_eq_some_iff.mp hn).1
  have es : fs = fs.take n ++ (.own g d :: fs.drop (n + 1)) := by
    conv => lhs; rw [← List.take_append_drop n fs]
    rw [List.drop_eq_getElem_cons ln]
    have : fs[n] = .own g d := (List.getElem?_eq_some_iff.mp hn).2
    rw [this]
  have e1 : ownL fs = ownL (fs.take n) ++ (g :: ownL (fs.drop (n + 1))) := (congrArg ownL es).trans ownL_app
  have e2 : fs.set n (.ref g) = fs.take n ++ (.ref g :: fs.drop (n + 1)) := by
    rw [List.set_eq_take_append_cons_drop, if_pos ln]
  have e3 : ownL (fs.set n (.ref g) ++ [.own g d]) = ownL (fs.take n) ++ ownL (fs.drop (n + 1)) ++ [g] := by
    rw [ownL_app, e2, ownL_app]; rfl
  have mem : ∀ b, b ∈ ownL (fs.set n (.ref g) ++ [.own g d]) ↔ b ∈ ownL fs := fun b => by
    rw [e3, e1]; simp only [List.mem_append, List.mem_cons, List.not_mem_nil, or_false]
    constructor
    · rintro ((h | h) | h)
      · exact .inl h
      · exact .inr (.inr h)
      · exact .inr (.inl h)
    · rintro (h | h | h)
      · exact .inl (.inl h)
      · exact .inr h
      · exact .inl (.inr h)
  have ett : tt cf.T (ownL (fs.set n (.ref g) ++ [.own g d])) = tt cf.T (ownL fs) := by
    funext b; unfold tt; congr 1; exact decide_eq_decide.mpr (mem b)
  obtain ⟨o1, o2⟩ := E.own hn
  refine S.less ⟨by rw [List.length_append, List.length_set]; exact Nat.le_trans E.len (Nat.le_add_right _ _), fun i s h => ?_, ?_, fun a h => E.out a ((mem a).mp h), E.dom⟩ fun a h => (mem a).mp h
  · rw [ett]
    by_cases hi : i < fs.length
    · rw [List.getElem?_append_left (by rw [List.length_set]; exact hi)] at h
      by_cases en : n = i
      · subst en
        rw [List.getElem?_set_self ln] at h
        cases Option.some.inj h
        exact ⟨some (.ref g), fun l => o1 l, rfl⟩
      · rw [List.getElem?_set_ne en] at h
        exact E.sl i s h
    · rw [List.getElem?_append_right (by rw [List.length_set]; omega), List.length_set] at h
      have i0 : i - fs.length = 0 := by
        rcases Nat.eq_zero_or_pos (i - fs.length) with z | z
        · exact z
        · rw [List.getElem?_eq_none (by show 1 ≤ _; omega)] at h; cases h
      rw [i0] at h
      cases Option.some.inj h
      exact ⟨some (.ref g), fun l => absurd l (by rw [L0]; omega), rfl, o2⟩
  · have nd := E.nd
    rw [e1] at nd
    rw [e3]
    have nd2 := (List.perm_middle.nodup_iff).mp nd
    obtain ⟨h1, h2⟩ := List.nodup_cons.mp nd2
    exact List.nodup_append.mpr ⟨h2, List.nodup_cons.mpr ⟨by simp, List.nodup_nil⟩, fun a ha b hb e => h1 (by rw [← List.mem_singleton.mp hb, ← e]; exact ha)⟩
/-- a name of a list that is told aside -/
theorem ae_refat (n m : Nat) {x : Str} {g : Addr} (hs : fs[n]? = some (.ref g) := by rfl) (hm : fs[m]? = some (.own g d) := by rfl) (hN : X.N[n]? = some x := by rfl) (hv : Vis X.env.scope x := by first | exact Or.inl rfl | exact Or.inr (Or.inl rfl) | exact Or.inr (Or.inr rfl))
    (hd : (x == ("__debug__" : Str)) = false := by decide) (hcd : (x == ("__classdict__" : Str)) = false := by decide) : AE X (.Name x pos) fs fs (.at g d) := by
  refine ⟨rfl, fun T σ H Q E q => bE_inv fun L => bE_of (pe_var hN hv hd hcd) ?_⟩
  obtain ⟨ov, h1, h2⟩ := E.sl n _ hs
  cases ov with
  | none => exact h2.elim
  | some v =>
    cases (show v = .ref g from h2)
    exact ⟨.ref g, h1 (by rw [L]; exact (List.getElem?_eq_some_iff.mp hN).1), q _ H (Kp.refl _ _) ⟨E, rfl, m, hm⟩⟩
structure APc (X : Cx) (pos : Pos) (keys : List (Option Expr)) (vals : List Expr) (C : List (Key × V) → Fm → Prop) (fs : Fm) : Prop where
  run : ∃ trs, PPs X pos keys vals trs ∧ ∀ (T : Addr → Bool) (σ : L2.St) (H : Hp) (g0 : Fm) (Q : List (V × V) → Hp → Prop), ER X.K T σ H (fs ++ g0) → σ.length ≤ fs.length →
    (∀ kvs gs H', Kp H H' (ownL (fs ++ g0)) → ER X.K T σ H' (fs ++ g0 ++ gs) → C kvs gs → (∀ a ∈ ownL gs, H a = none) → Q (kvs.map fun kv => (kV kv.1, kv.2)) H') → tPairs trs σ H Q
theorem apc_of {keys : List (Option Expr)} {vals : List Expr} {sp : List (Key × Option PyData)} (h : APm X pos keys vals sp fs) : APc X pos keys vals (Mk sp) fs := ⟨h.run⟩
/-- a list that is told aside, ahead of the others -/
theorem apc_ref {ks : List (Option Expr)} {vs : List Expr} {C : List (Key × V) → Fm → Prop} {g : Addr} (hk : ∀ g0, AE X a (fs ++ g0) (fs ++ g0) (.val (kD k))) (hv : ∀ g0, AE X b (fs ++ g0) (fs ++ g0) (.at g d)) (hr : APc X pos ks vs C fs) : APc X pos (some a :: ks) (b :: vs) (fun kvs gs => ∃ r, kvs = (k, .ref g) :: r ∧ C r gs) fs := by
  obtain ⟨trs, pp, h⟩ := hr.run
  refine ⟨_, pps_cons best best pp, fun T σ H g0 Q E hl q => (hk g0).run T σ H _ E fun x H1 k1 p1 => (hv g0).run T σ H1 _ p1.1 fun y H2 k2 p2 => ?_⟩
  obtain ⟨E2, rfl, _⟩ := p2
  refine h T σ H2 g0 _ E2 hl fun kvs gs H3 k3 E3 m fr => ?_
  rw [rp_key p1.2]
  have k12 : Kp H H2 (ownL (fs ++ g0)) := k1.trans k2
  exact q ((k, .ref g) :: kvs) gs H3 (k12.trans k3) E3 ⟨_, rfl, m⟩ (fun z hz => kp_none E2 k12 (fr z hz))
/-- x = {..}, told by what holds of its pairs and their ghosts -/
theorem as_newC {keys : List (Option Expr)} {vals : List Expr} {C : List (Key × V) → Fm → Prop} (n : Nat) (hm : APc X pos keys vals C fs) (hnd : ∀ kvs gs, C kvs gs → (kvs.map (·.1)).Nodup ∧ kvs.length ≤ 15) (hk : ∀ l kvs gs, l ∉ cf.ws → C kvs gs → AS X rest cf ((fs ++ gs).set n (.raw l (.dK kvs))) D) (hN : X.N.Nodup) (hlen : X.N.length ≤ fs.length := by exact Nat.le_of_ble_eq_true rfl) (hi : X.N[n]? = some x := by rfl) (hx : Loc X.env.scope x := by first | exact .inl rfl | exact .inr rfl)
    (hall : keys.all (·.isSome) = true := by rfl) (hl : keys.length = vals.length := by rfl) (h0 : keys ≠ [] := by exact fun z => by cases z) (hk15 : keys.length ≤ 15 := by exact Nat.le_of_ble_eq_true rfl)
    (hs : swapsWith (.Dict keys vals pos) (some (.Name x pos')) p.line X.env = pure false := by rfl) (hf : X.fn x = true ∨ X.env.scope.names.lookup x = some .local := by first | exact .inl rfl | exact .inr rfl) : AS X (.Assign [.Name x pos'] (.Dict keys vals pos) p :: rest) cf fs D := by
  obtain ⟨trs, pp, h⟩ := hm.run
  refine fun σ H S => bSs_inv fun L0 => bSs_of (pss_cons (ps_set hN hi hx (pe_disp pp hall hl h0 hk15) hs hf) bestSs) fun q nq => ?_
  have E := S.er
  have hσ : σ.length ≤ fs.length := by rw [L0]; exact hlen
  have Tq : tt cf.T (ownL fs) q = false := E.free nq
  have E1 : ER X.K (with1 cf.T q) σ (upd H q (.dK [])) (fs ++ []) := by rw [List.append_nil]; exact er_with (E.keep (same_hide (same_upd nq) nq)) (by rw [upd_same]; exact fun z => by cases z)
  refine h (with1 cf.T q) σ (upd H q (.dK [])) [] _ E1 hσ fun kvs gs H2 k2 E2 m fr => ?_
  rw [List.append_nil] at k2 E2
  have nd : (([] ++ kvs : List (Key × V)).map (·.1)).Nodup := by rw [List.nil_append]; exact (hnd _ _ m).1
  have em : mergeK [] kvs = kvs := merge_nd kvs [] nd
  refine ⟨k2 q _ (tt_false.mp Tq).2 upd_same, kvs, rfl, (hnd _ _ m).2, ?_⟩
  rw [em]
  have E3 := er_unwith E2 (tt_false.mp Tq).1
  have kH : Kp H H2 (ownL fs) := fun b o nb hb => k2 b o nb (by rw [upd_ne (fun z => by rw [z, nq] at hb; cases hb)]; exact hb)
  have eh : hide (upd H2 q (.dK kvs)) q = hide H2 q := by
    funext b
    by_cases z : b = q
    · rw [z, hide_self, hide_self]
    · rw [hide_ne z, hide_ne z, upd_ne z]
  have kU : Kp H (upd H2 q (.dK kvs)) (ownL fs) := fun b o nb hb => by
    have ne : b ≠ q := fun z => by rw [z, nq] at hb; cases hb
    rw [upd_ne ne]; exact kH b o nb hb
  have nqg : q ∉ ownL gs := fun z => by
    have := fr q z
    rw [upd_same] at this; cases this
  have E4 : ER X.K cf.T (σ.set n (some (.ref q))) (upd H2 q (.dK kvs)) ((fs ++ gs).set n (.raw q (.dK kvs))) := ER.setAt (s := .raw q (.dK kvs)) (by rw [eh]; exact E3) rfl ⟨rfl, upd_same⟩
  have nH : ∀ z ∈ ownL gs, H z = none := fun z hz => by
    have := fr z hz
    rw [upd_ne (fun e => nqg (by rw [← e]; exact hz))] at this; exact this
  have E5 : ER X.K cf.T σ (upd H2 q (.dK kvs)) fs := by
    have E6 : ER X.K cf.T σ (upd H2 q (.dK kvs)) (fs ++ gs) := by
      refine E3.keep fun b o hb => ?_
      have ne : b ≠ q := fun z => by rw [z, hide_self] at hb; cases hb
      rw [hide_ne ne] at hb
      rw [upd_ne ne]; exact hb
    have pop : ∀ (k : Nat) (g2 : Fm), g2.length = k → ER X.K cf.T σ (upd H2 q (.dK kvs)) (fs ++ g2) → ER X.K cf.T σ (upd H2 q (.dK kvs)) fs := fun k => by
      induction k with
      | zero => intro g2 h; rw [List.length_eq_zero_iff.mp h, List.append_nil]; exact id
      | succ k ih =>
        intro g2 h
        rcases List.eq_nil_or_concat g2 with rfl | ⟨B, s, rfl⟩
        · cases h
        · intro E
          rw [List.concat_eq_append, ← List.append_assoc] at E
          exact ih B (by simpa using h) (er_pop E (by rw [List.length_append]; exact Nat.le_trans hσ (Nat.le_add_right _ _)))
    exact pop _ gs rfl E6
  refine hk q kvs gs (S.not_ws nq) m _ _ (S.many kU rfl E5 E4 fun z hz => ?_)
  rcases ownL_set hz with w | w
  · rw [ownL_app] at w
    rcases List.mem_append.mp w with w | w
    · exact .inl w
    · exact .inr (nH z w)
  · have : q = z := Option.some.inj w
    rw [← this]; exact .inr nq
theorem nA_dats : ∀ (ds : List PyData) (g : List Slot), nA (ds.map Slot.dat ++ (.no :: g)) = ds.length
  | [], _ => rfl
  | _ :: r, g => congrArg (· + 1) (nA_dats r g)
theorem rpAll_get {K : PySem.W.Frag} {S : Hp} : ∀ {vs : List V} {ds : List PyData}, RpAll K S vs ds → ∀ (n : Nat) (d : PyData), ds[n]? = some d → ∃ v, vs[n]? = some v ∧ Rp K S v d
  | _, _, .nil, n, d, h => by simp at h
  | _, _, .cons a b, n, d, h => by
    cases n with
    | zero => cases Option.some.inj h; exact ⟨_, rfl, a⟩
    | succ n => exact rpAll_get b n d h
/-- what is lent: the dict, data, and the ghosts behind -/
def lendF (l : Addr) (kvs : List (Key × V)) (ds : List PyData) (g : Fm) : Fm := .raw l (.dK kvs) :: (ds.map .dat ++ (.no :: g))
theorem lendF_own {l : Addr} {kvs : List (Key × V)} {g : Fm} : ownL (lendF l kvs ds g) = l :: ownL g := by
  show l :: ownL (ds.map Slot.dat ++ (.no :: g)) = _
  rw [ownL_app, ownL_dats]; rfl
theorem lendF_gh {l : Addr} {kvs : List (Key × V)} {g : Fm} (j : Nat) : (lendF l kvs ds g)[j + (ds.length + 2)]? = g[j]? := by
  show (Slot.raw l (.dK kvs) :: (ds.map Slot.dat ++ (.no :: g)))[(j + (ds.length + 1)) + 1]? = _
  rw [List.getElem?_cons_succ, List.getElem?_append_right (by rw [List.length_map]; omega), List.length_map, show j + (ds.length + 1) - ds.length = j + 1 by omega, List.getElem?_cons_succ]
theorem er_lendM {K : PySem.W.Frag} {n i : Nat} {l : Addr} {kvs : List (Key × V)} {vs : List V} (E : ER K T σ H F) (hn : F[n]? = some (.raw l (.dK kvs))) (hni : n < i) (p : RpAll K (cut H (tt T (ownL F))) vs ds) :
    ER K (lent T (ownL F) (ownL (lendF l kvs ds (F.drop i)))) ((V.ref l :: vs).map some) H (lendF l kvs ds (F.drop i)) := by
  have hl := p.length
  have e1 : ownL F = ownL (F.take i) ++ ownL (F.drop i) := by rw [← ownL_app, List.take_append_drop]
  have lt : l ∈ ownL (F.take i) := mem_ownL.mpr ⟨n, _, by rw [List.getElem?_take, if_pos hni]; exact hn, rfl⟩
  have sub : ∀ b ∈ ownL (lendF l kvs ds (F.drop i)), b ∈ ownL F := fun b hb => by
    rw [lendF_own] at hb
    rw [e1]
    rcases List.mem_cons.mp hb with rfl | hb
    · exact List.mem_append_left _ lt
    · exact List.mem_append_right _ hb
  have e := lent_tt (T := T) (l := ownL F) (m := ownL (lendF l kvs ds (F.drop i))) sub
  have ll : ((V.ref l :: vs).map some).length = ds.length + 1 := by rw [List.length_map, List.length_cons, hl]
  refine ⟨?_, fun j s hj => ?_, ?_, fun a ha => ?_, fun b hb => ?_⟩
  · rw [ll]; show _ ≤ (ds.map Slot.dat ++ (.no :: F.drop i)).length + 1; rw [List.length_append, List.length_map]; omega
  · rw [e]
    cases j with
    | zero => cases Option.some.inj hj; exact ⟨some (.ref l), fun _ => rfl, rfl, (E.raw hn).2⟩
    | succ j =>
      rcases Nat.lt_trichotomy j ds.length with c | c | c
      · have hj : (ds.map Slot.dat ++ (.no :: F.drop i))[j]? = some s := hj
        rw [List.getElem?_append_left (by rw [List.length_map]; exact c), List.getElem?_map] at hj
        obtain ⟨d, hd, rfl⟩ := Option.map_eq_some_iff.mp hj
        obtain ⟨v, hv, r⟩ := rpAll_get p j d hd
        exact ⟨some v, fun _ => by rw [List.map_cons, List.getElem?_cons_succ, List.getElem?_map, hv]; rfl, r⟩
      · have hj : (ds.map Slot.dat ++ (.no :: F.drop i))[j]? = some s := hj
        rw [List.getElem?_append_right (by rw [List.length_map]; omega), List.length_map, c, Nat.sub_self] at hj
        cases Option.some.inj hj
        exact ⟨none, fun h => absurd h (by omega), trivial⟩
      · obtain ⟨j', rfl⟩ : ∃ j', j = j' + (ds.length + 1) := ⟨j - (ds.length + 1), by omega⟩
        have hj := (lendF_gh (ds := ds) (l := l) (kvs := kvs) (g := F.drop i) j').symm.trans hj
        rw [List.getElem?_drop] at hj
        obtain ⟨ov, _, h2⟩ := E.sl _ s hj
        exact ⟨ov, fun h => absurd h (by omega), h2⟩
  · rw [lendF_own]
    have nd := E.nd
    rw [e1] at nd
    obtain ⟨_, n2, n3⟩ := List.nodup_append.mp nd
    exact List.nodup_cons.mpr ⟨fun z => n3 _ lt _ z rfl, n2⟩
  · unfold lent; simp [ha]
  · have hb' : tt T (ownL F) b = true := by unfold lent at hb; exact (Bool.and_eq_true_iff.mp hb).1
    obtain ⟨o, ho⟩ := E.there hb'
    rw [ho]; exact fun z => by cases z
theorem er_backM {K : PySem.W.Frag} {n i : Nat} {l : Addr} {kvs : List (Key × V)} {τ : L2.St} {G' : Fm} (E : ER K T σ H F) (hn : F[n]? = some (.raw l (.dK kvs))) (hni : n < i) (hi : σ.length ≤ i) (hF : i ≤ F.length) (ht : τ.length = ds.length + 1) (ho : ownL G' = ownL (F.drop i))
    (k : Kp H H' (ownL (lendF l kvs ds (F.drop i)))) (E2 : ER K (lent T (ownL F) (ownL (lendF l kvs ds (F.drop i)))) τ H' (lendF l kvs ds G')) : ER K T σ H' (F.take i ++ G') := by
  have e1 : ownL F = ownL (F.take i) ++ ownL (F.drop i) := by rw [← ownL_app, List.take_append_drop]
  have ow : ownL (F.take i ++ G') = ownL F := by rw [ownL_app, ho, ← e1]
  have lt : l ∈ ownL (F.take i) := mem_ownL.mpr ⟨n, _, by rw [List.getElem?_take, if_pos hni]; exact hn, rfl⟩
  have sub : ∀ b ∈ ownL (lendF l kvs ds (F.drop i)), b ∈ ownL F := fun b hb => by
    rw [lendF_own] at hb
    rw [e1]
    rcases List.mem_cons.mp hb with rfl | hb
    · exact List.mem_append_left _ lt
    · exact List.mem_append_right _ hb
  have ol : ownL (lendF l kvs ds G') = ownL (lendF l kvs ds (F.drop i)) := by rw [lendF_own, lendF_own, ho]
  have e := lent_tt (T := T) (l := ownL F) (m := ownL (lendF l kvs ds (F.drop i))) sub
  have hl' : H' l = some (.dK kvs) := (E2.raw (i := 0) rfl).2
  have up : Same (cut H (tt T (ownL F))) (cut H' (tt T (ownL F))) := fun b o h => by
    by_cases c : tt T (ownL F) b = true
    · unfold cut at h; rw [c] at h; cases h
    · have c := Bool.eq_false_iff.mpr c
      have hb : H b = some o := by unfold cut at h; rw [c] at h; exact h
      exact cut_of c (k b o (fun z => (tt_false.mp c).2 (sub b z)) hb)
  have nd := E.nd
  rw [e1] at nd
  obtain ⟨_, _, n3⟩ := List.nodup_append.mp nd
  have tl : (F.take i).length = i := by rw [List.length_take]; omega
  refine ⟨by rw [List.length_append, tl]; omega, fun j s hj => ?_, by rw [ow]; exact E.nd, fun a h => E.out a (by rw [← ow]; exact h), fun b hb => ?_⟩
  · rw [ow]
    by_cases c : j < i
    · rw [List.getElem?_append_left (by omega), List.getElem?_take, if_pos c] at hj
      obtain ⟨ov, h1, h2⟩ := E.sl j s hj
      refine ⟨ov, h1, h2.mono up fun a ea => ?_⟩
      obtain ⟨o, q⟩ := (h2.adr ea).2
      by_cases z : a = l
      · rw [z] at q ⊢
        rw [(E.raw hn).2] at q
        rw [(E.raw hn).2, hl']
      · rw [q]
        refine k a o (fun y => ?_) q
        rw [lendF_own] at y
        rcases List.mem_cons.mp y with y | y
        · exact z y
        · exact n3 a (mem_ownL.mpr ⟨j, s, by rw [List.getElem?_take, if_pos c]; exact hj, ea⟩) a y rfl
    · rw [List.getElem?_append_right (by omega), tl] at hj
      obtain ⟨ov, _, h2⟩ := E2.sl (j - i + (ds.length + 2)) s (by rw [lendF_gh]; exact hj)
      rw [ol, e] at h2
      exact ⟨ov, fun h => absurd h (by omega), h2⟩
  · refine E2.dom b ?_
    unfold lent
    have h1 : tt T (ownL F) b = true := by unfold tt; rw [hb]; rfl
    have h2 : b ∉ ownL (lendF l kvs ds (F.drop i)) := fun z => by have := E.out b (sub b z); rw [hb] at this; cases this
    rw [h1]; simp [h2]
/-- f(x, ..), x a dict of written lists; they stand otherwise behind it -/
theorem ae_callM {CX : CXT} {k : Nat} {f : Addr} {fd : FuncData} {ps : List Str} {ct : Ct} {cx : Cex} {dvs : List V} {W : XK} {x y : Str} {l : Addr} {kvs : List (Key × V)} {G' : Fm} (n i : Nat) (G : Fn X CX k x f fd ps ct cx dvs []) (hr : Room k X.A) (hx : Passes CX X W) (ha : AD X es fs fs ds)
    (hc : ct (lendF l kvs ds (fs.drop i)) (lendF l kvs ds G') (.val d)) (hn : fs[n]? = some (.raw l (.dK kvs)) := by rfl) (hN : X.N[n]? = some y := by rfl) (hni : n < i := by decide) (hil : X.N.length ≤ i := by exact Nat.le_of_ble_eq_true rfl) (hif : i ≤ fs.length := by exact Nat.le_of_ble_eq_true rfl) (ho : ownL G' = ownL (fs.drop i) := by rfl)
    (hg : Gl X x := by rfl) (hv : Vis X.env.scope y := by first | exact Or.inl rfl | exact Or.inr (Or.inl rfl) | exact Or.inr (Or.inr rfl)) (hdy : (y == ("__debug__" : Str)) = false := by decide) (hcd : (y == ("__classdict__" : Str)) = false := by decide)
    (hdb : (x == ("__debug__" : Str)) = false := by decide) (he : starEach (.Name y py :: es) X.env = (false, eval (.Name y py) X.env) :: starEach es X.env := by rfl) (hpl : (backTo pos (starEach es X.env)).any (·.1) = false := by rfl) :
    AE X (.Call (.Name x p) (.Name y py :: es) [] pos) fs (fs.take i ++ G') (.val d) := by
  obtain ⟨dvals, hb, hd⟩ := G.bd
  have ow : ownL (fs.take i ++ G') = ownL fs := by rw [ownL_app, ho, ← ownL_app, List.take_append_drop]
  refine ⟨ow, fun T σ H Q E q => bE_inv fun L0 => bE_of (pe_call (E := W) G.ok hr hg G.mg G.kp hb hd hx (pa_cons (pe_var hN hv hdy hcd) bestA he) hdb he hpl) ?_⟩
  obtain ⟨r1, _⟩ := E.raw hn
  refine ⟨_, r1 (by rw [L0]; exact (List.getElem?_eq_some_iff.mp hN).1), ha.run T σ H _ E fun vs H1 k1 E1 p1 => ?_⟩
  have dn : dvs = [] := by
    have h := (G.df (fun _ => none)).length
    simpa using h
  subst dn
  have E2 := er_lendM E1 hn hni p1
  have ol : ownL (lendF l kvs ds G') = ownL (lendF l kvs ds (fs.drop i)) := by rw [lendF_own, lendF_own, ho]
  have sub : ∀ b ∈ ownL (lendF l kvs ds (fs.drop i)), b ∈ ownL fs := fun b hb => by
    have e1 : ownL fs = ownL (fs.take i) ++ ownL (fs.drop i) := by rw [← ownL_app, List.take_append_drop]
    rw [lendF_own] at hb
    rw [e1]
    rcases List.mem_cons.mp hb with rfl | hb
    · exact List.mem_append_left _ (mem_ownL.mpr ⟨n, _, by rw [List.getElem?_take, if_pos hni]; exact hn, rfl⟩)
    · exact List.mem_append_right _ hb
  refine ⟨_, _, by rw [List.append_nil]; exact E2, by rw [List.append_nil]; show nA (ds.map Slot.dat ++ (.no :: fs.drop i)) + 1 = _; rw [nA_dats, List.length_cons, p1.length], .inl ⟨_, _, hc, ol, fun v H' kk pp => ?_⟩⟩
  rw [List.append_nil] at pp
  refine q v H' (k1.trans fun b o h z => kk b o (fun y => h (sub b y)) z) ⟨er_backM E1 hn hni (by rw [L0]; exact hil) hif (by rw [List.length_map, List.length_cons, p1.length]) ho kk pp.1, ?_⟩
  have := pp.2
  rw [ol, lent_tt sub, ← ow] at this
  exact this
end
end A3
namespace A3
open PySem PySem.Spec PyProof.Rows L2 RZ
/-! ### for x, y in zip(a, b): two tuples, two lists of one length; isinstance(a, (S, T)) -/
section
variable {X : Cx} {a b : Expr} {rest body : List Stmt} {cf : Cf} {D : D3} {fs f1 f2 : Fm} {d : PyData} {ds ss : List PyData} {r : Res} {pos p p2 tpos : Pos} {elts : List Expr} {kk : Nat}
def zipD (ds ss : List PyData) : List PyData := (List.range ds.length).map fun (i : Nat) => PyData.tuple [ds.getD i .none, ss.getD i .none]
theorem zipD_len (ds ss : List PyData) : (zipD ds ss).length = ds.length := by simp [zipD]
theorem zipD_get {q : Nat} (h : q < ds.length) : (zipD ds ss)[q]? = some (.tuple [ds.getD q .none, ss.getD q .none]) := by
  unfold zipD
  rw [List.getElem?_map, List.getElem?_range h]; rfl
theorem zipD_inv {q : Nat} (hl : ds.length = ss.length) (h : (zipD ds ss)[q]? = some d) : ∃ x y, ds[q]? = some x ∧ ss[q]? = some y ∧ d = .tuple [x, y] := by
  have lt : q < ds.length := by
    have := (List.getElem?_eq_some_iff.mp h).1
    rw [zipD_len] at this; exact this
  have lt2 : q < ss.length := by omega
  rw [zipD_get lt] at h
  refine ⟨ds[q], ss[q], List.getElem?_eq_getElem lt, List.getElem?_eq_getElem lt2, (Option.some.inj h).symm.trans ?_⟩
  rw [List.getD_eq_getElem?_getD, List.getElem?_eq_getElem lt, List.getD_eq_getElem?_getD, List.getElem?_eq_getElem lt2]; rfl
theorem cut_mono {T0 T : Addr → Bool} {l1 l2 : List Addr} {H1 G : Hp} {N : Addr} {o1 : HO} (g' : Same (cut H1 fun b => decide (b ∈ l1)) G) (nN : G N = none) (dis : ∀ a ∈ l2, cut H1 (fun b => decide (b ∈ l1)) a = none) (et : ∀ b, T b = T0 b) :
    Same (cut H1 (tt T0 l1)) (cut (upd G N o1) (tt T l2)) := fun b o h => by
  obtain ⟨e1, e2⟩ := cut_some h
  obtain ⟨e3, e4⟩ := tt_false.mp e1
  have gb := g' b o (cut_of (decide_eq_false e4) e2)
  have bN : b ≠ N := fun z => by rw [z, nN] at gb; cases gb
  refine cut_of (tt_false.mpr ⟨by rw [et]; exact e3, fun z => ?_⟩) (by rw [upd_ne bN]; exact gb)
  have := dis b z
  rw [cut_of (decide_eq_false e4) e2] at this; cases this
theorem as_forZT (hp : PassesOwn (model X.prog X.w) X.A X.env X.xe) (P : Nat → Fm → Prop) (ha : AD X [a, b] fs f1 [.tuple ds, .tuple ss]) (hl : ds.length = ss.length) (h0 : P 0 f1) (hs : Turn3 X (.Tuple elts kk tpos) body rest cf D (zipD ds ss) P) (hd : ∀ f, P ds.length f → AS X rest cf f D)
    (hm : X.mg "zip" = none) (hg : Gl X "zip" := by rfl) (hc : X.calm = true := by rfl) (hst : starEach [a, b] X.env = (false, eval a X.env) :: starEach [b] X.env := by rfl) (hpl : (backTo p2 (starEach [b] X.env)).any (·.1) = false := by rfl)
    (hf : ∀ x, foldedSetIterable (.Call (.Name "zip" p) [a, b] [] p2) X.env x = pure x := by intro _; rfl) : AS X (.For (.Tuple elts kk tpos) (.Call (.Name "zip" p) [a, b] [] p2) body [] pos :: rest) cf fs D := by
  refine fun σ H S => bSs_of (pss_cons (ps_for hp hc (pi_zipA hg hm bestA hst hpl) bestG bestSs hf) bestSs) (ha.run cf.T σ H _ S.er fun vs H1 k1 E1 rl => ?_)
  cases rl with
  | cons ra rr => cases rr with
    | cons rb rr =>
      cases rr
      obtain ⟨l1, xs, rfl, s1, q1⟩ := ra.tup_inv
      obtain ⟨l2, ys, rfl, s2, q2⟩ := rb.tup_inv
      have n1 := q1.length
      have n2 := q2.length
      have up : Same (cut H1 (tt cf.T (ownL f1))) (cut H1 fun b => decide (b ∈ ownL f1)) := cut_same fun b o e z => ⟨decide_eq_false (tt_false.mp e).2, z⟩
      have t1 : SqT X.K (cut H1 fun b => decide (b ∈ ownL f1)) l1 xs := sqT_same up s1
      have t2 : SqT X.K (cut H1 fun b => decide (b ∈ ownL f1)) l2 ys := sqT_same up s2
      refine ⟨l1, l2, xs, ys, rfl, .inr ⟨sqT_same (cut_all _ _) s1, sqT_same (cut_all _ _) s2, for_core (ds := zipD ds ss) (S.step k1 E1 ha.ow) h0 (fun G g' q lt => ?_) (fun G g' => ?_) (fun G g' q v G' lt y => ?_) hs (by rw [zipD_len]; exact hd)⟩⟩
      · rw [zipD_len] at lt
        exact ⟨xs, ys, xs[q]'(by omega), ys[q]'(by omega), sqT_same g' t1, sqT_same g' t2, by simp, by simp⟩
      · exact ⟨xs, ys, sqT_same g' t1, sqT_same g' t2, .inl (by rw [zipD_len]; omega)⟩
      · rw [zipD_len] at lt
        obtain ⟨N, x, y, rfl, nN, rfl, hx, hy⟩ := y
        obtain ⟨dx, hdx, rx⟩ := q1.get2 (hx xs (sqT_same g' t1))
        obtain ⟨dy, hdy, ry⟩ := q2.get2 (hy ys (sqT_same g' t2))
        refine ⟨same_upd nN, _, zipD_get lt, fun T σ f E dis et => ?_⟩
        have fN := E.free nN
        rw [show ds.getD q .none = dx by rw [List.getD_eq_getElem?_getD, hdx]; rfl, show ss.getD q .none = dy by rw [List.getD_eq_getElem?_getD, hdy]; rfl]
        exact .tup (xs := [x, y]) (.inl (.inl (cut_of fN upd_same))) (.cons (rx.mono (cut_mono g' nN dis et)) (.cons (ry.mono (cut_mono g' nN dis et)) .nil))
theorem as_forZL (hp : PassesOwn (model X.prog X.w) X.A X.env X.xe) (P : Nat → Fm → Prop) (ha : AD X [a, b] fs f1 [.list ds, .list ss]) (hl : ds.length = ss.length) (h0 : P 0 f1) (hs : Turn3 X (.Tuple elts kk tpos) body rest cf D (zipD ds ss) P) (hd : ∀ f, P ds.length f → AS X rest cf f D)
    (hm : X.mg "zip" = none) (hg : Gl X "zip" := by rfl) (hc : X.calm = true := by rfl) (hst : starEach [a, b] X.env = (false, eval a X.env) :: starEach [b] X.env := by rfl) (hpl : (backTo p2 (starEach [b] X.env)).any (·.1) = false := by rfl)
    (hf : ∀ x, foldedSetIterable (.Call (.Name "zip" p) [a, b] [] p2) X.env x = pure x := by intro _; rfl) : AS X (.For (.Tuple elts kk tpos) (.Call (.Name "zip" p) [a, b] [] p2) body [] pos :: rest) cf fs D := by
  refine fun σ H S => bSs_of (pss_cons (ps_for hp hc (pi_zipA hg hm bestA hst hpl) bestG bestSs hf) bestSs) (ha.run cf.T σ H _ S.er fun vs H1 k1 E1 rl => ?_)
  cases rl with
  | cons ra rr => cases rr with
    | cons rb rr =>
      cases rr
      obtain ⟨l1, xs, rfl, s1, q1⟩ := ra.lst_inv
      obtain ⟨l2, ys, rfl, s2, q2⟩ := rb.lst_inv
      have n1 := q1.length
      have n2 := q2.length
      have up : Same (cut H1 (tt cf.T (ownL f1))) (cut H1 fun b => decide (b ∈ ownL f1)) := cut_same fun b o e z => ⟨decide_eq_false (tt_false.mp e).2, z⟩
      have t1 : SqL X.K (cut H1 fun b => decide (b ∈ ownL f1)) l1 xs := sqL_same up s1
      have t2 : SqL X.K (cut H1 fun b => decide (b ∈ ownL f1)) l2 ys := sqL_same up s2
      refine ⟨l1, l2, xs, ys, rfl, .inl ⟨sqL_same (cut_all _ _) s1, sqL_same (cut_all _ _) s2, for_core (ds := zipD ds ss) (S.step k1 E1 ha.ow) h0 (fun G g' q lt => ?_) (fun G g' => ?_) (fun G g' q v G' lt y => ?_) hs (by rw [zipD_len]; exact hd)⟩⟩
      · rw [zipD_len] at lt
        exact ⟨xs, ys, xs[q]'(by omega), ys[q]'(by omega), sqL_same g' t1, sqL_same g' t2, by simp, by simp⟩
      · exact ⟨xs, ys, sqL_same g' t1, sqL_same g' t2, .inl (by rw [zipD_len]; omega)⟩
      · rw [zipD_len] at lt
        obtain ⟨N, x, y, rfl, nN, rfl, hx, hy⟩ := y
        obtain ⟨dx, hdx, rx⟩ := q1.get2 (hx xs (sqL_same g' t1))
        obtain ⟨dy, hdy, ry⟩ := q2.get2 (hy ys (sqL_same g' t2))
        refine ⟨same_upd nN, _, zipD_get lt, fun T σ f E dis et => ?_⟩
        have fN := E.free nN
        rw [show ds.getD q .none = dx by rw [List.getD_eq_getElem?_getD, hdx]; rfl, show ss.getD q .none = dy by rw [List.getD_eq_getElem?_getD, hdy]; rfl]
        exact .tup (xs := [x, y]) (.inl (.inl (cut_of fN upd_same))) (.cons (rx.mono (cut_mono g' nN dis et)) (.cons (ry.mono (cut_mono g' nN dis et)) .nil))
/-- isinstance(a, (S, T)) -/
theorem ae_isi2 {k : Nat} {px py pt : Pos} {S1 S2 : Str} {t1 t2 : String} {b1 b2 : Bool} (ha : AE X a fs f1 r) (hb1 : kitB (tyD r.d) t1 = some b1) (hb2 : kitB (tyD r.d) t2 = some b2) (hg : Gl X "isinstance") (hm : X.mg "isinstance" = none)
    (hg1 : Gl X S1) (hm1 : X.mg S1 = none) (hv1 : bootBuiltins S1 = some (.type t1)) (hg2 : Gl X S2) (hm2 : X.mg S2 = none) (hv2 : bootBuiltins S2 = some (.type t2))
    (hn1 : S1 ≠ "__name__" := by decide) (hdb1 : (S1 == ("__debug__" : Str)) = false := by decide) (hn2 : S2 ≠ "__name__" := by decide) (hdb2 : (S2 == ("__debug__" : Str)) = false := by decide)
    (he : starEach [a, .Tuple [.Name S1 px, .Name S2 py] k pt] X.env = (false, eval a X.env) :: starEach [.Tuple [.Name S1 px, .Name S2 py] k pt] X.env := by rfl)
    (he2 : starEach [.Tuple [.Name S1 px, .Name S2 py] k pt] X.env = (false, eval (.Tuple [.Name S1 px, .Name S2 py] k pt) X.env) :: starEach [] X.env := by rfl)
    (he3 : starEach [.Name S1 px, .Name S2 py] X.env = (false, eval (.Name S1 px) X.env) :: starEach [.Name S2 py] X.env := by rfl) (he4 : starEach [.Name S2 py] X.env = (false, eval (.Name S2 py) X.env) :: starEach [] X.env := by rfl)
    (hpl : (backTo pos (starEach [.Tuple [.Name S1 px, .Name S2 py] k pt] X.env)).any (·.1) = false := by rfl) :
    AE X (.Call (.Name "isinstance" p) [a, .Tuple [.Name S1 px, .Name S2 py] k pt] [] pos) fs f1 (.val (.bool (b1 || b2))) := by
  refine ⟨ha.ow, fun T σ H Q E q => bE_of (pe_callB call_isiT hg hm (by decide +kernel) (pa_cons best (pa_cons (pe_tup (pa_cons (pe_bltn (v := .ty t1) hg1 hm1 hv1 rfl hn1 hdb1) (pa_cons (pe_bltn (v := .ty t2) hg2 hm2 hv2 rfl hn2 hdb2) pa_nil he4) he3)) pa_nil he2) he) (he := he) (hpl := hpl)) (ha.run T σ H _ E fun v H1 k1 p1 => ?_)⟩
  refine ⟨Nat.le_of_lt (small1000 (by exact Nat.le_of_ble_eq_true rfl)), fun tp n => ?_⟩
  refine ⟨v, tp, _, _, [.type t1, .type t2], b1 || b2, rfl, upd_same, .cons (.ty t1) (.cons (.ty t2) .nil), (p1.rp.mono (same_upd n)).ty, ?_, q _ _ (k1.trans (Kp.of (same_upd n))) ⟨p1.er.keep (same_upd n), .bl _⟩⟩
  refine kitAny_cons (kit_ty hb1) (fun e => ?_) (fun e => by rw [e]; rfl)
  rw [e, Bool.false_or]
  exact kitAny_cons (kit_ty hb2) (fun e => by rw [e]; exact kitAny_nil) (fun e => e)
/-- for target in range(i, j, k), rising or falling by k -/
theorem as_forR3c {tg b c : Expr} {p3 pos' : Pos} {c3 : Cf} {D3' : D3} {lo hi st : Int} {n : Nat} (hp : PassesOwn (model X.prog X.w) X.A X.env X.xe) (P : Nat → Fm → Prop) (ha : AD X [a, b, c] fs f1 [.int lo, .int hi, .int st]) (hr : RgC lo hi st n) (h0 : P 0 f1) (hs : Turn3 X tg body rest c3 D3' ((rgC lo st n).map .int) P) (hd : ∀ f, P n f → AS X rest c3 f D3')
    (hm : X.mg "range" = none) (hg : Gl X "range" := by rfl) (hc : X.calm = true := by rfl)
    (hst : starEach [a, b, c] X.env = (false, eval a X.env) :: starEach [b, c] X.env := by rfl) (hpl : (backTo pos' (starEach [b, c] X.env)).any (·.1) = false := by rfl)
    (hf : ∀ x, foldedSetIterable (.Call (.Name "range" p3) [a, b, c] [] pos') X.env x = pure x := by intro _; rfl) : AS X (.For tg (.Call (.Name "range" p3) [a, b, c] [] pos') body [] pos :: rest) c3 fs D3' := by
  have hlen : ((rgC lo st n).map PyData.int).length = n := by unfold rgC; simp
  refine fun σ H S => bSs_of (pss_cons (ps_for hp hc (pi_range3 hg hm bestA hst hpl) bestG bestSs hf) bestSs) (ha.run c3.T σ H _ S.er fun vs H1 k1 E1 p1 => ?_)
  have ev : vs = [lo, hi, st].map V.int := RpAll.ints_inv p1
  refine ⟨lo, hi, st, n, ev, hr, ?_⟩
  refine for_core (ds := (rgC lo st n).map .int) (S.step k1 E1 ha.ow) h0 (fun G g k lt => ?_) (fun G g => ?_) (fun G g k v G' lt y => ?_) hs (by rw [hlen]; exact hd)
  · rw [hlen] at lt; exact lt
  · show n ≤ _; rw [hlen]; exact Nat.le_refl _
  · obtain ⟨rfl, rfl⟩ := y
    rw [hlen] at lt
    refine ⟨fun _ _ h => h, .int (lo + (k : Nat) * st), ?_, fun T σ f E dis et => .int _⟩
    unfold rgC
    rw [List.getElem?_map, List.getElem?_map, List.getElem?_range lt]; rfl
theorem rgC_inv {lo st : Int} {n k : Nat} {d : PyData} (h : ((rgC lo st n).map PyData.int)[k]? = some d) : k < n ∧ d = .int (lo + (k : Nat) * st) := by
  have lt : k < n := by
    have := (List.getElem?_eq_some_iff.mp h).1
    unfold rgC at this; simpa using this
  unfold rgC at h
  rw [List.getElem?_map, List.getElem?_map, List.getElem?_range lt] at h
  exact ⟨lt, (Option.some.inj h).symm⟩
end
end A3
namespace A3
open PySem PySem.Spec PyProof.Rows L2
/-! ### sorted(d), d a dict by numbers, any number of them -/
/-- the keys that were gone through are numbers -/
theorem ints_of_keys {ks : List Int} {vs : List (Key × Value)} {got : List Value} (hv : vs.map (·.1) = ks.map Sum.inl) (hl : got.length = vs.length) (hk : ∀ (j : Nat) (v : Value), got[j]? = some v → ∃ k x, vs[j]? = some (k, x) ∧ keyIs k v = true) : IntsAre got ks := by
  have ln : got.length = ks.length := by have := congrArg List.length hv; rw [List.length_map, List.length_map] at this; omega
  refine ints_each ln fun j v hj => ?_
  obtain ⟨k, x, g1, g2⟩ := hk j v hj
  have g3 : (ks.map Sum.inl)[j]? = some k := by rw [← hv, List.getElem?_map, g1]; rfl
  rw [List.getElem?_map] at g3
  obtain ⟨y, gy, rfl⟩ := Option.map_eq_some_iff.mp g3
  rcases keyIs_shape g2 with ⟨i, t, g4, g5⟩ | ⟨z, t, g4, _⟩
  · cases g4; exact ⟨_, t, gy, g5⟩
  · cases g4
section
variable {X : Cx}
def rSortDI (xs : List V) (H : Hp) (Q : VK) : Prop := ∃ (d : Addr) (kvs : List (Key × V)) (ks : List Int), xs = [.ref d] ∧ Rd H d (.dK kvs) ∧ kvs.map (·.1) = ks.map Sum.inl ∧ ks.length ≤ 1000 ∧ ∀ (zs : List Int) (l : Addr), zs.Perm ks → zs.Pairwise (· ≤ ·) → H l = none → Q (.ref l) (upd H l (.lst (zs.map V.int)))
theorem call_sortDI (hc : X.calm = true) : CallR X (.builtin "sorted") rSortDI := by
  rintro pins s σ H xs us Q I rv ⟨d, kvs, ks, rfl, rd, hk, hn, q⟩
  obtain ⟨u, rfl, ru⟩ := vals1 rv
  cases ru
  obtain ⟨_, lo, vs, rel, dd⟩ := dk_rd I.hok rd
  obtain ⟨ep, hd⟩ := dd.dictAt
  have hv : vs.map (·.1) = ks.map Sum.inl := by rw [← hk]; exact (rel.keys).symm
  have ln : vs.length = ks.length := by have := congrArg List.length hv; rw [List.length_map, List.length_map] at this; exact this
  have sm : ∀ {n : Nat}, n = ks.length → n ≤ sizeLine := fun e => by rw [e, sizeLine_eq]; omega
  refine Calls.call_function_entry PyProof.Rows.kind_sorted PyProof.Rows.plain_sorted PyProof.Rows.entry_sorted (PyProof.Rows.args_sorted1 _) ?_; unfold Builtin.«sorted»; refine wpAny_bind (m := checkCount "sorted" 1 1 _) (wpAny_pure ?_)
  refine wpAny_bind (PySem.W.kdu_collect (A := X.A.in1) (PySem.W.kdl_dict (knd := mixKind X.prog X.w) (kvs := vs) (ep := ep) lo) (I.ok.hd hc) hd (sm ln) fun g tk got hg ⟨n1, n2⟩ => ?_)
  have lg : got.toList.length = ks.length := by rw [Array.length_toList, n1, ln]
  have hi : IntsAre got.toList ks := ints_of_keys hv (lg.trans ln.symm) fun j v e => n2 j v (by rw [← Array.getElem?_toList]; exact e)
  have J : Inv X pins σ H { s with heap := g, toks := tk } := I.kept hg
  have at_ : (g.push (seqObj "list" got.toList.toArray 0)).get? g.objs.size = some (seqObj "list" got.toList.toArray 0) := Heap.get?_push_size _ rfl
  refine wpAny_bind (wpAny_newList (show wpAny _ _ _ _ _ { s with heap := g.push (seqObj "list" got.toList.toArray 0), toks := tk } from wpAny_bind (wpAny_holding (wpAny_call_entry PyProof.Rows.slot_list_sort ⟨_, at_, rfl⟩ PyProof.Rows.entry_list_sort ?_ (PyProof.Rows.args_list_sort _)))) (sm lg))
  refine SrtO.list_sort_ord (s := { s with heap := g.push (seqObj "list" got.toList.toArray 0), toks := tk }) SrtO.swo_int at_ (sm lg) (fun two => SrtO.ints_sortable hi two) fun zs o1 o2 => ⟨_, rfl, ?_⟩
  obtain ⟨a1, a2, a3⟩ := SrtO.ints_out hi o1 o2
  obtain ⟨e, he⟩ := PyProof.Rows.sortedHeap_at (vs := got.toList) (out := zs.toArray) at_
  have lz : ((zs.map SrtO.iv).map V.int).length ≤ sizeLine := sm (by rw [List.length_map, a2.length_eq])
  refine wpAny_pure ⟨_, rfl, .ref g.objs.size, upd H g.objs.size (.lst ((zs.map SrtO.iv).map V.int)), J.laid (t' := tk) (fun b u hb => ?_) (Nat.le_refl _) (show ObjOk X.prog X.w _ _ _ (.lst ((zs.map SrtO.iv).map V.int)) from ⟨lz, zs, e, vals_of_ints a1, he⟩), rfl, q _ _ a2 a3 (J.hok.fresh (Nat.le_refl _))⟩
  have lb := Heap.lt_size hb
  exact (PyProof.Rows.sortedHeap_old (Nat.ne_of_lt lb) (by rw [size_push']; exact Nat.lt_succ_of_lt lb)).trans (Heap.get?_push_of_some _ hb)
variable {a : Expr} {fs f1 : Fm} {r : Res} {t : Tb} {pos p : Pos}
theorem ae_sortDI {ns : List Int} (hc : X.calm = true) (ha : AE X a fs f1 r) (e : r.d = dD t) (hk : gKs t = ns.map kI) (hz : ns.length ≤ 1000) (hg : Gl X "sorted") (hm : X.mg "sorted" = none)
    (na : starEach [a] X.env = (false, eval a X.env) :: starEach [] X.env := by rfl) : AE X (.Call (.Name "sorted" p) [a] [] pos) fs f1 (.new (.list ((srtI ns).map .int))) := by
  refine ⟨ha.ow, fun T σ H Q E q => bE_of (pe_callB (call_sortDI hc) hg hm PyProof.Rows.boot_sorted (pa_cons best pa_nil na) (he := na)) (ha.run T σ H _ E fun x H1 k1 p1 => ?_)⟩
  obtain ⟨g, kvs, rfl, s, rk⟩ := p1.dct p1.er (Kp.refl _ _) e
  refine ⟨g, kvs, ns, rfl, s, by rw [rk.keys, hk], hz, fun ys p hp hs n => ?_⟩
  rw [perm_pwI (hp.trans (srtI_perm ns).symm) hs (srtI_pw ns)]
  exact q _ _ (k1.trans (Kp.of (same_upd n))) (po_lst p1.er k1 ha.ow n (RpAll.ints _))
end
end A3
namespace A3
open PySem PySem.Spec PyProof.Rows L2
/-! ### an error that a name keeps behind the suite: its object stands in the context -/
abbrev pinX (X : Cx) (p : Addr × Obj) : Cx := { X with pn := p :: X.pn }
section
variable {X : Cx} {pins : List (Addr × Obj)} {σ : L2.St} {H : Hp} {s : Shared} {p : Addr × Obj}
def PinAt (X : Cx) (H : Hp) (s : Shared) (p : Addr × Obj) : Prop := s.heap.get? p.1 = some p.2 ∧ H p.1 = none ∧ p.1 ≠ X.env.locals ∧ p.1 ∉ X.fs ∧ ∀ v, p.2.data ≠ .cell v
theorem ok_pn {Y : Cx} (ok : X.Ok) (e : Y = { X with pn := Y.pn }) : Y.Ok := by
  rw [e]; exact ⟨ok.mod, ok.kind, ok.glob, ok.blt, ok.above, ok.inj, ok.has, ok.cab, ok.hd, ok.frames, ok.stk, ok.exf, ok.bs, ok.bsz, ok.noex, ok.exfs, ok.funs, ok.frf⟩
theorem pin_in (I : Inv X pins σ H s) (h : PinAt X H s p) : Inv (pinX X p) pins σ H s where
  ok := ok_pn I.ok rfl
  os := I.os
  bare := I.bare
  base := I.base
  loc := I.loc
  cell := I.cell
  free := I.free
  freeC := I.freeC
  pin := fun q hq => by
    rcases List.mem_cons.mp (show q ∈ p :: (X.pn ++ pins) from hq) with e | z
    · rw [e]; exact h
    · exact I.pin q z
  hok := I.hok
  len := I.len
theorem pin_out (I : Inv (pinX X p) pins σ H s) : Inv X pins σ H s where
  ok := ok_pn (X := pinX X p) I.ok rfl
  os := I.os
  bare := I.bare
  base := I.base
  loc := I.loc
  cell := I.cell
  free := I.free
  freeC := I.freeC
  pin := fun q hq => I.pin q (List.mem_cons_of_mem p hq)
  hok := I.hok
  len := I.len
theorem bSs_pin {sts : List Stmt} {D : Ends} (h : bSs (pinX X p) sts D σ H) (I : Inv X pins σ H s) (hp : PinAt X H s p) : wpAny (model X.prog X.w) X.A (execs sts X.env) (SP X pins D) X.xe s :=
  thn (h pins s (pin_in I hp)) fun fl s' q => by
    cases fl with
    | next => obtain ⟨a, b, J, z⟩ := q; exact ⟨a, b, pin_out J, z⟩
    | brk => obtain ⟨a, b, J, z⟩ := q; exact ⟨a, b, pin_out J, z⟩
    | cont => obtain ⟨a, b, J, z⟩ := q; exact ⟨a, b, pin_out J, z⟩
    | ret u => obtain ⟨v, a, b, J, z⟩ := q; exact ⟨v, a, b, pin_out J, z⟩
theorem Fn.pin {CXT' : CXT} {k : Nat} {x : Str} {f : Addr} {fd : FuncData} {ps : List Str} {ct : Ct} {cx : Cex} {dvs : List V} {dd : List PyData} (h : Fn X CXT' k x f fd ps ct cx dvs dd) : Fn (pinX X p) CXT' k x f fd ps ct cx dvs dd := ⟨h.ok, h.mg, h.kp, h.bd, h.df⟩
end
section
variable {X : Cx} {rest body suite : List Stmt} {c : Cf} {D : D3} {fs : Fm} {pos pos' np : Pos} {x n : Str} {C E0 : Addr}
/-- try: body except x as n: suite; the body raises C, the clause takes it, a name may keep it -/
theorem as_tryK {b0 : Stmt} (q : Nat) (gC : X.mg x = some (.ref E0)) (hm : PySem.W.exmOne X.K (.ref C) (.ref E0) = some true)
    (hb : ∀ (W : WX) (pn : List (Addr × Obj)) (xe : Value → Shared → Prop), L2N.Takes (X.tr pn xe) W → (∀ σ H, S3 X.K c σ H fs → W (.ref C) none σ H) → AS (X.tr pn xe) body c fs never)
    (hsu : ∀ (l : Addr) (oe : Obj) (pn : List (Addr × Obj)), L2N.Zn (.ref C) none oe → (∃ vs, oe.data = .fields vs) → AS (X.suite l ((l, oe) :: pn)) (b0 :: suite) c (fs.set q (.ref l)) { nx := fun f => AS (pinX X (l, oe)) rest c (f.set q .no) D, rt := D.rt })
    (hN : X.N.Nodup) (hi : X.N[q]? = some n := by rfl) (hs : X.stack = X.env :: X.outer := by rfl) (hf : X.env.frame = some X.env.locals := by rfl) (hln : X.env.kindOf n = some .local := by rfl) (hg : Gl X x := by rfl) (hdb : (x == ("__debug__" : Str)) = false := by decide) :
    AS X (.Try body [.ExceptHandler (some (.Name x np)) (some n) (b0 :: suite) pos'] [] [] pos :: rest) c fs D := by
  intro σ H S pins s I
  have ok := I.ok
  have frames : X.A.frames = some (X.env :: X.outer) := by rw [← hs]; exact ok.frames
  refine wpAny_execs_cons (wpAny_Try_except ?_)
  have run : ∀ (EE : Value → Shared → Prop) (QQ : Flow → Shared → Prop), L2N.Takes (X.tr (X.pn ++ pins) EE) (fun cls d σ1 H1 => cls = .ref C ∧ d = none ∧ S3 X.K c σ1 H1 fs) → wpAny (model X.prog X.w) X.A (execs body X.env) QQ EE s := fun EE QQ tk =>
    wpAny_mono (hb _ (X.pn ++ pins) EE tk (fun _ _ S1 => ⟨rfl, rfl, S1⟩) σ H S [] s (I.toTry _)) (fun fl s1 z => by
      cases fl with
      | next => obtain ⟨_, _, _, _, _, z⟩ := z; exact z.elim
      | brk => obtain ⟨_, _, _, _, _, z⟩ := z; exact z.elim
      | cont => obtain ⟨_, _, _, _, _, z⟩ := z; exact z.elim
      | ret u => obtain ⟨_, _, _, _, _, _, _, _, _, _, z⟩ := z; exact z.elim) (fun _ _ z => z)
  refine run _ _ fun u s1 air => ?_
  obtain ⟨l, B, sI, ps2, σ1, H1, cls, d, rfl, J0, nb, up, sky, nl, os, ag, rfl, rfl, S1⟩ := air
  have J : Inv X pins σ1 H1 sI := J0.ofTry ok
  have sky1 : L2.Sky B (X.env :: X.outer) l (L2N.Zn (.ref C) none) X.env.locals s1.heap := by rw [← hs]; exact sky
  show wpAny (model X.prog X.w) X.A (noteFrame (.ref l) X.env) _ _ s1
  refine L2N.Sky.land L2N.Zn.steady frames hf sky1 fun g fl up1 => ?_
  have Jg : Inv X pins σ1 H1 { s1 with heap := g } := J.landed nb fl.1 (up.trans up1) os ag
  obtain ⟨og, vg, eg, zg, dg⟩ := fl.there
  have far : l ∉ frs (X.env :: X.outer) := fun m => by
    obtain ⟨_, o2, e2, nd⟩ := (fl.2.2.1).mem m
    rw [eg] at e2; cases e2; exact nd _ dg
  have nL : l ≠ X.env.locals := fun z => far (List.mem_filterMap.mpr ⟨X.env, List.mem_cons_self, by rw [z]; exact hf⟩)
  have nF : l ∉ X.fs := fun m => by
    obtain ⟨e, m1, m2⟩ := List.mem_filterMap.mp m
    exact far (List.mem_filterMap.mpr ⟨e, List.mem_cons_of_mem _ m1, m2⟩)
  refine wpAny_handleBy_cons (codeAny_handlers_test ?_) (by intro z; cases z)
  have looks : PySem.W.Looks (model X.prog X.w) g (typeOf (.ref l)) (.ref C) := fun _ _ _ _ k2 q2 => wpAny_typeOf_ref (k2 _ _ eg) (by rw [zg.1]; exact q2)
  have takes_ := PySem.W.exm_one (M := model X.prog X.w) Jg.kIn looks hm
  refine ld_glob (X := X.suite l ((l, og) :: (X.pn ++ pins))) (Jg.suite eg dg nl nL nF) hg gC (takes_.here ?_) hdb
  refine codeAny_handlers_suite_as (HandSPX.lands_againZ fl fun g2 fl2 up2 => ?_)
  have J2 : Inv X pins σ1 H1 { s1 with heap := g2 } := J.landed nb fl2.1 ((up.trans up1).trans up2) os ag
  obtain ⟨oe, ve, ee, ze, de⟩ := fl2.there
  refine store_ok (X := X.suite l ((l, oe) :: (X.pn ++ pins))) (v := .ref l) (J2.suite ee de nl nL nF) hN hi (.inl hln) rfl (fun s5 T5 => ?_) (.inr hln)
  refine wpAny_mono (hsu l oe (X.pn ++ pins) ze ⟨_, de⟩ (σ1.set q (some (.ref l))) H1 S1.exc [] s5 T5) (fun f6 s6 r => ?_) (fun _ _ z => z.elim)
  have back : ∀ {σ6 : L2.St} {H6 : Hp}, Inv (X.suite l ((l, oe) :: (X.pn ++ pins))) [] σ6 H6 s6 → Inv X ((l, oe) :: pins) σ6 H6 s6 := fun {σ6 H6} T => ⟨ok, T.os, T.bare, T.base, T.loc, T.cell, T.free, T.freeC, fun p m => T.pin p (by
    rcases List.mem_append.mp m with m | m
    · exact List.mem_append_left _ (List.mem_cons_of_mem _ (List.mem_append_left _ m))
    · rcases List.mem_cons.mp m with e | m
      · rw [e]; exact List.mem_append_left _ List.mem_cons_self
      · exact List.mem_append_left _ (List.mem_cons_of_mem _ (List.mem_append_right _ m))), T.hok, T.len⟩
  have less : ∀ {σ6 : L2.St} {H6 : Hp} {s7 : Shared}, Inv X ((l, oe) :: pins) σ6 H6 s7 → Inv X pins σ6 H6 s7 := fun {σ6 H6 s7} T => ⟨ok, T.os, T.bare, T.base, T.loc, T.cell, T.free, T.freeC, fun p m => T.pin p (by
    rcases List.mem_append.mp m with m | m
    · exact List.mem_append_left _ m
    · exact List.mem_append_right _ (List.mem_cons_of_mem _ m)), T.hok, T.len⟩
  cases f6 with
  | next =>
    obtain ⟨σ6, H6, T6, f, S6, z⟩ := r
    refine gone_ok (back T6) hN hi hln fun s7 J7 => ?_
    exact bSs_pin (z _ H6 S6.gone) (less J7) (J7.pin (l, oe) (List.mem_append_right _ List.mem_cons_self))
  | ret u =>
    obtain ⟨v, σ6, H6, T6, rv, z⟩ := r
    exact gone_ok (back T6) hN hi hln fun s7 J7 => ⟨v, _, _, less J7, rv, z⟩
  | brk => obtain ⟨_, _, _, _, _, z⟩ := r; exact z.elim
  | cont => obtain ⟨_, _, _, _, _, z⟩ := r; exact z.elim
/-- a name that keeps an error is not None -/
theorem at_isNr (q : Nat) {l : Addr} {p1 p2 p3 : Pos} {k} (hs : fs[q]? = some (.ref l) := by rfl) (hN : X.N[q]? = some n := by rfl) (hv : Vis X.env.scope n := by first | exact .inl rfl | exact .inr (.inl rfl) | exact .inr (.inr rfl)) (hd : (n == ("__debug__" : Str)) = false := by decide) (hcd : (n == ("__classdict__" : Str)) = false := by decide) :
    AT X (.Compare (.Name n p1) [.Is] [.Constant .none k p2] p3) fs fs false := by
  refine ⟨rfl, fun T σ H Q E qq => bT_of (pt_cmpR op_isN best best (nomark _)) (pe_ref hs hN hv hd hcd E (bE_of pe_non ⟨rfl, false, ?_, qq H (Kp.refl _ _) E⟩))⟩
  congr 1
end
end A3
namespace A3
open PySem PySem.Spec PyProof.Rows L2 RZ
/-! ### l.extend(..) of a new list; l.pop(i) asked for; l.insert(i, l.pop(j)); text * n; text.count; [.. for x, y in zip(t, u)] -/
section
variable {X : Cx} {a b e o elt : Expr} {es ifs : List Expr} {rest : List Stmt} {c : Cf} {D : D3} {fs f1 f2 : Fm} {d d1 d2 : PyData} {ds ss : List PyData} {r : Res} {pos cpos apos p p2 tpos : Pos} {l : Addr} {elts : List Expr} {kk : Nat} {scope : Scope} {i : Int} {k : Nat}
/-- l.extend(e), e a new list -/
theorem as_ext (n : Nat) (ho : AE X o fs fs (.at l (.list ds))) (he : AE X e fs f1 (.new (.list ss))) (hz : ds.length + ss.length ≤ 100000) (hk : AS X rest c (f1.set n (.own l (.list (ds ++ ss)))) D) (hn : f1[n]? = some (.own l (.list ds)) := by rfl)
    (hpe : ∀ {to : TE} {t : TA}, PE X o to → PA X [e] t → PE X (.Call (.Attribute o "extend" apos) [e] [] cpos) (tBM X.K "list" rExtend to t) := by exact fun h1 h2 => pe_bm PySem.F.plainAttrs_list PySem.F.slot_list_extend PySem.F.type_list_extend mt_extend h1 h2)
    (hst : starEach [e] X.env = (false, eval e X.env) :: starEach [] X.env := by rfl) (hs : swapsWith (.Call (.Attribute o "extend" apos) [e] [] cpos) none pos.line X.env = pure false := by rfl) : AS X (.Expr (.Call (.Attribute o "extend" apos) [e] [] cpos) pos :: rest) c fs D :=
  fun σ H S => bSs_of (pss_cons (ps_expr (hpe best (pa_cons best pa_nil hst)) hs) bestSs) (ho.run c.T σ H _ S.er fun ov H1 k1 p1 => by
    obtain ⟨E1, rfl, j, hj⟩ := p1
    refine ⟨?_, he.run c.T σ H1 _ E1 fun v H2 k2 p2 => ?_⟩
    · obtain ⟨vs, hl, _⟩ := (E1.own hj).2
      exact .inl ⟨rfl, _, SqL.of hl⟩
    · have E2 := p2.er
      obtain ⟨g, rfl, ng, Eg, ws, hg, qw⟩ := p2
      obtain ⟨vs, hl, qv⟩ := (E2.own hn).2
      have S2 := S.step (k1.trans k2) E2 he.ow
      have il : l ∈ ownL f1 := mem_own hn
      have lg : l ≠ g := fun z => by
        subst z
        have := Eg.free (hide_self H2 l)
        exact (tt_false.mp this).2 il
      refine ⟨l, g, vs, ws, rfl, rfl, hl, hg, by rw [qv.length, qw.length]; exact Nat.le_trans hz (by rw [sizeLine_eq]; decide), hk _ _ ?_⟩
      have sm : Same (cut (hide H2 g) (tt c.T (ownL f1))) (cut H2 (tt c.T (ownL f1))) := cut_same fun b o e z => ⟨e, hide_same H2 g b o z⟩
      exact S2.step (fun b o nb h => by rw [upd_ne (fun z => nb (by rw [z]; exact il))]; exact h) (own_upd E2 hn (qv.app (qw.mono sm))) (ownL_put hn))
/-- l.pop(i), asked for -/
theorem ae_popE (n : Nat) (ho : AE X o fs fs (.at l (.list ds))) (ha : AD X [a] fs f1 [.int i]) (hz : ds.length ≤ 100000) (hi : i = (k : Int)) (hd : ds[k]? = some d) (hn : f1[n]? = some (.own l (.list ds)) := by rfl)
    (hpe : ∀ {to : TE} {t : TA}, PE X o to → PA X [a] t → PE X (.Call (.Attribute o "pop" apos) [a] [] cpos) (tBM X.K "list" rPopAt to t) := by exact fun h1 h2 => pe_bm PySem.F.plainAttrs_list PySem.F.slot_list_pop PySem.F.type_list_pop mt_popAt h1 h2) :
    AE X (.Call (.Attribute o "pop" apos) [a] [] cpos) fs (f1.set n (.own l (.list (ds.eraseIdx k)))) (.val d) := by
  have il : l ∈ ownL f1 := mem_own hn
  refine ⟨(ownL_put hn).trans ha.ow, fun T σ H Q E q => bE_of (hpe best bestA) (ho.run T σ H _ E fun ov H1 k1 p1 => ?_)⟩
  obtain ⟨E1, rfl, i1, hi1⟩ := p1
  refine ⟨?_, ha.run T σ H1 _ E1 fun vs H2 k2 E2 p2 => ?_⟩
  · obtain ⟨vs, hl, _⟩ := (E1.own hi1).2
    exact .inl ⟨rfl, _, SqL.of hl⟩
  · obtain ⟨vi, rfl, ri⟩ := p2.one_inv
    obtain ⟨vs, hl, qv⟩ := (E2.own hn).2
    have hlt := (List.getElem?_eq_some_iff.mp hd).1
    have hlen := qv.length
    obtain ⟨v, hv, rv⟩ := qv.get hd
    have qe : RpAll X.K (cut H2 (tt T (ownL f1))) (vs.eraseIdx k) (ds.eraseIdx k) := by
      rw [List.eraseIdx_eq_take_drop_succ, List.eraseIdx_eq_take_drop_succ]
      exact (qv.take k).app (qv.drop (k + 1))
    have kp : Kp H (upd H2 l (.lst (vs.eraseIdx k))) (ownL fs) := fun b u nb h => by
      have nl : b ≠ l := fun z => nb (by rw [z, ← ha.ow]; exact il)
      rw [upd_ne nl]
      exact (k1.trans k2) b u nb h
    refine ⟨l, vs, i, k, v, rfl, by rw [ri.int_inv], hl, by omega, by omega, ?_, hv, q v _ kp ⟨own_upd E2 hn qe, ?_⟩⟩
    · subst hi
      unfold seqIndex?
      simp
      omega
    · rw [ownL_put hn]
      exact rv.mono (cut_same fun b u e z => ⟨e, by rw [upd_ne (fun q => (tt_false.mp e).2 (by rw [q]; exact il))]; exact z⟩)
/-- l.insert(i, x), the list perhaps another one behind x -/
theorem as_ins2 {ds0 : List PyData} (n : Nat) (ho : AE X o fs fs (.at l (.list ds0))) (ha : AD X [a, e] fs f1 [.int i, d]) (hz : ds.length ≤ 100000) (h0 : 0 ≤ i) (h9 : i < 1000000000) (hk : AS X rest c (f1.set n (.own l (.list (ds.take i.toNat ++ [d] ++ ds.drop i.toNat)))) D) (hn : f1[n]? = some (.own l (.list ds)) := by rfl)
    (hpe : ∀ {to : TE} {t : TA}, PE X o to → PA X [a, e] t → PE X (.Call (.Attribute o "insert" apos) [a, e] [] cpos) (tBM X.K "list" rIns to t) := by exact fun h1 h2 => pe_bm PySem.F.plainAttrs_list PySem.F.slot_list_insert PySem.F.type_list_insert mt_insert h1 h2)
    (hs : swapsWith (.Call (.Attribute o "insert" apos) [a, e] [] cpos) none pos.line X.env = pure false := by rfl) : AS X (.Expr (.Call (.Attribute o "insert" apos) [a, e] [] cpos) pos :: rest) c fs D :=
  fun σ H S => bSs_of (pss_cons (ps_expr (hpe best bestA) hs) bestSs) (ho.run c.T σ H _ S.er fun ov H1 k1 p1 => by
    obtain ⟨E1, rfl, i1, hi⟩ := p1
    refine ⟨?_, ha.run c.T σ H1 _ E1 fun vs H2 k2 E2 p2 => ?_⟩
    · obtain ⟨vs, hl, _⟩ := (E1.own hi).2
      exact .inl ⟨rfl, _, SqL.of hl⟩
    · obtain ⟨vi, v, rfl, ri, rv⟩ := p2.two_inv
      obtain ⟨vs, hl, qv⟩ := (E2.own hn).2
      have S2 := S.step (k1.trans k2) E2 ha.ow
      refine ⟨l, vs, i, v, rfl, by rw [ri.int_inv], hl, by rw [qv.length]; exact Nat.lt_of_le_of_lt hz (by rw [sizeLine_eq]; decide), h0, by omega, hk _ _ ?_⟩
      have il : l ∈ ownL f1 := mem_own hn
      exact S2.step (fun b o nb h => by rw [upd_ne (fun z => nb (by rw [z]; exact il))]; exact h) (own_upd E2 hn (((qv.take i.toNat).snoc rv).app (qv.drop i.toNat))) (ownL_put hn))
/-! texts -/
def repN : Nat → List Nat → List Nat
  | 0, _ => []
  | n + 1, l => l ++ repN n l
theorem rep_cps (m : List Nat) : ∀ (n : Nat) (acc : Array Nat), (List.replicate n m.toArray).foldl (fun x y => x ++ y) acc = acc ++ (repN n m).toArray
  | 0, acc => by simp [repN]
  | n + 1, acc => by
    rw [List.replicate_succ, List.foldl_cons, rep_cps m n]
    simp [repN]
theorem op_repX : OpR X (binaryOp .Mult) (fun x y H Q => ∃ (m : List Nat) (n : Nat), x = .str (SX.S m) ∧ y = .int (n : Int) ∧ 1 ≤ m.length ∧ m.length ≤ 100 ∧ n ≤ 100 ∧ Q (.str (SX.S (repN n m))) H) := by
  rintro pins s σ H x y v u Q I rx ry ⟨m, n, rfl, rfl, m1, m2, n2, q⟩
  obtain ⟨t, rfl⟩ := rx
  obtain ⟨t', rfl⟩ := ry
  have lm : (SX.S m).length = m.length := SX.S_len m
  have small : ∀ k : Nat, k ≤ 100 → (repN k m).length ≤ 100 * k := fun k => by
    induction k with
    | zero => intro _; exact Nat.le_refl _
    | succ k ih => intro h; have := ih (by omega); show (m ++ repN k m).length ≤ _; rw [List.length_append]; omega
  refine P.mul_str (by rw [decide_eq_false (by omega), decide_eq_false (by omega)]; rfl) (fun h1 _ h => ?_) (fun h1 _ => ?_) ?_
  · rw [lm] at h
    have h3 := (Int.lt_ediv_iff_mul_lt (a := 2 ^ 63 - 1) (b := (m.length : Int) - 1) (c := (n : Int)) (by omega))
    have h4 : ((m.length : Int)) * (n : Int) ≤ 10000 := by
      have a1 : m.length * n ≤ 100 * 100 := Nat.mul_le_mul m2 n2
      rw [← Int.natCast_mul]; omega
    have h5 := Int.le_ediv_of_mul_le (a := (m.length : Int)) (b := 2 ^ 63 - 1) (c := (n : Int)) (by omega) (by omega)
    omega
  · rw [lm]
    unfold PySem.Builtin.Str.tooLong
    have a1 : m.length * n ≤ 100 * 100 := Nat.mul_le_mul m2 n2
    rw [Int.toNat_natCast, sizeLine_eq]
    exact decide_eq_false (by omega)
  · by_cases h1 : (n : Int) < 1
    · rw [if_pos h1]
      have e : n = 0 := by omega
      subst e
      refine And.intro (show Str.empty.length ≤ sizeLine by rw [sizeLine_eq]; decide) ?_
      exact ⟨.str (SX.S (repN 0 m)), H, I.tok _, ⟨_, rfl⟩, q⟩
    · rw [if_neg h1]
      by_cases h2 : (n : Int) == 1 || (SX.S m).length == 0
      · rw [if_pos h2]
        rw [lm, Bool.or_eq_true, beq_iff_eq, beq_iff_eq] at h2
        have e : n = 1 := by omega
        subst e
        have e2 : repN 1 m = m := by simp [repN]
        rw [e2] at q
        exact ⟨.str (SX.S m), H, I, ⟨_, rfl⟩, q⟩
      · rw [if_neg h2, Int.toNat_natCast]
        have e3 : ((List.replicate n (SX.S m).cps).foldl (fun x y => x ++ y) #[] : Array Nat) = (repN n m).toArray := by rw [rep_cps m n]; simp
        rw [e3]
        have := small n n2
        refine And.intro (show (SX.S (repN n m)).length ≤ sizeLine by rw [SX.S_len, sizeLine_eq]; omega) ?_
        exact ⟨.str (SX.S (repN n m)), H, I.tok _, ⟨_, rfl⟩, q⟩
/-- text * n -/
theorem ae_repX {m : List Nat} {n : Nat} (ha : AE X a fs f1 (.val (sD m))) (hb : AE X b f1 f2 (.val (.int i))) (hi : i = (n : Int)) (m1 : 1 ≤ m.length) (m2 : m.length ≤ 100) (n2 : n ≤ 100) : AE X (.BinOp a .Mult b pos) fs f2 (.val (sD (repN n m))) :=
  ae_rule2 op_repX ha hb fun S H2 x y Q _ rx ry q => ⟨m, n, rx.str_inv, by rw [ry.int_inv, hi], m1, m2, n2, q _ fun _ => .str _⟩
def cntN (m : List Nat) (ch : Nat) : Nat := m.countP fun x => decide (x = ch)
theorem cnt_is (ch : Nat) : ∀ m : List Nat, PyProof.Rows.cnt ch m = (cntN m ch : Int)
  | [] => rfl
  | x :: r => by
    rw [PyProof.Rows.cnt_cons, cnt_is ch r]
    unfold cntN
    rw [List.countP_cons]
    by_cases h : x = ch
    · rw [if_pos h, if_pos (decide_eq_true h)]; omega
    · rw [if_neg h, if_neg (by simpa using h)]; omega
/-- text.count(sign) -/
theorem ae_cntX {m : List Nat} {ch : Nat} (ha : AE X a fs f1 (.val (sD m))) (hb : AE X b f1 f2 (.val (sD [ch]))) (hs : starEach [b] X.env = [(false, eval b X.env)] := by rfl)
    (hbase : attributeBase a "count" X.env (eval a X.env) = eval a X.env := by rfl) (hline : (apos.endLine == pos.line) = true := by rfl) : AE X (.Call (.Attribute a "count" apos) [b] [] pos) fs f2 (.val (.int (cntN m ch : Int))) := by
  refine ⟨hb.ow.trans ha.ow, fun T σ H Q E q => bE_of (pe_m1 PySem.F.slot_str_count PySem.F.type_str_count mt_count best best hs hbase hline) (ha.run T σ H _ E fun x H1 k1 p1 => ⟨⟨_, p1.2.str_inv⟩, hb.run T σ H1 _ p1.er fun y H2 k2 p2 => ?_⟩)⟩
  have kk : Kp H1 H2 (ownL fs) := by rw [ha.ow] at k2; exact k2
  have e : Txt.count (SX.S m) ⟨#[ch]⟩ = (cntN m ch : Int) := (PyProof.Rows.count_cnt _ _).trans (cnt_is ch m)
  refine ⟨SX.S m, ⟨#[ch]⟩, p1.2.str_inv, by rw [p2.2.str_inv], ?_⟩
  rw [e]
  exact q _ H2 (k1.trans kk) ⟨p2.1, .int _⟩
/-! [.. for x, y in zip(t, u)], tuples -/
def zipM (ds ss : List PyData) : List PyData := (List.range (min ds.length ss.length)).map fun (i : Nat) => PyData.tuple [ds.getD i .none, ss.getD i .none]
theorem zipM_len (ds ss : List PyData) : (zipM ds ss).length = min ds.length ss.length := by simp [zipM]
theorem zipM_get {q : Nat} (h : q < min ds.length ss.length) : (zipM ds ss)[q]? = some (.tuple [ds.getD q .none, ss.getD q .none]) := by
  unfold zipM
  rw [List.getElem?_map, List.getElem?_range h]; rfl
theorem zipM_inv {q : Nat} (h : (zipM ds ss)[q]? = some d) : ∃ x y, ds[q]? = some x ∧ ss[q]? = some y ∧ d = .tuple [x, y] := by
  have lt : q < min ds.length ss.length := by
    have := (List.getElem?_eq_some_iff.mp h).1
    rw [zipM_len] at this; exact this
  have l1 : q < ds.length := by omega
  have l2 : q < ss.length := by omega
  rw [zipM_get lt] at h
  refine ⟨ds[q], ss[q], List.getElem?_eq_getElem l1, List.getElem?_eq_getElem l2, (Option.some.inj h).symm.trans ?_⟩
  rw [List.getD_eq_getElem?_getD, List.getElem?_eq_getElem l1, List.getD_eq_getElem?_getD, List.getElem?_eq_getElem l2]; rfl
theorem compR_zip {vs : List Nat} {F : Nat → Fm} {y : Nat → Option PyData} {tg : Expr} (ha : AD X [a, b] fs f1 [.tuple ds, .tuple ss]) (hz : ds.length ≤ 100000) (F0 : F 0 = wipeF f1 vs) (Fo : ∀ i, ownL (F i) = ownL f1) (hs : ∀ i d, (zipM ds ss)[i]? = some d → TurnC X scope vs tg ifs elt d (F i) (F (i + 1)) (y i)) (bk : BackR f1 (F (zipM ds ss).length) f2) :
    CompR X fs f2 (.list (madeC y (zipM ds ss).length)) (tLc (iZipA X.K (bA X [a, b])) (gB X scope tg) (iB X scope ifs) (eB X scope elt) vs) := by
  refine ⟨bk.own.trans ha.ow, fun T σ H Q E q => ha.run T σ H _ E fun ws H1 k1 E1 rl => ?_⟩
  cases rl with
  | cons ra rr => cases rr with
    | cons rb rr =>
      cases rr
      obtain ⟨l1, xs, rfl, s1, q1⟩ := ra.tup_inv
      obtain ⟨l2, ys, rfl, s2, q2⟩ := rb.tup_inv
      have n1 := q1.length
      have n2 := q2.length
      have up : Same (cut H1 (tt T (ownL f1))) (cut H1 fun b => decide (b ∈ ownL f1)) := cut_same fun b o e z => ⟨decide_eq_false (tt_false.mp e).2, z⟩
      have t1 : SqT X.K (cut H1 fun b => decide (b ∈ ownL f1)) l1 xs := sqT_same up s1
      have t2 : SqT X.K (cut H1 fun b => decide (b ∈ ownL f1)) l2 ys := sqT_same up s2
      refine ⟨l1, l2, xs, ys, rfl, .inr ⟨sqT_same (cut_all _ _) s1, sqT_same (cut_all _ _) s2, fun D nD => ?_⟩⟩
      refine comp_core (ds := zipM ds ss) (F := F) (y := y) E1 nD (by rw [zipM_len]; omega) F0 Fo (fun G g k lt => ?_) (fun G g => ?_) (fun G g k w G' lt y => ?_) hs (fun H' k E2 z => ?_)
      · rw [zipM_len] at lt
        exact ⟨xs, ys, xs[k]'(by omega), ys[k]'(by omega), sqT_same g t1, sqT_same g t2, by simp, by simp⟩
      · refine ⟨xs, ys, sqT_same g t1, sqT_same g t2, ?_⟩
        rw [zipM_len]; omega
      · rw [zipM_len] at lt
        obtain ⟨N, x, y, rfl, nN, rfl, hx, hy⟩ := y
        obtain ⟨dx, hdx, rx⟩ := q1.get2 (hx xs (sqT_same g t1))
        obtain ⟨dy, hdy, ry⟩ := q2.get2 (hy ys (sqT_same g t2))
        refine ⟨same_upd nN, _, zipM_get lt, fun T' τ f E2 ef et => ?_⟩
        rw [show ds.getD k .none = dx by rw [List.getD_eq_getElem?_getD, hdx]; rfl, show ss.getD k .none = dy by rw [List.getD_eq_getElem?_getD, hdy]; rfl]
        have mv : Same (cut H1 (tt T (ownL f1))) (cut (upd G N (.tup [x, y])) (tt T' (ownL f))) := fun b o h => by
          obtain ⟨e1, e2⟩ := cut_some h
          obtain ⟨e3, e4⟩ := tt_false.mp e1
          have gb := g b o (cut_of (decide_eq_false e4) e2)
          have bN : b ≠ N := fun z => by rw [z, nN] at gb; cases gb
          refine cut_of (tt_false.mpr ⟨?_, by rw [ef]; exact e4⟩) (by rw [upd_ne bN]; exact gb)
          cases hT : T' b with
          | false => rfl
          | true =>
            rcases et b hT with z | z
            · rw [e3] at z; cases z
            · rw [e2] at z; cases z
        have fN := E2.free nN
        exact .tup (xs := [x, y]) (.inl (.inl (cut_of fN upd_same))) (.cons (rx.mono mv) (.cons (ry.mono mv) .nil))
      · obtain ⟨r1, r2⟩ := comp_end E1 k1 ha.ow nD k E2 (Fo _) bk z
        exact q _ _ r1 r2
theorem ae_lcZ {F : Nat → Fm} (own : List (Str × Nat)) (y : Nat → Option PyData) (hN : X.N.Nodup) (ha : AD X [a, b] fs f1 [.tuple ds, .tuple ss]) (F0 : F 0 = wipeF f1 (own.map (·.2))) (Fo : ∀ i, ownL (F i) = ownL f1) (hs : ∀ i d, (zipM ds ss)[i]? = some d → TurnC X scope (own.map (·.2)) (.Tuple elts kk tpos) ifs elt d (F i) (F (i + 1)) (y i)) (bk : BackL f1 (F (zipM ds ss).length) f2)
    (hz : ds.length ≤ 100000) (hm : X.mg "zip" = none) (hg : Gl X "zip" := by rfl) (hc : X.calm = true := by rfl) (ok : blkC X.N X.env.scope scope own = true := by first | decide +kernel | rfl) (hst : starEach [a, b] X.env = (false, eval a X.env) :: starEach [b] X.env := by rfl) (hpl : (backTo p2 (starEach [b] X.env)).any (·.1) = false := by rfl)
    (hf : ∀ x, foldedSetIterable (.Call (.Name "zip" p) [a, b] [] p2) X.env x = pure x := by intro _; rfl) :
    AE X (.ListComp elt [⟨.Tuple elts kk tpos, .Call (.Name "zip" p) [a, b] [] p2, ifs, 0⟩] scope pos) fs f2 (.new (.list (madeC y (zipM ds ss).length))) :=
  let R := compR_zip (X := X) (scope := scope) (tg := .Tuple elts kk tpos) (ifs := ifs) (elt := elt) ha hz F0 Fo hs bk.back
  ⟨R.ow, fun T σ H Q E q => bE_of (pe_lc hc hN (pi_zipA hg hm bestA hst hpl) (blkOk_by ok) gB_ok iB_ok eB_ok hf) (R.run T σ H Q E q)⟩
/-- x = [.. for a, b in zip(t, u)], owned -/
theorem as_lcZ {py : Pos} {F : Nat → Fm} (n : Nat) (own : List (Str × Nat)) (y : Nat → Option PyData) (hN : X.N.Nodup) (ha : AD X [a, b] fs f1 [.tuple ds, .tuple ss]) (F0 : F 0 = wipeF f1 (own.map (·.2))) (Fo : ∀ i, ownL (F i) = ownL f1) (hs : ∀ i d, (zipM ds ss)[i]? = some d → TurnC X scope (own.map (·.2)) (.Tuple elts kk tpos) ifs elt d (F i) (F (i + 1)) (y i)) (bk : BackL f1 (F (zipM ds ss).length) f2)
    (hz : ds.length ≤ 100000) (hk : ∀ l, l ∉ c.ws → l ∉ ownL f2 → AS X rest c (f2.set n (.own l (.list (madeC y (zipM ds ss).length)))) D3') (hm : X.mg "zip" = none) (hy : X.N[n]? = some x := by rfl) (hyl : X.env.scope.names.lookup x = some .local := by rfl) (hg : Gl X "zip" := by rfl) (hc : X.calm = true := by rfl) (ok : blkC X.N X.env.scope scope own = true := by first | decide +kernel | rfl) (hst : starEach [a, b] X.env = (false, eval a X.env) :: starEach [b] X.env := by rfl) (hpl : (backTo p2 (starEach [b] X.env)).any (·.1) = false := by rfl)
    (hsw : swapsWith (.ListComp elt [⟨.Tuple elts kk tpos, .Call (.Name "zip" p) [a, b] [] p2, ifs, 0⟩] scope pos) (some (.Name x py)) spos.line X.env = pure true := by exact sw_true rfl rfl rfl (by decide +kernel)) (hf : ∀ x, foldedSetIterable (.Call (.Name "zip" p) [a, b] [] p2) X.env x = pure x := by intro _; rfl) :
    AS X (.Assign [.Name x py] (.ListComp elt [⟨.Tuple elts kk tpos, .Call (.Name "zip" p) [a, b] [] p2, ifs, 0⟩] scope pos) spos :: rest) c fs D3' :=
  as_comp n (compR_zip (X := X) (scope := scope) (tg := .Tuple elts kk tpos) (ifs := ifs) (elt := elt) ha hz F0 Fo hs bk.back) (ps_setLc hc hN hy hyl hsw (pi_zipA hg hm bestA hst hpl) (blkOk_by ok) gB_ok iB_ok eB_ok hf) hk
/-- x = e, e the name of an error -/
theorem as_setR {x n : Str} {l : Addr} {np pos' : Pos} (k q : Nat) (hk : AS X rest c (fs.set k (.ref l)) D) (hN : X.N.Nodup) (hs : fs[q]? = some (.ref l) := by rfl) (hq : X.N[q]? = some n := by rfl) (hv : Vis X.env.scope n := by first | exact .inl rfl | exact .inr (.inl rfl) | exact .inr (.inr rfl)) (hd : (n == ("__debug__" : Str)) = false := by decide) (hcd : (n == ("__classdict__" : Str)) = false := by decide)
    (hi : X.N[k]? = some x := by rfl) (hx : Loc X.env.scope x := by first | exact .inl rfl | exact .inr rfl) (hsw : swapsWith (.Name n np) (some (.Name x pos')) pos.line X.env = pure false := by rfl) (hf : X.fn x = true ∨ X.env.scope.names.lookup x = some .local := by first | exact .inl rfl | exact .inr rfl) :
    AS X (.Assign [.Name x pos'] (.Name n np) pos :: rest) c fs D :=
  fun σ H S => bSs_of (pss_cons (ps_set hN hi hx best hsw hf) bestSs) (pe_ref hs hq hv hd hcd S.er (hk _ _ S.exc))
end
end A3
namespace A3
open PySem PySem.Spec PyProof.Rows L2
/-! ### instances: their parts -/
section
variable {K : PySem.W.Frag} {S S' H H' : Hp} {α : Type}
theorem frk_some [BEq α] {vs : List (α × V)} {fs : List (α × Fld)} {x : α} {fl : Fld} (h : FrK K S vs fs) (e : fs.lookup x = some fl) : ∃ v, vs.lookup x = some v ∧ FldR K S v fl := by
  induction h with
  | nil => cases e
  | @cons k v f vs fs r _ ih =>
    rw [List.lookup_cons] at e ⊢
    cases hk : x == k with
    | true => rw [hk] at e; cases Option.some.inj e; exact ⟨v, rfl, r⟩
    | false => rw [hk] at e; exact ih e
theorem frk_none [BEq α] {vs : List (α × V)} {fs : List (α × Fld)} {x : α} (h : FrK K S vs fs) (e : fs.lookup x = none) : vs.lookup x = none := by
  induction h with
  | nil => rfl
  | @cons k v f vs fs r _ ih =>
    rw [List.lookup_cons] at e ⊢
    cases hk : x == k with
    | true => rw [hk] at e; cases e
    | false => rw [hk] at e; exact ih e
theorem frk_len {vs : List (α × V)} {fs : List (α × Fld)} (h : FrK K S vs fs) : vs.length = fs.length := by
  induction h with
  | nil => rfl
  | cons _ _ ih => exact congrArg (· + 1) ih
/-- a part of the name f is told anew -/
def putG (f : Str) (v : Fld) : List (Str × Fld) → List (Str × Fld)
  | [] => [(f, v)]
  | (g, x) :: r => if g = f then (g, v) :: r else (g, x) :: putG f v r
theorem frk_put {vs : List (Str × V)} {fs : List (Str × Fld)} {f : Str} {v : V} {fl : Fld} (h : FrK K S vs fs) (r : FldR K S v fl) : FrK K S (putF f v vs) (putG f fl fs) := by
  induction h with
  | nil => exact .cons r .nil
  | @cons k w g vs fs a b ih =>
    unfold putF putG
    by_cases e : k = f
    · rw [if_pos e, if_pos e]; exact .cons r b
    · rw [if_neg e, if_neg e]; exact .cons a ih
end
section
variable {X : Cx} {a b c e o : Expr} {es : List Expr} {rest body sts : List Stmt} {cf : Cf} {D : D3} {fs F f1 f2 : Fm} {d d1 d2 : PyData} {ds : List PyData} {r : Res} {pos pos' apos p px py tpos : Pos} {T : Addr → Bool} {σ σ' : L2.St} {H H1 H' : Hp} {l g C : Addr} {x y f m : Str} {s s' : Slot} {flds : List (Str × Fld)}
/-- x.f, data -/
theorem ae_mf (n : Nat) (cl : Cls X.K C) (na : NoAttr X.K C f) (hn : fs[n]? = some (.mix l (.ins C flds)) := by rfl) (hl : flds.lookup f = some (.dat d) := by rfl) (hN : X.N[n]? = some x := by rfl) (hv : Vis X.env.scope x := by first | exact Or.inl rfl | exact Or.inr (Or.inl rfl) | exact Or.inr (Or.inr rfl))
    (hd : (x == ("__debug__" : Str)) = false := by decide) (hcd : (x == ("__classdict__" : Str)) = false := by decide) (hb : attributeBase (.Name x px) f X.env (eval (.Name x px) X.env) = eval (.Name x px) X.env := by rfl) : AE X (.Attribute (.Name x px) f pos) fs fs (.val d) := by
  refine ⟨rfl, fun T σ H Q E q => bE_inv fun L => bE_of (pe_fld (pe_var hN hv hd hcd) hb) ?_⟩
  obtain ⟨e1, dx, vs, hh, fr⟩ := E.mix hn
  obtain ⟨v, hv, rv⟩ := frk_some fr hl
  exact ⟨.ref l, e1 (by rw [L]; exact (List.getElem?_eq_some_iff.mp hN).1), l, C, dx, vs, v, rfl, hh, cl, na, hv, q v H (Kp.refl _ _) ⟨E, rv⟩⟩
/-- x.f, what another slot tells -/
theorem ae_mfA (n k : Nat) (cl : Cls X.K C) (na : NoAttr X.K C f) (hn : fs[n]? = some (.mix l (.ins C flds)) := by rfl) (hl : flds.lookup f = some (.at g) := by rfl) (hk : fs[k]? = some (.own g d) := by rfl) (hN : X.N[n]? = some x := by rfl) (hv : Vis X.env.scope x := by first | exact Or.inl rfl | exact Or.inr (Or.inl rfl) | exact Or.inr (Or.inr rfl))
    (hd : (x == ("__debug__" : Str)) = false := by decide) (hcd : (x == ("__classdict__" : Str)) = false := by decide) (hb : attributeBase (.Name x px) f X.env (eval (.Name x px) X.env) = eval (.Name x px) X.env := by rfl) : AE X (.Attribute (.Name x px) f pos) fs fs (.at g d) := by
  refine ⟨rfl, fun T σ H Q E q => bE_inv fun L => bE_of (pe_fld (pe_var hN hv hd hcd) hb) ?_⟩
  obtain ⟨e1, dx, vs, hh, fr⟩ := E.mix hn
  obtain ⟨v, hv, rv⟩ := frk_some fr hl
  cases (show v = .ref g from rv)
  exact ⟨.ref l, e1 (by rw [L]; exact (List.getElem?_eq_some_iff.mp hN).1), l, C, dx, vs, .ref g, rfl, hh, cl, na, hv, q _ H (Kp.refl _ _) ⟨E, rfl, k, hk⟩⟩
/-- an instance's part is written -/
theorem er_fset {K : PySem.W.Frag} {n : Nat} {fl : Fld} {dx : Addr} {vs : List (Str × V)} {v : V} (E : ER K T σ H fs) (hn : fs[n]? = some (.mix l (.ins C flds))) (hh : H l = some (.ins C dx vs)) (fr : FrK K (cut H (tt T (ownL fs))) vs flds) (r : FldR K (cut H (tt T (ownL fs))) v fl) :
    ER K T σ (upd H l (.ins C dx (putF f v vs))) (fs.set n (.mix l (.ins C (putG f fl flds)))) := by
  have il : l ∈ ownL fs := mem_mix hn
  have up : Same (cut H (tt T (ownL fs))) (cut (upd H l (.ins C dx (putF f v vs))) (tt T (ownL fs))) := cut_same fun b o e z => ⟨e, by rw [upd_ne (fun q => (tt_false.mp e).2 (by rw [q]; exact il))]; exact z⟩
  exact E.putS (u := .mix l (.ins C (putG f fl flds))) hn rfl rfl (fun b o nb z => by rw [upd_ne nb]; exact z) ⟨rfl, dx, _, upd_same, frk_put (fr.lk (same_lk up)) (r.lk (same_lk up))⟩
/-- x.f = e, data -/
theorem as_fset (n : Nat) (cl : Cls X.K C) (na : NoAttr X.K C f) (he : AE X e fs f1 (.val d)) (hk : AS X rest cf (f1.set n (.mix l (.ins C (putG f (.dat d) flds)))) D) (hn : f1[n]? = some (.mix l (.ins C flds)) := by rfl) (hN : X.N[n]? = some x := by rfl) (hz : flds.length ≤ 100 := by exact Nat.le_of_ble_eq_true rfl)
    (hv : Vis X.env.scope x := by first | exact Or.inl rfl | exact Or.inr (Or.inl rfl) | exact Or.inr (Or.inr rfl)) (hd : (x == ("__debug__" : Str)) = false := by decide) (hcd : (x == ("__classdict__" : Str)) = false := by decide) (hs : swapsWith e (some (.Attribute (.Name x px) f tpos)) pos.line X.env = pure false := by rfl) :
    AS X (.Assign [.Attribute (.Name x px) f tpos] e pos :: rest) cf fs D :=
  fun σ H S => bSs_inv fun L => bSs_of (pss_cons (ps_fld (pe_var hN hv hd hcd) best hs) bestSs) (he.run cf.T σ H _ S.er fun v H1 k1 p1 => by
    obtain ⟨E1, rv⟩ := p1
    obtain ⟨e1, dx, vs, hh, fr⟩ := E1.mix hn
    refine ⟨.ref l, e1 (by rw [L]; exact (List.getElem?_eq_some_iff.mp hN).1), l, C, dx, vs, rfl, hh, cl, na, by rw [frk_len fr]; omega, hk _ _ ?_⟩
    have S1 := S.step k1 E1 he.ow
    have il : l ∈ ownL f1 := mem_mix hn
    exact S1.step (fun b o nb z => by rw [upd_ne (fun q => nb (by rw [q]; exact il))]; exact z) (er_fset E1 hn hh fr rv) (ownL_putS hn rfl))
/-- x.f = e, a new list or dict that will be written -/
theorem as_fnew (n : Nat) (cl : Cls X.K C) (na : NoAttr X.K C f) (he : AE X e fs f1 (.new d)) (hk : ∀ g, g ∉ cf.ws → g ∉ ownL f1 → AS X rest cf (f1.set n (.mix l (.ins C (putG f (.at g) flds))) ++ [.own g d]) D) (hn : f1[n]? = some (.mix l (.ins C flds)) := by rfl) (hN : X.N[n]? = some x := by rfl) (hz : flds.length ≤ 100 := by exact Nat.le_of_ble_eq_true rfl) (hlen : X.N.length ≤ f1.length := by exact Nat.le_of_ble_eq_true rfl)
    (hv : Vis X.env.scope x := by first | exact Or.inl rfl | exact Or.inr (Or.inl rfl) | exact Or.inr (Or.inr rfl)) (hd : (x == ("__debug__" : Str)) = false := by decide) (hcd : (x == ("__classdict__" : Str)) = false := by decide) (hs : swapsWith e (some (.Attribute (.Name x px) f tpos)) pos.line X.env = pure false := by rfl) :
    AS X (.Assign [.Attribute (.Name x px) f tpos] e pos :: rest) cf fs D :=
  fun σ H S => bSs_inv fun L => bSs_of (pss_cons (ps_fld (pe_var hN hv hd hcd) best hs) bestSs) (he.run cf.T σ H _ S.er fun v H1 k1 p1 => by
    obtain ⟨g, rfl, ng, E1, w⟩ := p1
    have hl : σ.length ≤ f1.length := by rw [L]; exact hlen
    have ln : n < f1.length := (List.getElem?_eq_some_iff.mp hn).1
    have E2 := er_push E1 w hl
    have hn2 : (f1 ++ [.own g d])[n]? = some (.mix l (.ins C flds)) := by rw [List.getElem?_append_left ln]; exact hn
    obtain ⟨e1, dx, vs, hh, fr⟩ := E2.mix hn2
    refine ⟨.ref l, e1 (by rw [L]; exact (List.getElem?_eq_some_iff.mp hN).1), l, C, dx, vs, rfl, hh, cl, na, by rw [frk_len fr]; omega, ?_⟩
    have E3 := er_fset (f := f) (fl := .at g) (v := .ref g) E2 hn2 hh fr rfl
    rw [List.set_append_left _ _ ln] at E3
    have ngl : g ∉ ownL f1 := (tt_false.mp (E1.free (hide_self H1 g))).2
    refine hk g (S.not_ws ng) ngl _ _ ?_
    have il : l ∈ ownL f1 := mem_mix hn
    have kU : Kp H (upd H1 l (.ins C dx (putF f (.ref g) vs))) (ownL fs) := fun b o nb hb => by
      rw [upd_ne (fun q => nb (by rw [q, ← he.ow]; exact il))]; exact k1 b o nb hb
    have E4 : ER X.K cf.T σ (upd H1 l (.ins C dx (putF f (.ref g) vs))) (f1.set n (.mix l (.ins C (putG f (.at g) flds)))) := er_pop E3 (by rw [List.length_set]; exact hl)
    refine S.many kU ((ownL_putS (u := .mix l (.ins C (putG f (.at g) flds))) hn rfl).trans he.ow) E4 E3 fun z hz => ?_
    rw [ownL_app] at hz
    rcases List.mem_append.mp hz with q | q
    · exact .inl q
    · have : z = g := by simpa [ownL] using q
      rw [this]; exact .inr ng)
/-! ### an owned object lent, with the ghosts behind it, to a def or a method -/
def lendX (s : Slot) (ds : List PyData) (g : Fm) : Fm := s :: (ds.map .dat ++ (.no :: g))
theorem lendX_own {gs : Fm} (ea : adr s = some l) : ownL (lendX s ds gs) = l :: ownL gs := by
  show ownL (s :: (ds.map Slot.dat ++ (.no :: gs))) = _
  rw [ownL_cons, ea, ownL_app, ownL_dats]; rfl
theorem lendX_gh {gs : Fm} (j : Nat) : (lendX s ds gs)[j + (ds.length + 2)]? = gs[j]? := by
  show (s :: (ds.map Slot.dat ++ (.no :: gs)))[(j + (ds.length + 1)) + 1]? = _
  rw [List.getElem?_cons_succ, List.getElem?_append_right (by rw [List.length_map]; omega), List.length_map, show j + (ds.length + 1) - ds.length = j + 1 by omega, List.getElem?_cons_succ]
theorem nA_lendX {gs : Fm} (ea : adr s = some l) : nA (lendX s ds gs) = ds.length + 1 := by
  cases s <;> first | cases ea; done | exact congrArg (· + 1) (nA_dats ds gs)
theorem er_lendX {K : PySem.W.Frag} {n i : Nat} {vs : List V} (E : ER K T σ H F) (hn : F[n]? = some s) (ea : adr s = some l) (hni : n < i) (p : RpAll K (cut H (tt T (ownL F))) vs ds) :
    ER K (lent T (ownL F) (ownL (lendX s ds (F.drop i)))) ((V.ref l :: vs).map some) H (lendX s ds (F.drop i)) := by
  have hl := p.length
  have e1 : ownL F = ownL (F.take i) ++ ownL (F.drop i) := by rw [← ownL_app, List.take_append_drop]
  have lt : l ∈ ownL (F.take i) := mem_ownL.mpr ⟨n, _, by rw [List.getElem?_take, if_pos hni]; exact hn, ea⟩
  have sub : ∀ b ∈ ownL (lendX s ds (F.drop i)), b ∈ ownL F := fun b hb => by
    rw [lendX_own ea] at hb
    rw [e1]
    rcases List.mem_cons.mp hb with rfl | hb
    · exact List.mem_append_left _ lt
    · exact List.mem_append_right _ hb
  have e := lent_tt (T := T) (l := ownL F) (m := ownL (lendX s ds (F.drop i))) sub
  have ll : ((V.ref l :: vs).map some).length = ds.length + 1 := by rw [List.length_map, List.length_cons, hl]
  refine ⟨?_, fun j u hj => ?_, ?_, fun a ha => ?_, fun b hb => ?_⟩
  · rw [ll]; show _ ≤ (ds.map Slot.dat ++ (.no :: F.drop i)).length + 1; rw [List.length_append, List.length_map]; omega
  · rw [e]
    cases j with
    | zero =>
      cases Option.some.inj hj
      obtain ⟨ov, _, h2⟩ := E.sl n s hn
      obtain ⟨rfl, _⟩ := h2.adr ea
      exact ⟨some (.ref l), fun _ => rfl, h2⟩
    | succ j =>
      rcases Nat.lt_trichotomy j ds.length with c | c | c
      · have hj : (ds.map Slot.dat ++ (.no :: F.drop i))[j]? = some u := hj
        rw [List.getElem?_append_left (by rw [List.length_map]; exact c), List.getElem?_map] at hj
        obtain ⟨d, hd, rfl⟩ := Option.map_eq_some_iff.mp hj
        obtain ⟨v, hv, r⟩ := rpAll_get p j d hd
        exact ⟨some v, fun _ => by rw [List.map_cons, List.getElem?_cons_succ, List.getElem?_map, hv]; rfl, r⟩
      · have hj : (ds.map Slot.dat ++ (.no :: F.drop i))[j]? = some u := hj
        rw [List.getElem?_append_right (by rw [List.length_map]; omega), List.length_map, c, Nat.sub_self] at hj
        cases Option.some.inj hj
        exact ⟨none, fun h => absurd h (by omega), trivial⟩
      · obtain ⟨j', rfl⟩ : ∃ j', j = j' + (ds.length + 1) := ⟨j - (ds.length + 1), by omega⟩
        have hj := (lendX_gh (s := s) (ds := ds) (gs := F.drop i) j').symm.trans hj
        rw [List.getElem?_drop] at hj
        obtain ⟨ov, _, h2⟩ := E.sl _ u hj
        exact ⟨ov, fun h => absurd h (by omega), h2⟩
  · rw [lendX_own ea]
    have nd := E.nd
    rw [e1] at nd
    obtain ⟨_, n2, n3⟩ := List.nodup_append.mp nd
    exact List.nodup_cons.mpr ⟨fun z => n3 _ lt _ z rfl, n2⟩
  · unfold lent; simp [ha]
  · have hb' : tt T (ownL F) b = true := by unfold lent at hb; exact (Bool.and_eq_true_iff.mp hb).1
    obtain ⟨o, ho⟩ := E.there hb'
    rw [ho]; exact fun z => by cases z
theorem er_backX {K : PySem.W.Frag} {n i : Nat} {τ : L2.St} {G' : Fm} (E : ER K T σ H F) (hn : F[n]? = some s) (ea : adr s = some l) (ea' : adr s' = some l) (hni : n < i) (hi : σ.length ≤ i) (hF : i ≤ F.length) (ht : τ.length = ds.length + 1) (ho : ownL G' = ownL (F.drop i))
    (k : Kp H H' (ownL (lendX s ds (F.drop i)))) (E2 : ER K (lent T (ownL F) (ownL (lendX s ds (F.drop i)))) τ H' (lendX s' ds G')) : ER K T σ H' ((F.take i).set n s' ++ G') := by
  have e1 : ownL F = ownL (F.take i) ++ ownL (F.drop i) := by rw [← ownL_app, List.take_append_drop]
  have tn : (F.take i)[n]? = some s := by rw [List.getElem?_take, if_pos hni]; exact hn
  have ow : ownL ((F.take i).set n s' ++ G') = ownL F := by rw [ownL_app, ho, ownL_putS tn (ea'.trans ea.symm), ← e1]
  have lt : l ∈ ownL (F.take i) := mem_ownL.mpr ⟨n, _, tn, ea⟩
  have sub : ∀ b ∈ ownL (lendX s ds (F.drop i)), b ∈ ownL F := fun b hb => by
    rw [lendX_own ea] at hb
    rw [e1]
    rcases List.mem_cons.mp hb with rfl | hb
    · exact List.mem_append_left _ lt
    · exact List.mem_append_right _ hb
  have ol : ownL (lendX s' ds G') = ownL (lendX s ds (F.drop i)) := by rw [lendX_own ea', lendX_own ea, ho]
  have e := lent_tt (T := T) (l := ownL F) (m := ownL (lendX s ds (F.drop i))) sub
  have up : Same (cut H (tt T (ownL F))) (cut H' (tt T (ownL F))) := fun b o h => by
    obtain ⟨c, hb⟩ := cut_some h
    exact cut_of c (k b o (fun z => (tt_false.mp c).2 (sub b z)) hb)
  have nd := E.nd
  rw [e1] at nd
  obtain ⟨_, _, n3⟩ := List.nodup_append.mp nd
  have tl : ((F.take i).set n s').length = i := by rw [List.length_set, List.length_take]; omega
  refine ⟨by rw [List.length_append, tl]; omega, fun j u hj => ?_, by rw [ow]; exact E.nd, fun a h => E.out a (by rw [← ow]; exact h), fun b hb => ?_⟩
  · rw [ow]
    by_cases c : j < i
    · rw [List.getElem?_append_left (by omega)] at hj
      by_cases en : n = j
      · subst en
        rw [List.getElem?_set_self (by rw [List.length_take]; omega)] at hj
        cases Option.some.inj hj
        obtain ⟨ov, h1, h2⟩ := E.sl n s hn
        obtain ⟨rfl, _⟩ := h2.adr ea
        obtain ⟨ov2, _, h4⟩ := E2.sl 0 s' rfl
        obtain ⟨rfl, _⟩ := h4.adr ea'
        rw [ol, e] at h4
        exact ⟨some (.ref l), h1, h4⟩
      · rw [List.getElem?_set_ne en, List.getElem?_take, if_pos c] at hj
        obtain ⟨ov, h1, h2⟩ := E.sl j u hj
        refine ⟨ov, h1, h2.mono up fun a eu => ?_⟩
        obtain ⟨o, q⟩ := (h2.adr eu).2
        rw [q]
        refine k a o (fun y => ?_) q
        rw [lendX_own ea] at y
        rcases List.mem_cons.mp y with y | y
        · exact en (own_injS E.nd hn hj ea (by rw [eu, y]))
        · exact n3 a (mem_ownL.mpr ⟨j, u, by rw [List.getElem?_take, if_pos c]; exact hj, eu⟩) a y rfl
    · rw [List.getElem?_append_right (by omega), tl] at hj
      obtain ⟨ov, _, h2⟩ := E2.sl (j - i + (ds.length + 2)) u (by rw [lendX_gh]; exact hj)
      rw [ol, e] at h2
      exact ⟨ov, fun h => absurd h (by omega), h2⟩
  · refine E2.dom b ?_
    unfold lent
    have h1 : tt T (ownL F) b = true := by unfold tt; rw [hb]; rfl
    have h2 : b ∉ ownL (lendX s ds (F.drop i)) := fun z => by have := E.out b (sub b z); rw [hb] at this; cases this
    rw [h1]; simp [h2]
theorem po_backX {K : PySem.W.Frag} {n i : Nat} {τ : L2.St} {G' : Fm} {v : V} (E : ER K T σ H F) (hn : F[n]? = some s) (ea : adr s = some l) (ea' : adr s' = some l) (hni : n < i) (hi : σ.length ≤ i) (hF : i ≤ F.length) (ht : τ.length = ds.length + 1) (ho : ownL G' = ownL (F.drop i))
    (k : Kp H H' (ownL (lendX s ds (F.drop i)))) (p : Po K (lent T (ownL F) (ownL (lendX s ds (F.drop i)))) τ H H' (lendX s' ds G') v r) (hat : isAt r = false) : Po K T σ H H' ((F.take i).set n s' ++ G') v r := by
  have e1 : ownL F = ownL (F.take i) ++ ownL (F.drop i) := by rw [← ownL_app, List.take_append_drop]
  have tn : (F.take i)[n]? = some s := by rw [List.getElem?_take, if_pos hni]; exact hn
  have ow : ownL ((F.take i).set n s' ++ G') = ownL F := by rw [ownL_app, ho, ownL_putS tn (ea'.trans ea.symm), ← e1]
  have sub : ∀ b ∈ ownL (lendX s ds (F.drop i)), b ∈ ownL F := fun b hb => by
    rw [lendX_own ea] at hb
    rw [e1]
    rcases List.mem_cons.mp hb with rfl | hb
    · exact List.mem_append_left _ (mem_ownL.mpr ⟨n, _, tn, ea⟩)
    · exact List.mem_append_right _ hb
  have ol : ownL (lendX s' ds G') = ownL (lendX s ds (F.drop i)) := by rw [lendX_own ea', lendX_own ea, ho]
  have e := lent_tt (T := T) (l := ownL F) (m := ownL (lendX s ds (F.drop i))) sub
  cases r with
  | val d =>
    refine ⟨er_backX E hn ea ea' hni hi hF ht ho k p.1, ?_⟩
    have q := p.2
    rw [ol, e] at q
    rw [ow]; exact q
  | new d =>
    obtain ⟨a, e1, na, p1, q⟩ := p
    rw [ol, e] at q
    refine ⟨a, e1, na, er_backX E hn ea ea' hni hi hF ht ho (fun b o nb h => ?_) p1, by rw [ow]; exact q⟩
    rw [hide_ne (fun z => by rw [z, na] at h; cases h)]
    exact k b o nb h
  | «at» l d => cases hat
  | two d d' =>
    obtain ⟨a, g, v1, e1, n1, n2, ne, ha, p1, r1, q⟩ := p
    rw [ol, e] at q r1
    refine ⟨a, g, v1, e1, n1, n2, ne, ha, er_backX E hn ea ea' hni hi hF ht ho (fun b o nb h => ?_) p1, by rw [ow]; exact r1, by rw [ow]; exact q⟩
    rw [hide_ne (fun z => by rw [z, n1] at h; cases h), hide_ne (fun z => by rw [z, n2] at h; cases h)]
    exact k b o nb h
  | tw d d' =>
    obtain ⟨a, g, q, e1, n1, n2, n3, ag, ah, gh, ha, p1, r1, w⟩ := p
    rw [ol, e] at w r1
    refine ⟨a, g, q, e1, n1, n2, n3, ag, ah, gh, ha, er_backX E hn ea ea' hni hi hF ht ho (fun b o nb h => ?_) p1, by rw [ow]; exact r1, by rw [ow]; exact w⟩
    rw [hide3_ne (fun z => by rw [z, n3] at h; cases h) (fun z => by rw [z, n2] at h; cases h) (fun z => by rw [z, n1] at h; cases h)]
    exact k b o nb h
/-- a method as it is called -/
structure Me (X : Cx) (CX : CXT) (k : Nat) (C : Addr) (m : Str) (f : Addr) (fd : FuncData) (ps : List Str) (ct : Ct) (cx : Cex) : Prop where
  ok : FnOk X.prog X.w X.K X.mg X.base CX k f fd ps (Sp3 X.K ct cx)
  cl : Cls X.K C
  me : Meth X.K C m f
  bd : Binds X.K fd ps []
/-- x.m(e, ..), x an instance; what is written stands otherwise behind it -/
theorem ae_meth {CX : CXT} {k : Nat} {q : Addr} {fd : FuncData} {ps : List Str} {ct : Ct} {cx : Cex} {W : XK} {G' : Fm} {pl : Sem Bool} (n i : Nat) (G : Me X CX k C m q fd ps ct cx) (hr : Room k X.A) (hx : Passes CX X W) (ha : AD X (e :: es) fs fs ds)
    (hc : ct (lendX (.mix l (.ins C flds)) ds (fs.drop i)) (lendX s' ds G') r) (hat : isAt r = false := by rfl) (hn : fs[n]? = some (.mix l (.ins C flds)) := by rfl) (hl : flds.lookup m = none := by rfl) (ea : adr s' = some l := by rfl) (hN : X.N[n]? = some y := by rfl) (hni : n < i := by decide) (hil : X.N.length ≤ i := by exact Nat.le_of_ble_eq_true rfl) (hif : i ≤ fs.length := by exact Nat.le_of_ble_eq_true rfl) (ho : ownL G' = ownL (fs.drop i) := by rfl)
    (hv : Vis X.env.scope y := by first | exact Or.inl rfl | exact Or.inr (Or.inl rfl) | exact Or.inr (Or.inr rfl)) (hdy : (y == ("__debug__" : Str)) = false := by decide) (hcd : (y == ("__classdict__" : Str)) = false := by decide)
    (hst : starEach (e :: es) X.env = (false, eval e X.env) :: starEach es X.env := by rfl) (hpl : (backTo pos (starEach es X.env)).any (·.1) = false := by rfl)
    (ht : eval (.Call (.Attribute (.Name y py) m apos) (e :: es) [] pos) X.env = (do
      let ov ← eval (.Name y py) X.env
      standAt apos.atName
      let (f, first) ← holding [ov] (getMethod ov m pl)
      callWith pos f first (backTo pos (starEach (e :: es) X.env)) (backToKw pos (keywordEach [] X.env))) := by rfl) :
    AE X (.Call (.Attribute (.Name y py) m apos) (e :: es) [] pos) fs ((fs.take i).set n s' ++ G') r := by
  have ea0 : adr (Slot.mix l (.ins C flds)) = some l := rfl
  have tn : (fs.take i)[n]? = some (.mix l (.ins C flds)) := by rw [List.getElem?_take, if_pos hni]; exact hn
  have ow : ownL ((fs.take i).set n s' ++ G') = ownL fs := by rw [ownL_app, ho, ownL_putS tn (ea.trans ea0.symm), ← ownL_app, List.take_append_drop]
  refine ⟨ow, fun T σ H Q E q => bE_inv fun L0 => bE_of (pe_meth (E := W) (pe_var hN hv hdy hcd) G.cl G.me G.ok hr G.bd .nil hx bestA hst hpl ht) ?_⟩
  obtain ⟨e1, dx, vs, hh, fr⟩ := E.mix hn
  refine ⟨.ref l, e1 (by rw [L0]; exact (List.getElem?_eq_some_iff.mp hN).1), l, dx, vs, rfl, hh, frk_none fr hl, ha.run T σ H _ E fun ws H1 k1 E1 p1 => ?_⟩
  have E2 := er_lendX E1 hn ea0 hni p1
  have sub : ∀ b ∈ ownL (lendX (.mix l (.ins C flds)) ds (fs.drop i)), b ∈ ownL fs := fun b hb => by
    have e1 : ownL fs = ownL (fs.take i) ++ ownL (fs.drop i) := by rw [← ownL_app, List.take_append_drop]
    rw [lendX_own ea0] at hb
    rw [e1]
    rcases List.mem_cons.mp hb with rfl | hb
    · exact List.mem_append_left _ (mem_ownL.mpr ⟨n, _, tn, rfl⟩)
    · exact List.mem_append_right _ hb
  refine ⟨_, _, by rw [List.append_nil]; exact E2, by rw [List.append_nil, nA_lendX ea0, List.length_cons, p1.length], .inl ⟨_, _, hc, by rw [lendX_own ea, lendX_own ea0, ho], fun v H' kk pp => ?_⟩⟩
  rw [List.append_nil] at pp
  have pb := po_backX E1 hn ea0 ea hni (by rw [L0]; exact hil) hif (by rw [List.length_map, List.length_cons, p1.length]) ho kk pp hat
  refine q v H' (k1.trans fun b o h z => kk b o (fun y => h (sub b y)) z) ?_
  exact pb.back k1 E1 rfl
/-- x.m() -/
theorem ae_meth0 {CX : CXT} {k : Nat} {q : Addr} {fd : FuncData} {ps : List Str} {ct : Ct} {cx : Cex} {W : XK} {G' : Fm} {pl : Sem Bool} (n i : Nat) (G : Me X CX k C m q fd ps ct cx) (hr : Room k X.A) (hx : Passes CX X W)
    (hc : ct (lendX (.mix l (.ins C flds)) [] (fs.drop i)) (lendX s' [] G') r) (hat : isAt r = false := by rfl) (hn : fs[n]? = some (.mix l (.ins C flds)) := by rfl) (hl : flds.lookup m = none := by rfl) (ea : adr s' = some l := by rfl) (hN : X.N[n]? = some y := by rfl) (hni : n < i := by decide) (hil : X.N.length ≤ i := by exact Nat.le_of_ble_eq_true rfl) (hif : i ≤ fs.length := by exact Nat.le_of_ble_eq_true rfl) (ho : ownL G' = ownL (fs.drop i) := by rfl)
    (hv : Vis X.env.scope y := by first | exact Or.inl rfl | exact Or.inr (Or.inl rfl) | exact Or.inr (Or.inr rfl)) (hdy : (y == ("__debug__" : Str)) = false := by decide) (hcd : (y == ("__classdict__" : Str)) = false := by decide)
    (ht : eval (.Call (.Attribute (.Name y py) m apos) [] [] pos) X.env = (do
      let ov ← eval (.Name y py) X.env
      standAt apos.atName
      let (f, first) ← holding [ov] (getMethod ov m pl)
      callWith pos f first (backTo pos (starEach [] X.env)) (backToKw pos (keywordEach [] X.env))) := by rfl) :
    AE X (.Call (.Attribute (.Name y py) m apos) [] [] pos) fs ((fs.take i).set n s' ++ G') r := by
  have ea0 : adr (Slot.mix l (.ins C flds)) = some l := rfl
  have tn : (fs.take i)[n]? = some (.mix l (.ins C flds)) := by rw [List.getElem?_take, if_pos hni]; exact hn
  have ow : ownL ((fs.take i).set n s' ++ G') = ownL fs := by rw [ownL_app, ho, ownL_putS tn (ea.trans ea0.symm), ← ownL_app, List.take_append_drop]
  refine ⟨ow, fun T σ H Q E q => bE_inv fun L0 => bE_of (pe_meth0 (E := W) (pe_var hN hv hdy hcd) G.cl G.me G.ok hr G.bd .nil hx ht) ?_⟩
  obtain ⟨e1, dx, vs, hh, fr⟩ := E.mix hn
  refine ⟨.ref l, e1 (by rw [L0]; exact (List.getElem?_eq_some_iff.mp hN).1), l, dx, vs, rfl, hh, frk_none fr hl, ?_⟩
  show Sp3 _ _ _ _ _ _ _
  have E2 := er_lendX E hn ea0 hni (.nil (K := X.K) (H := cut H (tt T (ownL fs))))
  have sub : ∀ b ∈ ownL (lendX (.mix l (.ins C flds)) [] (fs.drop i)), b ∈ ownL fs := fun b hb => by
    have e1 : ownL fs = ownL (fs.take i) ++ ownL (fs.drop i) := by rw [← ownL_app, List.take_append_drop]
    rw [lendX_own ea0] at hb
    rw [e1]
    rcases List.mem_cons.mp hb with rfl | hb
    · exact List.mem_append_left _ (mem_ownL.mpr ⟨n, _, tn, rfl⟩)
    · exact List.mem_append_right _ hb
  refine ⟨_, _, E2, by rw [nA_lendX ea0]; rfl, .inl ⟨_, _, hc, by rw [lendX_own ea, lendX_own ea0, ho], fun v H' kk pp => ?_⟩⟩
  have pb := po_backX E hn ea0 ea hni (by rw [L0]; exact hil) hif rfl ho kk pp hat
  exact q v H' (fun b o h z => kk b o (fun y => h (sub b y)) z) pb
/-! ### methods and makers, as the head hands them on -/
def MeT (K : PySem.W.Frag) (mg : Str → Option Value) (P : Program) (w : World) (base : Heap) (k : Nat) (C m : Str) (ps : List Str) (ct : Ct) : Prop :=
  ∃ f fd, FnOk P w K mg base CX0 k f fd ps (Sp3 K ct nox) ∧ Cls K (He.ga K C) ∧ Meth K (He.ga K C) m f ∧ Binds K fd ps []
theorem MeT.me {P : Program} {w : World} {K : PySem.W.Frag} {mg : Str → Option Value} {base : Heap} {k : Nat} {C m : Str} {ps : List Str} {ct : Ct} (h : MeT K mg P w base k C m ps ct)
    (h1 : X.prog = P) (h2 : X.w = w) (h3 : X.K = K) (h4 : X.mg = mg) (h5 : X.base = base) : ∃ f fd, Me X CX0 k (He.ga K C) m f fd ps ct nox := by
  obtain ⟨f, fd, a, b, c, d⟩ := h
  subst h1 h2 h3 h4 h5
  exact ⟨f, fd, a, b, c, d⟩
end
end A3
namespace A3
open PySem PySem.Spec PyProof.Rows L2
/-! ### defs that tell nothing but leave their owned arguments and ghosts otherwise, with new owned objects perhaps -/
abbrev Cv := List Slot → (List Slot → Prop) → Prop
def SpV (K : PySem.W.Frag) (ct : Cv) : Sp := fun vs H Q E => ∃ (T : Addr → Bool) (ss : List Slot) (B : List Slot → Prop), ER K T (vs.map some) H ss ∧ nA ss = vs.length ∧ ct ss B ∧
  ∀ ss' H', B ss' → (∀ a ∈ ownL ss', a ∈ ownL ss ∨ H a = none) → Kp H H' (ownL ss) → ER K T (vs.map some) H' ss' → Q .non H'
inductive OutH (fs : Fm) : List Slot → Prop
  | nil : OutH fs []
  | cons {s : Slot} {y : List Slot} (n : Nat) : fs[n]? = some s → OutH fs y → OutH fs (s :: y)
inductive OutN (fs : Fm) : List Slot → List Slot → Prop
  | nil : OutN fs [] []
  | dat {d : PyData} {x y : List Slot} : OutN fs x y → OutN fs (.dat d :: x) (.dat d :: y)
  | own {a : Addr} {d d' : PyData} {x y : List Slot} (n : Nat) : fs[n]? = some (.own a d') → OutN fs x y → OutN fs (.own a d :: x) (.own a d' :: y)
  | mix {a : Addr} {o o' : Mix} {x y : List Slot} (n : Nat) : fs[n]? = some (.mix a o') → OutN fs x y → OutN fs (.mix a o :: x) (.mix a o' :: y)
  | gh {x y : List Slot} : OutH fs y → OutN fs (.no :: x) (.no :: y)
section
variable {X : Cx} {a b c e o : Expr} {es : List Expr} {rest body sts : List Stmt} {cf : Cf} {D : D3} {fs F f1 f2 : Fm} {d d1 d2 : PyData} {ds : List PyData} {r : Res} {pos pos' apos p px py tpos : Pos} {T : Addr → Bool} {σ σ' : L2.St} {H H1 H' : Hp} {l g C : Addr} {x y f m : Str} {s s' : Slot} {flds : List (Str × Fld)} {K : PySem.W.Frag}
theorem OutH.get {y : List Slot} (h : OutH fs y) : ∀ (n : Nat) (s : Slot), y[n]? = some s → ∃ j : Nat, fs[j]? = some s := by
  induction h with
  | nil => intro n s e; simp at e
  | cons m r _ ih =>
    intro n s e
    cases n with
    | zero => cases Option.some.inj e; exact ⟨m, r⟩
    | succ n => exact ih n s e
theorem OutN.get {x y : List Slot} (h : OutN fs x y) : ∀ (n : Nat) (s : Slot), y[n]? = some s → s = .no ∨ (∃ d, s = .dat d ∧ x[n]? = some (.dat d)) ∨ (∃ j : Nat, fs[j]? = some s ∧ nA x ≤ n) ∨ ∃ (a : Addr) (u : Slot) (j : Nat), x[n]? = some u ∧ adr u = some a ∧ adr s = some a ∧ fs[j]? = some s := by
  induction h with
  | nil => intro n s e; simp at e
  | dat _ ih =>
    intro n s e
    cases n with
    | zero => cases Option.some.inj e; exact .inr (.inl ⟨_, rfl, rfl⟩)
    | succ n =>
      rcases ih n s e with h | h | ⟨j, h, l⟩ | h
      · exact .inl h
      · exact .inr (.inl h)
      · exact .inr (.inr (.inl ⟨j, h, Nat.succ_le_succ l⟩))
      · exact .inr (.inr (.inr h))
  | own m r _ ih =>
    intro n s e
    cases n with
    | zero => cases Option.some.inj e; exact .inr (.inr (.inr ⟨_, _, m, rfl, rfl, rfl, r⟩))
    | succ n =>
      rcases ih n s e with h | h | ⟨j, h, l⟩ | h
      · exact .inl h
      · exact .inr (.inl h)
      · exact .inr (.inr (.inl ⟨j, h, Nat.succ_le_succ l⟩))
      · exact .inr (.inr (.inr h))
  | mix m r _ ih =>
    intro n s e
    cases n with
    | zero => cases Option.some.inj e; exact .inr (.inr (.inr ⟨_, _, m, rfl, rfl, rfl, r⟩))
    | succ n =>
      rcases ih n s e with h | h | ⟨j, h, l⟩ | h
      · exact .inl h
      · exact .inr (.inl h)
      · exact .inr (.inr (.inl ⟨j, h, Nat.succ_le_succ l⟩))
      · exact .inr (.inr (.inr h))
  | gh g =>
    intro n s e
    cases n with
    | zero => cases Option.some.inj e; exact .inl rfl
    | succ n =>
      obtain ⟨j, h⟩ := g.get n s e
      exact .inr (.inr (.inl ⟨j, h, Nat.zero_le _⟩))
theorem OutN.nA {x y : List Slot} (h : OutN fs x y) : nA x ≤ y.length := by
  induction h with
  | nil => exact Nat.zero_le _
  | dat _ ih => exact Nat.succ_le_succ ih
  | own _ _ _ ih => exact Nat.succ_le_succ ih
  | mix _ _ _ ih => exact Nat.succ_le_succ ih
  | gh g => exact Nat.zero_le _
/-- the arguments' frame behind the body -/
theorem er_outN {τ : L2.St} {H0 : Hp} {x y : List Slot} (E0 : ER K T τ H0 x) (hA : nA x = τ.length) (E : ER K T σ H fs) (k : Kp H0 H (ownL x)) (o : OutN fs x y) (sl : (ownL y).Sublist (ownL fs)) (fr : ∀ a ∈ ownL fs, a ∈ ownL x ∨ H0 a = none) : ER K T τ H y where
  len := by rw [← hA]; exact o.nA
  sl := fun n s h => by
    have up : Same (cut H (tt T (ownL fs))) (cut H (tt T (ownL y))) := cut_same fun b u e h => by
      obtain ⟨e1, e2⟩ := tt_false.mp e
      exact ⟨tt_false.mpr ⟨e1, fun z => e2 (sl.subset z)⟩, h⟩
    have up0 : Same (cut H0 (tt T (ownL x))) (cut H (tt T (ownL y))) := cut_same fun b u e h => by
      obtain ⟨e1, e2⟩ := tt_false.mp e
      refine ⟨tt_false.mpr ⟨e1, fun z => ?_⟩, k b u e2 h⟩
      rcases fr b (sl.subset z) with q | q
      · exact e2 q
      · rw [q] at h; cases h
    rcases o.get n s h with rfl | ⟨d, rfl, hx⟩ | ⟨j, hj, ln⟩ | ⟨a, u, j, hx, eu, es, hj⟩
    · exact ⟨(τ[n]?).getD none, fun l => by rw [List.getElem?_eq_getElem l]; rfl, by cases (τ[n]?).getD none <;> trivial⟩
    · obtain ⟨v, hv, r⟩ := E0.dat hx
      exact ⟨some v, hv, r.mono up0⟩
    · obtain ⟨ov, h1, h2⟩ := E.sl j s hj
      exact ⟨ov, fun l => absurd l (by omega), h2.mono up fun _ _ => rfl⟩
    · obtain ⟨ov, h1, h2⟩ := E0.sl n u hx
      obtain ⟨e1, _⟩ := h2.adr eu
      obtain ⟨ov2, h3, h4⟩ := E.sl j s hj
      obtain ⟨e3, _⟩ := h4.adr es
      exact ⟨ov, h1, by rw [e1, ← e3]; exact h4.mono up fun _ _ => rfl⟩
  nd := E.nd.sublist sl
  out := fun a h => E.out a (sl.subset h)
  dom := E.dom
/-- what such a body is to reach -/
def goalV (ss : List Slot) (B : List Slot → Prop) : D3 where
  nx := fun fs => ∃ ss', B ss' ∧ OutN fs ss ss' ∧ (ownL ss').Sublist (ownL fs)
  rt := fun _ _ => False
theorem fnV {P : Program} {w : World} {mg : Str → Option Value} {base : Heap} {x' qual : Str} {params : Arguments} {bd : List Stmt} {scope : Scope} {dvs : List V} {kws : List (Str × V)} {f : Addr} {fd : FuncData} {N ps : List Str} {k : Nat} {ct : Cv}
    (F : FunD K x' qual params bd scope dvs kws f fd) (S : FnScope N ps scope) (len : ∀ ss B, ct ss B → nA ss = ps.length)
    (hb : ∀ (cdv : Value) (A : Around) (outer : List Env) (s : Shared) (H : Hp) (E : XK) (c : Cf) (ss : List Slot) (B : List Slot → Prop), Room k (A.deeper (envOfC qual scope s.heap.objs.size f cdv)) → ct ss B → ownL ss = c.ws →
      AS (cxOf CX0 P w K mg base N qual scope f cdv A outer s H E).nox bd c (bodyF N.length ss) (goalV ss B)) (hN : ps.length ≤ N.length := by decide) : FnOk P w K mg base CX0 (k + 1) f fd ps (SpV K ct) := by
  refine F.ok S (fun vs H Q E h => ?_) (fun cdv A outer s H vs Q E hr h => ?_)
  · obtain ⟨T, ss, B, E0, hA, hc, _⟩ := h
    rw [← hA]; exact len _ _ hc
  · obtain ⟨T, ss, B, E0, hA, hc, hq⟩ := h
    refine ⟨_, PSs.nox bestSs, ?_⟩
    have hvN : vs.length ≤ N.length := by rw [← hA, len _ _ hc]; exact hN
    have S0 : S3 K ⟨T, H, ownL ss, fun _ => none⟩ (L2.start N vs) H (bodyF N.length ss) := by
      refine ⟨start_er E0 hA hvN, Kp.refl _ _, fun b h => h, fun a h => .inl (by rw [bodyF_own] at h; exact h), fun a h => ?_, fun b o h => (by cases h), fun a h => rfl⟩
      obtain ⟨o, ho⟩ := E0.thereL h
      show H a ≠ none
      rw [ho]; exact fun z => by cases z
    have bdy := hb cdv A outer s H E ⟨T, H, ownL ss, fun _ => none⟩ ss B hr hc rfl _ _ S0
    have hA' : nA ss = (vs.map some).length := by rw [hA]; simp
    intro pins s' I
    refine thn (bdy pins s' I) fun fl s2 q => ?_
    cases fl with
    | next =>
      obtain ⟨σ', H', I', f', S', ss', hB, o, sl⟩ := q
      exact ⟨σ', H', I', hq ss' H' hB (fun a h => S'.ow a (sl.subset h)) S'.kp (er_outN E0 hA' S'.er S'.kp o sl S'.ow)⟩
    | ret u =>
      obtain ⟨v', σ', H', I', rv, σ4, f4, r4, Hm, R, z⟩ := q
      exact z.elim
    | brk => obtain ⟨_, _, _, _, _, q⟩ := q; exact q.elim
    | cont => obtain ⟨_, _, _, _, _, q⟩ := q; exact q.elim
/-! ### x = C(e, ..): a new instance, with what its __init__ makes -/
structure Mke (X : Cx) (k : Nat) (C : Addr) (f : Addr) (fd : FuncData) (ps : List Str) (ct : Cv) : Prop where
  ok : FnOk X.prog X.w X.K X.mg X.base CX0 k f fd ps (SpV X.K ct)
  mkr : L2.Mk X.K C f
  bd : Binds X.K fd ps []
theorem er_make0 {dx : Addr} {vs : List V} (E : ER K T σ H fs) (nl : H l = none) (nd : H dx = none) (ne : dx ≠ l) (p : RpAll K (cut H (tt T (ownL fs))) vs ds) :
    ER K (tt T (ownL fs)) ((V.ref l :: vs).map some) (upd (upd H dx (.own l)) l (.ins C dx [])) (lendX (.mix l (.ins C [])) ds []) := by
  have ea : adr (Slot.mix l (.ins C [])) = some l := rfl
  have hl := p.length
  have ll : ((V.ref l :: vs).map some).length = ds.length + 1 := by rw [List.length_map, List.length_cons, hl]
  have e0 : ownL (lendX (.mix l (.ins C [])) ds []) = [l] := lendX_own ea
  have keep : ∀ b o, H b = some o → upd (upd H dx (.own l)) l (.ins C dx []) b = some o := fun b o h => by
    rw [upd_ne (fun z => by rw [z, nl] at h; cases h), upd_ne (fun z => by rw [z, nd] at h; cases h)]; exact h
  have up : Same (cut H (tt T (ownL fs))) (cut (upd (upd H dx (.own l)) l (.ins C dx [])) (tt (tt T (ownL fs)) [l])) := cut_same fun b o e h => ⟨tt_false.mpr ⟨e, fun z => by rw [List.mem_singleton.mp z, nl] at h; cases h⟩, keep b o h⟩
  refine ⟨?_, fun j u hj => ?_, by rw [e0]; exact List.nodup_cons.mpr ⟨by simp, List.nodup_nil⟩, fun a ha => ?_, fun b hb => ?_⟩
  · rw [ll]; show _ ≤ (ds.map Slot.dat ++ [Slot.no]).length + 1; rw [List.length_append, List.length_map]; simp
  · rw [e0]
    cases j with
    | zero => cases Option.some.inj hj; exact ⟨some (.ref l), fun _ => rfl, rfl, dx, [], upd_same, .nil⟩
    | succ j =>
      have hj : (ds.map Slot.dat ++ [Slot.no])[j]? = some u := hj
      by_cases c : j < ds.length
      · rw [List.getElem?_append_left (by rw [List.length_map]; exact c), List.getElem?_map] at hj
        obtain ⟨d, hd, rfl⟩ := Option.map_eq_some_iff.mp hj
        obtain ⟨v, hv, r⟩ := rpAll_get p j d hd
        exact ⟨some v, fun _ => by rw [List.map_cons, List.getElem?_cons_succ, List.getElem?_map, hv]; rfl, Rp.mono up r⟩
      · rw [List.getElem?_append_right (by rw [List.length_map]; omega), List.length_map] at hj
        have : u = .no := by
          have := List.mem_of_getElem? hj
          simpa using this
        subst this
        exact ⟨none, fun h => absurd h (by omega), trivial⟩
  · rw [e0] at ha
    rw [List.mem_singleton.mp ha]; exact E.free nl
  · obtain ⟨o, ho⟩ := E.there hb
    rw [keep b o ho]; exact fun z => by cases z
theorem mem_setNew {n : Nat} {m : Mix} {b : Addr} (hsl : ownL (fs.set n .no) = ownL fs) (hn : n < fs.length) : b ∈ ownL (fs.set n (.mix l m)) ↔ b ∈ ownL fs ∨ b = l := by
  constructor
  · intro h
    rcases ownL_set h with q | q
    · exact .inl q
    · exact .inr (Option.some.inj q).symm
  · rintro (h | rfl)
    · rw [← hsl] at h
      obtain ⟨j, u, hj, eu⟩ := mem_ownL.mp h
      have en : n ≠ j := fun z => by
        subst z
        rw [List.getElem?_set_self hn] at hj
        cases Option.some.inj hj; cases eu
      rw [List.getElem?_set_ne en] at hj
      exact mem_ownL.mpr ⟨j, u, by rw [List.getElem?_set_ne en]; exact hj, eu⟩
    · exact mem_ownL.mpr ⟨n, _, List.getElem?_set_self hn, rfl⟩
theorem er_made {n : Nat} {dx : Addr} {τ : L2.St} {m : Mix} {G' : Fm} {H0 : Hp} (E : ER K T σ H fs) (nl : H l = none) (keep : ∀ b o, H b = some o → H0 b = some o) (hsl : ownL (fs.set n .no) = ownL fs) (hlen : σ.length ≤ fs.length) (hn : n < fs.length)
    (E2 : ER K (tt T (ownL fs)) τ H' (lendX (.mix l m) ds G')) (ht : τ.length = ds.length + 1) (kk : Kp H0 H' [l]) (fr : ∀ a ∈ ownL (lendX (.mix l m) ds G'), a ∈ [l] ∨ H0 a = none) :
    Same H H' ∧ (∀ a ∈ ownL G', H a = none) ∧ ER K T (σ.set n (some (.ref l))) H' (fs.set n (.mix l m) ++ G') := by
  have ea : adr (Slot.mix l m) = some l := rfl
  have e0 : ownL (lendX (.mix l m) ds G') = l :: ownL G' := lendX_own ea
  have kp : Same H H' := fun b o h => kk b o (fun z => by rw [List.mem_singleton.mp z, nl] at h; cases h) (keep b o h)
  have nd2 := E2.nd
  rw [e0] at nd2
  obtain ⟨lG, ndG⟩ := List.nodup_cons.mp nd2
  have frH : ∀ a ∈ ownL G', H a = none := fun a h => by
    rcases fr a (by rw [e0]; exact List.mem_cons_of_mem _ h) with q | q
    · rw [List.mem_singleton.mp q] at h; exact absurd h lG
    · cases hh : H a with
      | none => rfl
      | some u => rw [keep a u hh] at q; cases q
  have mem : ∀ b, b ∈ ownL (fs.set n (.mix l m) ++ G') ↔ b ∈ ownL fs ∨ b ∈ l :: ownL G' := fun b => by
    rw [ownL_app, List.mem_append, mem_setNew hsl hn, List.mem_cons, or_assoc]
  have ett : tt (tt T (ownL fs)) (l :: ownL G') = tt T (ownL (fs.set n (.mix l m) ++ G')) := by
    funext b
    unfold tt
    rw [Bool.or_assoc, decide_eq_decide.mpr (mem b), Bool.decide_or]
  have lF : l ∉ ownL fs := fun z => by obtain ⟨o, ho⟩ := E.thereL z; rw [nl] at ho; cases ho
  have up : Same (cut H (tt T (ownL fs))) (cut H' (tt T (ownL (fs.set n (.mix l m) ++ G')))) := cut_same fun b o e h => by
    obtain ⟨e1, e2⟩ := tt_false.mp e
    refine ⟨tt_false.mpr ⟨e1, fun z => ?_⟩, kp b o h⟩
    rcases (mem b).mp z with q | q
    · exact e2 q
    · rcases List.mem_cons.mp q with q | q
      · rw [q, nl] at h; cases h
      · rw [frH b q] at h; cases h
  refine ⟨kp, frH, by rw [List.length_set, List.length_append, List.length_set]; omega, fun j u hj => ?_, ?_, fun a h => ?_, fun b hb => ?_⟩
  · by_cases c : j < fs.length
    · rw [List.getElem?_append_left (by rw [List.length_set]; exact c)] at hj
      by_cases en : n = j
      · subst en
        rw [List.getElem?_set_self hn] at hj
        cases Option.some.inj hj
        obtain ⟨ov2, _, h4⟩ := E2.sl 0 _ rfl
        obtain ⟨rfl, _⟩ := h4.adr ea
        rw [e0, ett] at h4
        exact ⟨some (.ref l), fun z => by rw [List.getElem?_set_self (by simpa using z)], h4⟩
      · rw [List.getElem?_set_ne en] at hj
        obtain ⟨ov, h1, h2⟩ := E.sl j u hj
        refine ⟨ov, fun z => by rw [List.getElem?_set_ne en]; exact h1 (by simpa using z), h2.mono up fun a eu => ?_⟩
        obtain ⟨o, q⟩ := (h2.adr eu).2
        rw [q, kp _ _ q]
    · rw [List.getElem?_append_right (by rw [List.length_set]; omega), List.length_set] at hj
      obtain ⟨ov, _, h2⟩ := E2.sl (j - fs.length + (ds.length + 2)) u (by rw [lendX_gh]; exact hj)
      rw [e0, ett] at h2
      exact ⟨ov, fun z => absurd z (by rw [List.length_set]; omega), h2⟩
  · rw [ownL_app]
    refine List.nodup_append.mpr ⟨nodup_set E.nd lF rfl, ndG, fun a ha b hb e => ?_⟩
    subst e
    rcases (mem_setNew hsl hn).mp ha with q | q
    · obtain ⟨o, ho⟩ := E.thereL q
      rw [frH a hb] at ho; cases ho
    · rw [q] at hb; exact lG hb
  · rcases (mem a).mp h with q | q
    · exact E.out a q
    · rcases List.mem_cons.mp q with q | q
      · rw [q]; exact (tt_false.mp (E.free nl)).1
      · exact (tt_false.mp (E.free (frH a q))).1
  · intro z
    cases hh : H b with
    | none => exact E.dom b hb hh
    | some o => rw [kp b o hh] at z; cases z
/-- x = C(e, ..) -/
theorem as_make {k : Nat} {q : Addr} {fd : FuncData} {ps : List Str} {ct : Cv} {B : Addr → List Slot → Prop} (n : Nat) (G : Mke X k C q fd ps ct) (hr : Room (k + 1) X.A) (hm : X.mg y = some (.ref C)) (ha : AD X (e :: es) fs fs ds) (hc : ∀ l, ct (lendX (.mix l (.ins C [])) ds []) (B l))
    (hk : ∀ l ss', l ∉ cf.ws → B l ss' → ∃ m G', ss' = lendX (.mix l m) ds G' ∧ AS X rest cf (fs.set n (.mix l m) ++ G') D) (hN : X.N.Nodup) (hx : ∀ W, Passes CX0 X W) (hi : X.N[n]? = some x := by rfl) (hlx : Loc X.env.scope x := by first | exact .inl rfl | exact .inr rfl) (hsl : ownL (fs.set n .no) = ownL fs := by rfl) (hlen : X.N.length ≤ fs.length := by exact Nat.le_of_ble_eq_true rfl)
    (hg : Gl X y := by rfl) (hdb : (y == ("__debug__" : Str)) = false := by decide) (he : starEach (e :: es) X.env = (false, eval e X.env) :: starEach es X.env := by rfl) (hpl : (backTo pos (starEach es X.env)).any (·.1) = false := by rfl)
    (hs : swapsWith (.Call (.Name y p) (e :: es) [] pos) (some (.Name x pos')) px.line X.env = pure false := by rfl) (hf : X.fn x = true ∨ X.env.scope.names.lookup x = some .local := by first | exact .inl rfl | exact .inr rfl) :
    AS X (.Assign [.Name x pos'] (.Call (.Name y p) (e :: es) [] pos) px :: rest) cf fs D :=
  fun σ H S => bSs_inv fun L => bSs_of (pss_cons (ps_set hN hi hlx (pe_make (E := fun _ _ _ => False) G.mkr G.ok hr hg hm G.bd .nil (hx _) bestA hdb he hpl) hs hf) bestSs) (ha.run cf.T σ H _ S.er fun vs H1 k1 E1 p1 => fun l dx nl nd ne => by
    have E0 := er_make0 (C := C) E1 nl nd ne p1
    have keep : ∀ b o, H1 b = some o → upd (upd H1 dx (.own l)) l (.ins C dx []) b = some o := fun b o h => by
      rw [upd_ne (fun z => by rw [z, nl] at h; cases h), upd_ne (fun z => by rw [z, nd] at h; cases h)]; exact h
    have S1 := S.step k1 E1 rfl
    refine ⟨_, _, B l, by rw [List.append_nil]; exact E0, by rw [List.append_nil, nA_lendX (l := l) rfl, List.length_cons, p1.length], hc l, fun ss' H' hB fr kk E2 => ⟨rfl, ?_⟩⟩
    obtain ⟨m, G', rfl, hk'⟩ := hk l ss' (S1.not_ws nl) hB
    rw [show ownL (lendX (.mix l (.ins C [])) ds []) = [l] from lendX_own rfl] at fr kk
    rw [List.append_nil] at E2
    have ln : n < fs.length := Nat.lt_of_lt_of_le (List.getElem?_eq_some_iff.mp hi).1 hlen
    obtain ⟨sm, frH, E3⟩ := er_made (dx := dx) E1 nl keep hsl (by rw [L]; exact hlen) ln E2 (by rw [List.length_map, List.length_cons, p1.length]) kk fr
    refine hk' _ _ (S1.many (Kp.of sm) rfl (E1.keep sm) E3 fun z hz => ?_)
    rw [ownL_app] at hz
    rcases List.mem_append.mp hz with w | w
    · rcases (mem_setNew hsl ln).mp w with w | w
      · exact .inl w
      · rw [w]; exact .inr nl
    · exact .inr (frH z w))
def MkT (K : PySem.W.Frag) (mg : Str → Option Value) (P : Program) (w : World) (base : Heap) (k : Nat) (C : Str) (ps : List Str) (ct : Cv) : Prop :=
  ∃ f fd, FnOk P w K mg base CX0 k f fd ps (SpV K ct) ∧ L2.Mk K (He.ga K C) f ∧ Binds K fd ps []
theorem MkT.mk {P : Program} {w : World} {K : PySem.W.Frag} {mg : Str → Option Value} {base : Heap} {k : Nat} {C : Str} {ps : List Str} {ct : Cv} (h : MkT K mg P w base k C ps ct)
    (h1 : X.prog = P) (h2 : X.w = w) (h3 : X.K = K) (h4 : X.mg = mg) (h5 : X.base = base) : ∃ f fd, Mke X k (He.ga K C) f fd ps ct := by
  obtain ⟨f, fd, a, b, c⟩ := h
  subst h1 h2 h3 h4 h5
  exact ⟨f, fd, a, b, c⟩
end
end A3
namespace A3
open PySem PySem.Spec PyProof.Rows L2
/-! ### [.. for i, x in enumerate(xs)] -/
section
variable {X : Cx} {scope : Scope} {a elt : Expr} {ifs elts : List Expr} {rest : List Stmt} {c : Cf} {D3' : D3} {fs f1 f2 : Fm} {ds : List PyData} {pos p p2 tpos spos : Pos} {kk : Nat} {x : Str}
theorem compR_enum {vs : List Nat} {F : Nat → Fm} {y : Nat → Option PyData} {tg : Expr} (ha : AD X [a] fs f1 [.list ds]) (hz : ds.length ≤ 100000) (F0 : F 0 = wipeF f1 vs) (Fo : ∀ i, ownL (F i) = ownL f1) (hs : ∀ i d, (enumD ds)[i]? = some d → TurnC X scope vs tg ifs elt d (F i) (F (i + 1)) (y i)) (bk : BackR f1 (F (enumD ds).length) f2) :
    CompR X fs f2 (.list (madeC y (enumD ds).length)) (tLc (iEnum X.K (bA X [a])) (gB X scope tg) (iB X scope ifs) (eB X scope elt) vs) := by
  refine ⟨bk.own.trans ha.ow, fun T σ H Q E q => ha.run T σ H _ E fun ws H1 k1 E1 rl => ?_⟩
  cases rl with
  | cons ra rr =>
    cases rr
    obtain ⟨l1, xs, rfl, s1, q1⟩ := ra.lst_inv
    have n1 := q1.length
    have up : Same (cut H1 (tt T (ownL f1))) (cut H1 fun b => decide (b ∈ ownL f1)) := cut_same fun b o e z => ⟨decide_eq_false (tt_false.mp e).2, z⟩
    have t1 : SqL X.K (cut H1 fun b => decide (b ∈ ownL f1)) l1 xs := sqL_same up s1
    refine ⟨l1, xs, rfl, sqL_same (cut_all _ _) s1, fun D nD => ?_⟩
    refine comp_core (ds := enumD ds) (F := F) (y := y) E1 nD (by rw [enumD_len]; exact hz) F0 Fo (fun G g k lt => ?_) (fun G g => ?_) (fun G g k w G' lt y => ?_) hs (fun H' k E2 z => ?_)
    · rw [enumD_len] at lt
      exact ⟨xs, xs[k]'(by omega), sqL_same g t1, by simp⟩
    · exact ⟨xs, sqL_same g t1, by rw [enumD_len]; omega⟩
    · rw [enumD_len] at lt
      obtain ⟨N, x, rfl, nN, rfl, hx⟩ := y
      obtain ⟨dx, hdx, rx⟩ := q1.get2 (hx xs (sqL_same g t1))
      refine ⟨same_upd nN, _, enumD_get lt, fun T' τ f E2 ef et => ?_⟩
      rw [show ds.getD k .none = dx by rw [List.getD_eq_getElem?_getD, hdx]; rfl]
      have mv : Same (cut H1 (tt T (ownL f1))) (cut (upd G N (.tup [.int (k : Nat), x])) (tt T' (ownL f))) := fun b o h => by
        obtain ⟨e1, e2⟩ := cut_some h
        obtain ⟨e3, e4⟩ := tt_false.mp e1
        have gb := g b o (cut_of (decide_eq_false e4) e2)
        have bN : b ≠ N := fun z => by rw [z, nN] at gb; cases gb
        refine cut_of (tt_false.mpr ⟨?_, by rw [ef]; exact e4⟩) (by rw [upd_ne bN]; exact gb)
        cases hT : T' b with
        | false => rfl
        | true =>
          rcases et b hT with z | z
          · rw [e3] at z; cases z
          · rw [e2] at z; cases z
      have fN := E2.free nN
      exact .tup (xs := [.int (k : Nat), x]) (.inl (.inl (cut_of fN upd_same))) (.cons (.int _) (.cons (rx.mono mv) .nil))
    · obtain ⟨r1, r2⟩ := comp_end E1 k1 ha.ow nD k E2 (Fo _) bk z
      exact q _ _ r1 r2
theorem ae_lcE {F : Nat → Fm} (own : List (Str × Nat)) (y : Nat → Option PyData) (hN : X.N.Nodup) (ha : AE X a fs f1 (.val (.list ds))) (F0 : F 0 = wipeF f1 (own.map (·.2))) (Fo : ∀ i, ownL (F i) = ownL f1) (hs : ∀ i d, (enumD ds)[i]? = some d → TurnC X scope (own.map (·.2)) (.Tuple elts kk tpos) ifs elt d (F i) (F (i + 1)) (y i)) (bk : BackL f1 (F (enumD ds).length) f2)
    (hz : ds.length ≤ 100000) (hm : X.mg "enumerate" = none) (hg : Gl X "enumerate" := by rfl) (hc : X.calm = true := by rfl) (ok : blkC X.N X.env.scope scope own = true := by first | decide +kernel | rfl) (hst : starEach [a] X.env = [(false, eval a X.env)] := by rfl)
    (hf : ∀ x, foldedSetIterable (.Call (.Name "enumerate" p) [a] [] p2) X.env x = pure x := by intro _; rfl) :
    AE X (.ListComp elt [⟨.Tuple elts kk tpos, .Call (.Name "enumerate" p) [a] [] p2, ifs, 0⟩] scope pos) fs f2 (.new (.list (madeC y (enumD ds).length))) :=
  let R := compR_enum (X := X) (scope := scope) (tg := .Tuple elts kk tpos) (ifs := ifs) (elt := elt) (ad_cons ha ad_nil hst) hz F0 Fo hs bk.back
  ⟨R.ow, fun T σ H Q E q => bE_of (pe_lc hc hN (pi_enum hg hm bestA hst) (blkOk_by ok) gB_ok iB_ok eB_ok hf) (R.run T σ H Q E q)⟩
/-- x = [.. for i, e in enumerate(xs)], data from then on -/
theorem as_lcED {py : Pos} {F : Nat → Fm} (n : Nat) (own : List (Str × Nat)) (y : Nat → Option PyData) (hN : X.N.Nodup) (ha : AE X a fs f1 (.val (.list ds))) (F0 : F 0 = wipeF f1 (own.map (·.2))) (Fo : ∀ i, ownL (F i) = ownL f1) (hs : ∀ i d, (enumD ds)[i]? = some d → TurnC X scope (own.map (·.2)) (.Tuple elts kk tpos) ifs elt d (F i) (F (i + 1)) (y i)) (bk : BackL f1 (F (enumD ds).length) f2)
    (hz : ds.length ≤ 100000) (hk : AS X rest c (f2.set n (.dat (.list (madeC y (enumD ds).length)))) D3') (hm : X.mg "enumerate" = none) (hy : X.N[n]? = some x := by rfl) (hyl : X.env.scope.names.lookup x = some .local := by rfl) (hg : Gl X "enumerate" := by rfl) (hc : X.calm = true := by rfl) (ok : blkC X.N X.env.scope scope own = true := by first | decide +kernel | rfl) (hst : starEach [a] X.env = [(false, eval a X.env)] := by rfl)
    (hsw : swapsWith (.ListComp elt [⟨.Tuple elts kk tpos, .Call (.Name "enumerate" p) [a] [] p2, ifs, 0⟩] scope pos) (some (.Name x py)) spos.line X.env = pure true := by exact sw_true rfl rfl rfl (by decide +kernel)) (hf : ∀ x, foldedSetIterable (.Call (.Name "enumerate" p) [a] [] p2) X.env x = pure x := by intro _; rfl) :
    AS X (.Assign [.Name x py] (.ListComp elt [⟨.Tuple elts kk tpos, .Call (.Name "enumerate" p) [a] [] p2, ifs, 0⟩] scope pos) spos :: rest) c fs D3' :=
  as_compD n (compR_enum (X := X) (scope := scope) (tg := .Tuple elts kk tpos) (ifs := ifs) (elt := elt) (ad_cons ha ad_nil hst) hz F0 Fo hs bk.back) (ps_setLc hc hN hy hyl hsw (pi_enum hg hm bestA hst) (blkOk_by ok) gB_ok iB_ok eB_ok hf) hk
end
end A3
namespace A3
open PySem PySem.Spec PyProof.Rows L2
/-! ### a told pair of two new lists -/
section
variable {X : Cx} {scope : Scope} {a b e ie elt : Expr} {ifs elts : List Expr} {rest : List Stmt} {c : Cf} {D : D3} {D3' : D3} {F fs f1 f2 : Fm} {d1 d2 : PyData} {ds : List PyData} {pos pos' p p2 px tpos spos : Pos} {kk : Nat} {x : Str} {g h l : Addr} {T : Addr → Bool} {σ : L2.St} {H : Hp} {bb : Bool}
/-- x = [.. for i, e in enumerate(xs)], owned -/
theorem as_lcE {py : Pos} {F : Nat → Fm} (n : Nat) (own : List (Str × Nat)) (y : Nat → Option PyData) (hN : X.N.Nodup) (ha : AE X a fs f1 (.val (.list ds))) (F0 : F 0 = wipeF f1 (own.map (·.2))) (Fo : ∀ i, ownL (F i) = ownL f1) (hs : ∀ i d, (enumD ds)[i]? = some d → TurnC X scope (own.map (·.2)) (.Tuple elts kk tpos) ifs elt d (F i) (F (i + 1)) (y i)) (bk : BackL f1 (F (enumD ds).length) f2)
    (hz : ds.length ≤ 100000) (hk : ∀ l, l ∉ c.ws → l ∉ ownL f2 → AS X rest c (f2.set n (.own l (.list (madeC y (enumD ds).length)))) D3') (hm : X.mg "enumerate" = none) (hy : X.N[n]? = some x := by rfl) (hyl : X.env.scope.names.lookup x = some .local := by rfl) (hg : Gl X "enumerate" := by rfl) (hc : X.calm = true := by rfl) (ok : blkC X.N X.env.scope scope own = true := by first | decide +kernel | rfl) (hst : starEach [a] X.env = [(false, eval a X.env)] := by rfl)
    (hsw : swapsWith (.ListComp elt [⟨.Tuple elts kk tpos, .Call (.Name "enumerate" p) [a] [] p2, ifs, 0⟩] scope pos) (some (.Name x py)) spos.line X.env = pure true := by exact sw_true rfl rfl rfl (by decide +kernel)) (hf : ∀ x, foldedSetIterable (.Call (.Name "enumerate" p) [a] [] p2) X.env x = pure x := by intro _; rfl) :
    AS X (.Assign [.Name x py] (.ListComp elt [⟨.Tuple elts kk tpos, .Call (.Name "enumerate" p) [a] [] p2, ifs, 0⟩] scope pos) spos :: rest) c fs D3' :=
  as_comp n (compR_enum (X := X) (scope := scope) (tg := .Tuple elts kk tpos) (ifs := ifs) (elt := elt) (ad_cons ha ad_nil hst) hz F0 Fo hs bk.back) (ps_setLc hc hN hy hyl hsw (pi_enum hg hm bestA hst) (blkOk_by ok) gB_ok iB_ok eB_ok hf) hk
/-- return (a, b), both a local's own -/
theorem as_retTW (n m : Nat) {k} (ha : AE X a fs fs (.at g d1)) (hb : AE X b fs fs (.at h d2)) (hr : D.rt ((fs.set m .no).set n .no) (.tw d1 d2)) (hw1 : g ∉ c.ws) (hw2 : h ∉ c.ws) (hnm : m ≠ n := by decide) (hn : fs[n]? = some (.own g d1) := by rfl) (hm : fs[m]? = some (.own h d2) := by rfl)
    (hs : starEach [a, b] X.env = (false, eval a X.env) :: starEach [b] X.env := by rfl) (hs2 : starEach [b] X.env = (false, eval b X.env) :: starEach [] X.env := by rfl) : AS X (.Return (some (.Tuple [a, b] k pos)) pos' :: rest) c fs D :=
  fun σ H S => bSs_of (pss_cons (ps_ret (pe_tup (pa_cons best (pa_cons best pa_nil hs2) hs))) bestSs) (ha.run c.T σ H _ S.er fun x H1 k1 p1 => hb.run c.T σ H1 _ p1.1 fun y H2 k2 p2 => by
    obtain ⟨_, rfl, _⟩ := p1
    obtain ⟨E2, rfl, _⟩ := p2
    have k12 := k1.trans k2
    have S2 := S.step k12 E2 rfl
    refine ⟨by show 2 ≤ sizeLine; rw [sizeLine_eq]; decide, fun q nq => ?_⟩
    obtain ⟨q1, q2⟩ := er_drop E2 hm
    have hn2 : (fs.set m .no)[n]? = some (.own g d1) := by rw [List.getElem?_set_ne hnm]; exact hn
    obtain ⟨r1, r2⟩ := er_drop q1 hn2
    have ig : g ∈ ownL fs := mem_own hn
    have ih : h ∈ ownL fs := mem_own hm
    have ig2 : g ∈ ownL (fs.set m .no) := mem_own hn2
    have gh : g ≠ h := fun z => hnm (own_injS E2.nd hm hn rfl (by rw [z]; rfl))
    have hz : ∀ z ∈ ownL fs, z ∉ c.ws → c.H0 z = none := fun z hz hw => (S2.ow z hz).resolve_left hw
    have qo : ∀ z ∈ ownL fs, q ≠ z := fun z hz e => by
      subst e
      obtain ⟨o, ho⟩ := E2.thereL hz
      rw [nq] at ho; cases ho
    have qg := qo g ig
    have qh := qo h ih
    have e1 : hide3 (upd H2 q (.tup [.ref g, .ref h])) h g q = hide (hide H2 h) g := by
      funext b
      by_cases h1 : b = q
      · rw [h1, hide3_a, hide_ne qg, hide_ne qh, nq]
      · by_cases h2 : b = g
        · rw [h2, hide3_g, hide_self]
        · by_cases h3 : b = h
          · rw [h3, hide3_h, hide_ne (fun z => gh z.symm), hide_self]
          · rw [hide3_ne h3 h2 h1, hide_ne h2, hide_ne h3, upd_ne h1]
    have up : Same (cut (hide H2 h) (tt c.T (ownL (fs.set m .no)))) (cut (hide (hide H2 h) g) (tt c.T (ownL ((fs.set m .no).set n .no)))) := fun b o z => by
      obtain ⟨z1, z2⟩ := cut_some z
      obtain ⟨e1, e2⟩ := tt_false.mp z1
      have bg : b ≠ g := fun z => e2 (by rw [z]; exact ig2)
      refine cut_of (tt_false.mpr ⟨e1, fun z => ?_⟩) (by rw [hide_ne bg]; exact z2)
      rcases ownL_set z with z | z
      · exact e2 z
      · cases z
    refine ⟨σ, _, .tw d1 d2, hide (hide H2 h) g, ⟨⟨q, g, h, rfl, by rw [hide_ne qg, hide_ne qh]; exact nq, hide_self _ g, by rw [hide_ne (fun z => gh z.symm)]; exact hide_self _ h, qg, qh, gh, upd_same, by rw [e1]; exact r1,
      by rw [e1]; exact r2.mono (fun _ _ z => z) (by rw [upd_ne (fun z => qg z.symm), hide_ne gh]), by rw [e1]; exact q2.mono up (by rw [upd_ne (fun z => qh z.symm)])⟩,
      S2.kp.trans (Kp.of (same_upd nq)), fun b hb => by
        rw [hide_ne (fun z => hb (by rw [z]; exact hz g ig hw1)), hide_ne (fun z => hb (by rw [z]; exact hz h ih hw2))]; exact S2.dm b hb, rfl, fun b o z => same_upd nq b o (S2.gs b o z), fun a h => S2.gd a (by
        rcases ownL_set h with z | z
        · rcases ownL_set z with z | z
          · exact z
          · cases z
        · cases z)⟩, hr⟩)
/-- x = e, a new pair of new parts: two ghosts behind the frame -/
theorem as_setTW (n : Nat) (he : AE X e fs f1 (.tw d1 d2)) (hk : ∀ l g h, AS X rest c ((f1 ++ [Slot.own g d1, Slot.own h d2]).set n (Slot.raw l (.tup [.ref g, .ref h]))) D) (hN : X.N.Nodup) (hlen : X.N.length ≤ f1.length := by exact Nat.le_of_ble_eq_true rfl) (hi : X.N[n]? = some x := by rfl) (hx : Loc X.env.scope x := by first | exact .inl rfl | exact .inr rfl)
    (hs : swapsWith e (some (.Name x pos')) pos.line X.env = pure false := by rfl) (hf : X.fn x = true ∨ X.env.scope.names.lookup x = some .local := by first | exact .inl rfl | exact .inr rfl) : AS X (.Assign [.Name x pos'] e pos :: rest) c fs D :=
  fun σ H S => bSs_inv fun L0 => bSs_of (pss_cons (ps_set hN hi hx best hs hf) bestSs) (he.run c.T σ H _ S.er fun v H1 k1 p1 => by
    have Eer := p1.er
    obtain ⟨l, g, h, rfl, n1, n2, n3, lg, lh, gh, ha, E1, w1, w2⟩ := p1
    have hl : σ.length ≤ f1.length := by rw [L0]; exact hlen
    have e3 : hide3 H1 h g l = hide (hide (hide H1 l) h) g := by unfold hide3; rw [hide_comm (hide H1 h) l g, hide_comm H1 l h]
    rw [e3] at E1 w1 w2
    have fg : g ∉ ownL f1 := (tt_false.mp (E1.free (hide_self _ g))).2
    have A1 := er_push (H := hide (hide H1 l) h) (d := d1) E1 (w1.mono (fun _ _ z => z) (by rw [hide_ne gh, hide_ne (fun z => lg z.symm)])) hl
    have eo : ownL (f1 ++ [Slot.own g d1]) = ownL f1 ++ [g] := by rw [ownL_push]; rfl
    have up : Same (cut (hide (hide (hide H1 l) h) g) (tt c.T (ownL f1))) (cut (hide (hide H1 l) h) (tt c.T (ownL (f1 ++ [Slot.own g d1])))) := fun b o z => by
      obtain ⟨z1, z2⟩ := cut_some z
      obtain ⟨e1, e2⟩ := tt_false.mp z1
      have bg : b ≠ g := fun z => by rw [z, hide_self] at z2; cases z2
      refine cut_of (tt_false.mpr ⟨e1, fun z => ?_⟩) (by rw [hide_ne bg] at z2; exact z2)
      rw [eo] at z
      rcases List.mem_append.mp z with z | z
      · exact e2 z
      · exact bg (List.mem_singleton.mp z)
    have A2 := er_push (H := hide H1 l) (d := d2) A1 (w2.mono up (by rw [hide_ne (fun z => lh z.symm)])) (by rw [List.length_append]; exact Nat.le_trans hl (Nat.le_add_right _ _))
    have A3 := A2.setAt (i := n) (s := .raw l (.tup [.ref g, .ref h])) rfl ⟨rfl, ha⟩
    rw [List.append_assoc] at A3
    refine hk l g h _ _ (S.many k1 he.ow Eer A3 fun z hz => ?_)
    rcases ownL_set hz with q | q
    · rw [ownL_app] at q
      rcases List.mem_append.mp q with q | q
      · exact .inl q
      · have q : z ∈ [g, h] := q
        rcases List.mem_cons.mp q with q | q
        · rw [q]; exact .inr n2
        · rw [List.mem_singleton.mp q]; exact .inr n3
    · rw [← Option.some.inj q]; exact .inr n1)
theorem er_twD {K : PySem.W.Frag} {n i j : Nat} (E : ER K T σ H F) (hn : F[n]? = some (.raw l (.tup [.ref g, .ref h]))) (hi : F[i]? = some (.own g d1)) (hj : F[j]? = some (.own h d2)) : ER K T σ H ((frzF F).set n (.dat (.tuple [d1, d2]))) := by
  have E1 := er_frzAll E
  obtain ⟨r1, r2⟩ := E.raw hn
  have sn : ownL ((frzF F).set n (.dat (.tuple [d1, d2]))) = [] := by
    have h := ownL_set_sub (fs := frzF F) (i := n) (s := .dat (.tuple [d1, d2])) rfl
    rw [frz_own] at h
    exact List.sublist_nil.mp h
  have es : σ.set n (some (.ref l)) = σ := by
    by_cases h : n < σ.length
    · have := r1 h
      apply List.ext_getElem?
      intro m
      by_cases e : n = m
      · subst e; rw [List.getElem?_set_self h, this]
      · rw [List.getElem?_set_ne e]
    · exact List.set_eq_of_length_le (by omega)
  have up : Same (cut H (tt T (ownL F))) (cut H (tt T (ownL ((frzF F).set n (.dat (.tuple [d1, d2])))))) := cut_same fun b o e z => ⟨tt_false.mpr ⟨(tt_false.mp e).1, by rw [sn]; simp⟩, z⟩
  have fr : ∀ z ∈ ownL F, tt T (ownL ((frzF F).set n (.dat (.tuple [d1, d2])))) z = false := fun z hz => tt_false.mpr ⟨E.out z hz, by rw [sn]; simp⟩
  have rd : ∀ {k : Nat} {y : Addr} {d : PyData}, F[k]? = some (.own y d) → Rp K (cut H (tt T (ownL ((frzF F).set n (.dat (.tuple [d1, d2])))))) (.ref y) d := fun {k y d} hk => by
    obtain ⟨_, w⟩ := E.own hk
    obtain ⟨o, ho⟩ := w.there
    exact Ow.rp (S := cut H (tt T (ownL F))) up (w.mono (fun _ _ z => z) (by rw [ho]; exact cut_of (fr y (mem_own hk)) ho))
  have := E1.setS (i := n) (s := .dat (.tuple [d1, d2])) (ov := some (.ref l)) rfl (.tup (xs := [.ref g, .ref h]) (.inl (.inl (cut_of (fr l (mem_raw hn)) r2))) (.cons (rd hi) (.cons (rd hj) .nil)))
  rw [es] at this; exact this
/-- a test that asks the pair -/
theorem at_lendTW (n i j : Nat) (ht : AT X e ((frzF F).set n (.dat (.tuple [d1, d2]))) ((frzF F).set n (.dat (.tuple [d1, d2]))) bb) (hn : F[n]? = some (.raw l (.tup [.ref g, .ref h])) := by rfl) (hi : F[i]? = some (.own g d1) := by rfl) (hj : F[j]? = some (.own h d2) := by rfl) : AT X e F F bb :=
  ⟨rfl, fun T σ H Q E k => ht.run T σ H Q (er_twD E hn hi hj) fun H1 k1 E1 => by
    have sn : ownL ((frzF F).set n (.dat (.tuple [d1, d2]))) = [] := by
      have h := ownL_set_sub (fs := frzF F) (i := n) (s := .dat (.tuple [d1, d2])) rfl
      rw [frz_own] at h
      exact List.sublist_nil.mp h
    have sm : Same H H1 := fun b o z => k1 b o (by rw [sn]; simp) z
    exact k H1 (Kp.of sm) (E.keep sm)⟩
/-- x[i], a part of the pair -/
theorem ae_twIx {xs : List V} {i : Int} (n j : Nat) (hi : AE X ie F F (.val (.int i))) (hx : atI xs i = some (.ref g)) (hn : F[n]? = some (.raw l (.tup xs)) := by rfl) (hj : F[j]? = some (.own g d2) := by rfl) (hN : X.N[n]? = some x := by rfl) (hv : Vis X.env.scope x := by first | exact Or.inl rfl | exact Or.inr (Or.inl rfl) | exact Or.inr (Or.inr rfl))
    (hdb : (x == ("__debug__" : Str)) = false := by decide) (hcd : (x == ("__classdict__" : Str)) = false := by decide) (hs : PlainIx ie := by intro _ _; rfl) : AE X (.Subscript (.Name x px) ie pos) F F (.at g d2) := by
  refine ⟨rfl, fun T σ H Q E q => bE_inv fun L0 => bE_of (pe_ix ix_tup (pe_var hN hv hdb hcd) best hs) ?_⟩
  obtain ⟨r1, _⟩ := E.raw hn
  refine ⟨_, r1 (by rw [L0]; exact (List.getElem?_eq_some_iff.mp hN).1), hi.run T σ H _ E fun u H2 k2 p2 => ?_⟩
  obtain ⟨_, r2⟩ := p2.1.raw hn
  exact ⟨l, xs, i, .ref g, rfl, p2.2.int_inv, .inl (.inl r2), hx, q _ H2 k2 ⟨p2.1, rfl, j, hj⟩⟩
/-- the pair as data -/
theorem AE.twval (ha : AE X e fs f1 (.tw d1 d2)) : AE X e fs f1 (.val (.tuple [d1, d2])) :=
  ⟨ha.ow, fun T σ H Q E q => ha.run T σ H Q E fun v H' k p => q v H' k (Po.twVal p)⟩
end
end A3
namespace A3
open PySem PySem.Spec PyProof.Rows L2
/-! ### sorted(set(xs)), xs rising whole numbers -/
section
variable {P : Program} {w : World} {A : Around} {E : Value → Shared → Prop} {s : Shared}
theorem ints_get : ∀ {us : List Value} {ns : List Int}, IntsAre us ns → ∀ (i : Nat) (v : Value), us[i]? = some v → ∃ k t, ns[i]? = some k ∧ v = .int k t
  | _, _, .nil, i, v, h => by simp at h
  | _, _, .cons x t r, 0, v, h => ⟨x, t, rfl, (Option.some.inj h).symm⟩
  | _, _, .cons x t r, i + 1, v, h => ints_get r i v h
/-- set(xs), xs a list of whole numbers -/
theorem set_intsL {l : Addr} {items : Array Value} {ns : List Int} {Q : Value → Shared → Prop} (hh : A.handled = none) (hl : s.heap.IsList l items) (hi : IntsAre items.toList ns) (hb : ns.length + 1 < scanBound)
    (hq : ∀ h' tk c, c ≤ ns.length → SetR w h' s.heap.objs.size (fun j => decide (j ∈ ns)) c → (∀ b o, b < s.heap.objs.size → s.heap.get? b = some o → h'.get? b = some o) → Q (.ref s.heap.objs.size) { s with heap := h', toks := tk }) :
    wpAny (model P w) A (call (.type "set") [.ref l]) Q E s := by
  obtain ⟨c, tl, hmro⟩ := F.called_set.mro
  have z1 := F.called_set.made; have z2 := F.called_set.sub; have z3 := F.called_set.notType; have z4 := F.called_set.canCreate
  have z5 := PySem.F.typeCall_set_1 (.ref l)
  refine wpAny_call (codeAny_of_tree (show wpAny _ _ (callAny (.type "set") _) _ _ _ from wpAny_pure ⟨Code.quiet_builtin _ (by decide +kernel), codeAny_builtin F.entry_type_call ?_⟩))
  rw [Around.under_plain (weight_type_call_type "set" [.ref l] []) rfl]
  repeat (any_goals (first | assumption | wp_step))
  refine codeAny_mono (new_led (v := .ref l) (E := E) (Q1 := fun obj s1 => obj = .ref s.heap.objs.size ∧ s1 = { s with heap := s.heap.push (freshS w) }) ⟨rfl, rfl⟩) fun r s1 hr => ?_
  cases r with
  | error e => exact hr
  | ok fl =>
    cases fl with
    | ret obj =>
      obtain ⟨rfl, rfl⟩ := hr
      have gS : (s.heap.push (freshS w)).get? s.heap.objs.size = some (freshS w) := Heap.get?_push_size _ rfl
      have tS : Shared.TypeIs { s with heap := s.heap.push (freshS w) } (.ref s.heap.objs.size) "set" := ⟨_, gS, rfl⟩
      have y1 := F.called_set.init.lookup; have y2 := F.called_set.init.bind (.ref s.heap.objs.size)
      repeat (any_goals (first | assumption | wp_step))
      refine codeAny_mono (codeAny_call_builtin (R := wants (fun r s2 => r = .none ∧ ∃ h' tk c, s2 = { s with heap := h', toks := tk } ∧ c ≤ ns.length ∧ SetR w h' s.heap.objs.size (fun j => decide (j ∈ ns)) c ∧
          (∀ b o, b < s.heap.objs.size → s.heap.get? b = some o → h'.get? b = some o)) E) F.called_set.init.plain F.entry_set_init (check_set_init_1 tS ?_)) fun r2 s2 hr2 => ?_
      · obtain ⟨ol, hol, hcl, nl, hdl⟩ := hl
        obtain ⟨oc, od, odat, osl⟩ := ol
        simp only at hcl hdl
        subst hcl; subst hdl
        have hol' : (s.heap.push (freshS w)).get? l = some { cls := .type "list", dict := od, data := .seq items nl, slots := osl } := Heap.get?_push_of_some _ hol
        have w1 := PySem.F.sub_list_set; have w2 := PySem.F.sub_list_frozenset
        have w3 : (Value.type "list" == Value.type "dict") = false := by decide
        have hl1 : (s.heap.push (freshS w)).IsList l items := ⟨_, hol', rfl, nl, rfl⟩
        unfold Builtin.«set.__init__»; unfold noKeywords; unfold Builtin.Frozenset.updateFrom
        generalize hPI : pyIter = PI
        wp_walk
        subst hPI
        refine wpAny_pyIter_list hl1 (wpAny_bind (wpAny_runValue ?_))
        have lS : l < s.heap.objs.size := Heap.lt_size hol
        have h3 : A.in1.in1.in1.handled = none := by simp [hh]
        have szS : (s.heap.push (freshS w)).objs.size = s.heap.objs.size + 1 := Heap.size_push ..
        have n1 : l ≠ (s.heap.push (freshS w)).objs.size := by rw [szS]; exact Nat.ne_of_lt (Nat.lt_succ_of_lt lS)
        have n2 : s.heap.objs.size ∉ [(s.heap.push (freshS w)).objs.size, l] := by
          rw [szS]; simp only [List.mem_cons, List.not_mem_nil, or_false, not_or]
          exact ⟨Nat.ne_of_lt (Nat.lt_succ_self _), Nat.ne_of_gt lS⟩
        have hlen : items.size = ns.length := by
          have q := IntsAre.length hi
          rw [Array.length_toList] at q; exact q
        refine set_update_ints ((Walks.list h3 _ l n1 items).toS) s.heap.objs.size n2 ns hlen hb (fun i v hv => ints_get hi i v (by rw [Array.getElem?_toList]; exact hv)) (items.size - 0) 0 _ (by omega) (Nat.zero_le _)
          ⟨⟨_, Heap.get?_push_size _ rfl, rfl, rfl⟩, (hl1.push _)⟩ ⟨0, Nat.le_refl _, setR_new_at (Heap.get?_push_of_some _ gS)⟩ fun s' c mv hc S' => ?_
        obtain ⟨h', g', d', tk', os'⟩ := s'
        obtain rfl : g' = s.gens := mv.gens
        obtain rfl : d' = s.drawn := mv.drawn
        obtain rfl : os' = s.os := mv.os
        have old : ∀ b o, b < s.heap.objs.size → s.heap.get? b = some o → h'.get? b = some o := fun b o lt e => by
          refine mv.heap b o ?_ (Heap.get?_push_of_some _ (Heap.get?_push_of_some _ e))
          rw [szS]; simp only [List.mem_cons, List.not_mem_nil, or_false, not_or]
          exact ⟨Nat.ne_of_lt lt, Nat.ne_of_lt (Nat.lt_succ_of_lt lt)⟩
        exact wpAny_pure (show wpAny _ _ (ret Value.none) _ _ _ from wpAny_pure ⟨rfl, h', tk', c, rfl, by omega, S', old⟩)
      · cases r2 with
        | error e => exact hr2
        | ok fl2 =>
          cases fl2 with
          | ret r =>
            obtain ⟨rfl, h', tk, c, rfl, hc, S', old⟩ := hr2
            repeat (any_goals (first | assumption | wp_step))
            exact hq _ _ c hc S' old
          | _ => exact hr2.elim
    | _ => exact hr.elim
end
theorem asc_eq : ∀ {ns ms : List Int}, ns.Pairwise (· < ·) → ms.Pairwise (· < ·) → (∀ k, k ∈ ns ↔ k ∈ ms) → ns = ms
  | [], [], _, _, _ => rfl
  | [], m :: ms, _, _, h => absurd ((h m).mpr List.mem_cons_self) (by simp)
  | n :: ns, [], _, _, h => absurd ((h n).mp List.mem_cons_self) (by simp)
  | n :: ns, m :: ms, h1, h2, h => by
    obtain ⟨a1, a2⟩ := List.pairwise_cons.mp h1
    obtain ⟨b1, b2⟩ := List.pairwise_cons.mp h2
    have e : n = m := by
      rcases List.mem_cons.mp ((h n).mp List.mem_cons_self) with z | z
      · exact z
      · rcases List.mem_cons.mp ((h m).mpr List.mem_cons_self) with y | y
        · exact y.symm
        · have := a1 m y; have := b1 n z; omega
    subst e
    rw [asc_eq a2 b2 fun k => ⟨fun hk => by
      rcases List.mem_cons.mp ((h k).mp (List.mem_cons_of_mem _ hk)) with z | z
      · have := a1 k hk; omega
      · exact z, fun hk => by
      rcases List.mem_cons.mp ((h k).mpr (List.mem_cons_of_mem _ hk)) with z | z
      · have := b1 k hk; omega
      · exact z⟩]
section
variable {X : Cx} {a : Expr} {fs f1 : Fm} {r : Res} {pos p p2 q2 : Pos}
def tSortSetI (K : PySem.W.Frag) (ta : TE) : TE := fun σ H Q => ta σ H fun x H1 => ∃ (l : Addr) (ns : List Int), x = V.ref l ∧ SqL K H1 l (ns.map V.int) ∧ ns.length < 64 ∧ ns.Pairwise (· < ·) ∧ ∀ p, H1 p = none → Q (.ref p) (upd H1 p (.lst (ns.map V.int)))
theorem pe_sortSetI {ta : TE} {q : Pos} (hc : X.calm = true) (hg : Gl X "sorted") (hm : X.mg "sorted" = none) (hg2 : Gl X "set") (hm2 : X.mg "set" = none) (ha : PE X a ta)
    (na : starEach [a] X.env = (false, eval a X.env) :: starEach [] X.env := by rfl) : PE X (.Call (.Name "sorted" p) [.Call (.Name "set" p2) [a] [] q] [] pos) (tSortSetI X.K ta) := by
  refine ⟨fun pins s σ H Q I h => Call_ (ld_blt I hg hm PyProof.Rows.boot_sorted (PyProof.Rows.callWith_builtin1 (PyProof.Rows.args_cons ?_ rfl) rfl rfl))⟩
  refine Call_ (ld_blt I hg2 hm2 PyProof.Rows.boot_set (PyProof.Rows.callWith_type1 (PyProof.Rows.args_cons (thn (ha.run pins s σ H _ I h) fun v s1 ⟨x, H1, I1, r1, q1⟩ => PyProof.Rows.args_nil ?_) na) na rfl))
  obtain ⟨l, ns, rfl, hq, h1, asc, q1⟩ := q1
  cases r1
  obtain ⟨its, rv, pl, hz⟩ := I1.list hq
  refine set_intsL (I1.ok.hd hc) pl.isList (ns := ns) (by simpa using RZ.intsAre_vals rv) (by unfold scanBound; omega) fun h' tk c hc2 R kp => PyProof.Rows.args_nil ?_
  obtain ⟨s2, es2⟩ : ∃ s2 : Shared, s2 = { s1 with heap := h', toks := tk } := ⟨_, rfl⟩
  have I2 : Inv X pins σ H1 s2 := by rw [es2]; exact I1.kept fun b o e => kp b o (Heap.lt_size e) e
  have R2 : SetR X.w s2.heap s1.heap.objs.size (fun j => decide (j ∈ ns)) c := by rw [es2]; exact R
  show wpAny _ _ (call (.builtin "sorted") [.ref s1.heap.objs.size]) _ _ { s1 with heap := h', toks := tk }
  rw [← es2]
  refine sorted_set R2 (I2.ok.hd hc) (by omega) fun s' p out c ms k g o hp hi' hi pw mem len => ?_
  have em : ms = ns := asc_eq pw asc fun k => by rw [mem k, decide_eq_true_eq]
  subst em
  have hsl : (ms.map V.int).length ≤ sizeLine := by rw [List.length_map, sizeLine_eq]; omega
  have hn : H1 p = none := I2.hok.fresh hp
  have J : Inv X pins σ (upd H1 p (.lst (ms.map V.int))) { s2 with heap := s'.heap, gens := s'.gens, drawn := s'.drawn, toks := s'.toks } :=
    I2.call (ch := []) (Un.laid k hp hn) (I2.hok.laid k hp ⟨hsl, out.toList, c, vals_of_ints hi, hi'⟩) (by rw [g]; exact I2.bare) fun _ z => nomatch z
  have e : s' = { s2 with heap := s'.heap, gens := s'.gens, drawn := s'.drawn, toks := s'.toks } := by
    clear J R2 I2 es2
    cases s'; cases s2; cases o; rfl
  rw [e]
  exact ⟨.ref p, _, J, rfl, q1 p hn⟩
theorem ae_sortSetI {ns : List Int} (hc : X.calm = true) (ha : AE X a fs f1 r) (e : r.d = .list (ns.map .int)) (hz : ns.length < 64) (asc : ns.Pairwise (· < ·)) (hg : Gl X "sorted") (hm : X.mg "sorted" = none) (hg2 : Gl X "set") (hm2 : X.mg "set" = none)
    (na : starEach [a] X.env = (false, eval a X.env) :: starEach [] X.env := by rfl) : AE X (.Call (.Name "sorted" p) [.Call (.Name "set" p2) [a] [] q2] [] pos) fs f1 (.new (.list (ns.map .int))) := by
  refine ⟨ha.ow, fun T σ H Q E q => bE_of (pe_sortSetI hc hg hm hg2 hm2 best na) (ha.run T σ H _ E fun x H1 k1 p1 => ?_)⟩
  obtain ⟨g, vs, ex, sq, qv⟩ := p1.list e
  have ev : vs = ns.map V.int := rpInts_inv qv
  subst ev
  exact ⟨g, ns, ex, sq, hz, asc, fun p n => q _ _ (k1.trans (Kp.of (same_upd n))) (po_lst p1.er k1 ha.ow n (RpAll.ints ns))⟩
/-- len(set(xs)), xs whole numbers without doubles -/
theorem ae_lenSetI {ns : List Int} (ha : AE X a fs f1 r) (e : r.d = .list (ns.map .int)) (nd : ns.Nodup) (hz : ns.length ≤ 4000) (hg : Gl X "len") (hm : X.mg "len" = none) (hg2 : Gl X "set") (hm2 : X.mg "set" = none) (hc : X.calm = true := by rfl)
    (na : starEach [a] X.env = (false, eval a X.env) :: starEach [] X.env := by rfl) : AE X (.Call (.Name "len" p) [.Call (.Name "set" p2) [a] [] q2] [] pos) fs f1 (.val (.int (ns.length : Int))) := by
  refine ⟨ha.ow, fun T σ H Q E q => bE_of (RZ.pe_lenSetI hg hm hg2 hm2 best hc na) (ha.run T σ H _ E fun x H1 k1 p1 => ?_)⟩
  obtain ⟨g, vs, ex, sq, qv⟩ := p1.list e
  have ev : vs = ns.map V.int := rpInts_inv qv
  subst ev
  exact ⟨g, ns, ex, sq, nd, hz, q _ _ k1 ⟨p1.er, .int _⟩⟩
end
end A3
namespace A3
open PySem PySem.Spec PyProof.Rows L2
/-! ### tables of any kind -/
section
variable {α : Type}
def tV : List (Key × α) → Key → Option α
  | [], _ => none
  | p :: r, k => if p.1 = k then some p.2 else tV r k
def tP (t : List (Key × α)) (k : Key) (d : α) : List (Key × α) := if (tV t k).isSome = true then t.map (fun p => if p.1 = k then (p.1, d) else p) else t ++ [(k, d)]
def tX (t : List (Key × α)) (k : Key) : List (Key × α) := t.filter fun p => decide (p.1 ≠ k)
def enT (f : α → PyData) (t : List (Key × α)) : Tb := t.map fun p => (p.1, f p.2)
theorem gV_en (f : α → PyData) (t : List (Key × α)) (k : Key) : gV (enT f t) k = (tV t k).map f := by
  induction t with
  | nil => rfl
  | cons p r ih =>
    show (if p.1 = k then some (f p.2) else gV (enT f r) k) = _
    unfold tV
    by_cases e : p.1 = k
    · rw [if_pos e, if_pos e]; rfl
    · rw [if_neg e, if_neg e, ih]
theorem gP_en (f : α → PyData) (t : List (Key × α)) (k : Key) (d : α) : gP (enT f t) k (f d) = enT f (tP t k d) := by
  unfold gP tP
  rw [gV_en, Option.isSome_map]
  by_cases m : (tV t k).isSome = true
  · rw [if_pos m, if_pos m]
    unfold enT
    rw [List.map_map, List.map_map]
    refine List.map_congr_left fun p _ => ?_
    show (if p.1 = k then (p.1, f d) else (p.1, f p.2)) = ((if p.1 = k then (p.1, d) else p).1, f (if p.1 = k then (p.1, d) else p).2)
    split <;> rfl
  · rw [if_neg m, if_neg m]; simp [enT]
theorem gX_en (f : α → PyData) (t : List (Key × α)) (k : Key) : gX (enT f t) k = enT f (tX t k) := by
  unfold gX tX enT
  rw [List.filter_map]; rfl
theorem enT_keys (f : α → PyData) (t : List (Key × α)) : gKs (enT f t) = t.map (·.1) := by unfold gKs enT; rw [List.map_map]; rfl
theorem enT_len (f : α → PyData) (t : List (Key × α)) : (enT f t).length = t.length := List.length_map _
theorem tV_mem {t : List (Key × α)} {k : Key} {d : α} (h : tV t k = some d) : (k, d) ∈ t := by
  induction t with
  | nil => cases h
  | cons p r ih =>
    unfold tV at h
    by_cases e : p.1 = k
    · rw [if_pos e] at h; cases h; rw [← e]; exact List.mem_cons_self
    · rw [if_neg e] at h; exact List.mem_cons_of_mem _ (ih h)
theorem tV_of {t : List (Key × α)} {k : Key} {d : α} (nd : (t.map (·.1)).Nodup) (h : (k, d) ∈ t) : tV t k = some d := by
  induction t with
  | nil => cases h
  | cons p r ih =>
    have nd' := List.nodup_cons.mp (show (p.1 :: r.map (·.1)).Nodup from nd)
    unfold tV
    rcases List.mem_cons.mp h with e | e
    · rw [← e, if_pos rfl]
    · rw [if_neg fun z => nd'.1 (by rw [z]; exact List.mem_map.mpr ⟨_, e, rfl⟩)]; exact ih nd'.2 e
theorem tV_none {t : List (Key × α)} {k : Key} : tV t k = none ↔ ∀ d, (k, d) ∉ t := by
  induction t with
  | nil => simp [tV]
  | cons p r ih =>
    unfold tV
    by_cases e : p.1 = k
    · rw [if_pos e]
      constructor
      · intro z; cases z
      · intro z; exact absurd (by rw [← e]; exact List.mem_cons_self) (z p.2)
    · rw [if_neg e, ih]
      constructor
      · intro z d m
        rcases List.mem_cons.mp m with q | q
        · exact e (by rw [← q])
        · exact z d q
      · intro z d m; exact z d (List.mem_cons_of_mem _ m)
theorem tP_mem {t : List (Key × α)} {k j : Key} {d x : α} (h : (j, x) ∈ tP t k d) : (j = k ∧ x = d) ∨ (j ≠ k ∧ (j, x) ∈ t) := by
  unfold tP at h
  split at h
  · obtain ⟨p, hp, e⟩ := List.mem_map.mp h
    by_cases z : p.1 = k
    · rw [if_pos z] at e; cases e; exact .inl ⟨z, rfl⟩
    · rw [if_neg z] at e; subst e; exact .inr ⟨z, hp⟩
  · rename_i hn
    rcases List.mem_append.mp h with e | e
    · refine .inr ⟨fun z => ?_, e⟩
      subst z
      exact tV_none.mp (Option.not_isSome_iff_eq_none.mp hn) _ e
    · rw [List.mem_singleton] at e; cases e; exact .inl ⟨rfl, rfl⟩
theorem tP_self (t : List (Key × α)) (k : Key) (d : α) : (k, d) ∈ tP t k d := by
  unfold tP
  by_cases m : (tV t k).isSome = true
  · rw [if_pos m]
    obtain ⟨x, hx⟩ := Option.isSome_iff_exists.mp m
    exact List.mem_map.mpr ⟨_, tV_mem hx, by rw [if_pos rfl]⟩
  · rw [if_neg m]; exact List.mem_append_right _ List.mem_cons_self
theorem tP_other {t : List (Key × α)} {k j : Key} {d x : α} (n : j ≠ k) (h : (j, x) ∈ t) : (j, x) ∈ tP t k d := by
  unfold tP
  split
  · exact List.mem_map.mpr ⟨_, h, by rw [if_neg n]⟩
  · exact List.mem_append_left _ h
theorem tP_nd {t : List (Key × α)} {k : Key} {d : α} (h : (t.map (·.1)).Nodup) : ((tP t k d).map (·.1)).Nodup := by
  unfold tP
  split
  · rw [List.map_map]
    have : (fun p : Key × α => p.1) ∘ (fun p => if p.1 = k then (p.1, d) else p) = fun p => p.1 := by
      funext p; show (if p.1 = k then (p.1, d) else p).1 = p.1; split <;> rfl
    rw [this]; exact h
  · rename_i hn
    rw [List.map_append]
    refine List.nodup_append.mpr ⟨h, List.nodup_cons.mpr ⟨by simp, List.nodup_nil⟩, fun a ha b hb e => ?_⟩
    have eb : b = k := by simpa using hb
    obtain ⟨p, hp, ep⟩ := List.mem_map.mp ha
    exact tV_none.mp (Option.not_isSome_iff_eq_none.mp hn) p.2 (by rw [← eb, ← e, ← ep]; exact hp)
theorem tP_len (t : List (Key × α)) (k : Key) (d : α) : (tP t k d).length ≤ t.length + 1 := by unfold tP; split <;> simp
theorem tX_mem {t : List (Key × α)} {k j : Key} {x : α} : (j, x) ∈ tX t k ↔ (j, x) ∈ t ∧ j ≠ k := by unfold tX; simp [List.mem_filter]
theorem tX_nd {t : List (Key × α)} {k : Key} (h : (t.map (·.1)).Nodup) : ((tX t k).map (·.1)).Nodup := h.sublist (List.Sublist.map _ List.filter_sublist)
end
/-! ### the least by names -/
abbrev RTb := List (Key × Rat)
def lbS (t : RTb) (p : Key × Rat) : RTb :=
  match tV t p.1 with
  | none => tP t p.1 p.2
  | some m => if p.2 < m then tP t p.1 p.2 else t
def lb (rows : RTb) : RTb := rows.foldl lbS []
theorem lbS_nd {t : RTb} {p : Key × Rat} (h : (t.map (·.1)).Nodup) : ((lbS t p).map (·.1)).Nodup := by
  unfold lbS
  split
  · exact tP_nd h
  · split
    · exact tP_nd h
    · exact h
theorem lbS_wit {t : RTb} {p q : Key × Rat} (h : q ∈ lbS t p) : q = p ∨ q ∈ t := by
  have aux : q ∈ tP t p.1 p.2 → q = p ∨ q ∈ t := fun h => by
    rcases tP_mem (j := q.1) (x := q.2) h with ⟨e1, e2⟩ | ⟨_, e⟩
    · exact .inl (Prod.ext e1 e2)
    · exact .inr e
  unfold lbS at h
  split at h
  · exact aux h
  · split at h
    · exact aux h
    · exact .inr h
/-- what was there stays or gets less -/
theorem lbS_old {t : RTb} {p : Key × Rat} (nd : (t.map (·.1)).Nodup) {k : Key} {m : Rat} (h : (k, m) ∈ t) : ∃ d, (k, d) ∈ lbS t p ∧ d ≤ m := by
  by_cases e : k = p.1
  · have hv := tV_of nd h
    rw [e] at hv
    unfold lbS
    rw [hv]
    show ∃ d, (k, d) ∈ (if p.2 < m then tP t p.1 p.2 else t) ∧ d ≤ m
    by_cases l : p.2 < m
    · rw [if_pos l, e]; exact ⟨p.2, tP_self _ _ _, by grind⟩
    · rw [if_neg l]; exact ⟨m, h, by grind⟩
  · have aux : (k, m) ∈ tP t p.1 p.2 := tP_other e h
    unfold lbS
    split
    · exact ⟨m, aux, by grind⟩
    · split
      · exact ⟨m, aux, by grind⟩
      · exact ⟨m, h, by grind⟩
theorem lbS_new (t : RTb) (p : Key × Rat) : ∃ d, (p.1, d) ∈ lbS t p ∧ d ≤ p.2 := by
  unfold lbS
  split
  · exact ⟨p.2, tP_self _ _ _, by grind⟩
  · rename_i m hm
    split
    · exact ⟨p.2, tP_self _ _ _, by grind⟩
    · exact ⟨m, tV_mem hm, by grind⟩
theorem lb_gen : ∀ (rows t : RTb), (t.map (·.1)).Nodup → ((rows.foldl lbS t).map (·.1)).Nodup ∧ (∀ q ∈ rows.foldl lbS t, q ∈ rows ∨ q ∈ t) ∧ (∀ k m, (k, m) ∈ t → ∃ d, (k, d) ∈ rows.foldl lbS t ∧ d ≤ m) ∧ ∀ q ∈ rows, ∃ d, (q.1, d) ∈ rows.foldl lbS t ∧ d ≤ q.2
  | [], t, nd => ⟨nd, fun q h => .inr h, fun k m h => ⟨m, h, by grind⟩, fun q h => by cases h⟩
  | p :: r, t, nd => by
    obtain ⟨h1, h2, h3, h4⟩ := lb_gen r (lbS t p) (lbS_nd nd)
    refine ⟨h1, fun q h => ?_, fun k m h => ?_, fun q h => ?_⟩
    · rcases h2 q h with z | z
      · exact .inl (List.mem_cons_of_mem _ z)
      · rcases lbS_wit z with e | e
        · exact .inl (by rw [e]; exact List.mem_cons_self)
        · exact .inr e
    · obtain ⟨d, hd, l⟩ := lbS_old (p := p) nd h
      obtain ⟨d2, hd2, l2⟩ := h3 k d hd
      exact ⟨d2, hd2, by grind⟩
    · rcases List.mem_cons.mp h with e | e
      · subst e
        obtain ⟨d, hd, l⟩ := lbS_new t q
        obtain ⟨d2, hd2, l2⟩ := h3 _ d hd
        exact ⟨d2, hd2, by grind⟩
      · exact h4 q e
theorem lb_nd (rows : RTb) : ((lb rows).map (·.1)).Nodup := (lb_gen rows [] List.nodup_nil).1
theorem lb_wit {rows : RTb} {q : Key × Rat} (h : q ∈ lb rows) : q ∈ rows := ((lb_gen rows [] List.nodup_nil).2.1 q h).resolve_right (by simp)
theorem lb_le {rows : RTb} {q : Key × Rat} (h : q ∈ rows) : ∃ d, (q.1, d) ∈ lb rows ∧ d ≤ q.2 := (lb_gen rows [] List.nodup_nil).2.2.2 q h
theorem lb_s {rows : RTb} {k : Nat} {p : Key × Rat} (h : rows[k]? = some p) : lb (rows.take (k + 1)) = lbS (lb (rows.take k)) p := by
  unfold lb
  rw [List.take_succ, h, List.foldl_append]; rfl
theorem lb_len (rows : RTb) : (lb rows).length ≤ rows.length := by
  have : ∀ (rows t : RTb), (rows.foldl lbS t).length ≤ t.length + rows.length := fun rows => by
    induction rows with
    | nil => intro t; simp
    | cons p r ih =>
      intro t
      have h1 := ih (lbS t p)
      have h2 : (lbS t p).length ≤ t.length + 1 := by
        unfold lbS
        split
        · exact tP_len _ _ _
        · split
          · exact tP_len _ _ _
          · omega
      rw [List.foldl_cons, List.length_cons]; omega
  have := this rows []
  simpa [lb] using this
def minR (a b : Rat) : Rat := if b < a then b else a
theorem lb_two (k : Key) (a b : Rat) : lb [(k, a), (k, b)] = [(k, minR a b)] := by
  have h1 : lbS [] (k, a) = [(k, a)] := rfl
  have h2 : lbS [(k, a)] (k, b) = [(k, minR a b)] := by
    unfold lbS minR
    simp only [tV, if_true]
    by_cases l : b < a
    · rw [if_pos l, if_pos l]; simp [tP, tV]
    · rw [if_neg l, if_neg l]
  show lbS (lbS [] (k, a)) (k, b) = _
  rw [h1, h2]
/-! ### the first of those that wait -/
def eS (f : Option (Key × Rat)) (p : Key × Rat) : Option (Key × Rat) :=
  match f with
  | none => some p
  | some g => if p.2 < g.2 then some p else some g
def eV (t : RTb) : Option (Key × Rat) := t.foldl eS none
theorem eV_s {t : RTb} {k : Nat} {p : Key × Rat} (h : t[k]? = some p) : eV (t.take (k + 1)) = eS (eV (t.take k)) p := by
  unfold eV
  rw [List.take_succ, h, List.foldl_append]; rfl
theorem eV_gen : ∀ (t : RTb) (f : Option (Key × Rat)), (∀ g, t.foldl eS f = some g → (g ∈ t ∨ f = some g) ∧ (∀ q ∈ t, g.2 ≤ q.2) ∧ ∀ q, f = some q → g.2 ≤ q.2) ∧ (t.foldl eS f = none → t = [] ∧ f = none)
  | [], f => ⟨fun g h => ⟨.inr h, fun q m => (by cases m), fun q e => by rw [e] at h; cases h; grind⟩, fun h => ⟨rfl, h⟩⟩
  | p :: r, f => by
    obtain ⟨h1, h2⟩ := eV_gen r (eS f p)
    have hs : ∃ s, eS f p = some s ∧ (s = p ∨ f = some s) ∧ s.2 ≤ p.2 ∧ ∀ q, f = some q → s.2 ≤ q.2 := by
      cases f with
      | none => exact ⟨p, rfl, .inl rfl, by grind, fun q e => by cases e⟩
      | some g =>
        show ∃ s, (if p.2 < g.2 then some p else some g) = some s ∧ _
        by_cases l : p.2 < g.2
        · exact ⟨p, if_pos l, .inl rfl, by grind, fun q e => by cases e; grind⟩
        · exact ⟨g, if_neg l, .inr rfl, by grind, fun q e => by cases e; grind⟩
    obtain ⟨s, e1, e2, e3, e4⟩ := hs
    refine ⟨fun g h => ?_, fun h => ?_⟩
    · obtain ⟨a, b, c⟩ := h1 g h
      have c1 := c s e1
      refine ⟨?_, fun q m => ?_, fun q e => ?_⟩
      · rcases a with a | a
        · exact .inl (List.mem_cons_of_mem _ a)
        · rw [e1] at a; cases a
          rcases e2 with e2 | e2
          · exact .inl (by rw [e2]; exact List.mem_cons_self)
          · exact .inr e2
      · rcases List.mem_cons.mp m with z | z
        · rw [z]; grind
        · exact b q z
      · have := e4 q e; grind
    · obtain ⟨_, z⟩ := h2 h
      rw [e1] at z; cases z
theorem eV_some {t : RTb} {g : Key × Rat} (h : eV t = some g) : g ∈ t ∧ ∀ q ∈ t, g.2 ≤ q.2 := by
  obtain ⟨a, b, _⟩ := (eV_gen t none).1 g h
  exact ⟨a.resolve_right (by simp), b⟩
theorem eV_none {t : RTb} (h : eV t = none) : t = [] := ((eV_gen t none).2 h).1
/-! ### runs by their posts -/
abbrev Ru := List Nat × List Nat × Rat
def ruD (q : Ru) : PyData := .tuple [sD q.1, sD q.2.1, rD q.2.2]
abbrev Ed := Nat × List Nat × Rat
def edD (e : Ed) : PyData := .tuple [.int (e.1 : Int), sD e.2.1, rD e.2.2]
def twoE (i : Nat) (q : Ru) (k : Key) : List Ed := (if kS q.1 = k then [(i, q.2.1, q.2.2)] else []) ++ if kS q.2.1 = k then [(i, q.1, q.2.2)] else []
def waysI : List Ru → Nat → Key → List Ed
  | [], _, _ => []
  | q :: r, i, k => twoE i q k ++ waysI r (i + 1) k
def waysK (net : List Ru) (k : Key) : List Ed := waysI net 0 k
theorem waysI_app (a b : List Ru) (i : Nat) (k : Key) : waysI (a ++ b) i k = waysI a i k ++ waysI b (i + a.length) k := by
  induction a generalizing i with
  | nil => simp [waysI]
  | cons q r ih =>
    rw [List.cons_append]
    show twoE i q k ++ waysI (r ++ b) (i + 1) k = (twoE i q k ++ waysI r (i + 1) k) ++ _
    rw [ih, List.append_assoc, List.length_cons]
    congr 3
    omega
theorem waysK_s {net : List Ru} {n : Nat} {q : Ru} (h : net[n]? = some q) (k : Key) : waysK (net.take (n + 1)) k = waysK (net.take n) k ++ twoE n q k := by
  have lt : n < net.length := (List.getElem?_eq_some_iff.mp h).1
  unfold waysK
  rw [List.take_succ, h, Option.toList_some, waysI_app, List.length_take, Nat.min_eq_left (by omega), Nat.zero_add]
  simp [waysI]
theorem twoE_mem {i : Nat} {q : Ru} {k : Key} {e : Ed} : e ∈ twoE i q k ↔ e.1 = i ∧ ((kS q.1 = k ∧ e.2 = (q.2.1, q.2.2)) ∨ (kS q.2.1 = k ∧ e.2 = (q.1, q.2.2))) := by
  unfold twoE
  rw [List.mem_append]
  constructor
  · rintro (h | h)
    · split at h
      · rename_i z; rw [List.mem_singleton] at h; subst h; exact ⟨rfl, .inl ⟨z, rfl⟩⟩
      · cases h
    · split at h
      · rename_i z; rw [List.mem_singleton] at h; subst h; exact ⟨rfl, .inr ⟨z, rfl⟩⟩
      · cases h
  · rintro ⟨h, ⟨z, e2⟩ | ⟨z, e2⟩⟩
    · left; rw [if_pos z, List.mem_singleton]; exact Prod.ext h e2
    · right; rw [if_pos z, List.mem_singleton]; exact Prod.ext h e2
theorem waysI_mem {net : List Ru} {k : Key} {e : Ed} : ∀ {i : Nat}, e ∈ waysI net i k ↔ ∃ n q, net[n]? = some q ∧ e ∈ twoE (i + n) q k := by
  induction net with
  | nil => intro i; simp [waysI]
  | cons q r ih =>
    intro i
    show e ∈ twoE i q k ++ waysI r (i + 1) k ↔ _
    rw [List.mem_append, ih]
    constructor
    · rintro (h | ⟨n, q2, h1, h2⟩)
      · exact ⟨0, q, rfl, h⟩
      · exact ⟨n + 1, q2, h1, by rw [show i + (n + 1) = i + 1 + n by omega]; exact h2⟩
    · rintro ⟨n, q2, h1, h2⟩
      cases n with
      | zero => cases Option.some.inj h1; exact .inl h2
      | succ n => exact .inr ⟨n, q2, h1, by rw [show i + 1 + n = i + (n + 1) by omega]; exact h2⟩
theorem waysK_mem {net : List Ru} {k : Key} {e : Ed} : e ∈ waysK net k ↔ ∃ q, net[e.1]? = some q ∧ ((kS q.1 = k ∧ e.2 = (q.2.1, q.2.2)) ∨ (kS q.2.1 = k ∧ e.2 = (q.1, q.2.2))) := by
  unfold waysK
  rw [waysI_mem]
  constructor
  · rintro ⟨n, q, h1, h2⟩
    obtain ⟨e1, e2⟩ := twoE_mem.mp h2
    rw [Nat.zero_add] at e1
    exact ⟨q, by rw [e1]; exact h1, e2⟩
  · rintro ⟨q, h1, h2⟩
    exact ⟨e.1, q, h1, twoE_mem.mpr ⟨by omega, h2⟩⟩
/-! ### when posts fall -/
def comesV (s t : Rat) (g : Option Rat) : Option Rat :=
  match g with
  | none => some (s + t)
  | some x => if x < s + t then none else some (s + t)
theorem comesV_eq {s t m : Rat} {g : Option Rat} (h : comesV s t g = some m) : m = s + t := by
  unfold comesV at h
  split at h
  · cases h; rfl
  · split at h <;> cases h; rfl
/-- earlier there, earlier come -/
theorem comesV_le {s s2 t m : Rat} {g : Option Rat} (h : comesV s t g = some m) (l : s2 ≤ s) : ∃ m2, comesV s2 t g = some m2 ∧ m2 ≤ m := by
  unfold comesV at h ⊢
  split at h
  · cases h; exact ⟨_, rfl, by grind⟩
  · rename_i x
    split at h
    · cases h
    · cases h
      refine ⟨s2 + t, if_neg (by grind), by grind⟩
section
variable (net : List Ru) (pushes : RTb) (gone : Nat → Option Rat) (posts : List Key)
/-- a moment comes of a push, or of a fall along a run -/
def Wit (T : Key → Option Rat) (p : Key) (d : Rat) : Prop :=
  (p, d) ∈ pushes ∨ ∃ q dq e, T q = some dq ∧ e ∈ waysK net q ∧ kS e.2.1 = p ∧ comesV dq e.2.2 (gone e.1) = some d
structure IsFalls (D : Key → Option Rat) : Prop where
  sup : ∀ {p d}, D p = some d → p ∈ posts
  wit : ∀ {p d}, D p = some d → Wit net pushes gone D p d
  pu : ∀ {p m}, (p, m) ∈ pushes → ∃ d, D p = some d ∧ d ≤ m
  ed : ∀ {q dq e m}, D q = some dq → e ∈ waysK net q → comesV dq e.2.2 (gone e.1) = some m → ∃ d, D (kS e.2.1) = some d ∧ d ≤ m
end
theorem countP_lt {α : Type} {p q : α → Bool} : ∀ {l : List α}, (∀ x ∈ l, p x = true → q x = true) → (∃ x ∈ l, q x = true ∧ p x = false) → l.countP p < l.countP q
  | [], _, ⟨x, h, _⟩ => by cases h
  | y :: r, hi, ⟨x, hx, h1, h2⟩ => by
    have le : r.countP p ≤ r.countP q := List.countP_mono_left fun z hz hp => hi z (List.mem_cons_of_mem _ hz) hp
    rw [List.countP_cons, List.countP_cons]
    rcases List.mem_cons.mp hx with e | e
    · subst e
      rw [h1, h2]; simp; omega
    · have ih := countP_lt (l := r) (fun z hz => hi z (List.mem_cons_of_mem _ hz)) ⟨x, e, h1, h2⟩
      have := hi y List.mem_cons_self
      cases hp : p y with
      | true => rw [this hp]; simp; omega
      | false => cases q y <;> simp <;> omega
section
variable {net : List Ru} {pushes : RTb} {gone : Nat → Option Rat} {posts : List Key} {D D' T : Key → Option Rat} {W : RTb}
def before (D : Key → Option Rat) (d : Rat) (q : Key) : Bool :=
  match D q with
  | none => false
  | some x => decide (x < d)
def rk (posts : List Key) (D : Key → Option Rat) (d : Rat) : Nat := posts.countP (before D d)
theorem rk_lt {q : Key} {dq d : Rat} (hq : q ∈ posts) (h : D q = some dq) (l : dq < d) : rk posts D dq < rk posts D d := by
  refine countP_lt (fun x _ hx => ?_) ⟨q, hq, ?_, ?_⟩
  · unfold before at hx ⊢
    cases e : D x with
    | none => rw [e] at hx; cases hx
    | some y =>
      rw [e] at hx
      have := of_decide_eq_true hx
      exact decide_eq_true (by grind)
  · unfold before; rw [h]; exact decide_eq_true l
  · unfold before; rw [h]; exact decide_eq_false (by grind)
theorem rk_le (posts : List Key) (D : Key → Option Rat) {p : Key} {d : Rat} (hp : p ∈ posts) (h : D p = some d) : rk posts D d < posts.length := by
  have : posts.countP (before D d) < posts.countP (fun _ => true) := countP_lt (fun _ _ _ => rfl) ⟨p, hp, rfl, by unfold before; rw [h]; exact decide_eq_false (by grind)⟩
  rw [List.countP_true] at this; exact this
/-- what is closed is at most the falls -/
theorem falls_le (F : IsFalls net pushes gone posts D) (tm : ∀ q ∈ net, 0 < q.2.2) (pu : ∀ {p m}, (p, m) ∈ pushes → ∃ d, D' p = some d ∧ d ≤ m)
    (ed : ∀ {q dq e m}, D' q = some dq → e ∈ waysK net q → comesV dq e.2.2 (gone e.1) = some m → ∃ d, D' (kS e.2.1) = some d ∧ d ≤ m) : ∀ (n : Nat) {p : Key} {d : Rat}, rk posts D d < n → D p = some d → ∃ d', D' p = some d' ∧ d' ≤ d := by
  intro n
  induction n with
  | zero => intro p d h; omega
  | succ n ih =>
    intro p d hr hp
    rcases F.wit hp with h | ⟨q, dq, e, h1, h2, rfl, h3⟩
    · exact pu h
    · have e3 := comesV_eq h3
      have t0 : 0 < e.2.2 := by
        obtain ⟨r, hr, h⟩ := waysK_mem.mp h2
        have := tm r (List.mem_of_getElem? hr)
        rcases h with ⟨_, h⟩ | ⟨_, h⟩ <;> (rw [h]; exact this)
      have hlt := rk_lt (F.sup h1) h1 (show dq < d by grind)
      obtain ⟨d2, g1, g2⟩ := ih (by omega) h1
      obtain ⟨m2, g3, g4⟩ := comesV_le h3 g2
      obtain ⟨d3, g5, g6⟩ := ed g1 h2 g3
      exact ⟨d3, g5, by grind⟩
theorem falls_uniq (F : IsFalls net pushes gone posts D) (F' : IsFalls net pushes gone posts D') (tm : ∀ q ∈ net, 0 < q.2.2) : D = D' := by
  funext p
  cases h : D p with
  | none =>
    cases h' : D' p with
    | none => rfl
    | some d' =>
      obtain ⟨d, e, _⟩ := falls_le F' tm F.pu F.ed _ (Nat.lt_succ_self _) h'
      rw [h] at e; cases e
  | some d =>
    obtain ⟨d', e1, l1⟩ := falls_le F tm F'.pu F'.ed _ (Nat.lt_succ_self _) h
    obtain ⟨d2, e2, l2⟩ := falls_le F' tm F.pu F.ed _ (Nat.lt_succ_self _) e1
    rw [h] at e2; cases e2
    rw [e1]; congr 1; grind
/-- while posts are settled one by one; ex tells the runs not yet looked at -/
structure DjK (net : List Ru) (pushes : RTb) (gone : Nat → Option Rat) (posts : List Key) (T : Key → Option Rat) (W : RTb) (ex : Key → Ed → Prop) : Prop where
  nd : (W.map (·.1)).Nodup
  wp : ∀ {p w}, (p, w) ∈ W → p ∈ posts ∧ T p = none
  tp : ∀ {p d}, T p = some d → p ∈ posts
  tw : ∀ {p d}, T p = some d → Wit net pushes gone T p d
  ww : ∀ {p w}, (p, w) ∈ W → Wit net pushes gone T p w
  sw : ∀ {q d p w}, T q = some d → (p, w) ∈ W → d ≤ w
  pu : ∀ {p m}, (p, m) ∈ pushes → (∃ d, T p = some d ∧ d ≤ m) ∨ ∃ w, (p, w) ∈ W ∧ w ≤ m
  ed : ∀ {q d e m}, T q = some d → e ∈ waysK net q → ¬ ex q e → comesV d e.2.2 (gone e.1) = some m → (∃ d', T (kS e.2.1) = some d' ∧ d' ≤ m) ∨ ∃ w, (kS e.2.1, w) ∈ W ∧ w ≤ m
def nex : Key → Ed → Prop := fun _ _ => False
theorem DjK.init (hp : ∀ p ∈ pushes, p.1 ∈ posts) : DjK net pushes gone posts (fun _ => none) (lb pushes) nex where
  nd := lb_nd _
  wp := fun h => ⟨hp _ (lb_wit h), rfl⟩
  tp := fun h => by cases h
  tw := fun h => by cases h
  ww := fun h => .inl (lb_wit h)
  sw := fun h => by cases h
  pu := fun h => .inr (lb_le h)
  ed := fun h => by cases h
theorem DjK.fin (J : DjK net pushes gone posts T [] nex) : IsFalls net pushes gone posts T where
  sup := J.tp
  wit := J.tw
  pu := fun h => by
    rcases J.pu h with z | ⟨w, z, _⟩
    · exact z
    · cases z
  ed := fun h1 h2 h3 => by
    rcases J.ed h1 h2 (fun z => z) h3 with z | ⟨w, z, _⟩
    · exact z
    · cases z
def setF (T : Key → Option Rat) (x : Key) (d : Rat) : Key → Option Rat := fun p => if p = x then some d else T p
theorem setF_self (T : Key → Option Rat) (x : Key) (d : Rat) : setF T x d x = some d := if_pos rfl
theorem setF_ne {T : Key → Option Rat} {x p : Key} {d : Rat} (h : p ≠ x) : setF T x d p = T p := if_neg h
theorem setF_up {T : Key → Option Rat} {x p : Key} {d w : Rat} (hx : T x = none) (h : T p = some w) : setF T x d p = some w := by
  rw [setF_ne]; exact h
  intro z; rw [z, hx] at h; cases h
theorem Wit.up {x p : Key} {d w : Rat} (hx : T x = none) (h : Wit net pushes gone T p w) : Wit net pushes gone (setF T x d) p w := by
  rcases h with h | ⟨q, dq, e, h1, h2⟩
  · exact .inl h
  · exact .inr ⟨q, dq, e, setF_up hx h1, h2⟩
/-- the first one is settled -/
theorem DjK.settle {x : Key} {w : Rat} (J : DjK net pushes gone posts T W nex) (h : eV W = some (x, w)) : DjK net pushes gone posts (setF T x w) (tX W x) (fun q e => q = x ∧ e ∈ waysK net x) ∧ ∀ {q d}, setF T x w q = some d → d ≤ w := by
  obtain ⟨hm, hl⟩ := eV_some h
  obtain ⟨hx, hn⟩ := J.wp hm
  have inv : ∀ {q d}, setF T x w q = some d → (q = x ∧ d = w) ∨ T q = some d := fun {q d} z => by
    by_cases e : q = x
    · rw [e, setF_self] at z; cases z; exact .inl ⟨e, rfl⟩
    · rw [setF_ne e] at z; exact .inr z
  have thr : ∀ {p : Key} {m : Rat}, ((∃ d, T p = some d ∧ d ≤ m) ∨ ∃ w, (p, w) ∈ W ∧ w ≤ m) → (∃ d, setF T x w p = some d ∧ d ≤ m) ∨ ∃ w', (p, w') ∈ tX W x ∧ w' ≤ m := fun {p m} z => by
    rcases z with ⟨d, z, l⟩ | ⟨w', z, l⟩
    · exact .inl ⟨d, setF_up hn z, l⟩
    · by_cases e : p = x
      · subst e
        have e1 := tV_of J.nd z
        rw [tV_of J.nd hm] at e1; cases e1
        exact .inl ⟨w, setF_self _ _ _, l⟩
      · exact .inr ⟨w', tX_mem.mpr ⟨z, e⟩, l⟩
  refine ⟨⟨tX_nd J.nd, fun z => ?_, fun z => ?_, fun z => ?_, fun z => ?_, fun z1 z2 => ?_, fun z => thr (J.pu z), fun z1 z2 z3 z4 => ?_⟩, fun z => ?_⟩
  · obtain ⟨z1, z2⟩ := tX_mem.mp z
    obtain ⟨a, b⟩ := J.wp z1
    exact ⟨a, by rw [setF_ne z2]; exact b⟩
  · rcases inv z with ⟨rfl, _⟩ | z
    · exact hx
    · exact J.tp z
  · rcases inv z with ⟨rfl, rfl⟩ | z
    · exact (J.ww hm).up hn
    · exact (J.tw z).up hn
  · exact (J.ww (tX_mem.mp z).1).up hn
  · rcases inv z1 with ⟨_, rfl⟩ | z1
    · exact hl _ (tX_mem.mp z2).1
    · exact J.sw z1 (tX_mem.mp z2).1
  · rcases inv z1 with ⟨rfl, _⟩ | z1
    · exact absurd ⟨rfl, z2⟩ z3
    · exact thr (J.ed z1 z2 (fun z => z) z4)
  · rcases inv z with ⟨_, rfl⟩ | z
    · grind
    · exact J.sw z hm
/-- a run is looked at -/
theorem DjK.skip {x : Key} {w : Rat} {e : Ed} {es : List Ed} (J : DjK net pushes gone posts T W (fun q f => q = x ∧ f ∈ e :: es)) (hx : T x = some w) (h : ∀ m, comesV w e.2.2 (gone e.1) = some m → ∃ d, T (kS e.2.1) = some d ∧ d ≤ m) : DjK net pushes gone posts T W (fun q f => q = x ∧ f ∈ es) :=
  ⟨J.nd, J.wp, J.tp, J.tw, J.ww, J.sw, J.pu, fun {q d f m} z1 z2 z3 z4 => by
    by_cases z : q = x ∧ f = e
    · obtain ⟨rfl, rfl⟩ := z
      rw [hx] at z1; cases z1
      exact .inl (h _ z4)
    · refine J.ed z1 z2 (fun ⟨a, b⟩ => ?_) z4
      rcases List.mem_cons.mp b with b | b
      · exact z ⟨a, b⟩
      · exact z3 ⟨a, b⟩⟩
theorem DjK.look {x : Key} {w m : Rat} {e : Ed} {es : List Ed} (J : DjK net pushes gone posts T W (fun q f => q = x ∧ f ∈ e :: es)) (hx : T x = some w) (mx : ∀ {q d}, T q = some d → d ≤ w) (he : e ∈ waysK net x) (t0 : 0 < e.2.2) (ho : kS e.2.1 ∈ posts) (hn : T (kS e.2.1) = none) (hc : comesV w e.2.2 (gone e.1) = some m) :
    DjK net pushes gone posts T (tP W (kS e.2.1) (minR m ((tV W (kS e.2.1)).getD m))) (fun q f => q = x ∧ f ∈ es) := by
  have em := comesV_eq hc
  have old : ∀ {p w'}, (p, w') ∈ W → ∃ w2, (p, w2) ∈ tP W (kS e.2.1) (minR m ((tV W (kS e.2.1)).getD m)) ∧ w2 ≤ w' := fun {p w'} z => by
    by_cases q : p = kS e.2.1
    · subst q
      refine ⟨_, tP_self _ _ _, ?_⟩
      rw [tV_of J.nd z]
      show minR m w' ≤ w'
      unfold minR; split <;> grind
    · exact ⟨w', tP_other q z, by grind⟩
  have new : ∀ {p w'}, (p, w') ∈ tP W (kS e.2.1) (minR m ((tV W (kS e.2.1)).getD m)) → (p = kS e.2.1 ∧ w' = m) ∨ (p, w') ∈ W := fun {p w'} z => by
    rcases tP_mem z with ⟨rfl, y⟩ | ⟨_, y⟩
    · cases hv : tV W (kS e.2.1) with
      | none =>
        rw [hv] at y
        have : minR m m = m := by unfold minR; split <;> rfl
        exact .inl ⟨rfl, y.trans this⟩
      | some w0 =>
        rw [hv] at y
        have y : w' = minR m w0 := y
        unfold minR at y
        split at y
        · rw [y]; exact .inr (tV_mem hv)
        · exact .inl ⟨rfl, y⟩
    · exact .inr y
  have thr : ∀ {p : Key} {m' : Rat}, ((∃ d, T p = some d ∧ d ≤ m') ∨ ∃ w, (p, w) ∈ W ∧ w ≤ m') → (∃ d, T p = some d ∧ d ≤ m') ∨ ∃ w', (p, w') ∈ tP W (kS e.2.1) (minR m ((tV W (kS e.2.1)).getD m)) ∧ w' ≤ m' := fun {p m'} z => by
    rcases z with z | ⟨w', z, l⟩
    · exact .inl z
    · obtain ⟨w2, a, b⟩ := old z
      exact .inr ⟨w2, a, by grind⟩
  refine ⟨tP_nd J.nd, fun z => ?_, J.tp, J.tw, fun z => ?_, fun z1 z2 => ?_, fun z => thr (J.pu z), fun {q d f m'} z1 z2 z3 z4 => ?_⟩
  · rcases new z with ⟨rfl, _⟩ | z
    · exact ⟨ho, hn⟩
    · exact J.wp z
  · rcases new z with ⟨rfl, rfl⟩ | z
    · exact .inr ⟨x, w, e, hx, he, rfl, hc⟩
    · exact J.ww z
  · rcases new z2 with ⟨_, rfl⟩ | z2
    · have := mx z1; grind
    · exact J.sw z1 z2
  · by_cases z : q = x ∧ f = e
    · obtain ⟨rfl, rfl⟩ := z
      rw [hx] at z1; cases z1
      rw [hc] at z4; cases z4
      refine .inr ⟨_, tP_self _ _ _, ?_⟩
      unfold minR; split <;> grind
    · refine thr (J.ed z1 z2 (fun ⟨a, b⟩ => ?_) z4)
      rcases List.mem_cons.mp b with b | b
      · exact z ⟨a, b⟩
      · exact z3 ⟨a, b⟩
/-- how many are not settled -/
def uns (posts : List Key) (T : Key → Option Rat) : Nat := posts.countP fun p => (T p).isNone
theorem uns_settle {x : Key} {w : Rat} (hx : x ∈ posts) (hn : T x = none) : uns posts (setF T x w) < uns posts T := by
  refine countP_lt (fun p _ h => ?_) ⟨x, hx, by rw [hn]; rfl, by rw [setF_self]; rfl⟩
  by_cases e : p = x
  · rw [e, setF_self] at h; cases h
  · rw [setF_ne e] at h; exact h
/-- all runs of x are looked at -/
theorem DjK.all {x : Key} {w : Rat} (tm : ∀ q ∈ net, 0 < q.2.2) (cl : ∀ k, ∀ e ∈ waysK net k, kS e.2.1 ∈ posts) (hx : T x = some w) (mx : ∀ {q d}, T q = some d → d ≤ w) : ∀ (es : List Ed) {W : RTb}, (∀ e ∈ es, e ∈ waysK net x) → DjK net pushes gone posts T W (fun q f => q = x ∧ f ∈ es) → ∃ W', DjK net pushes gone posts T W' nex
  | [], W, _, J => ⟨W, J.nd, J.wp, J.tp, J.tw, J.ww, J.sw, J.pu, fun z1 z2 _ z4 => J.ed z1 z2 (fun ⟨_, b⟩ => by cases b) z4⟩
  | e :: es, W, hs, J => by
    have he := hs e List.mem_cons_self
    have t0 : 0 < e.2.2 := by
      obtain ⟨r, hr, h⟩ := waysK_mem.mp he
      have := tm r (List.mem_of_getElem? hr)
      rcases h with ⟨_, h⟩ | ⟨_, h⟩ <;> (rw [h]; exact this)
    have rest : ∀ {W' : RTb}, DjK net pushes gone posts T W' (fun q f => q = x ∧ f ∈ es) → ∃ W', DjK net pushes gone posts T W' nex := fun J' => DjK.all tm cl hx mx es (fun f hf => hs f (List.mem_cons_of_mem _ hf)) J'
    cases hc : comesV w e.2.2 (gone e.1) with
    | none => exact rest (J.skip hx fun m z => by rw [hc] at z; cases z)
    | some m =>
      have em := comesV_eq hc
      cases hn : T (kS e.2.1) with
      | some d => exact rest (J.skip hx fun m' z => by rw [hc] at z; cases z; exact ⟨d, hn, by have := mx hn; grind⟩)
      | none => exact rest (J.look hx mx he t0 (cl _ _ he) hn hc)
theorem falls_from (tm : ∀ q ∈ net, 0 < q.2.2) (cl : ∀ k, ∀ e ∈ waysK net k, kS e.2.1 ∈ posts) : ∀ (n : Nat) {T : Key → Option Rat} {W : RTb}, uns posts T < n → DjK net pushes gone posts T W nex → ∃ D, IsFalls net pushes gone posts D := by
  intro n
  induction n with
  | zero => intro T W h; omega
  | succ n ih =>
    intro T W h J
    cases he : eV W with
    | none => have := eV_none he; subst this; exact ⟨T, J.fin⟩
    | some g =>
      obtain ⟨x, w⟩ := g
      obtain ⟨J1, mx⟩ := J.settle he
      obtain ⟨hm, _⟩ := eV_some he
      obtain ⟨hx, hn⟩ := J.wp hm
      obtain ⟨W', J2⟩ := DjK.all tm cl (setF_self T x w) mx (waysK net x) (fun _ h => h) J1
      have := uns_settle (w := w) hx hn
      exact ih (by omega) J2
theorem falls_ex (tm : ∀ q ∈ net, 0 < q.2.2) (cl : ∀ k, ∀ e ∈ waysK net k, kS e.2.1 ∈ posts) (hp : ∀ p ∈ pushes, p.1 ∈ posts) : ∃ D, IsFalls net pushes gone posts D :=
  falls_from tm cl _ (Nat.lt_succ_self _) (DjK.init hp)
end
/-! ### how they lie -/
def rowD (p : Key × Rat) : PyData := .tuple [kD p.1, rD p.2]
theorem map_inv {α : Type} {f : α → PyData} {t : List α} {k : Nat} {d : PyData} (h : (t.map f)[k]? = some d) : ∃ p, t[k]? = some p ∧ d = f p := by
  rw [List.getElem?_map] at h
  obtain ⟨c, h1, h2⟩ := Option.map_eq_some_iff.mp h
  exact ⟨c, h1, h2.symm⟩
def oD : Option Rat → PyData
  | none => .none
  | some r => rD r
def fD : Option (Key × Rat) → PyData
  | none => .none
  | some g => kD g.1
theorem isNone_k (k : Key) : isNone (kD k) = false := by cases k <;> rfl
theorem isNone_oD (o : Option Rat) : isNone (oD o) = o.isNone := by cases o <;> rfl
theorem oD_get (o : Option Rat) : (o.map rD).getD .none = oD o := by cases o <;> rfl
theorem rD_get (o : Option Rat) (m : Rat) : (o.map rD).getD (rD m) = rD (o.getD m) := by cases o <;> rfl
def endsU (net : List Ru) : List (List Nat) := net.flatMap fun q => [q.1, q.2.1]
theorem endsU_len (net : List Ru) : (endsU net).length = 2 * net.length := by
  unfold endsU
  induction net with
  | nil => rfl
  | cons q r ih => rw [List.flatMap_cons, List.length_append, ih]; simp; omega
theorem endsU_s {net : List Ru} {k : Nat} {q : Ru} (h : net[k]? = some q) : (endsU (net.take (k + 1))).map sD = ((endsU (net.take k)).map sD ++ [sD q.1]) ++ [sD q.2.1] := by
  rw [List.take_succ, h]
  simp [endsU]
def postsN (net : List Ru) : List (List Nat) := ssN (endsU net)
def postsK (net : List Ru) : List Key := (postsN net).map kS
theorem kS_inj {a b : List Nat} (h : kS a = kS b) : a = b := by
  have h1 : (⟨a.toArray⟩ : Str) = ⟨b.toArray⟩ := Sum.inr.inj h
  exact SX.S_inj h1
theorem postsK_nd (net : List Ru) : (postsK net).Nodup := (ssN_nd _).map _ fun a b h e => h (kS_inj e)
theorem postsN_len (net : List Ru) : (postsN net).length ≤ 2 * net.length := by rw [← endsU_len]; exact ssN_len _
theorem postsK_len (net : List Ru) : (postsK net).length ≤ 2 * net.length := by unfold postsK; rw [List.length_map]; exact postsN_len net
theorem postsK_mem {net : List Ru} {l : List Nat} : kS l ∈ postsK net ↔ l ∈ endsU net := by
  unfold postsK
  rw [List.mem_map]
  constructor
  · rintro ⟨m, hm, e⟩
    rw [← kS_inj e]; exact ssN_mem.mp hm
  · intro h; exact ⟨l, ssN_mem.mpr h, rfl⟩
theorem ends_mem {net : List Ru} {q : Ru} (h : q ∈ net) : q.1 ∈ endsU net ∧ q.2.1 ∈ endsU net :=
  ⟨List.mem_flatMap.mpr ⟨q, h, by simp⟩, List.mem_flatMap.mpr ⟨q, h, by simp⟩⟩
theorem ways_in {net : List Ru} (k : Key) (e : Ed) (h : e ∈ waysK net k) : kS e.2.1 ∈ postsK net := by
  obtain ⟨q, hq, h⟩ := waysK_mem.mp h
  have := ends_mem (List.mem_of_getElem? hq)
  rcases h with ⟨_, h⟩ | ⟨_, h⟩
  · rw [h]; exact postsK_mem.mpr this.2
  · rw [h]; exact postsK_mem.mpr this.1
theorem postsK_str {net : List Ru} {k : Key} (h : k ∈ postsK net) : ∃ l, k = kS l := by
  obtain ⟨m, _, e⟩ := List.mem_map.mp h
  exact ⟨m, e.symm⟩
theorem take_no {α : Type} {l : List α} {k : Nat} {x : α} (nd : l.Nodup) (h : l[k]? = some x) : x ∉ l.take k := fun m => by
  obtain ⟨j, hj, e⟩ := List.mem_iff_getElem.mp m
  rw [List.length_take] at hj
  rw [List.getElem_take] at e
  have hl := (List.getElem?_eq_some_iff.mp h).1
  have e3 : l[j]? = some x := List.getElem?_eq_some_iff.mpr ⟨by omega, e⟩
  have := (List.getElem?_inj (by omega) nd).mp (e3.trans h.symm)
  omega
/-! a table over the posts -/
def tbF (posts : List Key) (F : Key → PyData) : Tb := posts.map fun k => (k, F k)
theorem gV_tbF {posts : List Key} {F : Key → PyData} {k : Key} (h : k ∈ posts) : gV (tbF posts F) k = some (F k) := by
  induction posts with
  | nil => cases h
  | cons p r ih =>
    show (if p = k then some (F p) else gV (tbF r F) k) = _
    by_cases e : p = k
    · rw [if_pos e, e]
    · rw [if_neg e]; exact ih ((List.mem_cons.mp h).resolve_left fun z => e z.symm)
theorem gV_tbN {posts : List Key} {F : Key → PyData} {k : Key} (h : k ∉ posts) : gV (tbF posts F) k = none := by
  induction posts with
  | nil => rfl
  | cons p r ih =>
    rw [List.mem_cons, not_or] at h
    show (if p = k then some (F p) else gV (tbF r F) k) = _
    rw [if_neg fun z => h.1 z.symm]; exact ih h.2
theorem gKs_tbF (posts : List Key) (F : Key → PyData) : gKs (tbF posts F) = posts := by
  unfold gKs tbF; rw [List.map_map]; exact List.map_id _
theorem tbF_len (posts : List Key) (F : Key → PyData) : (tbF posts F).length = posts.length := List.length_map _
theorem gP_tbF {posts : List Key} {F : Key → PyData} {x : Key} {d : PyData} (h : x ∈ posts) : gP (tbF posts F) x d = tbF posts fun k => if k = x then d else F k := by
  unfold gP
  rw [gV_tbF h, if_pos (show (some (F x)).isSome = true from rfl)]
  unfold tbF
  rw [List.map_map]
  refine List.map_congr_left fun k _ => ?_
  show (if k = x then (k, d) else (k, F k)) = (k, if k = x then d else F k)
  split <;> rfl
theorem gP_tbS {posts : List Key} {F : Key → PyData} {x : Key} {i : Nat} (nd : posts.Nodup) (h : posts[i]? = some x) : gP (tbF (posts.take i) F) x (F x) = tbF (posts.take (i + 1)) F := by
  have hn : x ∉ posts.take i := take_no nd h
  unfold gP
  rw [gV_tbN hn, if_neg (by simp), List.take_succ, h]
  simp [tbF]
theorem walkT_inv {posts : List Key} {F : Key → PyData} {i : Nat} {d : PyData} (h : (walkD (fun k _ => kD k) (tbF posts F))[i]? = some d) : ∃ k, posts[i]? = some k ∧ d = kD k := by
  unfold walkD tbF at h
  rw [List.map_map, List.getElem?_map] at h
  obtain ⟨c, h1, h2⟩ := Option.map_eq_some_iff.mp h
  exact ⟨c, h1, h2.symm⟩
def wayF (net : List Ru) (k : Key) : PyData := .list ((waysK net k).map edD)
def tT (T : Key → Option Rat) (k : Key) : PyData := oD (T k)
theorem tT_set {T : Key → Option Rat} {x : Key} {w : Rat} : (fun k => if k = x then rD w else tT T k) = tT (setF T x w) := by
  funext k
  unfold tT setF
  split <;> rfl
/-! the dict of ways while it is made -/
def GW (net : List Ru) (n : Nat) (L : GL) : Prop := L.map (fun p => (p.1, p.2.2)) = (postsK net).map fun k => (k, (waysK (net.take n) k).map edD)
theorem GW.keys {net : List Ru} {n : Nat} {L : GL} (h : GW net n L) : L.map (·.1) = postsK net := by
  have e := congrArg (List.map (·.1)) h
  rw [List.map_map, List.map_map] at e
  exact e.trans (List.map_id _)
theorem gup_pairs (L : GL) (k : Key) (d : PyData) : (gup L k d).map (fun p => (p.1, p.2.2)) = (L.map fun p => (p.1, p.2.2)).map fun p => if p.1 = k then (p.1, p.2 ++ [d]) else p := by
  unfold gup
  rw [List.map_map, List.map_map]
  refine List.map_congr_left fun p _ => ?_
  show ((if p.1 = k then (p.1, p.2.1, p.2.2 ++ [d]) else p).1, (if p.1 = k then (p.1, p.2.1, p.2.2 ++ [d]) else p).2.2) = if p.1 = k then (p.1, p.2.2 ++ [d]) else (p.1, p.2.2)
  split <;> rfl
theorem GW.step {net : List Ru} {n : Nat} {L : GL} {q : Ru} (h : GW net n L) (hq : net[n]? = some q) : GW net (n + 1) (gup (gup L (kS q.1) (edD (n, q.2.1, q.2.2))) (kS q.2.1) (edD (n, q.1, q.2.2))) := by
  unfold GW at h ⊢
  rw [gup_pairs, gup_pairs, h, List.map_map, List.map_map]
  refine List.map_congr_left fun k _ => ?_
  rw [waysK_s hq]
  unfold twoE
  show (if (if k = kS q.1 then (k, (waysK (net.take n) k).map edD ++ [edD (n, q.2.1, q.2.2)]) else (k, (waysK (net.take n) k).map edD)).1 = kS q.2.1 then _ else _) = _
  by_cases e1 : k = kS q.1 <;> by_cases e2 : k = kS q.2.1
  · simp [← e1, ← e2]
  · have e2' : ¬ kS q.2.1 = k := fun z => e2 z.symm
    simp only [if_pos e1, if_neg e2, if_pos e1.symm, if_neg e2']; simp
  · have e1' : ¬ kS q.1 = k := fun z => e1 z.symm
    simp only [if_neg e1, if_pos e2, if_neg e1', if_pos e2.symm]; simp
  · have e1' : ¬ kS q.1 = k := fun z => e1 z.symm
    have e2' : ¬ kS q.2.1 = k := fun z => e2 z.symm
    simp only [if_neg e1, if_neg e2, if_neg e1', if_neg e2']; simp
theorem waysI_len (net : List Ru) (i : Nat) (k : Key) : (waysI net i k).length ≤ 2 * net.length := by
  induction net generalizing i with
  | nil => simp [waysI]
  | cons q r ih =>
    have := ih (i + 1)
    have h2 : (twoE i q k).length ≤ 2 := by unfold twoE; split <;> split <;> simp
    show (twoE i q k ++ waysI r (i + 1) k).length ≤ _
    rw [List.length_append, List.length_cons]; omega
theorem GW.lens {net : List Ru} {n : Nat} {L : GL} (h : GW net n L) : ∀ p ∈ L, p.2.2.length ≤ 2 * net.length := fun p hp => by
  have m : (p.1, p.2.2) ∈ (postsK net).map fun k => (k, (waysK (net.take n) k).map edD) := by
    rw [← h]; exact List.mem_map.mpr ⟨p, hp, rfl⟩
  obtain ⟨k, _, e⟩ := List.mem_map.mp m
  have e2 : (waysK (net.take n) k).map edD = p.2.2 := congrArg Prod.snd e
  rw [← e2, List.length_map]
  have := waysI_len (net.take n) 0 k
  rw [List.length_take] at this
  exact Nat.le_trans this (by omega)
theorem GW.done {net : List Ru} {L : GL} (h : GW net net.length L) : gtb L = tbF (postsK net) (wayF net) := by
  have e : gtb L = (L.map fun p => (p.1, p.2.2)).map fun p => (p.1, PyData.list p.2) := by unfold gtb; rw [List.map_map]; rfl
  rw [e, h, List.map_map, List.take_length]; rfl
def GL0 (ps : List (List Nat)) (L : GL) : Prop := L.map (fun p => (p.1, p.2.2)) = ps.map fun n => (kS n, [])
theorem GL0.snoc {ps : List (List Nat)} {k : Nat} {pn : List Nat} {L : GL} {g : Addr} (h : GL0 (ps.take k) L) (hk : ps[k]? = some pn) : GL0 (ps.take (k + 1)) (L ++ [(kS pn, g, [])]) := by
  unfold GL0 at h ⊢
  rw [List.take_succ, hk]
  simp [h]
theorem GL0.keys {ps : List (List Nat)} {L : GL} (h : GL0 ps L) : L.map (·.1) = ps.map kS := by
  have e := congrArg (List.map (·.1)) h
  rw [List.map_map, List.map_map] at e
  exact e
theorem GL0.len {ps : List (List Nat)} {L : GL} (h : GL0 ps L) : L.length = ps.length := by
  have e := congrArg List.length h
  rw [List.length_map, List.length_map] at e; exact e
theorem GL0.gw {net : List Ru} {L : GL} (h : GL0 (postsN net) L) : GW net 0 L := by
  unfold GW
  rw [h]
  unfold postsK
  rw [List.map_map]; rfl
/-! ### sizes: over one bottom -/
def Cd (Dn B i : Nat) (m : Rat) : Prop := ∃ z : Int, m * ((Dn : Int) : Rat) = (z : Rat) ∧ z.natAbs ≤ (i + 1) * B
theorem Cd.up {Dn B i j : Nat} {m : Rat} (h : Cd Dn B i m) (l : i ≤ j) : Cd Dn B j m := by
  obtain ⟨z, e, b⟩ := h
  exact ⟨z, e, Nat.le_trans b (Nat.mul_le_mul_right _ (by omega))⟩
theorem Cd.add {Dn B i j : Nat} {m t : Rat} (h : Cd Dn B i m) (g : Cd Dn B j t) : Cd Dn B (i + j + 1) (m + t) := by
  obtain ⟨z, e, b⟩ := h
  obtain ⟨y, f, c⟩ := g
  refine ⟨z + y, by rw [Rat.intCast_add, ← e, ← f]; grind, ?_⟩
  have h1 : (z + y).natAbs ≤ z.natAbs + y.natAbs := Int.natAbs_add_le z y
  have h2 : (i + 1) * B + (j + 1) * B = (i + j + 1 + 1) * B := by rw [← Nat.add_mul]; congr 1; omega
  omega
theorem Cd.rz {Dn B i : Nat} {m : Rat} (h : Cd Dn B i m) (d0 : 0 < Dn) (dB : Dn < 2 ^ 4000) (l : i + 1 ≤ 4000) (bB : 4000 * B < 2 ^ 4000) : Rz 4000 m := by
  obtain ⟨z, e, b⟩ := h
  have hd : ((Dn : Int) : Rat) ≠ 0 := icast_ne (by omega)
  have e2 : m = (z : Rat) / ((Dn : Int) : Rat) := by grind
  rw [e2]
  refine rz_nrm (by omega) ?_ ?_
  · unfold Bd
    have : (i + 1) * B ≤ 4000 * B := Nat.mul_le_mul_right _ l
    omega
  · unfold Bd; omega
/-- what is handed to fall_moments -/
def goneF (tks : RTb) (n : Nat) : Option Rat := tV (lb tks) (kI (n : Int))
structure FIn (net : List Ru) (pushes tks : RTb) (Dn B : Nat) : Prop where
  len : net.length ≤ 150
  pl : pushes.length ≤ 1000
  tl : tks.length ≤ 1000
  tm : ∀ q ∈ net, 0 < q.2.2
  pk : ∀ p ∈ pushes, p.1 ∈ postsK net
  d0 : 0 < Dn
  dB : Dn < 2 ^ 4000
  bB : 4000 * B < 2 ^ 4000
  ct : ∀ q ∈ net, Cd Dn B 0 q.2.2
  cp : ∀ p ∈ pushes, Cd Dn B 0 p.2
  ck : ∀ p ∈ tks, Rz 4000 p.2
theorem FIn.ex {net : List Ru} {pushes tks : RTb} {Dn B : Nat} (h : FIn net pushes tks Dn B) : ∃ D, IsFalls net pushes (goneF tks) (postsK net) D := falls_ex h.tm ways_in h.pk
theorem FIn.rz {net : List Ru} {pushes tks : RTb} {Dn B i : Nat} {m : Rat} (h : FIn net pushes tks Dn B) (c : Cd Dn B i m) (l : i < 3900) : Rz 4000 m := c.rz h.d0 h.dB (by omega) h.bB
theorem FIn.gz {net : List Ru} {pushes tks : RTb} {Dn B : Nat} (h : FIn net pushes tks Dn B) {n : Nat} {x : Rat} (e : goneF tks n = some x) : Rz 4000 x := h.ck _ (lb_wit (tV_mem e))
theorem FIn.et {net : List Ru} {pushes tks : RTb} {Dn B : Nat} (h : FIn net pushes tks Dn B) {k : Key} {e : Ed} (m : e ∈ waysK net k) : 0 < e.2.2 ∧ Cd Dn B 0 e.2.2 := by
  obtain ⟨q, hq, z⟩ := waysK_mem.mp m
  have hm := List.mem_of_getElem? hq
  rcases z with ⟨_, z⟩ | ⟨_, z⟩ <;> (rw [z]; exact ⟨h.tm q hm, h.ct q hm⟩)
/-- the sizes while posts are settled -/
structure CdS (Dn B i : Nat) (T : Key → Option Rat) (W : RTb) : Prop where
  t : ∀ {p d}, T p = some d → Cd Dn B i d
  w : ∀ {p d}, (p, d) ∈ W → Cd Dn B i d
theorem CdS.settle {Dn B i j : Nat} {T : Key → Option Rat} {W : RTb} {x : Key} {w : Rat} (h : CdS Dn B i T W) (hm : (x, w) ∈ W) (l : i ≤ j) : CdS Dn B j (setF T x w) (tX W x) where
  t := fun {p d} z => by
    by_cases e : p = x
    · rw [e, setF_self] at z; cases z; exact (h.w hm).up l
    · rw [setF_ne e] at z; exact (h.t z).up l
  w := fun z => (h.w (tX_mem.mp z).1).up l
theorem CdS.put {Dn B i : Nat} {T : Key → Option Rat} {W : RTb} {k : Key} {m : Rat} (h : CdS Dn B i T W) (c : Cd Dn B i m) : CdS Dn B i T (tP W k (minR m ((tV W k).getD m))) where
  t := h.t
  w := fun {p d} z => by
    rcases tP_mem z with ⟨_, y⟩ | ⟨_, y⟩
    · rw [y]
      unfold minR
      split
      · cases hv : tV W k with
        | none => exact c
        | some w0 => exact h.w (tV_mem hv)
      · exact c
    · exact h.w y
theorem gup_lens {net : List Ru} {L : GL} {k : Key} {d : PyData} (h : ∀ p ∈ L, p.2.2.length ≤ 2 * net.length) (hn : net.length ≤ 150) : ∀ p ∈ gup L k d, p.2.2.length ≤ 100000 := fun p hp => by
  obtain ⟨r, hr, e⟩ := List.mem_map.mp hp
  have := h r hr
  by_cases z : r.1 = k
  · rw [if_pos z] at e; rw [← e, List.length_append]; simp; omega
  · rw [if_neg z] at e; rw [← e]; omega
theorem immut_k (k : Key) : immut (kD k) = true := by cases k <;> rfl
theorem nd_len : ∀ {l m : List Key}, l.Nodup → (∀ x ∈ l, x ∈ m) → l.length ≤ m.length
  | [], _, _, _ => Nat.zero_le _
  | x :: r, m, h, s => by
    obtain ⟨h1, h2⟩ := List.nodup_cons.mp h
    have mx := s x List.mem_cons_self
    have ih := nd_len (l := r) (m := m.filter fun y => decide (y ≠ x)) h2 fun y hy => List.mem_filter.mpr ⟨s y (List.mem_cons_of_mem _ hy), decide_eq_true fun z => h1 (by rw [← z]; exact hy)⟩
    have h3 : (m.filter fun y => decide (y ≠ x)).length < m.length := List.length_filter_lt_length_iff_exists.mpr ⟨x, mx, by simp⟩
    rw [List.length_cons]; omega
theorem DjK.wlen {net : List Ru} {pushes : RTb} {gone : Nat → Option Rat} {posts : List Key} {T : Key → Option Rat} {W : RTb} {ex : Key → Ed → Prop} (J : DjK net pushes gone posts T W ex) : W.length ≤ posts.length := by
  have := nd_len J.nd fun x hx => by
    obtain ⟨p, hp, e⟩ := List.mem_map.mp hx
    rw [← e]; exact (J.wp (p := p.1) (w := p.2) hp).1
  rw [List.length_map] at this; exact this
theorem CdS.init {Dn B i : Nat} {pushes : RTb} (h : ∀ p ∈ pushes, Cd Dn B 0 p.2) : CdS Dn B i (fun _ => none) (lb pushes) := ⟨fun z => (by cases z), fun {p d} z => (h (p, d) (lb_wit z)).up (Nat.zero_le _)⟩
theorem uns_le (posts : List Key) (T : Key → Option Rat) : uns posts T ≤ posts.length := List.countP_le_length
theorem en_empty {α : Type} {f : α → PyData} {t : List (Key × α)} : (enT f t).isEmpty = t.isEmpty := by cases t <;> rfl
theorem two_rz {k : Key} {a b : Rat} (h : Rz 4000 a) (g : Rz 4000 b) : ∀ p ∈ [(k, a), (k, b)], Rz 4000 p.2 := fun p hp => by
  simp only [List.mem_cons, List.not_mem_nil, or_false] at hp
  rcases hp with rfl | rfl
  · exact h
  · exact g
theorem tV_one {α : Type} (k : Key) (v : α) : tV [(k, v)] k = some v := if_pos rfl
theorem drop_at {α : Type} {l : List α} {k : Nat} {x : α} (h : l[k]? = some x) : l.drop k = x :: l.drop (k + 1) := by
  obtain ⟨h1, h2⟩ := List.getElem?_eq_some_iff.mp h
  rw [List.drop_eq_getElem_cons h1, h2]
theorem DjK.nil {net : List Ru} {pushes : RTb} {gone : Nat → Option Rat} {posts : List Key} {T : Key → Option Rat} {W : RTb} {x : Key} (J : DjK net pushes gone posts T W (fun q e => q = x ∧ e ∈ ([] : List Ed))) : DjK net pushes gone posts T W nex :=
  ⟨J.nd, J.wp, J.tp, J.tw, J.ww, J.sw, J.pu, fun z1 z2 _ z4 => J.ed z1 z2 (fun ⟨_, b⟩ => by cases b) z4⟩
/-! ### runs that lead -/
abbrev Rn := List Nat × List Nat × Fr
def rnD (q : Rn) : PyData := .tuple [sD q.1, sD q.2.1, frD q.2.2]
inductive Rc (net : List Rn) (runs : List Int) (pushed : List (List Nat)) : List Nat → Prop
  | base {x : List Nat} : x ∈ pushed → Rc net runs pushed x
  | on {i : Nat} {q : Rn} : net[i]? = some q → (i : Int) ∉ runs → Rc net runs pushed q.1 → Rc net runs pushed q.2.1
  | back {i : Nat} {q : Rn} : net[i]? = some q → (i : Int) ∉ runs → Rc net runs pushed q.2.1 → Rc net runs pushed q.1
noncomputable def stillB (net : List Rn) (runs : List Int) (pushed : List (List Nat)) (bell : List Nat) : Bool := @decide (¬ Rc net runs pushed bell) (Classical.propDecidable _)
def endsN (net : List Rn) : List (List Nat) := net.flatMap fun q => [q.1, q.2.1]
theorem mem_endsN {net : List Rn} {i : Nat} {q : Rn} (h : net[i]? = some q) : q.1 ∈ endsN net ∧ q.2.1 ∈ endsN net :=
  ⟨List.mem_flatMap.mpr ⟨q, List.mem_of_getElem? h, by simp⟩, List.mem_flatMap.mpr ⟨q, List.mem_of_getElem? h, by simp⟩⟩
theorem endsN_len (net : List Rn) : (endsN net).length = 2 * net.length := by
  unfold endsN
  induction net with
  | nil => rfl
  | cons q r ih => rw [List.flatMap_cons, List.length_append, ih]; simp; omega
/-- how many endsN haven't been come to -/
def lack (net : List Rn) (cs : List (List Nat)) : Nat := ((endsN net).filter fun x => !decide (x ∈ cs)).length
theorem lack_le (net : List Rn) (cs : List (List Nat)) : lack net cs ≤ 2 * net.length := by
  rw [← endsN_len]; exact List.length_filter_le _ _
theorem filt_add {es : List (List Nat)} {cs : List (List Nat)} {y : List Nat} : (es.filter fun x => !decide (x ∈ cs ++ [y])).length ≤ (es.filter fun x => !decide (x ∈ cs)).length := by
  induction es with
  | nil => simp
  | cons e r ih =>
    by_cases h : e ∈ cs
    · have h2 : e ∈ cs ++ [y] := List.mem_append_left _ h
      simp [h] at ih ⊢; exact ih
    · by_cases h2 : e = y
      · subst h2
        simp [h] at ih ⊢; omega
      · simp [h, h2] at ih ⊢; exact ih
theorem filt_add1 {es : List (List Nat)} {cs : List (List Nat)} {y : List Nat} (hy : y ∈ es) (hn : y ∉ cs) : (es.filter fun x => !decide (x ∈ cs ++ [y])).length + 1 ≤ (es.filter fun x => !decide (x ∈ cs)).length := by
  induction es with
  | nil => simp at hy
  | cons e r ih =>
    by_cases h2 : e = y
    · subst h2
      have := filt_add (es := r) (cs := cs) (y := e)
      simp [hn] at this ⊢; omega
    · have hy2 : y ∈ r := by
        rcases List.mem_cons.mp hy with z | z
        · exact absurd z.symm h2
        · exact z
      have ih := ih hy2
      by_cases h : e ∈ cs
      · simp [h] at ih ⊢; exact ih
      · simp [h, h2] at ih ⊢; omega
theorem lack_add {net : List Rn} {cs : List (List Nat)} {y : List Nat} (hy : y ∈ endsN net) (hn : y ∉ cs) : lack net (cs ++ [y]) + 1 ≤ lack net cs := filt_add1 hy hn
/-- all that stands ahead of place n is gone on from -/
def Went (net : List Rn) (runs : List Int) (cs all : List (List Nat)) (n : Nat) : Prop :=
  ∀ j x, j < n → cs[j]? = some x → ∀ (i : Nat) (q : Rn), net[i]? = some q → (i : Int) ∉ runs → (x = q.1 → q.2.1 ∈ all) ∧ (x = q.2.1 → q.1 ∈ all)
theorem rc_closed {net : List Rn} {runs : List Int} {pushed cs : List (List Nat)} (hp : ∀ x ∈ pushed, x ∈ cs) (hc : ∀ x ∈ cs, ∀ (i : Nat) (q : Rn), net[i]? = some q → (i : Int) ∉ runs → (x = q.1 → q.2.1 ∈ cs) ∧ (x = q.2.1 → q.1 ∈ cs)) {x : List Nat} (h : Rc net runs pushed x) : x ∈ cs := by
  induction h with
  | base h => exact hp _ h
  | on h1 h2 _ ih => exact (hc _ ih _ _ h1 h2).1 rfl
  | back h1 h2 _ ih => exact (hc _ ih _ _ h1 h2).2 rfl
theorem still_of {net : List Rn} {runs : List Int} {pushed cs : List (List Nat)} (hp : ∀ x ∈ pushed, x ∈ cs) (hs : ∀ x ∈ cs, Rc net runs pushed x) (hc : ∀ x ∈ cs, ∀ (i : Nat) (q : Rn), net[i]? = some q → (i : Int) ∉ runs → (x = q.1 → q.2.1 ∈ cs) ∧ (x = q.2.1 → q.1 ∈ cs)) (bell : List Nat) :
    stillB net runs pushed bell = !decide (bell ∈ cs) := by
  unfold stillB
  by_cases h : bell ∈ cs
  · have := hs _ h
    simp [h, this]
  · have : ¬ Rc net runs pushed bell := fun z => h (rc_closed hp hc z)
    simp [h, this]
/-! the law's own going -/
def stepC (net : List Rn) (runs : List Int) (cs : List (List Nat)) (i : Nat) : List (List Nat) :=
  match net[i]? with
  | some q => if (!decide ((i : Int) ∈ runs) && !decide (decide (q.1 ∈ cs) = decide (q.2.1 ∈ cs))) = true then cs ++ [if decide (q.1 ∈ cs) = true then q.2.1 else q.1] else cs
  | none => cs
def passK (net : List Rn) (runs : List Int) (cs : List (List Nat)) : Nat → List (List Nat)
  | 0 => cs
  | k + 1 => stepC net runs (passK net runs cs k) k
def passC (net : List Rn) (runs : List Int) (cs : List (List Nat)) : List (List Nat) := passK net runs cs net.length
def comeV (net : List Rn) (runs : List Int) (pushed : List (List Nat)) : List (List Nat) := it (passC net runs) (2 * net.length + 1) pushed
theorem stepC_or (net : List Rn) (runs : List Int) (cs : List (List Nat)) (i : Nat) : stepC net runs cs i = cs ∨ ∃ q y, net[i]? = some q ∧ (i : Int) ∉ runs ∧ y ∉ cs ∧ ((y = q.2.1 ∧ q.1 ∈ cs) ∨ (y = q.1 ∧ q.2.1 ∈ cs)) ∧ stepC net runs cs i = cs ++ [y] := by
  unfold stepC
  cases h : net[i]? with
  | none => exact .inl rfl
  | some q =>
    simp only
    split
    · rename_i hc
      rw [Bool.and_eq_true] at hc
      obtain ⟨h1, h2⟩ := hc
      have h1 : (i : Int) ∉ runs := by simpa using h1
      have h2 : ¬ decide (q.1 ∈ cs) = decide (q.2.1 ∈ cs) := by simpa using h2
      by_cases a : q.1 ∈ cs
      · have b : q.2.1 ∉ cs := fun b => h2 (by simp [a, b])
        exact .inr ⟨q, q.2.1, rfl, h1, b, .inl ⟨rfl, a⟩, by simp [a]⟩
      · have b : q.2.1 ∈ cs := by
          by_cases b : q.2.1 ∈ cs
          · exact b
          · exact absurd (by simp [a, b]) h2
        exact .inr ⟨q, q.1, rfl, h1, a, .inr ⟨rfl, b⟩, by simp [a]⟩
    · exact .inl rfl
theorem passK_pre (net : List Rn) (runs : List Int) (cs : List (List Nat)) : ∀ k, ∃ e, passK net runs cs k = cs ++ e
  | 0 => ⟨[], by simp [passK]⟩
  | k + 1 => by
    obtain ⟨e, h⟩ := passK_pre net runs cs k
    show ∃ e, stepC net runs (passK net runs cs k) k = cs ++ e
    rcases stepC_or net runs (passK net runs cs k) k with z | ⟨q, y, _, _, _, _, z⟩
    · exact ⟨e, by rw [z, h]⟩
    · exact ⟨e ++ [y], by rw [z, h, List.append_assoc]⟩
theorem passK_lack (net : List Rn) (runs : List Int) (cs : List (List Nat)) : ∀ k, lack net (passK net runs cs k) + (if passK net runs cs k = cs then 0 else 1) ≤ lack net cs
  | 0 => by simp [passK]
  | k + 1 => by
    have ih := passK_lack net runs cs k
    show lack net (stepC net runs (passK net runs cs k) k) + (if stepC net runs (passK net runs cs k) k = cs then 0 else 1) ≤ lack net cs
    rcases stepC_or net runs (passK net runs cs k) k with z | ⟨q, y, h1, h2, h3, h4, z⟩
    · rw [z]; exact ih
    · have hy : y ∈ endsN net := by
        rcases h4 with ⟨rfl, _⟩ | ⟨rfl, _⟩
        · exact (mem_endsN h1).2
        · exact (mem_endsN h1).1
      have := lack_add hy h3
      rw [z]
      split <;> split at ih <;> omega
theorem passC_lack {net : List Rn} {runs : List Int} {cs : List (List Nat)} (h : passC net runs cs ≠ cs) : lack net (passC net runs cs) + 1 ≤ lack net cs := by
  have := passK_lack net runs cs net.length
  unfold passC at *
  rw [if_neg h] at this; exact this
theorem it_stay {α : Type} {f : α → α} {x : α} (h : f x = x) : ∀ n, it f n x = x
  | 0 => rfl
  | n + 1 => by show f (it f n x) = x; rw [it_stay h n, h]
theorem it_add {α : Type} (f : α → α) (x : α) (j : Nat) : ∀ n, it f (j + n) x = it f n (it f j x)
  | 0 => rfl
  | n + 1 => by show f (it f (j + n) x) = f (it f n (it f j x)); rw [it_add f x j n]
theorem come_of {net : List Rn} {runs : List Int} {pushed : List (List Nat)} {j : Nat} (h : passC net runs (it (passC net runs) j pushed) = it (passC net runs) j pushed) (hj : j ≤ 2 * net.length + 1) : comeV net runs pushed = it (passC net runs) j pushed := by
  obtain ⟨n, hn⟩ : ∃ n, 2 * net.length + 1 = j + n := ⟨2 * net.length + 1 - j, by omega⟩
  unfold comeV
  rw [hn, it_add, it_stay h]
theorem come_stable (net : List Rn) (runs : List Int) (pushed : List (List Nat)) : ∃ j, j ≤ 2 * net.length + 1 ∧ passC net runs (it (passC net runs) j pushed) = it (passC net runs) j pushed := by
  have key : ∀ j, (∃ i, i ≤ j ∧ passC net runs (it (passC net runs) i pushed) = it (passC net runs) i pushed) ∨ lack net (it (passC net runs) j pushed) + j ≤ 2 * net.length := fun j => by
    induction j with
    | zero => right; have := lack_le net pushed; simpa [it] using this
    | succ j ih =>
      rcases ih with ⟨i, h1, h2⟩ | ih
      · exact .inl ⟨i, by omega, h2⟩
      · by_cases h : passC net runs (it (passC net runs) j pushed) = it (passC net runs) j pushed
        · exact .inl ⟨j, by omega, h⟩
        · right
          have := passC_lack h
          show lack net (passC net runs (it (passC net runs) j pushed)) + (j + 1) ≤ _
          omega
  rcases key (2 * net.length + 1) with ⟨i, h1, h2⟩ | h
  · exact ⟨i, h1, h2⟩
  · omega
theorem step_sound {net : List Rn} {runs : List Int} {pushed cs : List (List Nat)} (h : ∀ x ∈ cs, Rc net runs pushed x) (i : Nat) : ∀ x ∈ stepC net runs cs i, Rc net runs pushed x := by
  rcases stepC_or net runs cs i with z | ⟨q, y, h1, h2, h3, h4, z⟩
  · rw [z]; exact h
  · rw [z]
    intro x hx
    rcases List.mem_append.mp hx with hx | hx
    · exact h x hx
    · obtain rfl : x = y := by simpa using hx
      rcases h4 with ⟨rfl, a⟩ | ⟨rfl, a⟩
      · exact .on h1 h2 (h _ a)
      · exact .back h1 h2 (h _ a)
theorem passK_sound {net : List Rn} {runs : List Int} {pushed cs : List (List Nat)} (h : ∀ x ∈ cs, Rc net runs pushed x) : ∀ k, ∀ x ∈ passK net runs cs k, Rc net runs pushed x
  | 0 => h
  | k + 1 => step_sound (passK_sound h k) k
theorem it_sound {net : List Rn} {runs : List Int} {pushed : List (List Nat)} : ∀ j, ∀ x ∈ it (passC net runs) j pushed, Rc net runs pushed x
  | 0 => fun x h => .base h
  | j + 1 => passK_sound (it_sound j) _
theorem it_pushed {net : List Rn} {runs : List Int} {pushed : List (List Nat)} : ∀ j, ∀ x ∈ pushed, x ∈ it (passC net runs) j pushed
  | 0 => fun x h => h
  | j + 1 => fun x h => by
    obtain ⟨e, z⟩ := passK_pre net runs (it (passC net runs) j pushed) net.length
    show x ∈ passK net runs (it (passC net runs) j pushed) net.length
    rw [z]; exact List.mem_append_left _ (it_pushed j x h)
theorem stable_closed {net : List Rn} {runs : List Int} {cs : List (List Nat)} (h : passC net runs cs = cs) : ∀ x ∈ cs, ∀ (i : Nat) (q : Rn), net[i]? = some q → (i : Int) ∉ runs → (x = q.1 → q.2.1 ∈ cs) ∧ (x = q.2.1 → q.1 ∈ cs) := by
  have all : ∀ k, k ≤ net.length → passK net runs cs k = cs := by
    have down : ∀ n k, k + n = net.length → passK net runs cs k = cs := fun n => by
      induction n with
      | zero => intro k hk; have : k = net.length := by omega
                subst this; exact h
      | succ n ih =>
        intro k hk
        have up := ih (k + 1) (by omega)
        obtain ⟨e, he⟩ := passK_pre net runs cs k
        have up' : stepC net runs (passK net runs cs k) k = cs := up
        rcases stepC_or net runs (passK net runs cs k) k with z | ⟨q, y, _, _, _, _, z⟩
        · rw [z] at up'; exact up'
        · rw [z, he] at up'
          have := congrArg List.length up'
          simp at this
    intro k hk
    exact down (net.length - k) k (by omega)
  intro x hx i q hq hr
  have lt : i < net.length := (List.getElem?_eq_some_iff.mp hq).1
  have e1 : stepC net runs (passK net runs cs i) i = cs := all (i + 1) lt
  rw [all i (by omega)] at e1
  unfold stepC at e1
  rw [hq] at e1
  simp only at e1
  have nr : decide ((i : Int) ∈ runs) = false := decide_eq_false hr
  have same : decide (q.1 ∈ cs) = decide (q.2.1 ∈ cs) := by
    by_cases z : decide (q.1 ∈ cs) = decide (q.2.1 ∈ cs)
    · exact z
    · rw [if_pos (by rw [nr]; simpa using z)] at e1
      have := congrArg List.length e1
      simp at this
  constructor
  · rintro rfl
    have : decide (q.2.1 ∈ cs) = true := by rw [← same]; exact decide_eq_true hx
    exact of_decide_eq_true this
  · rintro rfl
    have : decide (q.1 ∈ cs) = true := by rw [same]; exact decide_eq_true hx
    exact of_decide_eq_true this
theorem still_come (net : List Rn) (runs : List Int) (pushed : List (List Nat)) (bell : List Nat) : stillB net runs pushed bell = !decide (bell ∈ comeV net runs pushed) := by
  obtain ⟨j, hj, h⟩ := come_stable net runs pushed
  rw [come_of h hj]
  exact still_of (it_pushed j) (it_sound j) (stable_closed h) bell
/-! the program's going: a row that grows, a place in it -/
structure KpS (net : List Rn) (runs : List Int) (pushed cs : List (List Nat)) (n : Nat) : Prop where
  sub : ∀ x ∈ pushed, x ∈ cs
  snd : ∀ x ∈ cs, Rc net runs pushed x
  went : Went net runs cs cs n
  le : n ≤ cs.length
  bound : cs.length + lack net cs ≤ pushed.length + 2 * net.length
structure KtS (net : List Rn) (runs : List Int) (pushed cs c2 : List (List Nat)) (cur : List Nat) (k : Nat) : Prop where
  pre : ∃ e, c2 = cs ++ e
  snd : ∀ x ∈ c2, Rc net runs pushed x
  done : ∀ (i : Nat) (q : Rn), i < k → net[i]? = some q → (i : Int) ∉ runs → (cur = q.1 → q.2.1 ∈ c2) ∧ (cur = q.2.1 → q.1 ∈ c2)
  lk : lack net c2 + c2.length ≤ lack net cs + cs.length
section
variable {net : List Rn} {runs : List Int} {pushed cs c2 : List (List Nat)} {cur y : List Nat} {n k : Nat} {q : Rn}
theorem KpS.init : KpS net runs pushed pushed 0 := ⟨fun _ h => h, fun _ h => .base h, fun j x h => by omega, Nat.zero_le _, by have := lack_le net pushed; omega⟩
theorem KtS.init (h : KpS net runs pushed cs n) : KtS net runs pushed cs cs cur 0 := ⟨⟨[], by simp⟩, h.snd, fun i q hi => by omega, Nat.le_refl _⟩
theorem KtS.cur_ (h : KtS net runs pushed cs c2 cur k) (hc : cs[n]? = some cur) : c2[n]? = some cur := by
  obtain ⟨e, rfl⟩ := h.pre
  rw [List.getElem?_append_left (List.getElem?_eq_some_iff.mp hc).1]; exact hc
theorem KtS.step (h : KtS net runs pushed cs c2 cur k) (hq : net[k]? = some q) (hd : (k : Int) ∉ runs → (cur = q.1 → q.2.1 ∈ c2) ∧ (cur = q.2.1 → q.1 ∈ c2)) : KtS net runs pushed cs c2 cur (k + 1) :=
  ⟨h.pre, h.snd, fun i q' hi h1 h2 => by
    rcases Nat.lt_succ_iff_lt_or_eq.mp hi with z | rfl
    · exact h.done i q' z h1 h2
    · rw [hq] at h1
      cases h1
      exact hd h2, h.lk⟩
theorem KtS.skip (h : KtS net runs pushed cs c2 cur k) (hq : net[k]? = some q) (hc : (!decide ((k : Int) ∈ runs) && decide (cur ∈ [q.1, q.2.1])) = false) : KtS net runs pushed cs c2 cur (k + 1) :=
  h.step hq fun hr => by
    have h2 : ¬ (cur = q.1 ∨ cur = q.2.1) := fun z => by
      rw [decide_eq_false hr] at hc
      simp at hc
      exact z.elim hc.1 hc.2
    exact ⟨fun z => absurd (.inl z) h2, fun z => absurd (.inr z) h2⟩
theorem there_eq (hy : (if decide (q.1 = cur) = true then q.2.1 else q.1) = y) (g : cur = q.1 ∨ cur = q.2.1) : (cur = q.1 ∧ y = q.2.1) ∨ (cur = q.2.1 ∧ y = q.1 ∧ cur ≠ q.1) := by
  by_cases z : q.1 = cur
  · rw [if_pos (decide_eq_true z)] at hy
    exact .inl ⟨z.symm, hy.symm⟩
  · rw [if_neg (by simpa using z)] at hy
    rcases g with g | g
    · exact absurd g.symm z
    · exact .inr ⟨g, hy.symm, fun w => z w.symm⟩
theorem KtS.have_ (h : KtS net runs pushed cs c2 cur k) (hcur : cur ∈ c2) (hq : net[k]? = some q) (g : cur = q.1 ∨ cur = q.2.1) (hy : (if decide (q.1 = cur) = true then q.2.1 else q.1) = y) (hin : y ∈ c2) : KtS net runs pushed cs c2 cur (k + 1) :=
  h.step hq fun _ => by
    rcases there_eq hy g with ⟨a, rfl⟩ | ⟨a, rfl, b⟩
    · exact ⟨fun _ => hin, fun z => by rw [← a]; exact hcur⟩
    · exact ⟨fun z => absurd z b, fun _ => hin⟩
theorem KtS.add (h : KtS net runs pushed cs c2 cur k) (hcur : cur ∈ c2) (hq : net[k]? = some q) (hr : (k : Int) ∉ runs) (g : cur = q.1 ∨ cur = q.2.1) (hy : (if decide (q.1 = cur) = true then q.2.1 else q.1) = y) (hn : y ∉ c2) : KtS net runs pushed cs (c2 ++ [y]) cur (k + 1) := by
  have hin : y ∈ c2 ++ [y] := List.mem_append_right _ (List.mem_singleton.mpr rfl)
  have hend : y ∈ endsN net := by
    rcases there_eq hy g with ⟨_, rfl⟩ | ⟨_, rfl, _⟩
    · exact (mem_endsN hq).2
    · exact (mem_endsN hq).1
  have hl := lack_add hend hn
  have hrc : Rc net runs pushed y := by
    rcases there_eq hy g with ⟨a, rfl⟩ | ⟨a, rfl, _⟩
    · exact .on hq hr (by rw [← a]; exact h.snd _ hcur)
    · exact .back hq hr (by rw [← a]; exact h.snd _ hcur)
  have h' : KtS net runs pushed cs (c2 ++ [y]) cur k := by
    obtain ⟨e, he⟩ := h.pre
    refine ⟨⟨e ++ [y], by rw [he, List.append_assoc]⟩, fun x hx => ?_, fun i q' hi h1 h2 => ?_, by have := h.lk; simp only [List.length_append, List.length_singleton]; omega⟩
    · rcases List.mem_append.mp hx with hx | hx
      · exact h.snd x hx
      · obtain rfl : x = y := by simpa using hx
        exact hrc
    · have d := h.done i q' hi h1 h2
      exact ⟨fun z => List.mem_append_left _ (d.1 z), fun z => List.mem_append_left _ (d.2 z)⟩
  exact h'.have_ (List.mem_append_left _ hcur) hq g hy hin
theorem KpS.next (h : KpS net runs pushed cs n) (hc : cs[n]? = some cur) (t : KtS net runs pushed cs c2 cur net.length) : KpS net runs pushed c2 (n + 1) ∧ lack net c2 + (c2.length - (n + 1)) < lack net cs + (cs.length - n) := by
  obtain ⟨e, rfl⟩ := t.pre
  have ln : n < cs.length := (List.getElem?_eq_some_iff.mp hc).1
  have lk := t.lk
  have bd := h.bound
  refine ⟨⟨fun x hx => List.mem_append_left _ (h.sub x hx), t.snd, fun j x hj hx i q h1 h2 => ?_, by rw [List.length_append]; omega, by omega⟩, by rw [List.length_append] at *; omega⟩
  rcases Nat.lt_succ_iff_lt_or_eq.mp hj with z | rfl
  · rw [List.getElem?_append_left (by omega)] at hx
    have d := h.went j x z hx i q h1 h2
    exact ⟨fun w => List.mem_append_left _ (d.1 w), fun w => List.mem_append_left _ (d.2 w)⟩
  · rw [List.getElem?_append_left ln, hc] at hx
    cases hx
    exact t.done i q (List.getElem?_eq_some_iff.mp h1).1 h1 h2
theorem KpS.fin (h : KpS net runs pushed cs n) (hn : cs.length ≤ n) (bell : List Nat) : stillB net runs pushed bell = !decide (bell ∈ cs) :=
  still_of h.sub h.snd (fun x hx i q h1 h2 => by
    obtain ⟨j, hj, e⟩ := List.mem_iff_getElem.mp hx
    exact h.went j x (by omega) (by rw [List.getElem?_eq_getElem hj, e]) i q h1 h2) bell
end
theorem mapR_inv {net : List Rn} {k : Nat} {d : PyData} (h : (net.map rnD)[k]? = some d) : ∃ q, net[k]? = some q ∧ d = rnD q := by
  rw [List.getElem?_map] at h
  obtain ⟨c, h1, h2⟩ := Option.map_eq_some_iff.mp h
  exact ⟨c, h1, h2.symm⟩
theorem mapI_inv {ns : List Int} {k : Nat} {d : PyData} (h : (ns.map PyData.int)[k]? = some d) : ∃ i, ns[k]? = some i ∧ d = .int i := by
  rw [List.getElem?_map] at h
  obtain ⟨c, h1, h2⟩ := Option.map_eq_some_iff.mp h
  exact ⟨c, h1, h2.symm⟩
theorem at_mapS {cs : List (List Nat)} {n : Nat} {x : List Nat} (h : cs[n]? = some x) : atI (cs.map sD) (n : Int) = some (sD x) := atI_nat (by simp [h])
theorem at_mapR {cs : List Rn} {n : Nat} {x : Rn} (h : cs[n]? = some x) : atI (cs.map rnD) (n : Int) = some (rnD x) := atI_nat (by simp [h])
theorem at_there (q : Rn) (b : Bool) : atI [sD q.1, sD q.2.1, frD q.2.2] (if b = true then (1 : Int) else 0) = some (sD (if b = true then q.2.1 else q.1)) := by cases b <;> rfl
theorem cutD_len (xs : List PyData) (lo hi : Option Int) : (cutD xs lo hi).length ≤ xs.length := by
  unfold cutD
  rw [List.length_take, List.length_drop]; omega
/-! ### what the law draws -/
def NL : List (List Nat) := [[97], [98, 46, 99], [98, 97], [120, 46, 121, 46, 122], [97, 98, 99, 100, 101, 102, 103, 104], [99], [98], [97, 46, 97]]
def rotV (v : Int) : List (List Nat) := NL.drop v.toNat ++ NL.take v.toNat
theorem rot_cases {v : Int} (h : 0 ≤ v ∧ v < 8) : v = 0 ∨ v = 1 ∨ v = 2 ∨ v = 3 ∨ v = 4 ∨ v = 5 ∨ v = 6 ∨ v = 7 := by omega
theorem rot_eq {v : Int} (h : 0 ≤ v ∧ v < 8) : cutD (NL.map sD) (some v) none ++ cutD (NL.map sD) none (some v) = (rotV v).map sD := by
  rcases rot_cases h with rfl | rfl | rfl | rfl | rfl | rfl | rfl | rfl <;> rfl
theorem rot_len {v : Int} (h : 0 ≤ v ∧ v < 8) : (rotV v).length = 8 := by
  rcases rot_cases h with rfl | rfl | rfl | rfl | rfl | rfl | rfl | rfl <;> rfl
theorem rot_sm {v : Int} (h : 0 ≤ v ∧ v < 8) : ∀ x ∈ rotV v, ∀ c ∈ x, c < 1000 := by
  rcases rot_cases h with rfl | rfl | rfl | rfl | rfl | rfl | rfl | rfl <;> decide
def mixV (c k : Int) : Int := (c * 69621 % 2147483629 * 48271 + 16807 * k * k + 7919 * k) % 2147483647
def greatV (c : Int) : Int := if (decide (c < 0) || decide (10 ^ (9 : Int).toNat < c)) = true then c else mixV c 41 + 2147483647 * (mixV c 43 + 2147483647 * mixV c 47)
def dv (s c : Int) : Int := c / s
def digV (c : Int) (n : Nat) (s : Int) : List Int := (List.range n).map fun (i : Nat) => it (dv s) i c % s
theorem digV_s (c : Int) (n : Nat) (s : Int) : (digV c (n + 1) s).map PyData.int = (digV c n s).map PyData.int ++ [.int (it (dv s) n c % s)] := by
  unfold digV
  rw [List.range_succ, List.map_append, List.map_append]; rfl
theorem digV_len (c : Int) (n : Nat) (s : Int) : (digV c n s).length = n := by simp [digV]
theorem digV_b {c : Int} {n : Nat} {s d : Int} (hs : 0 < s) (h : d ∈ digV c n s) : 0 ≤ d ∧ d < s := by
  obtain ⟨i, _, rfl⟩ := List.mem_map.mp h
  exact ⟨Int.emod_nonneg _ (by omega), Int.emod_lt_of_pos _ hs⟩
def dgs (c : Int) : Nat → Int → List Int
  | 0, _ => []
  | n + 1, s => if c = 0 then [] else c % s :: dgs (c / s) n s
theorem dgs0 (n : Nat) (s : Int) : dgs 0 n s = [] := by cases n <;> simp [dgs]
theorem dgs_len : ∀ (n : Nat) (c s : Int), (dgs c n s).length ≤ n
  | 0, _, _ => by simp [dgs]
  | n + 1, c, s => by
    unfold dgs
    split
    · simp
    · have := dgs_len n (c / s) s
      simp; omega
def dgA (ns : List Int) (f : Int) (n : Nat) (s : Int) : List Int := if cellV ns 0 % 2 = 0 then dgs (cellV ns f) n s else []
theorem dgA_len (ns : List Int) (f : Int) (n : Nat) (s : Int) : (dgA ns f n s).length ≤ n := by
  unfold dgA
  split
  · exact dgs_len _ _ _
  · simp
def numsV (ns : List Int) (f : Int) (n : Nat) (s : Int) : List Int := dgA ns f n s ++ (List.range (n - (dgA ns f n s).length)).map fun (i : Nat) => mixV (cellV ns (f + (((dgA ns f n s).length : Int) + (i : Int)))) (((dgA ns f n s).length : Int) + (i : Int)) % s
theorem numsV_len (ns : List Int) (f : Int) (n : Nat) (s : Int) : (numsV ns f n s).length = n := by
  have := dgA_len ns f n s
  simp [numsV]; omega
/-- what the loop over digits holds -/
structure DgS (ns : List Int) (f : Int) (n : Nat) (s cc : Int) (B : List Int) : Prop where
  ev : cellV ns 0 % 2 = 0 → B ++ dgs cc (n - B.length) s = dgs (cellV ns f) n s
  od : ¬ cellV ns 0 % 2 = 0 → B = []
  le : B.length ≤ n
theorem DgS.init (ns : List Int) (f : Int) (n : Nat) (s : Int) : DgS ns f n s (cellV ns f) [] := ⟨fun _ => by simp, fun _ => rfl, Nat.zero_le _⟩
theorem DgS.next {ns : List Int} {f : Int} {n : Nat} {s cc : Int} {B : List Int} (h : DgS ns f n s cc B) (h0 : cellV ns 0 % 2 = 0) (h1 : cc ≠ 0) (h2 : B.length < n) : DgS ns f n s (cc / s) (B ++ [cc % s]) := by
  refine ⟨fun _ => ?_, fun z => absurd h0 z, by rw [List.length_append, List.length_singleton]; omega⟩
  have e := h.ev h0
  obtain ⟨k, hk⟩ : ∃ k, n - B.length = k + 1 := ⟨n - B.length - 1, by omega⟩
  rw [hk] at e
  simp only [dgs, h1, if_false] at e
  rw [List.length_append, List.length_singleton, show n - (B.length + 1) = k by omega, List.append_assoc]
  exact e
theorem DgS.fin {ns : List Int} {f : Int} {n : Nat} {s cc : Int} {B : List Int} (h : DgS ns f n s cc B) (hc : (decide (cellV ns 0 % 2 = 0) && (!decide (cc = 0) && decide (((B.length : Nat) : Int) < (n : Int)))) = false) : B = dgA ns f n s := by
  unfold dgA
  by_cases h0 : cellV ns 0 % 2 = 0
  · rw [if_pos h0, ← h.ev h0]
    by_cases h1 : cc = 0
    · rw [h1, dgs0, List.append_nil]
    · have h2 : ¬ ((B.length : Nat) : Int) < (n : Int) := fun z => by simp [h0, h1, z] at hc
      have : n - B.length = 0 := by omega
      rw [this]; simp [dgs]
  · rw [if_neg h0]; exact h.od h0
def runV (nm : List (List Nat)) (m v : Int) : Rn := (nm.getD (v % m).toNat [], nm.getD ((v % m + 1 + v / m % (m - 1)) % m).toNat [], nrm (1 + v / (m * (m - 1)) % 9) (1 + v / (m * (m - 1)) / 9 % 4))
theorem mm_b {m : Int} (h : 2 ≤ m ∧ m ≤ 8) : 0 < m * (m - 1) ∧ m * (m - 1) ≤ 100 := by
  have : m = 2 ∨ m = 3 ∨ m = 4 ∨ m = 5 ∨ m = 6 ∨ m = 7 ∨ m = 8 := by omega
  rcases this with rfl | rfl | rfl | rfl | rfl | rfl | rfl <;> decide
def netV (nm : List (List Nat)) (m : Int) (vs : List Int) : List Rn := vs.map (runV nm m)
theorem net_s {nm : List (List Nat)} {m v : Int} {vs : List Int} {k : Nat} (h : vs[k]? = some v) : (netV nm m (vs.take (k + 1))).map rnD = (netV nm m (vs.take k)).map rnD ++ [rnD (runV nm m v)] := by
  rw [List.take_add_one, h]
  simp [netV]
theorem rn_flat {q : Rn} (h1 : ∀ c ∈ q.1, c < 1000) (h2 : ∀ c ∈ q.2.1, c < 1000) : Flat 3 (rnD q) := Flat.tuple fun d hd => by
  simp only [List.mem_cons, List.not_mem_nil, or_false] at hd
  rcases hd with rfl | rfl | rfl
  · exact Flat.str h1
  · exact Flat.str h2
  · exact Flat.fr
theorem getD_sm {nm : List (List Nat)} (h : ∀ x ∈ nm, ∀ c ∈ x, c < 1000) (i : Nat) : ∀ c ∈ nm.getD i [], c < 1000 := by
  rw [List.getD_eq_getElem?_getD]
  cases e : nm[i]? with
  | none => intro c hc; simp at hc
  | some x => exact h x (List.mem_of_getElem? e)
theorem net_flat {nm : List (List Nat)} (h : ∀ x ∈ nm, ∀ c ∈ x, c < 1000) (m : Int) (vs : List Int) : Flat 4 (.list ((netV nm m vs).map rnD)) := Flat.list fun d hd => by
  obtain ⟨q, hq, rfl⟩ := List.mem_map.mp hd
  obtain ⟨v, _, rfl⟩ := List.mem_map.mp hq
  exact rn_flat (getD_sm h _) (getD_sm h _)
theorem strs_flat {ls : List (List Nat)} (h : ∀ x ∈ ls, ∀ c ∈ x, c < 1000) : Flat 4 (.list (ls.map sD)) := Flat.list fun d hd => by
  obtain ⟨q, hq, rfl⟩ := List.mem_map.mp hd
  exact Flat.str (h q hq)
theorem ints_flat (ns : List Int) : Flat 4 (.list (ns.map .int)) := Flat.list fun d hd => by
  obtain ⟨q, hq, rfl⟩ := List.mem_map.mp hd
  exact Flat.int
theorem three_flat {x y z : PyData} (hx : Flat 4 x) (hy : Flat 4 y) (hz : Flat 4 z) : Flat 5 (.list [x, y, z]) := Flat.list fun d hd => by
  simp only [List.mem_cons, List.not_mem_nil, or_false] at hd
  rcases hd with rfl | rfl | rfl
  · exact hx
  · exact hy
  · exact hz
theorem gcd_abs1 (t b : Int) : Int.gcd (if t < 0 then -t else t) b = Int.gcd t b := by split <;> simp [Int.gcd]
theorem passK_or (net : List Rn) (runs : List Int) (cs : List (List Nat)) (k : Nat) : passK net runs cs (k + 1) = stepC net runs (passK net runs cs k) k := rfl
/-- one turn of the law's going -/
structure GoS (net : List Rn) (runs : List Int) (cs c2 : List (List Nat)) (g : Bool) (k : Nat) : Prop where
  eq : c2 = passK net runs cs k
  gr : g = !decide (c2 = cs)
theorem GoS.init (net : List Rn) (runs : List Int) (cs : List (List Nat)) : GoS net runs cs cs false 0 := ⟨rfl, by simp⟩
theorem GoS.stay {net : List Rn} {runs : List Int} {cs c2 : List (List Nat)} {g : Bool} {k : Nat} {q : Rn} (h : GoS net runs cs c2 g k) (hq : net[k]? = some q) (hc : (!decide ((k : Int) ∈ runs) && !decide (decide (q.1 ∈ c2) = decide (q.2.1 ∈ c2))) = false) : GoS net runs cs c2 g (k + 1) := by
  refine ⟨?_, h.gr⟩
  rw [passK_or, ← h.eq]
  unfold stepC
  rw [hq]
  simp only [hc, Bool.false_eq_true, if_false]
theorem GoS.grow {net : List Rn} {runs : List Int} {cs c2 : List (List Nat)} {g : Bool} {k : Nat} {q : Rn} (h : GoS net runs cs c2 g k) (hq : net[k]? = some q) (hc : (!decide ((k : Int) ∈ runs) && !decide (decide (q.1 ∈ c2) = decide (q.2.1 ∈ c2))) = true) : GoS net runs cs (c2 ++ [if decide (q.1 ∈ c2) = true then q.2.1 else q.1]) true (k + 1) := by
  constructor
  · rw [passK_or, ← h.eq]
    unfold stepC
    rw [hq]
    simp only [hc, if_true]
  · obtain ⟨e, he⟩ := passK_pre net runs cs k
    rw [← h.eq] at he
    have : ¬ c2 ++ [if decide (q.1 ∈ c2) = true then q.2.1 else q.1] = cs := fun z => by
      have := congrArg List.length z
      rw [he] at this
      simp at this
    rw [decide_eq_false this]; rfl
/-- what the law's loop holds -/
structure LpS (net : List Rn) (runs : List Int) (pushed cs : List (List Nat)) (g : Bool) (j : Nat) : Prop where
  eq : cs = it (passC net runs) j pushed
  st : g = false → passC net runs cs = cs
  le : j + (lack net cs + (if g = true then 1 else 0)) ≤ lack net pushed + 1
theorem LpS.init (net : List Rn) (runs : List Int) (pushed : List (List Nat)) : LpS net runs pushed pushed true 0 := ⟨rfl, fun z => (by cases z), by simp⟩
theorem LpS.next {net : List Rn} {runs : List Int} {pushed cs c2 : List (List Nat)} {g : Bool} {j : Nat} (h : LpS net runs pushed cs true j) (t : GoS net runs cs c2 g net.length) : LpS net runs pushed c2 g (j + 1) ∧ lack net c2 + (if g = true then 1 else 0) < lack net cs + 1 := by
  have e2 : c2 = passC net runs cs := t.eq
  have key : lack net c2 + (if g = true then 1 else 0) ≤ lack net cs := by
    have := passK_lack net runs cs net.length
    rw [← t.eq] at this
    rw [t.gr]
    by_cases z : c2 = cs
    · simp only [z, decide_true, Bool.not_true, Bool.false_eq_true, if_false]; omega
    · simp only [z, decide_false, Bool.not_false, if_true]
      rw [if_neg z] at this; exact this
  have le := h.le
  refine ⟨⟨?_, fun z => ?_, ?_⟩, by omega⟩
  · show c2 = passC net runs (it (passC net runs) j pushed)
    rw [← h.eq]; exact e2
  · have gr := t.gr
    rw [z] at gr
    have : c2 = cs := by simpa using gr.symm
    rw [this] at e2 ⊢; exact e2.symm
  · simp only [if_true] at le; omega
theorem LpS.fin {net : List Rn} {runs : List Int} {pushed cs : List (List Nat)} {j : Nat} (h : LpS net runs pushed cs false j) : cs = comeV net runs pushed := by
  have le := h.le
  have ll := lack_le net pushed
  rw [h.eq]
  exact (come_of (by rw [← h.eq]; exact h.st rfl) (by omega)).symm
theorem comeV_len (net : List Rn) (runs : List Int) (pushed : List (List Nat)) : True := trivial
theorem passK_len (net : List Rn) (runs : List Int) (cs : List (List Nat)) : ∀ k, (passK net runs cs k).length ≤ cs.length + k
  | 0 => Nat.le_refl _
  | k + 1 => by
    have ih := passK_len net runs cs k
    show (stepC net runs (passK net runs cs k) k).length ≤ _
    rcases stepC_or net runs (passK net runs cs k) k with z | ⟨q, y, _, _, _, _, z⟩
    · rw [z]; omega
    · rw [z, List.length_append, List.length_singleton]; omega
theorem it_len (net : List Rn) (runs : List Int) (pushed : List (List Nat)) : ∀ j, (it (passC net runs) j pushed).length ≤ pushed.length + j * net.length
  | 0 => by simp [it]
  | j + 1 => by
    have ih := it_len net runs pushed j
    have := passK_len net runs (it (passC net runs) j pushed) net.length
    show (passK net runs (it (passC net runs) j pushed) net.length).length ≤ _
    rw [Nat.succ_mul]; omega
theorem LpS.len {net : List Rn} {runs : List Int} {pushed cs : List (List Nat)} {g : Bool} {j : Nat} (h : LpS net runs pushed cs g j) (h1 : net.length ≤ 100) (h2 : pushed.length ≤ 100) : cs.length ≤ 30000 := by
  have le := h.le
  have ll := lack_le net pushed
  have := it_len net runs pushed j
  rw [h.eq]
  have hj : j ≤ 201 := by omega
  have := Nat.mul_le_mul hj h1
  omega
theorem at_two (q : Rn) (b : Bool) : atI [sD q.1, sD q.2.1] (if b = true then (1 : Int) else 0) = some (sD (if b = true then q.2.1 else q.1)) := by cases b <;> rfl
theorem made_list {α : Type} (f : α → PyData) (ls : List α) (x : α) : madeC (fun i => some (f (ls.getD i x))) ls.length = ls.map f := by
  rw [madeC_some (fun i => f (ls.getD i x))]
  have := getD_map_range ls x
  conv => rhs; rw [← this]
  rw [List.map_map]; rfl
theorem made_if (b : Nat → Bool) (g : Nat → Int) (n : Nat) : madeC (fun i => if b i = true then some (PyData.int (g i)) else none) n = (((List.range n).filter b).map g).map PyData.int := by
  induction n with
  | zero => rfl
  | succ n ih =>
    rw [madeC_succ, ih, List.range_succ, List.filter_append, List.map_append, List.map_append]
    cases h : b n <;> simp [h]
theorem rev_eq (ru : List Int) {v : Int} (h : 0 ≤ v ∧ v < 2) : (ru.map PyData.int).reverse ++ cutD (ru.map PyData.int) none (some v) = (ru.reverse ++ ru.take v.toNat).map PyData.int := by
  have : v = 0 ∨ v = 1 := by omega
  rw [List.map_append, List.map_reverse]
  rcases this with rfl | rfl
  · cases ru <;> simp [cutD, HT.sIx]
  · cases ru with
    | nil => rfl
    | cons x r => simp [cutD, HT.sIx]
theorem still_ne (net : List Rn) (runs : List Int) (pushed : List (List Nat)) (bell : List Nat) : (!decide (stillB net runs pushed bell = !decide (bell ∈ comeV net runs pushed))) = false := by
  have e : stillB net runs pushed bell = !decide (bell ∈ comeV net runs pushed) := still_come net runs pushed bell
  rw [decide_eq_true e]; rfl
/-! ### what a flow leaves open -/
abbrev Pt := List Nat
def sgI (sg : List Int) (k : Nat) : Int := sg.getD k 0
def nbD (x : Nat × Pt) : PyData := .tuple [.int (x.1 : Int), sD x.2]
def oN : Option (Nat × Pt) → PyData
  | none => .none
  | some x => nbD x
def stA (sg : List Int) (p : Pt) (k : Nat) (q : Rn) : List (Nat × Pt) := if (decide (q.1 = p) && decide (sgI sg k < 1)) = true then [(k, q.2.1)] else []
def stB (sg : List Int) (p : Pt) (k : Nat) (q : Rn) : List (Nat × Pt) := if (decide (q.2.1 = p) && decide (-1 < sgI sg k)) = true then [(k, q.1)] else []
def rn0 : Rn := ([], [], (0, 0))
def stpK (net : List Rn) (sg : List Int) (p : Pt) : Nat → List (Nat × Pt)
  | 0 => []
  | k + 1 => (stpK net sg p k ++ stA sg p k (net.getD k rn0)) ++ stB sg p k (net.getD k rn0)
def stpV (net : List Rn) (sg : List Int) (p : Pt) : List (Nat × Pt) := stpK net sg p net.length
theorem stpK_s {net : List Rn} {sg : List Int} {p : Pt} {k : Nat} {q : Rn} (h : net[k]? = some q) : stpK net sg p (k + 1) = (stpK net sg p k ++ stA sg p k q) ++ stB sg p k q := by rw [stpK, getD_of h]
theorem stpK_len (net : List Rn) (sg : List Int) (p : Pt) (k : Nat) : (stpK net sg p k).length ≤ 2 * k := by
  induction k with
  | zero => exact Nat.le_refl _
  | succ k ih =>
    have a : ∀ q, (stA sg p k q).length ≤ 1 := fun q => by unfold stA; split <;> simp
    have b : ∀ q, (stB sg p k q).length ≤ 1 := fun q => by unfold stB; split <;> simp
    have := a (net.getD k rn0)
    have := b (net.getD k rn0)
    rw [stpK, List.length_append, List.length_append]; omega
theorem at_sg {sg : List Int} {k : Nat} (h : k < sg.length) : atI (sg.map PyData.int) (k : Int) = some (.int (sgI sg k)) := by
  have e : (sg.map PyData.int)[k]? = some (.int (sgI sg k)) := by
    unfold sgI
    rw [List.getElem?_map, List.getElem?_eq_getElem h, List.getD_eq_getElem?_getD, List.getElem?_eq_getElem h]; rfl
  exact atI_nat e
theorem stpK_mem {net : List Rn} {sg : List Int} {p : Pt} {n : Nat} {x : Nat × Pt} (h : x ∈ stpK net sg p n) : x.1 < n ∧ ((p = (net.getD x.1 rn0).1 ∧ x.2 = (net.getD x.1 rn0).2.1 ∧ sgI sg x.1 < 1) ∨ (p = (net.getD x.1 rn0).2.1 ∧ x.2 = (net.getD x.1 rn0).1 ∧ -1 < sgI sg x.1)) := by
  induction n with
  | zero => cases h
  | succ n ih =>
    rw [stpK] at h
    rcases List.mem_append.mp h with h | h
    · rcases List.mem_append.mp h with h | h
      · obtain ⟨a, b⟩ := ih h
        exact ⟨by omega, b⟩
      · unfold stA at h
        split at h
        · rename_i c
          rw [Bool.and_eq_true, decide_eq_true_eq, decide_eq_true_eq] at c
          rw [List.mem_singleton.mp h]
          exact ⟨Nat.lt_succ_self n, .inl ⟨c.1.symm, rfl, c.2⟩⟩
        · cases h
    · unfold stB at h
      split at h
      · rename_i c
        rw [Bool.and_eq_true, decide_eq_true_eq, decide_eq_true_eq] at c
        rw [List.mem_singleton.mp h]
        exact ⟨Nat.lt_succ_self n, .inr ⟨c.1.symm, rfl, c.2⟩⟩
      · cases h
/-! ### the search -/
abbrev CmT := List (Key × Option (Nat × Pt))
def cm0 (pu : List Pt) : CmT := pu.foldl (fun t p => tP t (kS p) none) []
theorem cm0_s {pu : List Pt} {k : Nat} {p : Pt} (h : pu[k]? = some p) : cm0 (pu.take (k + 1)) = tP (cm0 (pu.take k)) (kS p) none := by
  unfold cm0
  rw [List.take_succ, h, List.foldl_append]; rfl
def addS (cur : Pt) (s : CmT × List Pt) (x : Nat × Pt) : CmT × List Pt := if (tV s.1 (kS x.2)).isSome = true then s else (tP s.1 (kS x.2) (some (x.1, cur)), s.2 ++ [x.2])
def lkF (net : List Rn) (sg : List Int) : Nat → CmT × List Pt → Nat → CmT × List Pt
  | 0, s, _ => s
  | f + 1, s, a => match s.2[a]? with
    | none => s
    | some cur => lkF net sg f ((stpV net sg cur).foldl (addS cur) s) (a + 1)
def lookS (net : List Rn) (sg : List Int) (pu : List Pt) : CmT × List Pt := lkF net sg (pu.length + 2 * net.length) (cm0 pu, pu) 0
def lookV (net : List Rn) (sg : List Int) (pu : List Pt) : CmT := (lookS net sg pu).1
theorem tP_has {t : CmT} {k j : Key} {d : Option (Nat × Pt)} : (tV (tP t k d) j).isSome = (decide (j = k) || (tV t j).isSome) := by
  by_cases e : j = k
  · rw [decide_eq_true e, Bool.true_or]
    cases h : tV (tP t k d) j with
    | some v => rfl
    | none => rw [e] at h; exact absurd (tP_self t k d) (tV_none.mp h d)
  · rw [decide_eq_false e, Bool.false_or]
    cases h : tV t j with
    | some v =>
      cases h2 : tV (tP t k d) j with
      | some v => rfl
      | none => exact absurd (tP_other e (tV_mem h)) (tV_none.mp h2 v)
    | none =>
      cases h2 : tV (tP t k d) j with
      | none => rfl
      | some v =>
        rcases tP_mem (tV_mem h2) with ⟨z, _⟩ | ⟨_, z⟩
        · exact absurd z e
        · exact absurd z (tV_none.mp h v)
/-- what holds all along -/
structure LkI (net : List Rn) (pu : List Pt) (s : CmT × List Pt) : Prop where
  seen : ∀ p ∈ s.2, (tV s.1 (kS p)).isSome = true
  bd : s.2.length + lack net s.2 ≤ pu.length + 2 * net.length
  len : s.1.length ≤ s.2.length
theorem tP_len1 (t : CmT) (k : Key) (d : Option (Nat × Pt)) (h : ¬ (tV t k).isSome = true) : (tP t k d).length = t.length + 1 := by unfold tP; rw [if_neg h, List.length_append]; rfl
theorem LkI.add {net : List Rn} {pu : List Pt} {s : CmT × List Pt} {x : Nat × Pt} {cur : Pt} (h : LkI net pu s) (hx : x.2 ∈ endsN net) : LkI net pu (addS cur s x) := by
  unfold addS
  split
  · exact h
  · rename_i c
    have hn : x.2 ∉ s.2 := fun z => c (h.seen _ z)
    refine ⟨fun p hp => ?_, ?_, ?_⟩
    · rw [tP_has, Bool.or_eq_true]
      rcases List.mem_append.mp hp with z | z
      · exact .inr (h.seen p z)
      · rw [List.mem_singleton.mp z]; exact .inl (decide_eq_true rfl)
    · have := lack_add hx hn
      have := h.bd
      show (s.2 ++ [x.2]).length + lack net (s.2 ++ [x.2]) ≤ _
      rw [List.length_append]; show s.2.length + 1 + _ ≤ _; omega
    · have := h.len
      rw [tP_len1 _ _ _ c, List.length_append]; show s.1.length + 1 ≤ s.2.length + 1; omega
theorem addS_pre (cur : Pt) (s : CmT × List Pt) (x : Nat × Pt) : ∃ e, (addS cur s x).2 = s.2 ++ e := by
  unfold addS; split
  · exact ⟨[], (List.append_nil _).symm⟩
  · exact ⟨_, rfl⟩
theorem addL_pre (cur : Pt) (xs : List (Nat × Pt)) : ∀ s : CmT × List Pt, ∃ e, (xs.foldl (addS cur) s).2 = s.2 ++ e := by
  induction xs with
  | nil => exact fun s => ⟨[], (List.append_nil _).symm⟩
  | cons x r ih =>
    intro s
    obtain ⟨e, h⟩ := ih (addS cur s x)
    obtain ⟨e2, h2⟩ := addS_pre cur s x
    exact ⟨e2 ++ e, by rw [List.foldl_cons, h, h2, List.append_assoc]⟩
theorem addL_at {cur : Pt} {xs : List (Nat × Pt)} {s : CmT × List Pt} {a : Nat} {p : Pt} (h : s.2[a]? = some p) : (xs.foldl (addS cur) s).2[a]? = some p := by
  obtain ⟨e, h2⟩ := addL_pre cur xs s
  rw [h2, List.getElem?_append_left (List.getElem?_eq_some_iff.mp h).1]; exact h
theorem LkI.all {net : List Rn} {pu : List Pt} {cur : Pt} (xs : List (Nat × Pt)) : ∀ {s : CmT × List Pt}, LkI net pu s → (∀ x ∈ xs, x.2 ∈ endsN net) → LkI net pu (xs.foldl (addS cur) s) := by
  induction xs with
  | nil => exact fun h _ => h
  | cons x r ih => exact fun h hx => ih (h.add (hx x List.mem_cons_self)) fun y hy => hx y (List.mem_cons_of_mem _ hy)
theorem addL_lack {net : List Rn} {pu : List Pt} {cur : Pt} (xs : List (Nat × Pt)) : ∀ {s : CmT × List Pt}, LkI net pu s → (∀ x ∈ xs, x.2 ∈ endsN net) → (xs.foldl (addS cur) s).2.length + lack net (xs.foldl (addS cur) s).2 ≤ s.2.length + lack net s.2 := by
  induction xs with
  | nil => exact fun _ _ => Nat.le_refl _
  | cons x r ih =>
    intro s h hx
    have hm := hx x List.mem_cons_self
    have a := ih (h.add (cur := cur) hm) fun y hy => hx y (List.mem_cons_of_mem _ hy)
    have b : (addS cur s x).2.length + lack net (addS cur s x).2 ≤ s.2.length + lack net s.2 := by
      unfold addS
      split
      · exact Nat.le_refl _
      · rename_i c
        have hn : x.2 ∉ s.2 := fun z => c (h.seen _ z)
        have := lack_add hm hn
        show (s.2 ++ [x.2]).length + lack net (s.2 ++ [x.2]) ≤ _
        rw [List.length_append]; show s.2.length + 1 + _ ≤ _; omega
    exact Nat.le_trans a b
theorem stpV_ends {net : List Rn} {sg : List Int} {p : Pt} {x : Nat × Pt} (h : x ∈ stpV net sg p) : x.2 ∈ endsN net := by
  obtain ⟨lt, h⟩ := stpK_mem h
  have e : net[x.1]? = some (net.getD x.1 rn0) := by rw [List.getD_eq_getElem?_getD, List.getElem?_eq_getElem lt]; rfl
  obtain ⟨a, b⟩ := mem_endsN e
  rcases h with ⟨_, z, _⟩ | ⟨_, z, _⟩ <;> rw [z]
  · exact b
  · exact a
theorem cm0_len (pu : List Pt) : (cm0 pu).length ≤ pu.length := by
  unfold cm0
  have : ∀ (ls : List Pt) (t : CmT), (ls.foldl (fun t p => tP t (kS p) none) t).length ≤ t.length + ls.length := fun ls => by
    induction ls with
    | nil => exact fun t => Nat.le_refl _
    | cons x r ih => exact fun t => Nat.le_trans (ih _) (by have := tP_len t (kS x) none; rw [List.length_cons]; show (tP t (kS x) none).length + r.length ≤ _; omega)
  exact Nat.le_trans (this pu []) (by simp)
theorem cm0_has (pu : List Pt) : ∀ p ∈ pu, (tV (cm0 pu) (kS p)).isSome = true := by
  have : ∀ (ls : List Pt) (t : CmT), (∀ p ∈ ls, (tV (ls.foldl (fun t p => tP t (kS p) none) t) (kS p)).isSome = true) ∧ ∀ k, (tV t k).isSome = true → (tV (ls.foldl (fun t p => tP t (kS p) none) t) k).isSome = true := fun ls => by
    induction ls with
    | nil => exact fun t => ⟨fun p h => (by cases h), fun k h => h⟩
    | cons x r ih =>
      intro t
      obtain ⟨a, b⟩ := ih (tP t (kS x) none)
      refine ⟨fun p h => ?_, fun k h => b k (by rw [tP_has, h, Bool.or_true])⟩
      rcases List.mem_cons.mp h with z | z
      · rw [z]; exact b _ (by rw [tP_has, decide_eq_true rfl, Bool.true_or])
      · exact a p z
  exact fun p h => (this pu []).1 p h
theorem LkI.init (net : List Rn) (pu : List Pt) : LkI net pu (cm0 pu, pu) := ⟨cm0_has pu, by have := lack_le net pu; show pu.length + lack net pu ≤ _; omega, cm0_len pu⟩
theorem lkF_end {net : List Rn} {sg : List Int} {f a : Nat} {s : CmT × List Pt} (h : s.2.length ≤ a) : lkF net sg f s a = s := by
  cases f with
  | zero => rfl
  | succ f => rw [lkF, List.getElem?_eq_none h]
theorem lkF_s {net : List Rn} {sg : List Int} {f a : Nat} {s : CmT × List Pt} {cur : Pt} (h : s.2[a]? = some cur) : lkF net sg (f + 1) s a = lkF net sg f ((stpV net sg cur).foldl (addS cur) s) (a + 1) := by rw [lkF, h]
theorem foldl_take_s {α β : Type} {g : β → α → β} {s : β} {xs : List α} {k : Nat} {x : α} (h : xs[k]? = some x) : (xs.take (k + 1)).foldl g s = g ((xs.take k).foldl g s) x := by
  rw [List.take_succ, h, List.foldl_append]; rfl
theorem gV_has (cm : CmT) (k : Key) : (gV (enT oN cm) k).isSome = (tV cm k).isSome := by rw [gV_en, Option.isSome_map]
theorem mapNb_inv {xs : List (Nat × Pt)} {k : Nat} {d : PyData} (h : (xs.map nbD)[k]? = some d) : ∃ x, xs[k]? = some x ∧ d = nbD x := by
  rw [List.getElem?_map] at h
  obtain ⟨x, hx, rfl⟩ := Option.map_eq_some_iff.mp h
  exact ⟨x, hx, rfl⟩
theorem mapS_inv {xs : List Pt} {k : Nat} {d : PyData} (h : (xs.map sD)[k]? = some d) : ∃ x, xs[k]? = some x ∧ d = sD x := by
  rw [List.getElem?_map] at h
  obtain ⟨x, hx, rfl⟩ := Option.map_eq_some_iff.mp h
  exact ⟨x, hx, rfl⟩
/-! ### a way turned, the surplus, the ways -/
def stepT (net : List Rn) (sg : List Int) (k : Nat) (a : Pt) : List Int := sg.set k (if decide ((net.getD k rn0).1 = a) = true then sgI sg k + 1 else sgI sg k - 1)
/-- the signs behind a turn, so many steps -/
inductive Tn (net : List Rn) (cm : CmT) : Nat → List Int → Pt → List Int → Prop
  | done {sg : List Int} {p : Pt} : tV cm (kS p) = some none → Tn net cm 0 sg p sg
  | step {n : Nat} {sg sg2 : List Int} {p a : Pt} {k : Nat} : tV cm (kS p) = some (some (k, a)) → k < net.length → Tn net cm n (stepT net sg k a) a sg2 → Tn net cm (n + 1) sg p sg2
def surK (net : List Rn) (sg : List Int) (p : Pt) : Nat → Int
  | 0 => 0
  | k + 1 => if decide ((net.getD k rn0).2.1 = p) = true then (if decide ((net.getD k rn0).1 = p) = true then surK net sg p k + sgI sg k else surK net sg p k) - sgI sg k else if decide ((net.getD k rn0).1 = p) = true then surK net sg p k + sgI sg k else surK net sg p k
def surV (net : List Rn) (sg : List Int) (p : Pt) : Int := surK net sg p net.length
theorem surK_s {net : List Rn} {sg : List Int} {p : Pt} {k : Nat} {q : Rn} (h : net[k]? = some q) : surK net sg p (k + 1) = if decide (q.2.1 = p) = true then (if decide (q.1 = p) = true then surK net sg p k + sgI sg k else surK net sg p k) - sgI sg k else if decide (q.1 = p) = true then surK net sg p k + sgI sg k else surK net sg p k := by rw [surK, getD_of h]
/-- a run that leads on from the post -/
def nxB (net : List Rn) (sg : List Int) (p : Pt) (k : Nat) : Bool := (decide (sgI sg k = 1) && decide ((net.getD k rn0).1 = p)) || (decide (sgI sg k = -1) && decide ((net.getD k rn0).2.1 = p))
structure Nx (net : List Rn) (sg : List Int) (p : Pt) (k : Nat) : Prop where
  lt : k < net.length
  at_ : nxB net sg p k = true
  fst : ∀ j, j < k → nxB net sg p j = false
def othV (net : List Rn) (sg : List Int) (k : Nat) : Pt := if decide (sgI sg k = 1) = true then (net.getD k rn0).2.1 else (net.getD k rn0).1
inductive Wy (net : List Rn) (b : Pt) : List Int → Pt → List Nat → List Int → Prop
  | done {sg : List Int} : Wy net b sg b [] sg
  | step {sg sg2 : List Int} {p : Pt} {k : Nat} {ks : List Nat} : p ≠ b → Nx net sg p k → Wy net b (sg.set k 0) (othV net sg k) ks sg2 → Wy net b sg p (k :: ks) sg2
def wyD (ks : List Nat) : PyData := .list (ks.map fun (k : Nat) => PyData.int (k : Int))
theorem at_net {net : List Rn} {k : Nat} (h : k < net.length) : atI (net.map rnD) (k : Int) = some (rnD (net.getD k rn0)) := by
  have e : (net.map rnD)[k]? = some (rnD (net.getD k rn0)) := by
    rw [List.getElem?_map, List.getElem?_eq_getElem h, List.getD_eq_getElem?_getD, List.getElem?_eq_getElem h]; rfl
  exact atI_nat e
theorem set_sg (sg : List Int) (k : Nat) (v : Int) : (sg.map PyData.int).set k (.int v) = (sg.set k v).map PyData.int := (List.map_set ..).symm
theorem ixN_nat {n k : Nat} (h : k < n) : ixN n (k : Int) = some k := by
  unfold ixN
  first
  | simp [h]
  | (simp; omega)
theorem gV_oN {cm : CmT} {p : Pt} {o : Option (Nat × Pt)} (h : tV cm (kS p) = some o) : gV (enT oN cm) (kS p) = some (oN o) := by rw [gV_en, h]; rfl
/-! ### the least cut -/
def hasB (cm : CmT) (p : Pt) : Bool := (tV cm (kS p)).isSome
inductive Fl (net : List Rn) (pu : List Pt) (b : Pt) : Nat → List Int → List Int → Prop
  | done {sg : List Int} : hasB (lookV net sg pu) b = false → Fl net pu b 0 sg sg
  | step {n m : Nat} {sg sg1 sg2 : List Int} : hasB (lookV net sg pu) b = true → Tn net (lookV net sg pu) n sg b sg1 → sg1.length = net.length → Fl net pu b m sg1 sg2 → Fl net pu b (m + 1) sg sg2
def cutB (net : List Rn) (cm : CmT) (k : Nat) : Bool := !decide (hasB cm (net.getD k rn0).1 = hasB cm (net.getD k rn0).2.1)
def cutV (net : List Rn) (cm : CmT) : List Nat := (List.range net.length).filter (cutB net cm)
inductive Ws (net : List Rn) (b : Pt) : List Int → Pt → List (List Nat) → List Int → Prop
  | done {sg : List Int} {p : Pt} : ¬ 0 < surV net sg p → Ws net b sg p [] sg
  | step {sg sg1 sg2 : List Int} {p : Pt} {ks : List Nat} {W : List (List Nat)} : 0 < surV net sg p → Wy net b sg p ks sg1 → ks.length ≤ 1000 → sg1.length = net.length → Ws net b sg1 p W sg2 → Ws net b sg p (ks :: W) sg2
inductive Wa (net : List Rn) (b : Pt) : List Int → List Pt → List (List Nat) → List Int → Prop
  | nil {sg : List Int} : Wa net b sg [] [] sg
  | cons {sg sg1 sg2 : List Int} {p : Pt} {ps : List Pt} {V W : List (List Nat)} : Ws net b sg p V sg1 → sg1.length = net.length → Wa net b sg1 ps W sg2 → Wa net b sg (p :: ps) (V ++ W) sg2
structure Lc (net : List Rn) (pu : List Pt) (b : Pt) (m : Nat) (sgf sge : List Int) (W : List (List Nat)) : Prop where
  fl : Fl net pu b m (List.replicate net.length 0) sgf
  len : sgf.length = net.length
  wa : Wa net b sgf (ssN pu) W sge
  few : W.length ≤ 1000
theorem cut_made (net : List Rn) (cm : CmT) : madeC (fun i => if cutB net cm i = true then some (PyData.int (i : Int)) else none) (enumD (net.map rnD)).length = (cutV net cm).map fun (k : Nat) => PyData.int (k : Int) := by
  rw [enumD_len, List.length_map]
  unfold cutV
  generalize net.length = n
  induction n with
  | zero => rfl
  | succ n ih =>
    rw [madeC_succ, ih, List.range_succ, List.filter_append, List.map_append]
    congr 1
    by_cases c : cutB net cm n = true
    · rw [if_pos c]; simp [c]
    · rw [if_neg c]; simp [c]
/-! ### the surplus in numbers -/
def ctI (q : Rn) (s : Int) (p : Pt) : Int := (if q.1 = p then s else 0) - (if q.2.1 = p then s else 0)
theorem surK_ct (net : List Rn) (sg : List Int) (p : Pt) (k : Nat) : surK net sg p (k + 1) = surK net sg p k + ctI (net.getD k rn0) (sgI sg k) p := by
  rw [surK]; unfold ctI
  generalize surK net sg p k = u
  generalize sgI sg k = s
  by_cases a : (net.getD k rn0).1 = p
  · by_cases b : (net.getD k rn0).2.1 = p
    · simp only [decide_eq_true_eq, if_pos a, if_pos b]; omega
    · simp only [decide_eq_true_eq, if_pos a, if_neg b]; omega
  · by_cases b : (net.getD k rn0).2.1 = p
    · simp only [decide_eq_true_eq, if_neg a, if_pos b]; omega
    · simp only [decide_eq_true_eq, if_neg a, if_neg b]; omega
theorem sgI_set {sg : List Int} {k j : Nat} {v : Int} (h : k < sg.length) : sgI (sg.set k v) j = if j = k then v else sgI sg j := by
  unfold sgI
  rw [List.getD_eq_getElem?_getD, List.getD_eq_getElem?_getD]
  by_cases e : j = k
  · subst e; rw [List.getElem?_set_self h, if_pos rfl]; rfl
  · rw [List.getElem?_set_ne (fun z => e z.symm), if_neg e]
theorem ctI_sub (q : Rn) (s t : Int) (p : Pt) : ctI q s p + ctI q (t - s) p = ctI q t p := by
  unfold ctI; by_cases a : q.1 = p <;> by_cases b : q.2.1 = p <;> simp [a, b] <;> omega
theorem surK_set {net : List Rn} {sg : List Int} {k : Nat} {v : Int} (h : k < sg.length) (p : Pt) : ∀ n, surK net (sg.set k v) p n = surK net sg p n + if k < n then ctI (net.getD k rn0) (v - sgI sg k) p else 0
  | 0 => by simp [surK]
  | n + 1 => by
    rw [surK_ct, surK_ct, surK_set h p n, sgI_set h]
    by_cases e : n = k
    · subst e
      rw [if_pos rfl, if_neg (Nat.lt_irrefl _), if_pos (Nat.lt_succ_self _), ← ctI_sub _ (sgI sg n) v]; omega
    · rw [if_neg e]
      by_cases l : k < n
      · rw [if_pos l, if_pos (by omega)]; omega
      · rw [if_neg l, if_neg (by omega)]; omega
theorem surV_set {net : List Rn} {sg : List Int} {k : Nat} {v : Int} (hk : k < net.length) (h : k < sg.length) (p : Pt) : surV net (sg.set k v) p = surV net sg p + ctI (net.getD k rn0) (v - sgI sg k) p := by
  unfold surV; rw [surK_set h, if_pos hk]
/-- signs are -1, 0 or 1 -/
def Bs1 (sg : List Int) : Prop := ∀ k, -1 ≤ sgI sg k ∧ sgI sg k ≤ 1
theorem ct_b (q : Rn) {s : Int} (p : Pt) (h : -1 ≤ s ∧ s ≤ 1) : -1 ≤ ctI q s p ∧ ctI q s p ≤ 1 := by
  unfold ctI; split <;> split <;> omega
theorem surK_b {net : List Rn} {sg : List Int} (h : Bs1 sg) (p : Pt) : ∀ n : Nat, -(n : Int) ≤ surK net sg p n ∧ surK net sg p n ≤ n
  | 0 => by simp [surK]
  | n + 1 => by
    have a := surK_b h p n (net := net)
    have b := ct_b (net.getD n rn0) p (h n)
    rw [surK_ct]; omega
theorem sg_zero (n k : Nat) : sgI (List.replicate n 0) k = 0 := by
  unfold sgI
  rw [List.getD_eq_getElem?_getD, List.getElem?_replicate]
  split <;> rfl
theorem sur_zero (net : List Rn) (m : Nat) (p : Pt) : ∀ n, surK net (List.replicate m 0) p n = 0
  | 0 => rfl
  | n + 1 => by rw [surK_ct, sur_zero net m p n, sg_zero]; unfold ctI; simp
/-! ### what the search finds -/
def posC : CmT → Key → Nat
  | [], _ => 0
  | e :: r, k => if e.1 = k then 0 else posC r k + 1
theorem posC_le (t : CmT) (k : Key) : posC t k ≤ t.length := by
  induction t with
  | nil => exact Nat.le_refl _
  | cons e r ih => unfold posC; split <;> simp <;> omega
theorem posC_lt {t : CmT} {k : Key} (h : (tV t k).isSome = true) : posC t k < t.length := by
  induction t with
  | nil => cases h
  | cons e r ih =>
    unfold posC
    unfold tV at h
    by_cases z : e.1 = k
    · rw [if_pos z]; simp
    · rw [if_neg z] at h ⊢
      have := ih h
      simp; omega
theorem tP_app {t : CmT} {k : Key} {d : Option (Nat × Pt)} (h : ¬ (tV t k).isSome = true) : tP t k d = t ++ [(k, d)] := by unfold tP; rw [if_neg h]
theorem tV_app {t : CmT} {k j : Key} {d : Option (Nat × Pt)} : tV (t ++ [(k, d)]) j = match tV t j with
    | some v => some v
    | none => if k = j then some d else none := by
  induction t with
  | nil => rfl
  | cons e r ih =>
    have e1 : tV ((e :: r) ++ [(k, d)]) j = if e.1 = j then some e.2 else tV (r ++ [(k, d)]) j := rfl
    have e2 : tV (e :: r) j = if e.1 = j then some e.2 else tV r j := rfl
    rw [e1, e2]
    by_cases z : e.1 = j
    · rw [if_pos z, if_pos z]
    · rw [if_neg z, if_neg z, ih]
theorem posC_app {t : CmT} {k j : Key} {d : Option (Nat × Pt)} (h : (tV t j).isSome = true) : posC (t ++ [(k, d)]) j = posC t j := by
  induction t with
  | nil => cases h
  | cons e r ih =>
    show (if e.1 = j then 0 else posC (r ++ [(k, d)]) j + 1) = if e.1 = j then 0 else posC r j + 1
    unfold tV at h
    by_cases z : e.1 = j
    · rw [if_pos z, if_pos z]
    · rw [if_neg z] at h
      rw [if_neg z, if_neg z, ih h]
theorem posC_new {t : CmT} {k : Key} {d : Option (Nat × Pt)} (h : ¬ (tV t k).isSome = true) : posC (t ++ [(k, d)]) k = t.length := by
  induction t with
  | nil => show (if k = k then 0 else 1) = 0; rw [if_pos rfl]
  | cons e r ih =>
    show (if e.1 = k then 0 else posC (r ++ [(k, d)]) k + 1) = r.length + 1
    unfold tV at h
    by_cases z : e.1 = k
    · rw [if_pos z] at h; exact absurd rfl h
    · rw [if_neg z] at h
      rw [if_neg z, ih h]
/-- a run that may be gone along from a to p -/
def Op (net : List Rn) (sg : List Int) (k : Nat) (a p : Pt) : Prop := (a = (net.getD k rn0).1 ∧ p = (net.getD k rn0).2.1 ∧ sgI sg k < 1) ∨ (a = (net.getD k rn0).2.1 ∧ p = (net.getD k rn0).1 ∧ -1 < sgI sg k)
structure CmJ (net : List Rn) (sg : List Int) (pu : List Pt) (cm : CmT) : Prop where
  root : ∀ p ∈ pu, tV cm (kS p) = some none
  way : ∀ {p : Pt} {o : Option (Nat × Pt)}, tV cm (kS p) = some o → (o = none ∧ p ∈ pu) ∨ ∃ k a, o = some (k, a) ∧ k < net.length ∧ Op net sg k a p ∧ hasB cm a = true ∧ posC cm (kS a) < posC cm (kS p)
theorem cm0_none (pu : List Pt) : (∀ p ∈ pu, tV (cm0 pu) (kS p) = some none) ∧ ∀ {p : Pt} {o}, tV (cm0 pu) (kS p) = some o → o = none ∧ p ∈ pu := by
  have key : ∀ (ls : List Pt) (t : CmT), (∀ k d, (k, d) ∈ t → d = none) → ((t.map (·.1)).Nodup) → (∀ k d, (k, d) ∈ ls.foldl (fun t p => tP t (kS p) none) t → d = none ∧ ((∃ d, (k, d) ∈ t) ∨ ∃ p ∈ ls, k = kS p)) ∧ ((ls.foldl (fun t p => tP t (kS p) none) t).map (·.1)).Nodup := fun ls => by
    induction ls with
    | nil => exact fun t h nd => ⟨fun k d m => ⟨h k d m, .inl ⟨d, m⟩⟩, nd⟩
    | cons x r ih =>
      intro t h nd
      obtain ⟨a, b⟩ := ih (tP t (kS x) none) (fun k d m => by
        rcases tP_mem m with ⟨_, z⟩ | ⟨_, z⟩
        · exact z
        · exact h k d z) (tP_nd nd)
      refine ⟨fun k d m => ?_, b⟩
      obtain ⟨c, e⟩ := a k d m
      refine ⟨c, ?_⟩
      rcases e with ⟨d2, e⟩ | ⟨p, hp, e⟩
      · rcases tP_mem e with ⟨z, _⟩ | ⟨_, z⟩
        · exact .inr ⟨x, List.mem_cons_self, z⟩
        · exact .inl ⟨d2, z⟩
      · exact .inr ⟨p, List.mem_cons_of_mem _ hp, e⟩
  obtain ⟨k1, _⟩ := key pu [] (fun k d m => (by cases m)) List.nodup_nil
  have two : ∀ {p : Pt} {o}, tV (cm0 pu) (kS p) = some o → o = none ∧ p ∈ pu := fun {p o} h => by
    obtain ⟨a, b⟩ := k1 _ _ (tV_mem h)
    refine ⟨a, ?_⟩
    rcases b with ⟨d, m⟩ | ⟨q, hq, e⟩
    · cases m
    · rw [kS_inj e]; exact hq
  refine ⟨fun p hp => ?_, two⟩
  have := cm0_has pu p hp
  cases h : tV (cm0 pu) (kS p) with
  | none => rw [h] at this; cases this
  | some o => rw [(two h).1]
theorem CmJ.init (net : List Rn) (sg : List Int) (pu : List Pt) : CmJ net sg pu (cm0 pu) := ⟨(cm0_none pu).1, fun h => .inl ((cm0_none pu).2 h)⟩
theorem stpV_op {net : List Rn} {sg : List Int} {a : Pt} {x : Nat × Pt} (h : x ∈ stpV net sg a) : x.1 < net.length ∧ Op net sg x.1 a x.2 := by
  obtain ⟨l, h⟩ := stpK_mem h
  exact ⟨l, h⟩
theorem hasB_app {t : CmT} {k : Key} {d : Option (Nat × Pt)} {p : Pt} (h : hasB t p = true) : hasB (t ++ [(k, d)]) p = true := by
  unfold hasB at h ⊢
  rw [tV_app]
  cases e : tV t (kS p) with
  | none => rw [e] at h; cases h
  | some v => rfl
/-- the search's state -/
structure LkJ (net : List Rn) (sg : List Int) (pu : List Pt) (s : CmT × List Pt) (a : Nat) : Prop where
  cj : CmJ net sg pu s.1
  li : LkI net pu s
  all : ∀ p, hasB s.1 p = true → p ∈ s.2
  cl : ∀ j p, j < a → s.2[j]? = some p → ∀ x ∈ stpV net sg p, hasB s.1 x.2 = true
  le : a ≤ s.2.length
theorem LkJ.add {net : List Rn} {sg : List Int} {pu : List Pt} {s : CmT × List Pt} {a : Nat} {cur : Pt} {x : Nat × Pt} (h : LkJ net sg pu s a) (hc : hasB s.1 cur = true) (hx : x ∈ stpV net sg cur) : LkJ net sg pu (addS cur s x) a ∧ hasB (addS cur s x).1 x.2 = true ∧ ∀ p, hasB s.1 p = true → hasB (addS cur s x).1 p = true := by
  have li := h.li.add (cur := cur) (stpV_ends hx)
  unfold addS at li ⊢
  split at li
  · rename_i c
    rw [if_pos c]
    exact ⟨h, c, fun _ z => z⟩
  · rename_i c
    rw [if_neg c]
    obtain ⟨hl, ho⟩ := stpV_op hx
    have e := tP_app (d := some (x.1, cur)) c
    rw [e] at li
    show LkJ net sg pu (tP s.1 (kS x.2) (some (x.1, cur)), s.2 ++ [x.2]) a ∧ hasB (tP s.1 (kS x.2) (some (x.1, cur))) x.2 = true ∧ ∀ p, hasB s.1 p = true → hasB (tP s.1 (kS x.2) (some (x.1, cur))) p = true
    rw [e]
    have up : ∀ p, hasB s.1 p = true → hasB (s.1 ++ [(kS x.2, some (x.1, cur))]) p = true := fun p hp => hasB_app hp
    have hn : tV s.1 (kS x.2) = none := by
      cases z : tV s.1 (kS x.2) with
      | none => rfl
      | some v => rw [z] at c; exact absurd rfl c
    refine ⟨⟨⟨fun p hp => ?_, fun {p o} hp => ?_⟩, li, fun p hp => ?_, fun j p hj hp y hy => ?_, ?_⟩, ?_, up⟩
    · show tV (s.1 ++ [(kS x.2, some (x.1, cur))]) (kS p) = some none
      rw [tV_app, h.cj.root p hp]
    · have hp : tV (s.1 ++ [(kS x.2, some (x.1, cur))]) (kS p) = some o := hp
      show (o = none ∧ p ∈ pu) ∨ ∃ k b, o = some (k, b) ∧ k < net.length ∧ Op net sg k b p ∧ hasB (s.1 ++ [(kS x.2, some (x.1, cur))]) b = true ∧ posC (s.1 ++ [(kS x.2, some (x.1, cur))]) (kS b) < posC (s.1 ++ [(kS x.2, some (x.1, cur))]) (kS p)
      rw [tV_app] at hp
      cases z : tV s.1 (kS p) with
      | some v =>
        rw [z] at hp
        cases Option.some.inj hp
        rcases h.cj.way z with w | ⟨k, b, w1, w2, w3, w4, w5⟩
        · exact .inl w
        · exact .inr ⟨k, b, w1, w2, w3, up b w4, by rw [posC_app w4, posC_app (by rw [z]; rfl)]; exact w5⟩
      | none =>
        rw [z] at hp
        have hp : (if kS x.2 = kS p then some (some (x.1, cur)) else none) = some o := hp
        by_cases y : kS x.2 = kS p
        · rw [if_pos y] at hp
          cases Option.some.inj hp
          have ep := kS_inj y
          refine .inr ⟨x.1, cur, rfl, hl, by rw [← ep]; exact ho, up cur hc, ?_⟩
          rw [posC_app hc, ← y, posC_new c]
          exact posC_lt hc
        · rw [if_neg y] at hp; cases hp
    · have hp : hasB (s.1 ++ [(kS x.2, some (x.1, cur))]) p = true := hp
      show p ∈ s.2 ++ [x.2]
      unfold hasB at hp
      rw [tV_app] at hp
      cases z : tV s.1 (kS p) with
      | some v => exact List.mem_append_left _ (h.all p (by unfold hasB; rw [z]; rfl))
      | none =>
        rw [z] at hp
        have hp : (if kS x.2 = kS p then some (some (x.1, cur)) else none).isSome = true := hp
        by_cases y : kS x.2 = kS p
        · rw [kS_inj y]; exact List.mem_append_right _ (List.mem_singleton.mpr rfl)
        · rw [if_neg y] at hp; cases hp
    · have hp : (s.2 ++ [x.2])[j]? = some p := hp
      have := h.le
      rw [List.getElem?_append_left (by omega)] at hp
      exact up _ (h.cl j p hj hp y hy)
    · have := h.le
      show a ≤ (s.2 ++ [x.2]).length
      rw [List.length_append]; omega
    · show (tV (s.1 ++ [(kS x.2, some (x.1, cur))]) (kS x.2)).isSome = true
      rw [tV_app, hn]
      show (if kS x.2 = kS x.2 then some (some (x.1, cur)) else none).isSome = true
      rw [if_pos rfl]; rfl
theorem LkJ.addL {net : List Rn} {sg : List Int} {pu : List Pt} {a : Nat} {cur : Pt} (xs : List (Nat × Pt)) : ∀ {s : CmT × List Pt}, LkJ net sg pu s a → hasB s.1 cur = true → (∀ x ∈ xs, x ∈ stpV net sg cur) → LkJ net sg pu (xs.foldl (addS cur) s) a ∧ (∀ x ∈ xs, hasB (xs.foldl (addS cur) s).1 x.2 = true) ∧ ∀ p, hasB s.1 p = true → hasB (xs.foldl (addS cur) s).1 p = true := by
  induction xs with
  | nil => exact fun h _ _ => ⟨h, fun x m => (by cases m), fun _ z => z⟩
  | cons x r ih =>
    intro s h hc hx
    obtain ⟨a1, a2, a3⟩ := h.add hc (hx x List.mem_cons_self)
    obtain ⟨b1, b2, b3⟩ := ih a1 (a3 cur hc) fun y hy => hx y (List.mem_cons_of_mem _ hy)
    refine ⟨b1, fun y hy => ?_, fun p hp => b3 p (a3 p hp)⟩
    rcases List.mem_cons.mp hy with z | z
    · rw [z]; exact b3 _ a2
    · exact b2 y z
theorem lkF_all {net : List Rn} {sg : List Int} {pu : List Pt} : ∀ (f : Nat) {s : CmT × List Pt} {a : Nat}, LkJ net sg pu s a → lack net s.2 + (s.2.length - a) ≤ f → ∃ a2, LkJ net sg pu (lkF net sg f s a) a2 ∧ (lkF net sg f s a).2.length ≤ a2
  | 0, s, a, h, hm => ⟨a, h, by show s.2.length ≤ a; omega⟩
  | f + 1, s, a, h, hm => by
    rcases Nat.lt_or_ge a s.2.length with l | l
    · obtain ⟨cur, hcur⟩ : ∃ cur, s.2[a]? = some cur := ⟨s.2[a], List.getElem?_eq_getElem l⟩
      rw [lkF_s hcur]
      have hc := h.li.seen cur (List.mem_of_getElem? hcur)
      have hall : ∀ x ∈ stpV net sg cur, x.2 ∈ endsN net := fun x hx => stpV_ends hx
      obtain ⟨j1, j2, j3⟩ := LkJ.addL (stpV net sg cur) h hc fun x hx => hx
      have lk := addL_lack (cur := cur) _ h.li hall
      have at_ := addL_at (cur := cur) (xs := stpV net sg cur) hcur
      have lt := (List.getElem?_eq_some_iff.mp at_).1
      refine lkF_all f ⟨j1.cj, j1.li, j1.all, fun j p hj hp x hx => ?_, lt⟩ (by omega)
      rcases Nat.lt_succ_iff_lt_or_eq.mp hj with z | z
      · exact j1.cl j p z hp x hx
      · subst z
        rw [at_] at hp
        cases Option.some.inj hp
        exact j2 x hx
    · rw [lkF_end l]; exact ⟨a, h, l⟩
/-- what is known of it -/
structure CmOk (net : List Rn) (sg : List Int) (pu : List Pt) (cm : CmT) : Prop where
  cj : CmJ net sg pu cm
  cl : ∀ p, hasB cm p = true → ∀ x ∈ stpV net sg p, hasB cm x.2 = true
theorem look_ok (net : List Rn) (sg : List Int) (pu : List Pt) : CmOk net sg pu (lookV net sg pu) := by
  have h0 : LkJ net sg pu (cm0 pu, pu) 0 := ⟨CmJ.init net sg pu, LkI.init net pu, fun p hp => by
    unfold hasB at hp
    cases z : tV (cm0 pu) (kS p) with
    | none => rw [show (cm0 pu, pu).1 = cm0 pu from rfl, z] at hp; cases hp
    | some o => exact ((cm0_none pu).2 z).2, fun j p hj => absurd hj (Nat.not_lt_zero _), Nat.zero_le _⟩
  obtain ⟨a, h, l⟩ := lkF_all (pu.length + 2 * net.length) h0 (by have := lack_le net pu; show lack net pu + (pu.length - 0) ≤ _; omega)
  refine ⟨h.cj, fun p hp x hx => ?_⟩
  obtain ⟨j, hj⟩ := List.getElem?_of_mem (h.all p hp)
  exact h.cl j p (Nat.lt_of_lt_of_le (List.getElem?_eq_some_iff.mp hj).1 l) hj x hx
/-! ### a turn -/
theorem stepT_ok {net : List Rn} {sg : List Int} {k : Nat} {a p : Pt} (hl : sg.length = net.length) (hk : k < net.length) (h : Op net sg k a p) (ne : p ≠ a) (b1 : Bs1 sg) :
    (stepT net sg k a).length = net.length ∧ Bs1 (stepT net sg k a) ∧ (∀ x, surV net (stepT net sg k a) x = surV net sg x + (if a = x then 1 else 0) - (if p = x then 1 else 0)) ∧ ∀ j, j ≠ k → sgI (stepT net sg k a) j = sgI sg j := by
  have hk2 : k < sg.length := by omega
  unfold stepT
  rcases h with ⟨h1, h2, h3⟩ | ⟨h1, h2, h3⟩
  · rw [if_pos (decide_eq_true h1.symm)]
    refine ⟨by rw [List.length_set]; exact hl, fun j => ?_, fun x => ?_, fun j hj => by rw [sgI_set hk2, if_neg hj]⟩
    · rw [sgI_set hk2]
      have := b1 j
      have := b1 k
      split <;> omega
    · rw [surV_set hk hk2, show sgI sg k + 1 - sgI sg k = 1 by omega, ctI, ← h1, ← h2]; omega
  · rw [if_neg (by rw [decide_eq_true_eq, ← h2]; exact ne)]
    refine ⟨by rw [List.length_set]; exact hl, fun j => ?_, fun x => ?_, fun j hj => by rw [sgI_set hk2, if_neg hj]⟩
    · rw [sgI_set hk2]
      have := b1 j
      have := b1 k
      split <;> omega
    · rw [surV_set hk hk2, show sgI sg k - 1 - sgI sg k = -1 by omega, ctI, ← h1, ← h2]
      split <;> split <;> omega
theorem turn_ex {net : List Rn} {sg0 : List Int} {pu : List Pt} {cm : CmT} (C : CmJ net sg0 pu cm) : ∀ (n : Nat) (p : Pt) (sg : List Int), posC cm (kS p) = n → hasB cm p = true → sg.length = net.length → Bs1 sg →
    (∀ k, k < net.length → posC cm (kS (net.getD k rn0).1) ≤ posC cm (kS p) → posC cm (kS (net.getD k rn0).2.1) ≤ posC cm (kS p) → sgI sg k = sgI sg0 k) →
    ∃ m sg2 r, Tn net cm m sg p sg2 ∧ sg2.length = net.length ∧ Bs1 sg2 ∧ r ∈ pu ∧ ∀ x, surV net sg2 x = surV net sg x + (if r = x then 1 else 0) - (if p = x then 1 else 0) := by
  intro n
  induction n using Nat.strongRecOn with
  | ind n ih =>
    intro p sg en hp hl b1 same
    unfold hasB at hp
    cases ho : tV cm (kS p) with
    | none => rw [ho] at hp; cases hp
    | some o =>
      rcases C.way ho with ⟨rfl, hpu⟩ | ⟨k, a, rfl, hk, op, ha, lt⟩
      · exact ⟨0, sg, p, .done ho, hl, b1, hpu, fun x => by omega⟩
      · have ne : p ≠ a := fun z => by rw [z] at lt; omega
        have es : sgI sg k = sgI sg0 k := by
          rcases op with ⟨h1, h2, _⟩ | ⟨h1, h2, _⟩
          · exact same k hk (by rw [← h1]; omega) (by rw [← h2]; omega)
          · exact same k hk (by rw [← h2]; omega) (by rw [← h1]; omega)
        have op2 : Op net sg k a p := by unfold Op; rw [es]; exact op
        obtain ⟨s1, s2, s3, s4⟩ := stepT_ok hl hk op2 ne b1
        obtain ⟨m, sg2, r, t1, t2, t3, t4, t5⟩ := ih (posC cm (kS a)) (by omega) a (stepT net sg k a) rfl ha s1 s2 fun j hj l1 l2 => by
          have nk : j ≠ k := fun z => by
            subst z
            rcases op with ⟨_, h2, _⟩ | ⟨_, h2, _⟩
            · rw [← h2] at l2; omega
            · rw [← h2] at l1; omega
          rw [s4 j nk]; exact same j hj (by omega) (by omega)
        refine ⟨m + 1, sg2, r, .step ho hk t1, t2, t3, t4, fun x => ?_⟩
        rw [t5 x, s3 x]; omega
/-! ### the flow at its end -/
structure FwOk (net : List Rn) (pu : List Pt) (b : Pt) (sg : List Int) : Prop where
  len : sg.length = net.length
  b1 : Bs1 sg
  zero : ∀ x, x ∉ pu → x ≠ b → surV net sg x = 0
  pos : ∀ x ∈ pu, 0 ≤ surV net sg x
theorem flow_ex {net : List Rn} {pu : List Pt} {b : Pt} (hb : b ∉ pu) : ∀ (n : Nat) (sg : List Int), ((net.length : Int) + surV net sg b).toNat = n → FwOk net pu b sg → ∃ m sg2, Fl net pu b m sg sg2 ∧ FwOk net pu b sg2 ∧ hasB (lookV net sg2 pu) b = false := by
  intro n
  induction n using Nat.strongRecOn with
  | ind n ih =>
    intro sg en F
    cases hc : hasB (lookV net sg pu) b with
    | false => exact ⟨0, sg, .done hc, F, hc⟩
    | true =>
      obtain ⟨m, sg1, r, t1, t2, t3, t4, t5⟩ := turn_ex (look_ok net sg pu).cj _ b sg rfl hc F.len F.b1 fun _ _ _ _ => rfl
      have rb : r ≠ b := fun z => hb (by rw [← z]; exact t4)
      have F1 : FwOk net pu b sg1 := ⟨t2, t3, fun x h1 h2 => by
        rw [t5 x, F.zero x h1 h2, if_neg (fun z => h1 (by rw [← z]; exact t4)), if_neg (fun z => h2 z.symm)]; omega, fun x hx => by
        have := F.pos x hx
        rw [t5 x, if_neg (c := b = x) (fun z => hb (by rw [z]; exact hx))]
        split <;> omega⟩
      have e := t5 b
      rw [if_neg rb, if_pos rfl] at e
      have lo := (surK_b t3 b net.length (net := net)).1
      have lo : -(net.length : Int) ≤ surV net sg1 b := lo
      obtain ⟨m2, sg2, f1, f2, f3⟩ := ih _ (by omega) sg1 rfl F1
      exact ⟨m2 + 1, sg2, .step hc t1 t2 f1, f2, f3⟩
theorem flow0 (net : List Rn) (pu : List Pt) (b : Pt) : FwOk net pu b (List.replicate net.length 0) := ⟨List.length_replicate .., fun k => by rw [sg_zero]; omega, fun x _ _ => sur_zero net _ x _, fun x _ => by unfold surV; rw [sur_zero]; exact Int.le_refl _⟩
/-! ### as many as the cut -/
def sumP (f : Pt → Int) : List Pt → Int
  | [] => 0
  | p :: r => f p + sumP f r
def sumK (g : Nat → Int) : Nat → Int
  | 0 => 0
  | k + 1 => sumK g k + g k
theorem sumP_app (f : Pt → Int) : ∀ (L M : List Pt), sumP f (L ++ M) = sumP f L + sumP f M
  | [], M => by show sumP f M = 0 + _; omega
  | p :: r, M => by show f p + sumP f (r ++ M) = f p + sumP f r + _; rw [sumP_app f r M]; omega
theorem sumP_add (f g : Pt → Int) : ∀ L : List Pt, sumP (fun p => f p + g p) L = sumP f L + sumP g L
  | [] => rfl
  | p :: r => by show f p + g p + sumP (fun p => f p + g p) r = _; rw [sumP_add f g r]; show _ = f p + sumP f r + (g p + sumP g r); omega
theorem sumP_sub (f g : Pt → Int) : ∀ L : List Pt, sumP (fun p => f p - g p) L = sumP f L - sumP g L
  | [] => rfl
  | p :: r => by show f p - g p + sumP (fun p => f p - g p) r = _; rw [sumP_sub f g r]; show _ = f p + sumP f r - (g p + sumP g r); omega
theorem sumP_zero {f : Pt → Int} : ∀ {L : List Pt}, (∀ p ∈ L, f p = 0) → sumP f L = 0
  | [], _ => rfl
  | p :: r, h => by show f p + sumP f r = 0; rw [h p List.mem_cons_self, sumP_zero fun x hx => h x (List.mem_cons_of_mem _ hx)]; rfl
theorem sumP_if (y : Pt) (s : Int) : ∀ {L : List Pt}, L.Nodup → sumP (fun p => if y = p then s else 0) L = if y ∈ L then s else 0
  | [], _ => by simp [sumP]
  | p :: r, h => by
    obtain ⟨h1, h2⟩ := List.nodup_cons.mp h
    show (if y = p then s else 0) + sumP (fun p => if y = p then s else 0) r = _
    rw [sumP_if y s h2]
    by_cases e : y = p
    · subst e; rw [if_pos rfl, if_neg h1, if_pos List.mem_cons_self]; omega
    · rw [if_neg e]
      by_cases m : y ∈ r
      · rw [if_pos m, if_pos (List.mem_cons_of_mem _ m)]; omega
      · rw [if_neg m, if_neg (by rw [List.mem_cons]; rintro (z | z); exact e z; exact m z)]; rfl
theorem sumP_ct (q : Rn) (s : Int) {L : List Pt} (h : L.Nodup) : sumP (ctI q s) L = (if q.1 ∈ L then s else 0) - (if q.2.1 ∈ L then s else 0) := by
  have e : ctI q s = fun p => (fun p => if q.1 = p then s else 0) p - (fun p => if q.2.1 = p then s else 0) p := rfl
  rw [e, sumP_sub, sumP_if _ _ h, sumP_if _ _ h]
theorem sum_sur (net : List Rn) (sg : List Int) {L : List Pt} (h : L.Nodup) : ∀ n, sumP (fun p => surK net sg p n) L = sumK (fun k => (if (net.getD k rn0).1 ∈ L then sgI sg k else 0) - (if (net.getD k rn0).2.1 ∈ L then sgI sg k else 0)) n
  | 0 => sumP_zero fun _ _ => rfl
  | n + 1 => by
    have e : (fun p => surK net sg p (n + 1)) = fun p => (fun p => surK net sg p n) p + ctI (net.getD n rn0) (sgI sg n) p := by funext p; exact surK_ct net sg p n
    rw [e, sumP_add, sum_sur net sg h n, sumP_ct _ _ h]; rfl
theorem sumK_congr {f g : Nat → Int} : ∀ {n : Nat}, (∀ k, k < n → f k = g k) → sumK f n = sumK g n
  | 0, _ => rfl
  | n + 1, h => by show sumK f n + f n = sumK g n + g n; rw [sumK_congr fun k hk => h k (Nat.lt_succ_of_lt hk), h n (Nat.lt_succ_self n)]
theorem sumK_count (c : Nat → Bool) : ∀ n, sumK (fun k => if c k = true then 1 else 0) n = (((List.range n).filter c).length : Int)
  | 0 => rfl
  | n + 1 => by
    show sumK (fun k => if c k = true then 1 else 0) n + (if c n = true then 1 else 0) = _
    rw [sumK_count c n, List.range_succ, List.filter_append, List.length_append]
    by_cases h : c n = true
    · rw [if_pos h]; simp [h]
    · rw [if_neg h]; simp [h]
theorem stpK_of {net : List Rn} {sg : List Int} {a p : Pt} {k : Nat} (op : Op net sg k a p) : ∀ n, k < n → (k, p) ∈ stpK net sg a n
  | 0, h => by omega
  | n + 1, h => by
    rw [stpK]
    rcases Nat.lt_succ_iff_lt_or_eq.mp h with z | z
    · exact List.mem_append_left _ (List.mem_append_left _ (stpK_of op n z))
    · subst z
      rcases op with ⟨h1, h2, h3⟩ | ⟨h1, h2, h3⟩
      · refine List.mem_append_left _ (List.mem_append_right _ ?_)
        unfold stA
        rw [if_pos (by rw [Bool.and_eq_true, decide_eq_true_eq, decide_eq_true_eq]; exact ⟨h1.symm, h3⟩), h2]; exact List.mem_singleton.mpr rfl
      · refine List.mem_append_right _ ?_
        unfold stB
        rw [if_pos (by rw [Bool.and_eq_true, decide_eq_true_eq, decide_eq_true_eq]; exact ⟨h1.symm, h3⟩), h2]; exact List.mem_singleton.mpr rfl
theorem ends_of {net : List Rn} {k : Nat} (h : k < net.length) : (net.getD k rn0).1 ∈ endsN net ∧ (net.getD k rn0).2.1 ∈ endsN net :=
  mem_endsN (i := k) (by rw [List.getD_eq_getElem?_getD, List.getElem?_eq_getElem h]; rfl)
theorem cut_size {net : List Rn} {pu : List Pt} {b : Pt} {sg : List Int} (F : FwOk net pu b sg) (hb : hasB (lookV net sg pu) b = false) : sumP (surV net sg) (ssN pu) = ((cutV net (lookV net sg pu)).length : Int) := by
  obtain ⟨cj, cl⟩ := look_ok net sg pu
  generalize lookV net sg pu = cm at *
  have hpu : ∀ x ∈ pu, hasB cm x = true := fun x hx => by unfold hasB; rw [cj.root x hx]; rfl
  obtain ⟨M, hM⟩ : ∃ M, M = (ssN (endsN net)).filter fun x => hasB cm x && !decide (x ∈ pu) := ⟨_, rfl⟩
  have memM : ∀ x, x ∈ M ↔ x ∈ endsN net ∧ hasB cm x = true ∧ x ∉ pu := fun x => by
    rw [hM, List.mem_filter, ssN_mem]
    simp
  have nd : (ssN pu ++ M).Nodup := List.nodup_append.mpr ⟨ssN_nd _, by rw [hM]; exact (ssN_nd _).sublist List.filter_sublist, fun x hx y hy e => by
    subst e
    exact ((memM x).mp hy).2.2 (ssN_mem.mp hx)⟩
  have z : sumP (surV net sg) M = 0 := sumP_zero fun x hx => by
    obtain ⟨h1, h2, h3⟩ := (memM x).mp hx
    exact F.zero x h3 fun e => by rw [e, hb] at h2; cases h2
  have e1 : sumP (surV net sg) (ssN pu) = sumP (surV net sg) (ssN pu ++ M) := by rw [sumP_app, z]; omega
  have e2 := sum_sur net sg nd net.length
  rw [e1, show sumP (surV net sg) (ssN pu ++ M) = _ from e2]
  unfold cutV
  rw [← sumK_count]
  refine sumK_congr fun k hk => ?_
  obtain ⟨m1, m2⟩ := ends_of hk
  have mem : ∀ x ∈ endsN net, (x ∈ ssN pu ++ M) ↔ hasB cm x = true := fun x hx => by
    rw [List.mem_append, ssN_mem, memM]
    constructor
    · rintro (h | ⟨_, h, _⟩)
      · exact hpu x h
      · exact h
    · intro h
      by_cases c : x ∈ pu
      · exact .inl c
      · exact .inr ⟨hx, h, c⟩
  have i1 := mem _ m1
  have i2 := mem _ m2
  have b1 := F.b1 k
  unfold cutB
  cases h1 : hasB cm (net.getD k rn0).1 with
  | true =>
    rw [if_pos (i1.mpr h1)]
    cases h2 : hasB cm (net.getD k rn0).2.1 with
    | true => rw [if_pos (i2.mpr h2)]; simp
    | false =>
      rw [if_neg (fun z => by rw [i2.mp z] at h2; cases h2)]
      have : ¬ sgI sg k < 1 := fun z => by
        have := cl _ h1 _ (stpK_of (.inl ⟨rfl, rfl, z⟩) net.length hk)
        rw [h2] at this; cases this
      simp; omega
  | false =>
    rw [if_neg (fun z => by rw [i1.mp z] at h1; cases h1)]
    cases h2 : hasB cm (net.getD k rn0).2.1 with
    | false => rw [if_neg (fun z => by rw [i2.mp z] at h2; cases h2)]; simp
    | true =>
      rw [if_pos (i2.mpr h2)]
      have : ¬ -1 < sgI sg k := fun z => by
        have := cl _ h2 _ (stpK_of (.inr ⟨rfl, rfl, z⟩) net.length hk)
        rw [h1] at this; cases this
      simp; omega
/-! ### the ways -/
inductive Pw (net : List Rn) (b : Pt) : Pt → List Nat → Prop
  | done : Pw net b b []
  | step {p y : Pt} {k : Nat} {ks : List Nat} : k < net.length → ((net.getD k rn0).1 = p ∧ y = (net.getD k rn0).2.1 ∨ (net.getD k rn0).2.1 = p ∧ y = (net.getD k rn0).1) → Pw net b y ks → Pw net b p (k :: ks)
theorem least_ex {P : Nat → Bool} : ∀ (n : Nat), P n = true → ∃ k, k ≤ n ∧ P k = true ∧ ∀ j, j < k → P j = false := by
  intro n
  induction n using Nat.strongRecOn with
  | ind n ih =>
    intro h
    by_cases c : ∃ j, j < n ∧ P j = true
    · obtain ⟨j, hj, hp⟩ := c
      obtain ⟨k, h1, h2, h3⟩ := ih j hj hp
      exact ⟨k, by omega, h2, h3⟩
    · refine ⟨n, Nat.le_refl n, h, fun j hj => ?_⟩
      cases e : P j with
      | false => rfl
      | true => exact absurd ⟨j, hj, e⟩ c
theorem surK_pos {net : List Rn} {sg : List Int} {p : Pt} (b1 : Bs1 sg) : ∀ n, 0 < surK net sg p n → ∃ k, k < n ∧ nxB net sg p k = true
  | 0, h => by simp [surK] at h
  | n + 1, h => by
    by_cases c : 0 < surK net sg p n
    · obtain ⟨k, h1, h2⟩ := surK_pos b1 n c
      exact ⟨k, by omega, h2⟩
    · rw [surK_ct] at h
      have h : 0 < ctI (net.getD n rn0) (sgI sg n) p := by omega
      refine ⟨n, Nat.lt_succ_self n, ?_⟩
      have b := b1 n
      unfold ctI at h
      unfold nxB
      by_cases h1 : (net.getD n rn0).1 = p
      · by_cases h2 : (net.getD n rn0).2.1 = p
        · rw [if_pos h1, if_pos h2] at h; omega
        · rw [if_pos h1, if_neg h2] at h
          have : sgI sg n = 1 := by omega
          rw [decide_eq_true this, decide_eq_true h1]; rfl
      · by_cases h2 : (net.getD n rn0).2.1 = p
        · rw [if_neg h1, if_pos h2] at h
          have : sgI sg n = -1 := by omega
          rw [decide_eq_true this, decide_eq_true h2, Bool.and_true, Bool.or_true]
        · rw [if_neg h1, if_neg h2] at h; omega
theorem nx_ex {net : List Rn} {sg : List Int} {p : Pt} (b1 : Bs1 sg) (h : 0 < surV net sg p) : ∃ k, Nx net sg p k := by
  obtain ⟨k, h1, h2⟩ := surK_pos b1 _ h
  obtain ⟨j, h3, h4, h5⟩ := least_ex k h2
  exact ⟨j, by omega, h4, h5⟩
theorem Nx.way {net : List Rn} {sg : List Int} {p : Pt} {k : Nat} (h : Nx net sg p k) (hl : sg.length = net.length) : sgI sg k ≠ 0 ∧ ((net.getD k rn0).1 = p ∧ othV net sg k = (net.getD k rn0).2.1 ∨ (net.getD k rn0).2.1 = p ∧ othV net sg k = (net.getD k rn0).1) ∧
    ∀ x, surV net (sg.set k 0) x = surV net sg x - (if p = x then 1 else 0) + (if othV net sg k = x then 1 else 0) := by
  have lt := h.lt
  have hb := h.at_
  unfold nxB at hb
  rw [Bool.or_eq_true, Bool.and_eq_true, Bool.and_eq_true, decide_eq_true_eq, decide_eq_true_eq, decide_eq_true_eq, decide_eq_true_eq] at hb
  rcases hb with ⟨h1, h2⟩ | ⟨h1, h2⟩
  · have eo : othV net sg k = (net.getD k rn0).2.1 := by unfold othV; rw [if_pos (decide_eq_true h1)]
    refine ⟨by omega, .inl ⟨h2, eo⟩, fun x => ?_⟩
    rw [surV_set lt (by omega), h1, ctI, eo, h2]
    split <;> split <;> omega
  · have eo : othV net sg k = (net.getD k rn0).1 := by unfold othV; rw [if_neg (by rw [decide_eq_true_eq]; omega)]
    refine ⟨by omega, .inr ⟨h2, eo⟩, fun x => ?_⟩
    rw [surV_set lt (by omega), h1, ctI, eo, h2]
    split <;> split <;> omega
def nzK (sg : List Int) : Nat → Nat
  | 0 => 0
  | n + 1 => nzK sg n + if sgI sg n = 0 then 0 else 1
theorem nzK_le (sg : List Int) : ∀ n, nzK sg n ≤ n
  | 0 => Nat.le_refl _
  | n + 1 => by have := nzK_le sg n; unfold nzK; split <;> omega
theorem nzK_set {sg : List Int} {k : Nat} (h : k < sg.length) (hk : sgI sg k ≠ 0) : ∀ n, nzK (sg.set k 0) n + (if k < n then 1 else 0) = nzK sg n
  | 0 => rfl
  | n + 1 => by
    have ih := nzK_set h hk n
    unfold nzK
    rw [sgI_set h]
    by_cases e : n = k
    · subst e
      rw [if_neg (Nat.lt_irrefl _)] at ih
      rw [if_pos rfl, if_pos rfl, if_pos (Nat.lt_succ_self _), if_neg hk]; omega
    · rw [if_neg e]
      by_cases l : k < n
      · rw [if_pos l] at ih; rw [if_pos (c := k < n + 1) (by omega)]; omega
      · rw [if_neg l] at ih; rw [if_neg (c := k < n + 1) (by omega)]; omega
/-- from signs to signs, runs used -/
structure Us (net : List Rn) (b : Pt) (sg sg2 : List Int) (ks : List Nat) : Prop where
  len : sg2.length = net.length
  b1 : Bs1 sg2
  was : ∀ k ∈ ks, sgI sg k ≠ 0
  now : ∀ k ∈ ks, sgI sg2 k = 0
  keep : ∀ k, sgI sg2 k = sgI sg k ∨ sgI sg2 k = 0
  nd : ks.Nodup
  few : ks.length + nzK sg2 net.length ≤ nzK sg net.length
theorem Us.nil {net : List Rn} {b : Pt} {sg : List Int} (hl : sg.length = net.length) (b1 : Bs1 sg) : Us net b sg sg [] := ⟨hl, b1, fun k h => (by cases h), fun k h => (by cases h), fun k => .inl rfl, List.nodup_nil, by simp⟩
theorem Us.app {net : List Rn} {b : Pt} {sg sg1 sg2 : List Int} {ks js : List Nat} (h : Us net b sg sg1 ks) (g : Us net b sg1 sg2 js) : Us net b sg sg2 (ks ++ js) where
  len := g.len
  b1 := g.b1
  was := fun k hk => by
    rcases List.mem_append.mp hk with z | z
    · exact h.was k z
    · have := g.was k z
      rcases h.keep k with e | e
      · rw [← e]; exact this
      · exact absurd e this
  now := fun k hk => by
    rcases List.mem_append.mp hk with z | z
    · rcases g.keep k with e | e
      · rw [e]; exact h.now k z
      · exact e
    · exact g.now k z
  keep := fun k => by
    rcases g.keep k with e | e
    · rw [e]; exact h.keep k
    · exact .inr e
  nd := List.nodup_append.mpr ⟨h.nd, g.nd, fun x hx y hy e => by subst e; exact g.was x hy (h.now x hx)⟩
  few := by have := h.few; have := g.few; rw [List.length_append]; omega
theorem way_ex {net : List Rn} {b : Pt} : ∀ (n : Nat) (sg : List Int) (p : Pt), nzK sg net.length = n → sg.length = net.length → Bs1 sg → (∀ x, x ≠ b → 0 ≤ surV net sg x) → (p = b ∨ 0 < surV net sg p) →
    ∃ ks sg2, Wy net b sg p ks sg2 ∧ Us net b sg sg2 ks ∧ Pw net b p ks ∧ ∀ x, x ≠ b → surV net sg2 x = surV net sg x - (if p = x then 1 else 0) := by
  intro n
  induction n using Nat.strongRecOn with
  | ind n ih =>
    intro sg p en hl b1 nn hp
    by_cases e : p = b
    · subst e
      exact ⟨[], sg, .done, .nil hl b1, .done, fun x hx => by rw [if_neg (fun z => hx z.symm)]; omega⟩
    · have hp := hp.resolve_left e
      obtain ⟨k, nx⟩ := nx_ex b1 hp
      obtain ⟨h1, h2, h3⟩ := nx.way hl
      have hk : k < sg.length := by have := nx.lt; omega
      have b2 : Bs1 (sg.set k 0) := fun j => by rw [sgI_set hk]; have := b1 j; split <;> omega
      have nz := nzK_set hk h1 net.length
      rw [if_pos nx.lt] at nz
      obtain ⟨ks, sg2, w1, w2, w3, w4⟩ := ih (nzK (sg.set k 0) net.length) (by omega) (sg.set k 0) (othV net sg k) rfl (by rw [List.length_set]; exact hl) b2 (fun x hx => by
        have := nn x hx
        rw [h3 x]
        by_cases c : p = x
        · subst c; rw [if_pos rfl]; split <;> omega
        · rw [if_neg c]; split <;> omega) (by
        by_cases c : othV net sg k = b
        · exact .inl c
        · have := nn _ c
          refine .inr ?_
          rw [h3, if_pos (c := othV net sg k = othV net sg k) rfl]
          by_cases d : p = othV net sg k
          · rw [if_pos d, ← d]; omega
          · rw [if_neg d]; omega)
      refine ⟨k :: ks, sg2, .step e nx w1, ?_, .step nx.lt h2 w3, fun x hx => ?_⟩
      · have one : Us net b sg (sg.set k 0) [k] := ⟨by rw [List.length_set]; exact hl, b2, fun j hj => by rw [List.mem_singleton.mp hj]; exact h1, fun j hj => by rw [List.mem_singleton.mp hj, sgI_set hk, if_pos rfl], fun j => by
          rw [sgI_set hk]
          by_cases c : j = k
          · exact .inr (if_pos c)
          · exact .inl (if_neg c), List.nodup_cons.mpr ⟨by simp, List.nodup_nil⟩, by simp; omega⟩
        exact one.app w2
      · rw [w4 x hx, h3 x]; omega
theorem ws_ex {net : List Rn} {b : Pt} (hn : net.length ≤ 1000) {p : Pt} (pb : p ≠ b) : ∀ (n : Nat) (sg : List Int), (surV net sg p).toNat = n → sg.length = net.length → Bs1 sg → (∀ x, x ≠ b → 0 ≤ surV net sg x) →
    ∃ W sg2, Ws net b sg p W sg2 ∧ Us net b sg sg2 W.flatten ∧ W.length = n ∧ (∀ ks ∈ W, Pw net b p ks) ∧ (∀ x, x ≠ b → surV net sg2 x = surV net sg x - (if p = x then (n : Int) else 0))
  | 0, sg, en, hl, b1, nn => ⟨[], sg, .done (by omega), .nil hl b1, rfl, fun ks h => (by cases h), fun x hx => by split <;> omega⟩
  | n + 1, sg, en, hl, b1, nn => by
    have hp : 0 < surV net sg p := by omega
    obtain ⟨ks, sg1, w1, w2, w3, w4⟩ := way_ex _ sg p rfl hl b1 nn (.inr hp)
    have e1 := w4 p pb
    rw [if_pos rfl] at e1
    obtain ⟨W, sg2, v1, v2, v3, v4, v5⟩ := ws_ex hn pb n sg1 (by omega) w2.len w2.b1 fun x hx => by
      have := nn x hx
      rw [w4 x hx]
      by_cases c : p = x
      · subst c; rw [if_pos rfl]; omega
      · rw [if_neg c]; omega
    refine ⟨ks :: W, sg2, .step hp w1 (by have := w2.few; have := nzK_le sg net.length; omega) w2.len v1, w2.app v2, by rw [List.length_cons, v3], fun js hj => ?_, fun x hx => ?_⟩
    · rcases List.mem_cons.mp hj with z | z
      · rw [z]; exact w3
      · exact v4 js z
    · rw [v5 x hx, w4 x hx]
      split <;> omega
theorem wa_ex {net : List Rn} {b : Pt} (hn : net.length ≤ 1000) : ∀ (L : List Pt) (sg : List Int), b ∉ L → L.Nodup → sg.length = net.length → Bs1 sg → (∀ x, x ≠ b → 0 ≤ surV net sg x) →
    ∃ W sg2, Wa net b sg L W sg2 ∧ Us net b sg sg2 W.flatten ∧ (W.length : Int) = sumP (surV net sg) L ∧ (∀ ks ∈ W, ∃ p ∈ L, Pw net b p ks)
  | [], sg, hb, nd, hl, b1, nn => ⟨[], sg, .nil, .nil hl b1, rfl, fun ks h => (by cases h)⟩
  | p :: L, sg, hb, nd, hl, b1, nn => by
    obtain ⟨hp, nd2⟩ := List.nodup_cons.mp nd
    have pb : p ≠ b := fun z => hb (by rw [z]; exact List.mem_cons_self)
    obtain ⟨V, sg1, w1, w2, w3, w4, w5⟩ := ws_ex hn pb _ sg rfl hl b1 nn
    have np := nn p pb
    obtain ⟨W, sg2, v1, v2, v3, v4⟩ := wa_ex hn L sg1 (fun z => hb (List.mem_cons_of_mem _ z)) nd2 w2.len w2.b1 fun x hx => by
      have := nn x hx
      rw [w5 x hx]
      by_cases c : p = x
      · subst c; rw [if_pos rfl]; omega
      · rw [if_neg c]; omega
    have es : sumP (surV net sg1) L = sumP (surV net sg) L := by
      have : ∀ M : List Pt, (∀ x ∈ M, x ∈ L) → sumP (surV net sg1) M = sumP (surV net sg) M := fun M => by
        induction M with
        | nil => intro _; rfl
        | cons x r ih =>
          intro h
          have hx := h x List.mem_cons_self
          show surV net sg1 x + sumP (surV net sg1) r = surV net sg x + sumP (surV net sg) r
          rw [ih fun y hy => h y (List.mem_cons_of_mem _ hy), w5 x (fun z => hb (by rw [← z]; exact List.mem_cons_of_mem _ hx)), if_neg (fun z => hp (by rw [z]; exact hx))]; omega
      exact this L fun _ h => h
    refine ⟨V ++ W, sg2, .cons w1 w2.len v1, by rw [List.flatten_append]; exact w2.app v2, ?_, fun ks hk => ?_⟩
    · rw [List.length_append]
      show _ = surV net sg p + sumP (surV net sg) L
      rw [← es, ← v3, w3]; omega
    · rcases List.mem_append.mp hk with z | z
      · exact ⟨p, List.mem_cons_self, w4 ks z⟩
      · obtain ⟨q, hq, h⟩ := v4 ks z
        exact ⟨q, List.mem_cons_of_mem _ hq, h⟩
/-- all of it -/
structure LcOk (net : List Rn) (pu : List Pt) (b : Pt) (cut : List Nat) (W : List (List Nat)) : Prop where
  size : W.length = cut.length
  ways : ∀ ks ∈ W, ∃ p ∈ pu, Pw net b p ks
  apart : W.flatten.Nodup
  inn : ∀ k ∈ cut, k < net.length
  cnd : cut.Nodup
  sep : ¬ Rc net (cut.map fun (k : Nat) => (k : Int)) pu b
  fewf : W.flatten.length ≤ 100
  clen : cut.length ≤ net.length
  asc : cut.Pairwise (· < ·)
theorem lc_ex {net : List Rn} {pu : List Pt} {b : Pt} (hb : b ∉ pu) (hn : net.length ≤ 100) : ∃ m sgf sge W, Lc net pu b m sgf sge W ∧ LcOk net pu b (cutV net (lookV net sgf pu)) W := by
  obtain ⟨m, sgf, f1, F, hB⟩ := flow_ex hb _ _ rfl (flow0 net pu b)
  have nn : ∀ x, x ≠ b → 0 ≤ surV net sgf x := fun x hx => by
    by_cases c : x ∈ pu
    · exact F.pos x c
    · rw [F.zero x c hx]; exact Int.le_refl _
  obtain ⟨W, sge, w1, w2, w3, w4⟩ := wa_ex (net := net) (b := b) (by omega) (ssN pu) sgf (fun z => hb (ssN_mem.mp z)) (ssN_nd _) F.len F.b1 nn
  have cs := cut_size F hB
  rw [cs] at w3
  have w3 : W.length = (cutV net (lookV net sgf pu)).length := by omega
  have lc : (cutV net (lookV net sgf pu)).length ≤ net.length := by
    unfold cutV
    exact Nat.le_trans (List.length_filter_le _ _) (by rw [List.length_range]; exact Nat.le_refl _)
  refine ⟨m, sgf, sge, W, ⟨f1, F.len, w1, by omega⟩, ⟨w3, fun ks hk => ?_, w2.nd, fun k hk => ?_, ?_, fun h => ?_, by have := w2.few; have := nzK_le sgf net.length; omega, lc, List.pairwise_lt_range.sublist List.filter_sublist⟩⟩
  · obtain ⟨p, hp, h⟩ := w4 ks hk
    exact ⟨p, ssN_mem.mp hp, h⟩
  · exact List.mem_range.mp (List.mem_filter.mp hk).1
  · exact List.nodup_range.sublist List.filter_sublist
  · have key : ∀ x, Rc net ((cutV net (lookV net sgf pu)).map fun (k : Nat) => (k : Int)) pu x → hasB (lookV net sgf pu) x = true := fun x hx => by
      have nc : ∀ (i : Nat) (q : Rn), net[i]? = some q → (i : Int) ∉ ((cutV net (lookV net sgf pu)).map fun (k : Nat) => (k : Int)) → hasB (lookV net sgf pu) q.1 = hasB (lookV net sgf pu) q.2.1 := fun i q hq hi => by
        cases c : cutB net (lookV net sgf pu) i with
        | true => exact absurd (List.mem_map.mpr ⟨i, List.mem_filter.mpr ⟨List.mem_range.mpr (List.getElem?_eq_some_iff.mp hq).1, c⟩, rfl⟩) hi
        | false =>
          unfold cutB at c
          rw [getD_of hq] at c
          simpa using c
      induction hx with
      | base h => unfold hasB; rw [(look_ok net sgf pu).cj.root _ h]; rfl
      | on h1 h2 _ ih => rw [← nc _ _ h1 h2]; exact ih
      | back h1 h2 _ ih => rw [nc _ _ h1 h2]; exact ih
    rw [key b h] at hB; cases hB
/-- a way that misses the runs taken out leads to the bell -/
theorem pw_rc {net : List Rn} {pu : List Pt} {b p : Pt} {ks : List Nat} {X : List Int} (h : Pw net b p ks) (hp : Rc net X pu p) (ha : ∀ k ∈ ks, (k : Int) ∉ X) : Rc net X pu b := by
  induction h with
  | done => exact hp
  | @step p y k ks hk e _ ih =>
    refine ih ?_ fun j hj => ha j (List.mem_cons_of_mem _ hj)
    have hq : net[k]? = some (net.getD k rn0) := by rw [List.getD_eq_getElem?_getD, List.getElem?_eq_getElem hk]; rfl
    have hX := ha k List.mem_cons_self
    rcases e with ⟨e1, e2⟩ | ⟨e1, e2⟩
    · rw [e2]; exact .on hq hX (by rw [e1]; exact hp)
    · rw [e2]; exact .back hq hX (by rw [e1]; exact hp)
/-- fewer things than ways: a way misses them all -/
theorem miss {W : List (List Nat)} (nd : W.flatten.Nodup) {X : List Nat} (h : X.length < W.length) : ∃ ks ∈ W, ∀ k ∈ ks, k ∉ X := by
  induction W generalizing X with
  | nil => exact absurd h (Nat.not_lt_zero _)
  | cons ks W ih =>
    rw [List.flatten_cons] at nd
    obtain ⟨n1, n2, n3⟩ := List.nodup_append.mp nd
    by_cases c : ∃ k, k ∈ ks ∧ k ∈ X
    · obtain ⟨k, h1, h2⟩ := c
      have l : (X.filter fun x => !decide (x ∈ ks)).length < X.length := by
        refine List.length_filter_lt_length_iff_exists.mpr ⟨k, h2, by simp [h1]⟩
      obtain ⟨js, j1, j2⟩ := ih n2 (X := X.filter fun x => !decide (x ∈ ks)) (by rw [List.length_cons] at h; omega)
      refine ⟨js, List.mem_cons_of_mem _ j1, fun x hx hX => j2 x hx (List.mem_filter.mpr ⟨hX, ?_⟩)⟩
      have : x ∉ ks := fun z => n3 x z x (List.mem_flatten.mpr ⟨js, j1, hx⟩) rfl
      simp [this]
    · exact ⟨ks, List.mem_cons_self, fun k hk hX => c ⟨k, hk, hX⟩⟩
/-! ### where a way leads -/
def stepE (net : List Rn) (L : List Pt) (k : Nat) : List Pt := (L.filter fun p => decide (p ∈ [(net.getD k rn0).1, (net.getD k rn0).2.1])).map fun p => if decide ((net.getD k rn0).1 = p) = true then (net.getD k rn0).2.1 else (net.getD k rn0).1
def endsE (net : List Rn) (L : List Pt) (ks : List Nat) : List Pt := ks.foldl (stepE net) L
theorem stepE_len (net : List Rn) (L : List Pt) (k : Nat) : (stepE net L k).length ≤ L.length := by unfold stepE; rw [List.length_map]; exact List.length_filter_le _ _
theorem endsE_len (net : List Rn) : ∀ (ks : List Nat) (L : List Pt), (endsE net L ks).length ≤ L.length
  | [], L => Nat.le_refl _
  | k :: ks, L => Nat.le_trans (endsE_len net ks (stepE net L k)) (stepE_len net L k)
theorem pw_ends {net : List Rn} {b p : Pt} {ks : List Nat} (h : Pw net b p ks) : ∀ {L : List Pt}, p ∈ L → b ∈ endsE net L ks := by
  induction h with
  | done => exact fun h => h
  | @step p y k ks hk e _ ih =>
    intro L hp
    refine ih (L := stepE net L k) (List.mem_map.mpr ⟨p, List.mem_filter.mpr ⟨hp, decide_eq_true ?_⟩, ?_⟩)
    · rcases e with ⟨e, _⟩ | ⟨e, _⟩ <;> (rw [← e]; simp)
    · rcases e with ⟨e1, e2⟩ | ⟨e1, e2⟩
      · rw [if_pos (decide_eq_true e1), e2]
      · by_cases c : (net.getD k rn0).1 = p
        · rw [if_pos (decide_eq_true c), e2, e1, c]
        · rw [if_neg (by rw [decide_eq_true_eq]; exact c), e2]
theorem mapN_inv {ks : List Nat} {k : Nat} {d : PyData} (h : (ks.map fun (j : Nat) => PyData.int (j : Int))[k]? = some d) : ∃ j : Nat, ks[k]? = some j ∧ d = .int (j : Int) := by
  rw [List.getElem?_map] at h
  obtain ⟨x, hx, rfl⟩ := Option.map_eq_some_iff.mp h
  exact ⟨x, hx, rfl⟩
theorem stepE_s {net : List Rn} {M : List Pt} {j k : Nat} {p : Pt} (h : M[k]? = some p) : stepE net (M.take (k + 1)) j = if p ∈ [(net.getD j rn0).1, (net.getD j rn0).2.1] then stepE net (M.take k) j ++ [if decide ((net.getD j rn0).1 = p) = true then (net.getD j rn0).2.1 else (net.getD j rn0).1] else stepE net (M.take k) j := by
  unfold stepE
  rw [List.take_succ, h, List.filter_append, List.map_append]
  by_cases c : p ∈ [(net.getD j rn0).1, (net.getD j rn0).2.1]
  · rw [if_pos c]
    simp only [Option.toList_some, List.filter_cons, decide_eq_true c, if_true, List.filter_nil]; rfl
  · rw [if_neg c]
    simp only [Option.toList_some, List.filter_cons, decide_eq_false c, List.filter_nil]; simp
def ciI (ks : List Nat) : List Int := ks.map fun (k : Nat) => (k : Int)
theorem wyD_ci (ks : List Nat) : wyD ks = .list ((ciI ks).map .int) := by unfold wyD ciI; rw [List.map_map]; rfl
theorem ciI_mem {ks : List Nat} {k : Nat} : (k : Int) ∈ ciI ks ↔ k ∈ ks := by
  unfold ciI
  rw [List.mem_map]
  constructor
  · rintro ⟨j, hj, e⟩
    rw [show k = j by omega]; exact hj
  · exact fun h => ⟨k, h, rfl⟩
theorem ci_asc {cut : List Nat} (h : cut.Pairwise (· < ·)) : (ciI cut).Pairwise (· < ·) := by
  unfold ciI
  exact List.pairwise_map.mpr (h.imp fun {a b} l => by omega)
theorem len_ne {net : List Rn} {pu : List Pt} {b : Pt} {cut : List Nat} {W : List (List Nat)} (h : LcOk net pu b cut W) : (!decide (((W.map wyD).length : Int) = (((ciI cut).map PyData.int).length : Int))) = false := by
  rw [List.length_map, List.length_map, show (ciI cut).length = cut.length from by unfold ciI; rw [List.length_map], h.size, decide_eq_true rfl]; rfl
theorem ints_fl (ns : List Int) : Flat 4 (.list (ns.map .int)) := ints_flat ns
theorem way_ne {net : List Rn} {b p : Pt} {ks : List Nat} (h : Pw net b p ks) (hp : p ≠ b) : ks ≠ [] := by
  cases h with
  | done => exact absurd rfl hp
  | step _ _ _ => exact fun z => by cases z
theorem mapW_inv {W : List (List Nat)} {k : Nat} {d : PyData} (h : (W.map wyD)[k]? = some d) : ∃ ks, W[k]? = some ks ∧ d = wyD ks := by
  rw [List.getElem?_map] at h
  obtain ⟨x, hx, rfl⟩ := Option.map_eq_some_iff.mp h
  exact ⟨x, hx, rfl⟩
theorem ways_ne {net : List Rn} {pu : List Pt} {b : Pt} {cut : List Nat} {W : List (List Nat)} (h : LcOk net pu b cut W) (hb : b ∉ pu) {ks : List Nat} (hk : ks ∈ W) : ks ≠ [] := by
  obtain ⟨p, hp, pw⟩ := h.ways ks hk
  exact way_ne pw fun z => hb (by rw [← z]; exact hp)
theorem take_len {W : List (List Nat)} (k : Nat) : (W.take k).flatten.length ≤ W.flatten.length := by
  have : W.flatten = (W.take k).flatten ++ (W.drop k).flatten := by rw [← List.flatten_append, List.take_append_drop]
  rw [this, List.length_append]; omega
theorem flat_mem {W : List (List Nat)} {ks : List Nat} (h : ks ∈ W) : ks.length ≤ W.flatten.length := List.Sublist.length_le (List.sublist_flatten_of_mem h)
theorem ci_take {W : List (List Nat)} {k : Nat} {ks : List Nat} (h : W[k]? = some ks) : ciI (W.take (k + 1)).flatten = ciI (W.take k).flatten ++ ciI ks := by
  unfold ciI
  rw [List.take_succ, h, List.flatten_append, List.map_append]; simp
theorem ci_nil {ks : List Nat} (h : ks ≠ []) : PyData.eqv (.list ((ciI ks).map .int)) (.list []) = false := by
  cases ks with
  | nil => exact absurd rfl h
  | cons k r => simp [ciI, PyData.eqv, PyData.eqvAll]
theorem pw_inn {net : List Rn} {b p : Pt} {ks : List Nat} (h : Pw net b p ks) : ∀ k ∈ ks, k < net.length := by
  induction h with
  | done => intro k hk; cases hk
  | step hk _ _ ih =>
    intro k h
    rcases List.mem_cons.mp h with z | z
    · rw [z]; exact hk
    · exact ih k z
theorem num_of {net : List Rn} {pu : List Pt} {b : Pt} {cut : List Nat} {W : List (List Nat)} (h : LcOk net pu b cut W) {k : Nat} {d : PyData} (hk : ((ciI cut).map PyData.int ++ (ciI W.flatten).map PyData.int)[k]? = some d) : ∃ j : Nat, d = .int (j : Int) ∧ j < net.length := by
  have m := List.mem_of_getElem? hk
  have one : ∀ ks : List Nat, d ∈ (ciI ks).map PyData.int → ∃ j ∈ ks, d = .int ((j : Nat) : Int) := fun ks m => by
    obtain ⟨i, hi, rfl⟩ := List.mem_map.mp m
    unfold ciI at hi
    obtain ⟨j, hj, rfl⟩ := List.mem_map.mp hi
    exact ⟨j, hj, rfl⟩
  rcases List.mem_append.mp m with z | z
  · obtain ⟨j, hj, rfl⟩ := one _ z
    exact ⟨j, rfl, h.inn j hj⟩
  · obtain ⟨j, hj, rfl⟩ := one _ z
    obtain ⟨ks, h1, h2⟩ := List.mem_flatten.mp hj
    obtain ⟨p, _, pw⟩ := h.ways ks h1
    exact ⟨j, rfl, pw_inn pw j h2⟩
theorem ci_nd {ks : List Nat} (h : ks.Nodup) : (ciI ks).Nodup := h.map _ fun a b e z => e (by omega)
theorem not_come {net : List Rn} {pu : List Pt} {b : Pt} {cut : List Nat} {W : List (List Nat)} (h : LcOk net pu b cut W) : decide (b ∈ comeV net (ciI cut) pu) = false := by
  have e := still_come net (ciI cut) pu b
  have s : stillB net (ciI cut) pu b = true := by unfold stillB; exact @decide_eq_true _ (Classical.propDecidable _) h.sep
  rw [s] at e
  cases z : decide (b ∈ comeV net (ciI cut) pu) with
  | false => rfl
  | true => rw [z] at e; cases e
theorem two_flat {x y : PyData} (hx : Flat 4 x) (hy : Flat 4 y) : Flat 5 (.list [x, y]) := Flat.list fun d hd => by
  rcases List.mem_cons.mp hd with z | z
  · rw [z]; exact hx
  · rw [List.mem_singleton.mp z]; exact hy

def topS (i : Nat) : Stmt := PySem.Challenge.pw_tilefall_k32_whole_least_cut.main.body.getD i (.Pass ⟨0, 0, 0, 0⟩)
def metS (i j : Nat) : Stmt := match topS i with
  | .ClassDef _ _ _ b _ _ _ _ _ _ _ => b.getD j (.Pass ⟨0, 0, 0, 0⟩)
  | _ => .Pass ⟨0, 0, 0, 0⟩
section
variable {P : Program} {w : World} {K : PySem.W.Frag} {mg : Str → Option Value} {base : Heap} {f : Addr} {fd : FuncData}
/-! ### look_at_bell -/
abbrev st_look_at_bell : Stmt := topS 5
theorem sc_look_at_bell : FnScope ["pushed", "bell"] ["pushed", "bell"] (defScope st_look_at_bell) := ⟨rfl, rfl, rfl, by decide +kernel, rfl, by decide +kernel, by decide +kernel⟩
def ct_look_at_bell : Ct := fun ss ss' r => ∃ (ls : List (List Nat)) (bell : List Nat), ss = [.dat (.list (ls.map sD)), .dat (sD bell)] ∧ bell ∉ ls ∧ ss' = ss ∧ r = .val .none
def cx_look_at_bell (K : PySem.W.Frag) : Cex := fun ss C => (C = He.ga K "NoBell" ∧ ∃ (ls : List (List Nat)) (bell : List Nat), ss = [.dat (.list (ls.map sD)), .dat (sD bell)] ∧ bell ∈ ls)
theorem ok_look_at_bell (F : FnP K "look_at_bell" st_look_at_bell [] f fd) (x_NoBell : ExN K mg "NoBell") : FnOk P w K mg base (L2N.CX P w) 1 f fd ["pushed", "bell"] (Sp3 K ct_look_at_bell (cx_look_at_bell K)) := by
  refine fn3X F sc_look_at_bell (fun ss ss' r h => ?_) (fun ss C h => ?_) (fun cdv A outer s H E c ss ss' r hr h hw => ?_) (fun cdv A outer s H E c ss C hr h hw tk hE => ?_)
  · obtain ⟨ls, bell, rfl, _⟩ := h; rfl
  · rcases h with ⟨_, ls, bell, rfl, _⟩ <;> rfl
  · obtain ⟨ls, bell, rfl, q0, rfl, rfl⟩ := h
    refine as_if (at_cmpA (ae_dat 1) (ae_dat 0) (c_inL (by rfl))) (fun h => ?_) (fun h => ?_)
    ·
      exact absurd (of_decide_eq_true h) q0
    ·
      refine as_nil ?_
      refine as_nil ?_
      exact ⟨rfl, (.dat (.dat .nil))⟩
  · obtain ⟨rfl, ls, bell, rfl, q0⟩ := h
    refine as_if (at_cmpA (ae_dat 1) (ae_dat 0) (c_inL (by rfl))) (fun h => ?_) (fun h => ?_)
    ·
      exact as_raise tk x_NoBell (fun _ _ S => hE _ _ _ _ S)
    ·
      exact absurd q0 (of_decide_eq_false h)
/-! ### Flow.__init__ -/
abbrev st_Flow___init__ : Stmt := metS 6 0
theorem sc_Flow___init__ : FnScope ["self", "net", "pushed"] ["self", "net", "pushed"] (defScope st_Flow___init__) := ⟨rfl, rfl, rfl, by decide +kernel, rfl, by decide +kernel, by decide +kernel⟩
def ct_Flow___init__ (K : PySem.W.Frag) : Cv := fun ss B => ∃ (l : Addr) (net : List Rn) (pu : List (List Nat)), ss = [.mix l (.ins (He.ga K "Flow") []), .dat (.list (net.map rnD)), .dat (.list (pu.map sD)), .no] ∧ net.length ≤ 100 ∧ B = (fun ss' => ∃ g : Addr, ss' = [.mix l (.ins (He.ga K "Flow") [("net", .dat (.list (net.map rnD))), ("pushed", .dat (.list (pu.map sD))), ("signs", .at g)]), .dat (.list (net.map rnD)), .dat (.list (pu.map sD)), .no, .own g (.list ((List.replicate net.length (0 : Int)).map .int))])
theorem ok_Flow___init__ (F : FunD K "__init__" "Flow.__init__" (defArgs st_Flow___init__) (defBody st_Flow___init__) (defScope st_Flow___init__) [] [] f fd) (m_list : mg "list" = none) (m_len : mg "len" = none) (c_Flow : Cls K (He.ga K "Flow")) (n_Flow_net : NoAttr K (He.ga K "Flow") "net") (n_Flow_pushed : NoAttr K (He.ga K "Flow") "pushed") (n_Flow_signs : NoAttr K (He.ga K "Flow") "signs") : FnOk P w K mg base CX0 1 f fd ["self", "net", "pushed"] (SpV K (ct_Flow___init__ K)) := by
  refine fnV F sc_Flow___init__ (fun ss B h => ?_) (fun cdv A outer s H E c ss B hr h hw => ?_)
  · obtain ⟨l, net, pu, rfl, _⟩ := h; rfl
  · obtain ⟨l, net, pu, rfl, q0, rfl⟩ := h
    refine as_frame (f1 := [.mix l (.ins (He.ga K "Flow") []), .dat (.list (net.map rnD)), .dat (.list (pu.map sD)), .no]) (by rfl) ?_
    refine as_fset 0 c_Flow n_Flow_net (ae_dat 1) ?_
    refine as_fset 0 c_Flow n_Flow_pushed (AE.val (ae_list (ae_dat 2) (by rfl) (by rfl) m_list)) ?_
    refine as_fnew 0 c_Flow n_Flow_signs (AE.is (ae_rep (ae_lst (ad_cons ae_int ad_nil)) (ae_len (ae_dat 1) (by rfl) (by first | rfl | decide) (by rfl) m_len) (hz := ⟨by omega, by rw [List.length_map]; omega, by rw [List.length_map]; show 1 * _ ≤ _; omega⟩)) (show _ = Res.new (.list ((List.replicate net.length (0 : Int)).map .int)) from by rw [List.length_map, Int.toNat_natCast, List.flatten_replicate_singleton, List.map_replicate])) (fun g_signs hw_signs hn_signs => ?_)
    refine as_nil ?_
    exact ⟨_, ⟨_, rfl⟩, .mix 0 rfl (.dat (.dat (.gh (.cons 4 rfl .nil)))), List.Sublist.refl _⟩
/-! ### Flow.steps_from -/
abbrev st_Flow_steps_from : Stmt := metS 6 1
theorem sc_Flow_steps_from : FnScope ["self", "post", "found", "number", "run"] ["self", "post"] (defScope st_Flow_steps_from) := ⟨rfl, rfl, rfl, by decide +kernel, rfl, by decide +kernel, by decide +kernel⟩
def ct_Flow_steps_from (K : PySem.W.Frag) : Ct := fun ss ss' r => ∃ (l g : Addr) (net : List Rn) (pu : List (List Nat)) (sg : List Int)(p : List Nat), ss = [.mix l (.ins (He.ga K "Flow") [("net", .dat (.list (net.map rnD))), ("pushed", .dat (.list (pu.map sD))), ("signs", .at g)]), .dat (sD p), .no, .own g (.list (sg.map .int))] ∧ net.length ≤ 100 ∧ sg.length = net.length ∧ ss' = ss ∧ r = .new (.list ((stpV net sg p).map nbD))
theorem ok_Flow_steps_from (F : FunD K "steps_from" "Flow.steps_from" (defArgs st_Flow_steps_from) (defBody st_Flow_steps_from) (defScope st_Flow_steps_from) [] [] f fd) (m_enumerate : mg "enumerate" = none) (c_Flow : Cls K (He.ga K "Flow")) (n_Flow_net : NoAttr K (He.ga K "Flow") "net") (n_Flow_signs : NoAttr K (He.ga K "Flow") "signs") : FnOk P w K mg base CX0 1 f fd ["self", "post"] (Sp3 K (ct_Flow_steps_from K) nox) := by
  refine fn3 F sc_Flow_steps_from (fun ss ss' r h => ?_) (fun cdv A outer s H E c ss ss' r hr h hw => ?_)
  · obtain ⟨l, g, net, pu, sg, p, rfl, _⟩ := h; rfl
  · obtain ⟨l, g, net, pu, sg, p, rfl, q0, q1, rfl, rfl⟩ := h
    refine as_frame (f1 := [.mix l (.ins (He.ga K "Flow") [("net", .dat (.list (net.map rnD))), ("pushed", .dat (.list (pu.map sD))), ("signs", .at g)]), .dat (sD p), .no, .no, .no, .no, .own g (.list (sg.map .int))]) (by rfl) ?_
    refine as_new 2 (ae_lst ad_nil) (fun l_found hw_found hn_found => ?_) sc_Flow_steps_from.nd
    refine as_frame (by first | (simp only [List.set_cons_zero, List.set_cons_succ]; rfl) | rfl) ?_
    refine as_forE PassesOwn.never (fun k f => ∃ x3 x4 : Slot, f = [.mix l (.ins (He.ga K "Flow") [("net", .dat (.list (net.map rnD))), ("pushed", .dat (.list (pu.map sD))), ("signs", .at g)]), .dat (sD p), .own l_found (.list ((stpK net sg p k).map nbD)), x3, x4, .no, .own g (.list (sg.map .int))]) (ae_mf 0 c_Flow n_Flow_net) ⟨_, _, rfl⟩ (fun G k d f hk hp => ?_) (fun f hp => ?_) m_enumerate
    ·
      obtain ⟨hlt, xd, hx, rfl⟩ := enumD_inv hk
      obtain ⟨x3, x4, rfl⟩ := hp
      obtain ⟨q, hq, rfl⟩ := mapR_inv hx
      have hks : k < sg.length := by have := (List.getElem?_eq_some_iff.mp hq).1; omega
      have hl := stpK_len net sg p k
      have hkn := (List.getElem?_eq_some_iff.mp hq).1
      have has := at_sg hks
      refine ⟨_, (ag_tup (ags_cons (ag_name 3 sc_Flow_steps_from.nd) (ags_cons (ag_name 4 sc_Flow_steps_from.nd) ags_nil))), ?_⟩
      refine as_ifJ (fun f => f = [.mix l (.ins (He.ga K "Flow") [("net", .dat (.list (net.map rnD))), ("pushed", .dat (.list (pu.map sD))), ("signs", .at g)]), .dat (sD p), .own l_found (.list ((stpK net sg p k ++ stA sg p k q).map nbD)), .dat (.int (k : Int)), .dat (rnD q), .no, .own g (.list (sg.map .int))]) (AW.at (aw_and (at_cmpA (ae_ixT (ae_dat 4) ae_int (by rfl)) (ae_dat 1) c_eqX) (fun hb0 => (aw_and1 (at_cmpA (ae_ixO 6 (ae_mfA 0 6 c_Flow n_Flow_signs) (ae_dat 3) (h := (by exact has))) ae_int c_lt))) (fun _ => rfl))) (fun h2 => ?_) (fun h2 => ?_) (fun f hf => ?_)
      ·
        refine as_app 2 (ae_own 2) (ae_tup (ad_cons (ae_dat 3) (ad_cons (ae_ixT (ae_dat 4) ae_int (by rfl)) ad_nil))) (by rw [List.length_map]; omega) ?_
        refine as_nil ?_
        rw [stA, if_pos h2, List.map_append]; rfl
      ·
        refine as_nil ?_
        first | (rw [stA, if_neg (by rw [h2]; exact Bool.false_ne_true), List.append_nil]; done) | (rw [stA, if_neg (by rw [h2]; exact Bool.false_ne_true), List.append_nil]; rfl)
      ·
        subst hf
        have hl2 : (stpK net sg p k ++ stA sg p k q).length ≤ 2 * k + 1 := by
          have a : (stA sg p k q).length ≤ 1 := by unfold stA; split <;> simp
          rw [List.length_append]; omega
        refine as_ifJ (fun f => f = [.mix l (.ins (He.ga K "Flow") [("net", .dat (.list (net.map rnD))), ("pushed", .dat (.list (pu.map sD))), ("signs", .at g)]), .dat (sD p), .own l_found (.list (((stpK net sg p k ++ stA sg p k q) ++ stB sg p k q).map nbD)), .dat (.int (k : Int)), .dat (rnD q), .no, .own g (.list (sg.map .int))]) (AW.at (aw_and (at_cmpA (ae_ixT (ae_dat 4) ae_int (by rfl)) (ae_dat 1) c_eqX) (fun hb0 => (aw_and1 (at_cmpA (ae_ixO 6 (ae_mfA 0 6 c_Flow n_Flow_signs) (ae_dat 3) (h := (by exact has))) (ae_neg ae_int) c_gt))) (fun _ => rfl))) (fun h4 => ?_) (fun h4 => ?_) (fun f hf => ?_)
        ·
          refine as_app 2 (ae_own 2) (ae_tup (ad_cons (ae_dat 3) (ad_cons (ae_ixT (ae_dat 4) ae_int (by rfl)) ad_nil))) (by rw [List.length_map]; omega) ?_
          refine as_nil ?_
          rw [stB, if_pos h4, List.map_append]; rfl
        ·
          refine as_nil ?_
          first | (rw [stB, if_neg (by rw [h4]; exact Bool.false_ne_true), List.append_nil]; done) | (rw [stB, if_neg (by rw [h4]; exact Bool.false_ne_true), List.append_nil]; rfl)
        ·
          subst hf
          refine as_nil ?_
          exact ⟨_, _, by rw [stpK_s hq]⟩
    ·
      obtain ⟨x3, x4, rfl⟩ := hp
      rw [List.length_map]
      refine as_frame (by first | (simp only [List.set_cons_zero, List.set_cons_succ]; rfl) | rfl) ?_
      exact as_retO 2 (ae_own 2) ⟨by rfl, (.mix 0 rfl (.dat (.gh (.own 6 rfl .nil))))⟩ hw_found
/-! ### Flow.look -/
abbrev st_Flow_look : Stmt := metS 6 2
theorem sc_Flow_look : FnScope ["self", "came", "todo", "post", "at", "number", "there"] ["self"] (defScope st_Flow_look) := ⟨rfl, rfl, rfl, by decide +kernel, rfl, by decide +kernel, by decide +kernel⟩
def ct_Flow_look (K : PySem.W.Frag) : Ct := fun ss ss' r => ∃ (l g : Addr) (net : List Rn) (pu : List (List Nat)) (sg : List Int), ss = [.mix l (.ins (He.ga K "Flow") [("net", .dat (.list (net.map rnD))), ("pushed", .dat (.list (pu.map sD))), ("signs", .at g)]), .no, .own g (.list (sg.map .int))] ∧ net.length ≤ 100 ∧ sg.length = net.length ∧ pu.length ≤ 100 ∧ ss' = ss ∧ r = .new (dD (enT oN (lookV net sg pu)))
theorem ok_Flow_look (F : FunD K "look" "Flow.look" (defArgs st_Flow_look) (defBody st_Flow_look) (defScope st_Flow_look) [] [] f fd) (F_Flow_steps_from : MeT K mg P w base 1 "Flow" "steps_from" ["self", "post"] (ct_Flow_steps_from K)) (m_len : mg "len" = none) (c_Flow : Cls K (He.ga K "Flow")) (n_Flow_pushed : NoAttr K (He.ga K "Flow") "pushed") : FnOk P w K mg base CX0 2 f fd ["self"] (Sp3 K (ct_Flow_look K) nox) := by
  refine fn3 F sc_Flow_look (fun ss ss' r h => ?_) (fun cdv A outer s H E c ss ss' r hr h hw => ?_)
  · obtain ⟨l, g, net, pu, sg, rfl, _⟩ := h; rfl
  · obtain ⟨l, g, net, pu, sg, rfl, q0, q1, q2, rfl, rfl⟩ := h
    obtain ⟨_, _, G_Flow_steps_from⟩ := F_Flow_steps_from.me (X := (cxOf CX0 P w K mg base ["self", "came", "todo", "post", "at", "number", "there"] "Flow.look" (defScope st_Flow_look) f cdv A outer s H E).nox) rfl rfl rfl rfl rfl
    refine as_frame (f1 := [.mix l (.ins (He.ga K "Flow") [("net", .dat (.list (net.map rnD))), ("pushed", .dat (.list (pu.map sD))), ("signs", .at g)]), .no, .no, .no, .no, .no, .no, .no, .own g (.list (sg.map .int))]) (by rfl) ?_
    refine as_new 1 ae_dnew (fun l_came hw_came hn_came => ?_) sc_Flow_look.nd
    refine as_new 2 (ae_lst ad_nil) (fun l_todo hw_todo hn_todo => ?_) sc_Flow_look.nd
    refine as_frame (by first | (simp only [List.set_cons_zero, List.set_cons_succ]; rfl) | rfl) ?_
    refine as_forL PassesOwn.never (fun k f => ∃ x3 : Slot, f = [.mix l (.ins (He.ga K "Flow") [("net", .dat (.list (net.map rnD))), ("pushed", .dat (.list (pu.map sD))), ("signs", .at g)]), .own l_came (dD (enT oN (cm0 (pu.take k)))), .own l_todo (.list ((pu.take k).map sD)), x3, .no, .no, .no, .no, .own g (.list (sg.map .int))]) (ae_mf 0 c_Flow n_Flow_pushed) ⟨_, rfl⟩ (fun G k d f hk hp => ?_) (fun f hp => ?_)
    ·
      obtain ⟨x3, rfl⟩ := hp
      obtain ⟨p, hpk, rfl⟩ := mapS_inv hk
      have ltk : (pu.take k).length ≤ 100 := by rw [List.length_take]; omega
      have lcm := cm0_len (pu.take k)
      refine ⟨_, (ag_name 3 sc_Flow_look.nd), ?_⟩
      refine as_dset (k := kS _) 1 (un1 hr.units) ae_non (ae_own 1) (ae_dat 3) (by rw [enT_len]; omega) ?_
      refine as_app 2 (ae_own 2) (ae_dat 3) (by rw [List.length_map]; omega) ?_
      refine as_nil ?_
      exact ⟨_, by rw [cm0_s hpk, ← gP_en, List.take_succ, hpk, List.map_append]; rfl⟩
    ·
      obtain ⟨x3, rfl⟩ := hp
      rw [List.length_map, List.take_length]
      refine as_set 4 ae_int ?_ sc_Flow_look.nd
      refine as_frame (by first | (simp only [List.set_cons_zero, List.set_cons_succ]; rfl) | rfl) ?_
      refine as_while PassesOwn.never (fun m f => ∃ (s : CmT × List Pt) (a : Nat) (x3 x5 x6 : Slot), f = [.mix l (.ins (He.ga K "Flow") [("net", .dat (.list (net.map rnD))), ("pushed", .dat (.list (pu.map sD))), ("signs", .at g)]), .own l_came (dD (enT oN s.1)), .own l_todo (.list (s.2.map sD)), x3, .dat (.int (a : Int)), x5, x6, .no, .own g (.list (sg.map .int))] ∧ lkF net sg m s a = lookS net sg pu ∧ LkI net pu s ∧ a ≤ s.2.length ∧ lack net s.2 + (s.2.length - a) ≤ m) ((pu.length + 2 * net.length)) ⟨(cm0 pu, pu), 0, _, _, _, rfl, rfl, LkI.init net pu, Nat.zero_le _, by have := lack_le net pu; show lack net pu + (pu.length - 0) ≤ _; omega⟩ (fun m f hp => ?_)
      obtain ⟨s, a, x3, x5, x6, rfl, hL, hI, ha, hm⟩ := hp
      refine ⟨_, _, (at_cmpA (ae_dat 4) (ae_len (ae_own 2) (by rfl) (by first | rfl | decide) (by rfl) m_len) c_lt), fun hc => ?_, fun hc => ?_⟩
      ·
        have hc := of_decide_eq_true hc
        rw [List.length_map] at hc
        have hc : a < s.2.length := by omega
        obtain ⟨cur, hcur⟩ : ∃ cur, s.2[a]? = some cur := ⟨s.2[a], List.getElem?_eq_getElem hc⟩
        obtain ⟨m, rfl⟩ : ∃ m2, m = m2 + 1 := ⟨m - 1, by omega⟩
        rw [lkF_s hcur] at hL
        have hbd := hI.bd
        have acur : atI (s.2.map sD) (a : Int) = some (sD cur) := at_mapS hcur
        have hall : ∀ x ∈ stpV net sg cur, x.2 ∈ endsN net := fun x hx => stpV_ends hx
        refine as_no 5 ?_
        refine as_no 6 ?_
        refine as_forL PassesOwn.never (fun k f => ∃ x5 x6 : Slot, f = [.mix l (.ins (He.ga K "Flow") [("net", .dat (.list (net.map rnD))), ("pushed", .dat (.list (pu.map sD))), ("signs", .at g)]), .own l_came (dD (enT oN (((stpV net sg cur).take k).foldl (addS cur) s).1)), .own l_todo (.list ((((stpV net sg cur).take k).foldl (addS cur) s).2.map sD)), x3, .dat (.int (a : Int)), x5, x6, .no, .own g (.list (sg.map .int))]) (AE.val (ae_meth 0 8 G_Flow_steps_from (hr.mono (by decide)) pass0 (ad_cons (ae_ixO 2 (ae_own 2) (ae_dat 4) (h := (by first | exact acur | exact acur2))) ad_nil) ⟨_, _, _, _, _, _, rfl, (by exact q0), (by exact q1), rfl, rfl⟩)) ⟨_, _, rfl⟩ (fun G k d f hk hp => ?_) (fun f hp => ?_)
        ·
          obtain ⟨x5, x6, rfl⟩ := hp
          obtain ⟨x, hxk, rfl⟩ := mapNb_inv hk
          have hxe := hall _ (List.mem_of_getElem? hxk)
          have hIk : LkI net pu (((stpV net sg cur).take k).foldl (addS cur) s) := hI.all _ fun y hy => hall y (List.mem_of_mem_take hy)
          have hcurk : (((stpV net sg cur).take k).foldl (addS cur) s).2[a]? = some cur := addL_at hcur
          have hbk := hIk.bd
          have hlk := hIk.len
          have hs := foldl_take_s (g := addS cur) (s := s) hxk
          generalize ((stpV net sg cur).take k).foldl (addS cur) s = t at *
          have acur2 : atI (t.2.map sD) (a : Int) = some (sD cur) := at_mapS hcurk
          refine ⟨_, (ag_tup (ags_cons (ag_name 5 sc_Flow_look.nd) (ags_cons (ag_name 6 sc_Flow_look.nd) ags_nil))), ?_⟩
          refine as_if (at_dnin (k := kS _) (un1 hr.units) (ae_dat 6) (ae_own 1) (by rfl)) (fun h8 => ?_) (fun h8 => ?_)
          ·
            have g : ¬ (tV t.1 (kS x.2)).isSome = true := by rw [← gV_has]; simpa using h8
            refine as_dset (k := kS _) 1 (un1 hr.units) (ae_tup (ad_cons (ae_dat 5) (ad_cons (ae_ixO 2 (ae_own 2) (ae_dat 4) (h := (by first | exact acur | exact acur2))) ad_nil))) (ae_own 1) (ae_dat 6) (by rw [enT_len]; omega) ?_
            refine as_app 2 (ae_own 2) (ae_dat 6) (by rw [List.length_map]; omega) ?_
            refine as_nil ?_
            refine as_nil ?_
            first | exact ⟨_, _, by rw [hs, addS, if_neg g, ← gP_en, List.map_append]; rfl⟩ | exact ⟨_, _, by rw [hs, addS, if_pos g]; rfl⟩
          ·
            have g : (tV t.1 (kS x.2)).isSome = true := by rw [← gV_has]; simpa using h8
            refine as_nil ?_
            refine as_nil ?_
            first | exact ⟨_, _, by rw [hs, addS, if_neg g, ← gP_en, List.map_append]; rfl⟩ | exact ⟨_, _, by rw [hs, addS, if_pos g]; rfl⟩
        ·
          obtain ⟨x5, x6, rfl⟩ := hp
          rw [List.length_map, List.take_length]
          refine as_set 4 (ae_add (ae_dat 4) ae_int) ?_ sc_Flow_look.nd
          refine as_nil ?_
          refine ⟨m, Nat.lt_succ_self m, (stpV net sg cur).foldl (addS cur) s, a + 1, _, _, _, rfl, hL, hI.all _ hall, ?_, ?_⟩
          · have := (List.getElem?_eq_some_iff.mp (addL_at (cur := cur) (xs := stpV net sg cur) hcur)).1; omega
          · have := (List.getElem?_eq_some_iff.mp (addL_at (cur := cur) (xs := stpV net sg cur) hcur)).1; have := addL_lack (cur := cur) _ hI hall; omega
      ·
        have hc := of_decide_eq_false hc
        rw [List.length_map] at hc
        rw [lkF_end (by omega)] at hL
        refine as_frame (by first | (simp only [List.set_cons_zero, List.set_cons_succ]; rfl) | rfl) ?_
        exact as_retO 1 (ae_own 1) ⟨by rw [lookV, ← hL], (.mix 0 rfl (.gh (.own 8 rfl .nil)))⟩ hw_came
/-! ### Flow.turn -/
abbrev st_Flow_turn : Stmt := metS 6 3
theorem sc_Flow_turn : FnScope ["self", "came", "post", "number", "ahead"] ["self", "came", "post"] (defScope st_Flow_turn) := ⟨rfl, rfl, rfl, by decide +kernel, rfl, by decide +kernel, by decide +kernel⟩
def ct_Flow_turn (K : PySem.W.Frag) : Ct := fun ss ss' r => ∃ (l g : Addr) (net : List Rn) (pu : List (List Nat)) (sg : List Int) (cm : CmT) (p : List Nat) (n : Nat) (sg2 : List Int), ss = [.mix l (.ins (He.ga K "Flow") [("net", .dat (.list (net.map rnD))), ("pushed", .dat (.list (pu.map sD))), ("signs", .at g)]), .dat (dD (enT oN cm)), .dat (sD p), .no, .own g (.list (sg.map .int))] ∧ net.length ≤ 100 ∧ sg.length = net.length ∧ Tn net cm n sg p sg2 ∧ ss' = [.mix l (.ins (He.ga K "Flow") [("net", .dat (.list (net.map rnD))), ("pushed", .dat (.list (pu.map sD))), ("signs", .at g)]), .dat (dD (enT oN cm)), .dat (sD p), .no, .own g (.list (sg2.map .int))] ∧ r = .val .none
theorem ok_Flow_turn (F : FunD K "turn" "Flow.turn" (defArgs st_Flow_turn) (defBody st_Flow_turn) (defScope st_Flow_turn) [] [] f fd) (c_Flow : Cls K (He.ga K "Flow")) (n_Flow_signs : NoAttr K (He.ga K "Flow") "signs") (n_Flow_net : NoAttr K (He.ga K "Flow") "net") : FnOk P w K mg base CX0 1 f fd ["self", "came", "post"] (Sp3 K (ct_Flow_turn K) nox) := by
  refine fn3 F sc_Flow_turn (fun ss ss' r h => ?_) (fun cdv A outer s H E c ss ss' r hr h hw => ?_)
  · obtain ⟨l, g, net, pu, sg, cm, p, n, sg2, rfl, _⟩ := h; rfl
  · obtain ⟨l, g, net, pu, sg, cm, p, n, sg2, rfl, q0, q1, q2, rfl, rfl⟩ := h
    refine as_frame (f1 := [.mix l (.ins (He.ga K "Flow") [("net", .dat (.list (net.map rnD))), ("pushed", .dat (.list (pu.map sD))), ("signs", .at g)]), .dat (dD (enT oN cm)), .dat (sD p), .no, .no, .no, .own g (.list (sg.map .int))]) (by rfl) ?_
    refine as_while PassesOwn.never (fun m f => ∃ (s : List Int) (u : Pt) (x3 x4 : Slot), f = [.mix l (.ins (He.ga K "Flow") [("net", .dat (.list (net.map rnD))), ("pushed", .dat (.list (pu.map sD))), ("signs", .at g)]), .dat (dD (enT oN cm)), .dat (sD u), x3, x4, .no, .own g (.list (s.map .int))] ∧ s.length = net.length ∧ Tn net cm m s u sg2) (n) ⟨_, _, _, _, rfl, q1, q2⟩ (fun m f hp => ?_)
    obtain ⟨s, u, x3, x4, rfl, hl, ht⟩ := hp
    obtain ⟨o, ho⟩ : ∃ o, tV cm (kS u) = some o := by cases ht with
      | done h => exact ⟨_, h⟩
      | step h _ _ => exact ⟨_, h⟩
    have hg := gV_oN ho
    refine ⟨_, _, (at_cmpA (ae_dget (k := kS _) (un1 hr.units) (ae_dat 1) (ae_dat 2) (by rfl) (by exact hg)) ae_non c_notN), fun hc => ?_, fun hc => ?_⟩
    ·
      obtain ⟨k, a, m, rfl, hk, rfl, ht3⟩ : ∃ (k : Nat) (a : Pt) (m2 : Nat), o = some (k, a) ∧ k < net.length ∧ m = m2 + 1 ∧ Tn net cm m2 (stepT net s k a) a sg2 := by
        cases ht with
        | done h => rw [h] at ho; cases ho; cases hc
        | step h h1 h2 => rw [h] at ho; cases ho; exact ⟨_, _, _, rfl, h1, rfl, h2⟩
      have an := at_net hk
      have as_ := at_sg (sg := s) (show k < s.length by omega)
      have ixk := ixN_nat (n := (s.map PyData.int).length) (k := k) (by rw [List.length_map]; omega)
      refine as_asg (ae_dget (k := kS _) (un1 hr.units) (ae_dat 1) (ae_dat 2) (by rfl) (by exact hg)) (ag_tup (ags_cons (ag_name 3 sc_Flow_turn.nd) (ags_cons (ag_name 4 sc_Flow_turn.nd) ags_nil))) ?_
      refine as_if (at_cmpA (ae_ixT (ae_ixL (ae_mf 0 c_Flow n_Flow_net) (ae_dat 3) (by first | exact an | exact as_)) ae_int (by rfl)) (ae_dat 4) c_eqX) (fun h2 => ?_) (fun h2 => ?_)
      ·
        have hst : (stepT net s k a).map PyData.int = (s.map PyData.int).set k (.int (sgI s k + 1)) := by rw [stepT, if_pos h2, set_sg]
        have hl2 : (stepT net s k a).length = net.length := by rw [stepT, List.length_set]; exact hl
        refine as_setI 6 (ae_add (ae_ixO 6 (ae_mfA 0 6 c_Flow n_Flow_signs) (ae_dat 3) (h := (by first | exact an | exact as_))) ae_int) (ae_mfA 0 6 c_Flow n_Flow_signs) (ae_dat 3) (by first | rfl | exact ixk) ?_
        refine as_nil ?_
        refine as_set 2 (ae_dat 4) ?_ sc_Flow_turn.nd
        refine as_nil ?_
        exact ⟨m, Nat.lt_succ_self m, _, a, _, _, by rw [hst]; rfl, hl2, ht3⟩
      ·
        have hst : (stepT net s k a).map PyData.int = (s.map PyData.int).set k (.int (sgI s k - 1)) := by rw [stepT, if_neg (by rw [h2]; exact Bool.false_ne_true), set_sg]
        have hl2 : (stepT net s k a).length = net.length := by rw [stepT, List.length_set]; exact hl
        refine as_setI 6 (ae_sub (ae_ixO 6 (ae_mfA 0 6 c_Flow n_Flow_signs) (ae_dat 3) (h := (by first | exact an | exact as_))) ae_int) (ae_mfA 0 6 c_Flow n_Flow_signs) (ae_dat 3) (by first | rfl | exact ixk) ?_
        refine as_nil ?_
        refine as_frame (by first | (simp only [List.set_cons_zero, List.set_cons_succ]; rfl) | rfl) ?_
        refine as_set 2 (ae_dat 4) ?_ sc_Flow_turn.nd
        refine as_nil ?_
        exact ⟨m, Nat.lt_succ_self m, _, a, _, _, by rw [hst]; rfl, hl2, ht3⟩
    ·
      have : s = sg2 := by
        cases ht with
        | done _ => rfl
        | step h _ _ => rw [h] at ho; cases ho; cases hc
      subst this
      refine as_nil ?_
      exact ⟨rfl, (.mix 0 rfl (.dat (.dat (.gh (.own 6 rfl .nil)))))⟩
/-! ### Flow.surplus -/
abbrev st_Flow_surplus : Stmt := metS 6 4
theorem sc_Flow_surplus : FnScope ["self", "post", "many", "number", "run"] ["self", "post"] (defScope st_Flow_surplus) := ⟨rfl, rfl, rfl, by decide +kernel, rfl, by decide +kernel, by decide +kernel⟩
def ct_Flow_surplus (K : PySem.W.Frag) : Ct := fun ss ss' r => ∃ (l g : Addr) (net : List Rn) (pu : List (List Nat)) (sg : List Int) (p : List Nat), ss = [.mix l (.ins (He.ga K "Flow") [("net", .dat (.list (net.map rnD))), ("pushed", .dat (.list (pu.map sD))), ("signs", .at g)]), .dat (sD p), .no, .own g (.list (sg.map .int))] ∧ net.length ≤ 100 ∧ sg.length = net.length ∧ ss' = ss ∧ r = .val (.int (surV net sg p))
theorem ok_Flow_surplus (F : FunD K "surplus" "Flow.surplus" (defArgs st_Flow_surplus) (defBody st_Flow_surplus) (defScope st_Flow_surplus) [] [] f fd) (m_enumerate : mg "enumerate" = none) (c_Flow : Cls K (He.ga K "Flow")) (n_Flow_net : NoAttr K (He.ga K "Flow") "net") (n_Flow_signs : NoAttr K (He.ga K "Flow") "signs") : FnOk P w K mg base CX0 1 f fd ["self", "post"] (Sp3 K (ct_Flow_surplus K) nox) := by
  refine fn3 F sc_Flow_surplus (fun ss ss' r h => ?_) (fun cdv A outer s H E c ss ss' r hr h hw => ?_)
  · obtain ⟨l, g, net, pu, sg, p, rfl, _⟩ := h; rfl
  · obtain ⟨l, g, net, pu, sg, p, rfl, q0, q1, rfl, rfl⟩ := h
    refine as_frame (f1 := [.mix l (.ins (He.ga K "Flow") [("net", .dat (.list (net.map rnD))), ("pushed", .dat (.list (pu.map sD))), ("signs", .at g)]), .dat (sD p), .no, .no, .no, .no, .own g (.list (sg.map .int))]) (by rfl) ?_
    refine as_set 2 ae_int ?_ sc_Flow_surplus.nd
    refine as_frame (by first | (simp only [List.set_cons_zero, List.set_cons_succ]; rfl) | rfl) ?_
    refine as_forE PassesOwn.never (fun k f => ∃ x3 x4 : Slot, f = [.mix l (.ins (He.ga K "Flow") [("net", .dat (.list (net.map rnD))), ("pushed", .dat (.list (pu.map sD))), ("signs", .at g)]), .dat (sD p), .dat (.int (surK net sg p k)), x3, x4, .no, .own g (.list (sg.map .int))]) (ae_mf 0 c_Flow n_Flow_net) ⟨_, _, rfl⟩ (fun G k d f hk hp => ?_) (fun f hp => ?_) m_enumerate
    ·
      obtain ⟨hlt, xd, hx, rfl⟩ := enumD_inv hk
      obtain ⟨x3, x4, rfl⟩ := hp
      obtain ⟨q, hq, rfl⟩ := mapR_inv hx
      have has := at_sg (sg := sg) (show k < sg.length by have := (List.getElem?_eq_some_iff.mp hq).1; omega)
      refine ⟨_, (ag_tup (ags_cons (ag_name 3 sc_Flow_surplus.nd) (ags_cons (ag_name 4 sc_Flow_surplus.nd) ags_nil))), ?_⟩
      refine as_ifJ (fun f => f = [.mix l (.ins (He.ga K "Flow") [("net", .dat (.list (net.map rnD))), ("pushed", .dat (.list (pu.map sD))), ("signs", .at g)]), .dat (sD p), .dat (.int (if decide (q.1 = p) = true then surK net sg p k + sgI sg k else surK net sg p k)), .dat (.int (k : Int)), .dat (rnD q), .no, .own g (.list (sg.map .int))]) (at_cmpA (ae_ixT (ae_dat 4) ae_int (by rfl)) (ae_dat 1) c_eqX) (fun h2 => ?_) (fun h2 => ?_) (fun f hf => ?_)
      ·
        refine as_set 2 (ae_add (ae_dat 2) (ae_ixO 6 (ae_mfA 0 6 c_Flow n_Flow_signs) (ae_dat 3) (h := (by exact has)))) ?_ sc_Flow_surplus.nd
        refine as_nil ?_
        rw [if_pos h2]; rfl
      ·
        refine as_nil ?_
        rw [if_neg (by rw [h2]; exact Bool.false_ne_true)]; rfl
      ·
        subst hf
        refine as_ifJ (fun f => f = [.mix l (.ins (He.ga K "Flow") [("net", .dat (.list (net.map rnD))), ("pushed", .dat (.list (pu.map sD))), ("signs", .at g)]), .dat (sD p), .dat (.int (if decide (q.2.1 = p) = true then (if decide (q.1 = p) = true then surK net sg p k + sgI sg k else surK net sg p k) - sgI sg k else if decide (q.1 = p) = true then surK net sg p k + sgI sg k else surK net sg p k)), .dat (.int (k : Int)), .dat (rnD q), .no, .own g (.list (sg.map .int))]) (at_cmpA (ae_ixT (ae_dat 4) ae_int (by rfl)) (ae_dat 1) c_eqX) (fun h4 => ?_) (fun h4 => ?_) (fun f hf => ?_)
        ·
          refine as_set 2 (ae_sub (ae_dat 2) (ae_ixO 6 (ae_mfA 0 6 c_Flow n_Flow_signs) (ae_dat 3) (h := (by exact has)))) ?_ sc_Flow_surplus.nd
          refine as_nil ?_
          rw [if_pos h4]; rfl
        ·
          refine as_nil ?_
          first | (rw [if_neg (c := decide (q.2.1 = p) = true) (by rw [h4]; exact Bool.false_ne_true)]; done) | (rw [if_neg (c := decide (q.2.1 = p) = true) (by rw [h4]; exact Bool.false_ne_true)]; rfl)
        ·
          subst hf
          refine as_nil ?_
          exact ⟨_, _, by rw [surK_s hq]⟩
    ·
      obtain ⟨x3, x4, rfl⟩ := hp
      rw [List.length_map]
      refine as_frame (by first | (simp only [List.set_cons_zero, List.set_cons_succ]; rfl) | rfl) ?_
      exact as_ret (ae_dat 2) ⟨by rfl, (.mix 0 rfl (.dat (.gh (.own 6 rfl .nil))))⟩
/-! ### Flow.next_run -/
abbrev st_Flow_next_run : Stmt := metS 6 5
theorem sc_Flow_next_run : FnScope ["self", "post", "number", "run", "sign"] ["self", "post"] (defScope st_Flow_next_run) := ⟨rfl, rfl, rfl, by decide +kernel, rfl, by decide +kernel, by decide +kernel⟩
def ct_Flow_next_run (K : PySem.W.Frag) : Ct := fun ss ss' r => ∃ (l g : Addr) (net : List Rn) (pu : List (List Nat)) (sg : List Int) (p : List Nat) (kk : Nat), ss = [.mix l (.ins (He.ga K "Flow") [("net", .dat (.list (net.map rnD))), ("pushed", .dat (.list (pu.map sD))), ("signs", .at g)]), .dat (sD p), .no, .own g (.list (sg.map .int))] ∧ net.length ≤ 100 ∧ sg.length = net.length ∧ Nx net sg p kk ∧ ss' = [.mix l (.ins (He.ga K "Flow") [("net", .dat (.list (net.map rnD))), ("pushed", .dat (.list (pu.map sD))), ("signs", .at g)]), .dat (sD p), .no, .own g (.list ((sg.set kk 0).map .int))] ∧ r = .val (nbD (kk, othV net sg kk))
theorem ok_Flow_next_run (F : FunD K "next_run" "Flow.next_run" (defArgs st_Flow_next_run) (defBody st_Flow_next_run) (defScope st_Flow_next_run) [] [] f fd) (m_enumerate : mg "enumerate" = none) (m_int : mg "int" = none) (c_Flow : Cls K (He.ga K "Flow")) (n_Flow_net : NoAttr K (He.ga K "Flow") "net") (n_Flow_signs : NoAttr K (He.ga K "Flow") "signs") : FnOk P w K mg base CX0 1 f fd ["self", "post"] (Sp3 K (ct_Flow_next_run K) nox) := by
  refine fn3 F sc_Flow_next_run (fun ss ss' r h => ?_) (fun cdv A outer s H E c ss ss' r hr h hw => ?_)
  · obtain ⟨l, g, net, pu, sg, p, kk, rfl, _⟩ := h; rfl
  · obtain ⟨l, g, net, pu, sg, p, kk, rfl, q0, q1, q2, rfl, rfl⟩ := h
    refine as_frame (f1 := [.mix l (.ins (He.ga K "Flow") [("net", .dat (.list (net.map rnD))), ("pushed", .dat (.list (pu.map sD))), ("signs", .at g)]), .dat (sD p), .no, .no, .no, .no, .own g (.list (sg.map .int))]) (by rfl) ?_
    refine as_forE PassesOwn.never (fun k f => k ≤ kk ∧ ∃ x2 x3 x4 : Slot, f = [.mix l (.ins (He.ga K "Flow") [("net", .dat (.list (net.map rnD))), ("pushed", .dat (.list (pu.map sD))), ("signs", .at g)]), .dat (sD p), x2, x3, x4, .no, .own g (.list (sg.map .int))]) (ae_mf 0 c_Flow n_Flow_net) ⟨Nat.zero_le _, _, _, _, rfl⟩ (fun G k d f hk hp => ?_) (fun f hp => ?_) m_enumerate
    ·
      obtain ⟨hlt, xd, hx, rfl⟩ := enumD_inv hk
      obtain ⟨hkk, x2, x3, x4, rfl⟩ := hp
      obtain ⟨q, hq, rfl⟩ := mapR_inv hx
      have hkn := (List.getElem?_eq_some_iff.mp hq).1
      have has := at_sg (sg := sg) (show k < sg.length by omega)
      have ixk := ixN_nat (n := (sg.map PyData.int).length) (k := k) (by rw [List.length_map]; omega)
      have eq : net.getD k rn0 = q := getD_of hq
      have eb : nxB net sg p k = ((decide (sgI sg k = 1) && decide (q.1 = p)) || (decide (sgI sg k = -1) && decide (q.2.1 = p))) := by rw [nxB, eq]
      refine ⟨_, (ag_tup (ags_cons (ag_name 2 sc_Flow_next_run.nd) (ags_cons (ag_name 3 sc_Flow_next_run.nd) ags_nil))), ?_⟩
      refine as_set 4 (ae_ixO 6 (ae_mfA 0 6 c_Flow n_Flow_signs) (ae_dat 2) (h := (by first | exact has | exact at_there q _))) ?_ sc_Flow_next_run.nd
      refine as_if (AW.at (aw_or (AW.at (aw_and (at_cmpA (ae_dat 4) ae_int c_eqI) (fun hbb0 => (aw_and1 (at_cmpA (ae_ixT (ae_dat 3) ae_int (by rfl)) (ae_dat 1) c_eqX))) (fun _ => rfl))) (fun hb0 => (aw_or1 (AW.at (aw_and (at_cmpA (ae_dat 4) (ae_neg ae_int) c_eqI) (fun hbb0 => (aw_and1 (at_cmpA (ae_ixT (ae_dat 3) ae_int (by rfl)) (ae_dat 1) c_eqX))) (fun _ => rfl))))) (fun _ => rfl))) (fun h2 => ?_) (fun h2 => ?_)
      ·
        have ek : k = kk := by
          rcases Nat.lt_or_ge k kk with z | z
          · have := q2.fst k z; rw [eb] at this; rw [this] at h2; cases h2
          · omega
        subst ek
        refine as_setI 6 ae_int (ae_mfA 0 6 c_Flow n_Flow_signs) (ae_dat 2) (by first | rfl | exact ixk) ?_
        refine as_frame (by first | (simp only [List.set_cons_zero, List.set_cons_succ]; rfl) | rfl) ?_
        rw [set_sg]
        exact as_ret (ae_tup (ad_cons (ae_dat 2) (ad_cons (ae_ixT (ae_dat 3) (ae_int1 (ae_cmpA (ae_dat 4) ae_int c_eqI) (by rfl) m_int) (by first | exact has | exact at_there q _)) ad_nil))) ⟨by rw [nbD, othV, eq], (.mix 0 rfl (.dat (.gh (.own 6 rfl .nil))))⟩
      ·
        have hlt : k + 1 ≤ kk := by
          rcases Nat.lt_or_ge k kk with z | z
          · exact z
          · have e : k = kk := by omega
            subst e
            have := q2.at_; rw [eb, h2] at this; cases this
        refine as_nil ?_
        refine as_nil ?_
        exact ⟨hlt, _, _, _, rfl⟩
    ·
      obtain ⟨hkk, x2, x3, x4, rfl⟩ := hp
      rw [List.length_map] at hkk
      exact absurd q2.lt (by omega)
/-! ### Flow.way_from -/
abbrev st_Flow_way_from : Stmt := metS 6 6
theorem sc_Flow_way_from : FnScope ["self", "post", "bell", "runs", "number"] ["self", "post", "bell"] (defScope st_Flow_way_from) := ⟨rfl, rfl, rfl, by decide +kernel, rfl, by decide +kernel, by decide +kernel⟩
def ct_Flow_way_from (K : PySem.W.Frag) : Ct := fun ss ss' r => ∃ (l g : Addr) (net : List Rn) (pu : List (List Nat)) (sg : List Int) (p b : List Nat) (ks : List Nat) (sg2 : List Int), ss = [.mix l (.ins (He.ga K "Flow") [("net", .dat (.list (net.map rnD))), ("pushed", .dat (.list (pu.map sD))), ("signs", .at g)]), .dat (sD p), .dat (sD b), .no, .own g (.list (sg.map .int))] ∧ net.length ≤ 100 ∧ sg.length = net.length ∧ Wy net b sg p ks sg2 ∧ ks.length ≤ 1000 ∧ ss' = [.mix l (.ins (He.ga K "Flow") [("net", .dat (.list (net.map rnD))), ("pushed", .dat (.list (pu.map sD))), ("signs", .at g)]), .dat (sD p), .dat (sD b), .no, .own g (.list (sg2.map .int))] ∧ r = .new (wyD ks)
theorem ok_Flow_way_from (F : FunD K "way_from" "Flow.way_from" (defArgs st_Flow_way_from) (defBody st_Flow_way_from) (defScope st_Flow_way_from) [] [] f fd) (F_Flow_next_run : MeT K mg P w base 1 "Flow" "next_run" ["self", "post"] (ct_Flow_next_run K)) : FnOk P w K mg base CX0 2 f fd ["self", "post", "bell"] (Sp3 K (ct_Flow_way_from K) nox) := by
  refine fn3 F sc_Flow_way_from (fun ss ss' r h => ?_) (fun cdv A outer s H E c ss ss' r hr h hw => ?_)
  · obtain ⟨l, g, net, pu, sg, p, b, ks, sg2, rfl, _⟩ := h; rfl
  · obtain ⟨l, g, net, pu, sg, p, b, ks, sg2, rfl, q0, q1, q2, q3, rfl, rfl⟩ := h
    obtain ⟨_, _, G_Flow_next_run⟩ := F_Flow_next_run.me (X := (cxOf CX0 P w K mg base ["self", "post", "bell", "runs", "number"] "Flow.way_from" (defScope st_Flow_way_from) f cdv A outer s H E).nox) rfl rfl rfl rfl rfl
    refine as_frame (f1 := [.mix l (.ins (He.ga K "Flow") [("net", .dat (.list (net.map rnD))), ("pushed", .dat (.list (pu.map sD))), ("signs", .at g)]), .dat (sD p), .dat (sD b), .no, .no, .no, .own g (.list (sg.map .int))]) (by rfl) ?_
    refine as_new 3 (ae_lst ad_nil) (fun l_runs hw_runs hn_runs => ?_) sc_Flow_way_from.nd
    refine as_while PassesOwn.never (fun m f => ∃ (s : List Int) (u : Pt) (A B : List Nat) (x4 : Slot), f = [.mix l (.ins (He.ga K "Flow") [("net", .dat (.list (net.map rnD))), ("pushed", .dat (.list (pu.map sD))), ("signs", .at g)]), .dat (sD u), .dat (sD b), .own l_runs (wyD A), x4, .no, .own g (.list (s.map .int))] ∧ s.length = net.length ∧ Wy net b s u B sg2 ∧ A ++ B = ks ∧ m = B.length) (_) ⟨_, _, [], ks, _, rfl, q1, q2, rfl, rfl⟩ (fun m f hp => ?_)
    obtain ⟨s, u, A, B, x4, rfl, hl, hw, rfl, rfl⟩ := hp
    refine ⟨_, _, (at_cmpA (ae_dat 1) (ae_dat 2) c_neX), fun hc => ?_, fun hc => ?_⟩
    ·
      have hc : u ≠ b := by simpa using hc
      obtain ⟨k, B, rfl, nx, hw⟩ : ∃ (k : Nat) (B2 : List Nat), B = k :: B2 ∧ Nx net s u k ∧ Wy net b (s.set k 0) (othV net s k) B2 sg2 := by
        cases hw with
        | done => exact absurd rfl hc
        | step _ h1 h2 => exact ⟨_, _, rfl, h1, h2⟩
      rw [List.length_append] at q3
      refine as_asg (ae_meth 0 6 G_Flow_next_run (hr.mono (by decide)) pass0 (ad_cons (ae_dat 1) ad_nil) ⟨_, _, _, _, _, _, _, rfl, (by exact q0), (by exact hl), (by exact nx), rfl, rfl⟩) (ag_tup (ags_cons (ag_name 4 sc_Flow_way_from.nd) (ags_cons (ag_name 1 sc_Flow_way_from.nd) ags_nil))) ?_
      refine as_app 3 (ae_own 3) (ae_dat 4) (by rw [List.length_map]; omega) ?_
      refine as_nil ?_
      exact ⟨B.length, Nat.lt_succ_self _, _, _, A ++ [k], B, _, by rw [show wyD (A ++ [k]) = .list ((A.map fun (j : Nat) => PyData.int (j : Int)) ++ [.int (k : Int)]) from by unfold wyD; rw [List.map_append]; rfl]; rfl, by rw [List.length_set]; exact hl, hw, by rw [List.append_assoc]; rfl, rfl⟩
    ·
      have hc : u = b := by simpa using hc
      obtain ⟨rfl, rfl⟩ : B = [] ∧ s = sg2 := by
        cases hw with
        | done => exact ⟨rfl, rfl⟩
        | step h _ _ => exact absurd hc h
      refine as_frame (by first | (simp only [List.set_cons_zero, List.set_cons_succ]; rfl) | rfl) ?_
      exact as_retO 3 (ae_own 3) ⟨by rw [List.append_nil], (.mix 0 rfl (.dat (.dat (.gh (.own 6 rfl .nil)))))⟩ hw_runs
/-! ### least_cut -/
abbrev st_least_cut : Stmt := topS 7
theorem sc_least_cut : FnScope ["net", "pushed", "bell", "flow", "came", "cut", "number", "run", "ways", "post"] ["net", "pushed", "bell"] (defScope st_least_cut) := ⟨rfl, rfl, rfl, by decide +kernel, rfl, by decide +kernel, by decide +kernel⟩
def ct_least_cut : Ct := fun ss ss' r => ∃ (net : List Rn) (pu : List (List Nat)) (b : List Nat) (m0 : Nat) (sgf sge : List Int) (W : List (List Nat)), ss = [.dat (.list (net.map rnD)), .dat (.list (pu.map sD)), .dat (sD b)] ∧ b ∉ pu ∧ net.length ≤ 100 ∧ pu.length ≤ 100 ∧ Lc net pu b m0 sgf sge W ∧ ss' = ss ∧ r = .tw (wyD (cutV net (lookV net sgf pu))) (.list (W.map wyD))
def cx_least_cut (K : PySem.W.Frag) : Cex := fun ss C => (C = He.ga K "NoBell" ∧ ∃ (net : List Rn) (pu : List (List Nat)) (b : List Nat), ss = [.dat (.list (net.map rnD)), .dat (.list (pu.map sD)), .dat (sD b)] ∧ b ∈ pu)
theorem ok_least_cut (F : FnP K "least_cut" st_least_cut [] f fd) (F_look_at_bell : FnTX K mg P w base 1 "look_at_bell" ["pushed", "bell"] ct_look_at_bell (cx_look_at_bell K) []) (F_Flow_look : MeT K mg P w base 2 "Flow" "look" ["self"] (ct_Flow_look K)) (F_Flow_turn : MeT K mg P w base 1 "Flow" "turn" ["self", "came", "post"] (ct_Flow_turn K)) (F_Flow_surplus : MeT K mg P w base 1 "Flow" "surplus" ["self", "post"] (ct_Flow_surplus K)) (F_Flow_way_from : MeT K mg P w base 2 "Flow" "way_from" ["self", "post", "bell"] (ct_Flow_way_from K)) (F_Flow___init__ : MkT K mg P w base 1 "Flow" ["self", "net", "pushed"] (ct_Flow___init__ K)) (m_sorted : mg "sorted" = none) (m_set : mg "set" = none) (m_enumerate : mg "enumerate" = none) (g_Flow : mg "Flow" = some (.ref (He.ga K "Flow"))) : FnOk P w K mg base (L2N.CX P w) 3 f fd ["net", "pushed", "bell"] (Sp3 K ct_least_cut (cx_least_cut K)) := by
  refine fn3X F sc_least_cut (fun ss ss' r h => ?_) (fun ss C h => ?_) (fun cdv A outer s H E c ss ss' r hr h hw => ?_) (fun cdv A outer s H E c ss C hr h hw tk hE => ?_)
  · obtain ⟨net, pu, b, m0, sgf, sge, W, rfl, _⟩ := h; rfl
  · rcases h with ⟨_, net, pu, b, rfl, _⟩ <;> rfl
  · obtain ⟨net, pu, b, m0, sgf, sge, W, rfl, q0, q1, q2, q3, rfl, rfl⟩ := h
    obtain ⟨_, _, G_look_at_bell⟩ := F_look_at_bell.fn (X := (cxOf (L2N.CX P w) P w K mg base ["net", "pushed", "bell", "flow", "came", "cut", "number", "run", "ways", "post"] "least_cut" (defScope st_least_cut) f cdv A outer s H E).nox) rfl rfl rfl rfl rfl
    obtain ⟨_, _, G_Flow_look⟩ := F_Flow_look.me (X := (cxOf (L2N.CX P w) P w K mg base ["net", "pushed", "bell", "flow", "came", "cut", "number", "run", "ways", "post"] "least_cut" (defScope st_least_cut) f cdv A outer s H E).nox) rfl rfl rfl rfl rfl
    obtain ⟨_, _, G_Flow_turn⟩ := F_Flow_turn.me (X := (cxOf (L2N.CX P w) P w K mg base ["net", "pushed", "bell", "flow", "came", "cut", "number", "run", "ways", "post"] "least_cut" (defScope st_least_cut) f cdv A outer s H E).nox) rfl rfl rfl rfl rfl
    obtain ⟨_, _, G_Flow_surplus⟩ := F_Flow_surplus.me (X := (cxOf (L2N.CX P w) P w K mg base ["net", "pushed", "bell", "flow", "came", "cut", "number", "run", "ways", "post"] "least_cut" (defScope st_least_cut) f cdv A outer s H E).nox) rfl rfl rfl rfl rfl
    obtain ⟨_, _, G_Flow_way_from⟩ := F_Flow_way_from.me (X := (cxOf (L2N.CX P w) P w K mg base ["net", "pushed", "bell", "flow", "came", "cut", "number", "run", "ways", "post"] "least_cut" (defScope st_least_cut) f cdv A outer s H E).nox) rfl rfl rfl rfl rfl
    obtain ⟨_, _, G_Flow___init__⟩ := F_Flow___init__.mk (X := (cxOf (L2N.CX P w) P w K mg base ["net", "pushed", "bell", "flow", "came", "cut", "number", "run", "ways", "post"] "least_cut" (defScope st_least_cut) f cdv A outer s H E).nox) rfl rfl rfl rfl rfl
    refine as_frame (f1 := [.dat (.list (net.map rnD)), .dat (.list (pu.map sD)), .dat (sD b), .no, .no, .no, .no, .no, .no, .no]) (by rfl) ?_
    refine as_expr (ae_call G_look_at_bell (hr.mono (by decide)) passN (ad_cons (ae_dat 1) (ad_cons (ae_dat 2) ad_nil)) ⟨_, _, rfl, (by exact q0), rfl, rfl⟩) ?_
    refine as_make 3 G_Flow___init__ (hr.mono (by decide)) g_Flow (ad_cons (ae_dat 0) (ad_cons (ae_dat 1) ad_nil)) (fun l => ⟨_, _, _, rfl, (by exact q1), rfl⟩) (fun l_flow ss_flow hw_flow hB => ?_) sc_least_cut.nd (fun _ => pass0)
    obtain ⟨g, rfl⟩ := hB
    refine ⟨_, _, rfl, ?_⟩
    refine as_frame (f1 := [.dat (.list (net.map rnD)), .dat (.list (pu.map sD)), .dat (sD b), .mix l_flow (.ins (He.ga K "Flow") [("net", .dat (.list (net.map rnD))), ("pushed", .dat (.list (pu.map sD))), ("signs", .at g)]), .no, .no, .no, .no, .no, .no, .own g (.list ((List.replicate net.length (0 : Int)).map .int))]) (by rfl) ?_
    refine as_set 4 (AE.val (ae_meth0 3 10 G_Flow_look (hr.mono (by decide)) pass0 ⟨_, _, _, _, _, rfl, (by exact q1), (by first | exact hl1 | exact List.length_replicate ..), (by exact q2), rfl, rfl⟩)) ?_ sc_least_cut.nd
    refine as_frame (by first | (simp only [List.set_cons_zero, List.set_cons_succ]; rfl) | rfl) ?_
    refine as_while PassesOwn.never (fun m f => ∃ sg : List Int, f = [.dat (.list (net.map rnD)), .dat (.list (pu.map sD)), .dat (sD b), .mix l_flow (.ins (He.ga K "Flow") [("net", .dat (.list (net.map rnD))), ("pushed", .dat (.list (pu.map sD))), ("signs", .at g)]), .dat (dD (enT oN (lookV net sg pu))), .no, .no, .no, .no, .no, .own g (.list (sg.map .int))] ∧ sg.length = net.length ∧ Fl net pu b m sg sgf) (m0) ⟨_, rfl, List.length_replicate .., q3.fl⟩ (fun m f hp => ?_)
    obtain ⟨sg, rfl, hl, hF⟩ := hp
    refine ⟨_, _, (at_din (k := kS _) (un1 hr.units) (ae_dat 2) (ae_dat 4) (by rfl)), fun hc => ?_, fun hc => ?_⟩
    ·
      have hc : hasB (lookV net sg pu) b = true := by rw [hasB, ← gV_has]; exact hc
      obtain ⟨m, n, sg1, rfl, hT, hl1, hF1⟩ : ∃ (m2 n : Nat) (sg1 : List Int), m = m2 + 1 ∧ Tn net (lookV net sg pu) n sg b sg1 ∧ sg1.length = net.length ∧ Fl net pu b m2 sg1 sgf := by
        cases hF with
        | done h => rw [h] at hc; cases hc
        | step _ h1 h2 h3 => exact ⟨_, _, _, rfl, h1, h2, h3⟩
      refine as_expr (ae_meth 3 10 G_Flow_turn (hr.mono (by decide)) pass0 (ad_cons (ae_dat 4) (ad_cons (ae_dat 2) ad_nil)) ⟨_, _, _, _, _, _, _, _, _, rfl, (by exact q1), (by exact hl), (by exact hT), rfl, rfl⟩) ?_
      refine as_set 4 (AE.val (ae_meth0 3 10 G_Flow_look (hr.mono (by decide)) pass0 ⟨_, _, _, _, _, rfl, (by exact q1), (by first | exact hl1 | exact List.length_replicate ..), (by exact q2), rfl, rfl⟩)) ?_ sc_least_cut.nd
      refine as_nil ?_
      exact ⟨m, Nat.lt_succ_self m, sg1, rfl, hl1, hF1⟩
    ·
      have hc : hasB (lookV net sg pu) b = false := by rw [hasB, ← gV_has]; exact hc
      obtain rfl : sg = sgf := by
        cases hF with
        | done h => rfl
        | step h _ _ _ => rw [h] at hc; cases hc
      refine as_lcE (F := fun i => [.dat (.list (net.map rnD)), .dat (.list (pu.map sD)), .dat (sD b), .mix l_flow (.ins (He.ga K "Flow") [("net", .dat (.list (net.map rnD))), ("pushed", .dat (.list (pu.map sD))), ("signs", .at g)]), .dat (dD (enT oN (lookV net sg pu))), .no, .no, .no, .no, .no, .own g (.list (sg.map .int))]) 5 [("number", 6), ("run", 7)] (fun i => if cutB net (lookV net sg pu) i = true then some (PyData.int (i : Int)) else none) sc_least_cut.nd (ae_dat 0) (by rfl) (fun _ => rfl) (fun i d hi => by (obtain ⟨hlt, dx, hdx, rfl⟩ := enumD_inv hi; obtain ⟨q, hq, rfl⟩ := mapR_inv hdx; have ec : cutB net (lookV net sg pu) i = !decide ((gV (enT oN (lookV net sg pu)) (kS q.1)).isSome = (gV (enT oN (lookV net sg pu)) (kS q.2.1)).isSome) := (by rw [cutB, getD_of hq, gV_has, gV_has]; rfl); rw [ec]; exact turnC2 (fun _ _ _ _ _ => (agc_tup (agcs_cons (agc_name 6 sc_least_cut.nd) (agcs_cons (agc_name 7 sc_least_cut.nd) agcs_nil)))) (fun _ _ _ _ _ => (at_cmpA (ae_din (k := kS _) (un1 hr.units) (ae_ixT (ae_dat 7) ae_int (by rfl)) (ae_dat 4) (by rfl)) (ae_din (k := kS _) (un1 hr.units) (ae_ixT (ae_dat 7) ae_int (by rfl)) (ae_dat 4) (by rfl)) c_neB)) (fun hc => (fun _ _ _ _ _ => (ae_dat 6))) (fun _ => rfl) (fun _ => rfl))) (by repeat (first | exact BackL.nil | apply BackL.dat | apply BackL.own | apply BackL.no | apply BackL.ref | apply BackL.mix)) (by rw [List.length_map]; omega) (fun l_cut hw_cut hn_cut => ?_) m_enumerate
      rw [cut_made]
      refine as_frame (f1 := [.dat (.list (net.map rnD)), .dat (.list (pu.map sD)), .dat (sD b), .mix l_flow (.ins (He.ga K "Flow") [("net", .dat (.list (net.map rnD))), ("pushed", .dat (.list (pu.map sD))), ("signs", .at g)]), .dat (dD (enT oN (lookV net sg pu))), .own l_cut (wyD (cutV net (lookV net sg pu))), .no, .no, .no, .no, .own g (.list (sg.map .int))]) (by rfl) ?_
      refine as_new 8 (ae_lst ad_nil) (fun l_ways hw_ways hn_ways => ?_) sc_least_cut.nd
      refine as_frame (by first | (simp only [List.set_cons_zero, List.set_cons_succ]; rfl) | rfl) ?_
      refine as_forL PassesOwn.never (fun k f => ∃ (s : List Int) (A B : List (List Nat)) (x9 : Slot), f = [.dat (.list (net.map rnD)), .dat (.list (pu.map sD)), .dat (sD b), .mix l_flow (.ins (He.ga K "Flow") [("net", .dat (.list (net.map rnD))), ("pushed", .dat (.list (pu.map sD))), ("signs", .at g)]), .dat (dD (enT oN (lookV net sg pu))), .own l_cut (wyD (cutV net (lookV net sg pu))), .no, .no, .own l_ways (.list (A.map wyD)), x9, .own g (.list (s.map .int))] ∧ s.length = net.length ∧ Wa net b s ((ssN pu).drop k) B sge ∧ A ++ B = W) (AE.val (ae_sortSet (ls := pu) (by rfl) (ae_dat 1) (by rfl) (by omega) (by rfl) m_sorted (by rfl) m_set)) ⟨sg, [], W, _, rfl, q3.len, q3.wa, rfl⟩ (fun G k d f hk hp => ?_) (fun f hp => ?_)
      ·
        obtain ⟨s, A, B, x9, rfl, hls, hWa, rfl⟩ := hp
        obtain ⟨p, hpk, rfl⟩ := mapS_inv hk
        obtain ⟨V, B, sg1, rfl, hWs, hl1, hWa1⟩ : ∃ (V B2 : List (List Nat)) (sg1 : List Int), B = V ++ B2 ∧ Ws net b s p V sg1 ∧ sg1.length = net.length ∧ Wa net b sg1 ((ssN pu).drop (k + 1)) B2 sge := by
          rw [List.drop_eq_getElem_cons (List.getElem?_eq_some_iff.mp hpk).1, (List.getElem?_eq_some_iff.mp hpk).2] at hWa
          cases hWa with
          | cons h1 h2 h3 => exact ⟨_, _, _, rfl, h1, h2, h3⟩
        refine ⟨_, (ag_name 9 sc_least_cut.nd), ?_⟩
        refine as_while PassesOwn.never (fun m f => ∃ (s2 : List Int) (V1 V2 : List (List Nat)), f = [.dat (.list (net.map rnD)), .dat (.list (pu.map sD)), .dat (sD b), .mix l_flow (.ins (He.ga K "Flow") [("net", .dat (.list (net.map rnD))), ("pushed", .dat (.list (pu.map sD))), ("signs", .at g)]), .dat (dD (enT oN (lookV net sg pu))), .own l_cut (wyD (cutV net (lookV net sg pu))), .no, .no, .own l_ways (.list ((A ++ V1).map wyD)), .dat (sD p), .own g (.list (s2.map .int))] ∧ s2.length = net.length ∧ Ws net b s2 p V2 sg1 ∧ V1 ++ V2 = V ∧ m = V2.length) (_) ⟨s, [], V, by rw [List.append_nil]; rfl, hls, hWs, rfl, rfl⟩ (fun m f hp => ?_)
        obtain ⟨s2, V1, V2, rfl, hl2, hW2, rfl, rfl⟩ := hp
        refine ⟨_, _, (at_cmpA (ae_meth 3 10 G_Flow_surplus (hr.mono (by decide)) pass0 (ad_cons (ae_dat 9) ad_nil) ⟨_, _, _, _, _, _, rfl, (by exact q1), (by exact hl2), rfl, rfl⟩) ae_int c_gt), fun hc => ?_, fun hc => ?_⟩
        ·
          have hc := of_decide_eq_true hc
          obtain ⟨ks, V2, s3, rfl, hWy, hks, hl3, hW3⟩ : ∃ (ks : List Nat) (V3 : List (List Nat)) (s3 : List Int), V2 = ks :: V3 ∧ Wy net b s2 p ks s3 ∧ ks.length ≤ 1000 ∧ s3.length = net.length ∧ Ws net b s3 p V3 sg1 := by
            cases hW2 with
            | done h => exact absurd hc h
            | step _ h1 h2 h3 h4 => exact ⟨_, _, _, rfl, h1, h2, h3, h4⟩
          have few := q3.few
          simp only [List.length_append] at few
          refine as_app 8 (ae_own 8) (AE.val (ae_meth 3 10 G_Flow_way_from (hr.mono (by decide)) pass0 (ad_cons (ae_dat 9) (ad_cons (ae_dat 2) ad_nil)) ⟨_, _, _, _, _, _, _, _, _, rfl, (by exact q1), (by exact hl2), (by exact hWy), (by exact hks), rfl, rfl⟩)) (by rw [List.length_map, List.length_append]; omega) ?_
          refine as_nil ?_
          exact ⟨V2.length, Nat.lt_succ_self _, s3, V1 ++ [ks], V2, by rw [← List.append_assoc, List.map_append (l₂ := [ks])]; rfl, hl3, hW3, by rw [List.append_assoc]; rfl, rfl⟩
        ·
          have hc := of_decide_eq_false hc
          obtain ⟨rfl, rfl⟩ : V2 = [] ∧ s2 = sg1 := by
            cases hW2 with
            | done h => exact ⟨rfl, rfl⟩
            | step h _ _ _ _ => exact absurd h hc
          rw [List.append_nil] at *
          refine as_nil ?_
          exact ⟨_, A ++ V1, B, _, rfl, hl1, hWa1, by rw [List.append_assoc]⟩
      ·
        obtain ⟨s, A, B, x9, rfl, hls, hWa, rfl⟩ := hp
        have hB0 : B = [] := by
          rw [List.drop_of_length_le (by rw [List.length_map]; exact Nat.le_refl _)] at hWa
          cases hWa; rfl
        subst hB0
        exact as_retTW 5 8 (ae_own 5) (ae_own 8) ⟨by rw [List.append_nil], (.dat (.dat (.dat .nil)))⟩ hw_cut hw_ways
  · obtain ⟨rfl, net, pu, b, rfl, q0⟩ := h
    obtain ⟨_, _, G_look_at_bell⟩ := F_look_at_bell.fn (X := (cxOf (L2N.CX P w) P w K mg base ["net", "pushed", "bell", "flow", "came", "cut", "number", "run", "ways", "post"] "least_cut" (defScope st_least_cut) f cdv A outer s H E)) rfl rfl rfl rfl rfl
    obtain ⟨_, _, G_Flow_look⟩ := F_Flow_look.me (X := (cxOf (L2N.CX P w) P w K mg base ["net", "pushed", "bell", "flow", "came", "cut", "number", "run", "ways", "post"] "least_cut" (defScope st_least_cut) f cdv A outer s H E)) rfl rfl rfl rfl rfl
    obtain ⟨_, _, G_Flow_turn⟩ := F_Flow_turn.me (X := (cxOf (L2N.CX P w) P w K mg base ["net", "pushed", "bell", "flow", "came", "cut", "number", "run", "ways", "post"] "least_cut" (defScope st_least_cut) f cdv A outer s H E)) rfl rfl rfl rfl rfl
    obtain ⟨_, _, G_Flow_surplus⟩ := F_Flow_surplus.me (X := (cxOf (L2N.CX P w) P w K mg base ["net", "pushed", "bell", "flow", "came", "cut", "number", "run", "ways", "post"] "least_cut" (defScope st_least_cut) f cdv A outer s H E)) rfl rfl rfl rfl rfl
    obtain ⟨_, _, G_Flow_way_from⟩ := F_Flow_way_from.me (X := (cxOf (L2N.CX P w) P w K mg base ["net", "pushed", "bell", "flow", "came", "cut", "number", "run", "ways", "post"] "least_cut" (defScope st_least_cut) f cdv A outer s H E)) rfl rfl rfl rfl rfl
    obtain ⟨_, _, G_Flow___init__⟩ := F_Flow___init__.mk (X := (cxOf (L2N.CX P w) P w K mg base ["net", "pushed", "bell", "flow", "came", "cut", "number", "run", "ways", "post"] "least_cut" (defScope st_least_cut) f cdv A outer s H E)) rfl rfl rfl rfl rfl
    refine as_frame (f1 := [.dat (.list (net.map rnD)), .dat (.list (pu.map sD)), .dat (sD b), .no, .no, .no, .no, .no, .no, .no]) (by rfl) ?_
    exact as_exprE (re_call tk G_look_at_bell (hr.mono (by decide)) (ad_cons (ae_dat 1) (ad_cons (ae_dat 2) ad_nil)) ⟨rfl, _, _, rfl, q0⟩ (fun _ _ S => hE _ _ _ _ S))
/-! ### _law_cell_at -/
abbrev st_law_cell_at : Stmt := topS 9
theorem sc_law_cell_at : FnScope ["_law_script", "_law_k"] ["_law_script", "_law_k"] (defScope st_law_cell_at) := ⟨rfl, rfl, rfl, by decide +kernel, rfl, by decide +kernel, by decide +kernel⟩
def ct_law_cell_at : Ct := fun ss ss' r => ∃ (ns : List Int) (k : Int), ss = [.dat (scD ns), .dat (.int k)] ∧ 0 ≤ k ∧ ss' = ss ∧ r = .val (.int (cellV ns k))
theorem ok_law_cell_at (F : FnP K "_law_cell_at" st_law_cell_at [] f fd) (m_len : mg "len" = none) : FnOk P w K mg base CX0 1 f fd ["_law_script", "_law_k"] (Sp3 K ct_law_cell_at nox) := by
  refine fn3 F sc_law_cell_at (fun ss ss' r h => ?_) (fun cdv A outer s H E c ss ss' r hr h hw => ?_)
  · obtain ⟨ns, k, rfl, _⟩ := h; rfl
  · obtain ⟨ns, k, rfl, q0, rfl, rfl⟩ := h
    refine as_frame (by first | (simp only [List.set_cons_zero, List.set_cons_succ]; rfl) | rfl) ?_
    refine as_if (at_cmpA (ae_dat 1) (ae_len (ae_dat 0) (by rfl) (by first | rfl | decide) (by rfl) m_len) c_lt) (fun h => ?_) (fun h => ?_)
    ·
      have hk : k < ns.length := by simpa using h
      exact as_ret (ae_ixL (ae_dat 0) (ae_dat 1) (by exact at_map _ ns k 0 q0 hk)) ⟨by rfl, (.dat (.dat .nil))⟩
    ·
      refine as_nil ?_
      exact as_ret ae_int ⟨by simp only [decide_eq_false_iff_not, List.length_map] at h; simp only [cellV]; simp [List.getD, List.getElem?_eq_none (show ns.length ≤ k.toNat by omega)], (.dat (.dat .nil))⟩
/-! ### _law_mixed -/
abbrev st_law_mixed : Stmt := topS 10
theorem sc_law_mixed : FnScope ["_law_cell", "_law_k"] ["_law_cell", "_law_k"] (defScope st_law_mixed) := ⟨rfl, rfl, rfl, by decide +kernel, rfl, by decide +kernel, by decide +kernel⟩
def ct_law_mixed : Ct := fun ss ss' r => ∃ (c0 k : Int), ss = [.dat (.int c0), .dat (.int k)] ∧ -1000 ≤ k ∧ k ≤ 1000 ∧ ss' = ss ∧ r = .val (.int (mixV c0 k))
theorem ok_law_mixed (F : FnP K "_law_mixed" st_law_mixed [] f fd) : FnOk P w K mg base CX0 1 f fd ["_law_cell", "_law_k"] (Sp3 K ct_law_mixed nox) := by
  refine fn3 F sc_law_mixed (fun ss ss' r h => ?_) (fun cdv A outer s H E c ss ss' r hr h hw => ?_)
  · obtain ⟨c0, k, rfl, _⟩ := h; rfl
  · obtain ⟨c0, k, rfl, q0, q1, rfl, rfl⟩ := h
    exact as_ret (ae_mod (ae_add (ae_add (ae_mul (ae_mod (ae_mul (ae_dat 0) ae_int (by first | exact mulR (by decide) | exact mulR (by omega) | exact mulL (by decide))) ae_int (by first | assumption | decide | omega)) ae_int (by first | exact mulR (by decide) | exact mulR (by omega) | exact mulL (by decide))) (ae_mul (ae_mul ae_int (ae_dat 1) (by first | exact mulR (by decide) | exact mulR (by omega) | exact mulL (by decide))) (ae_dat 1) (by first | exact mulR (by decide) | exact mulR (by omega) | exact mulL (by decide)))) (ae_mul ae_int (ae_dat 1) (by first | exact mulR (by decide) | exact mulR (by omega) | exact mulL (by decide)))) ae_int (by first | assumption | decide | omega)) ⟨by rfl, (.dat (.dat .nil))⟩
/-! ### _law_great -/
abbrev st_law_great : Stmt := topS 11
theorem sc_law_great : FnScope ["_law_cell"] ["_law_cell"] (defScope st_law_great) := ⟨rfl, rfl, rfl, by decide +kernel, rfl, by decide +kernel, by decide +kernel⟩
def ct_law_great : Ct := fun ss ss' r => ∃ (c0 : Int), ss = [.dat (.int c0)] ∧ ss' = ss ∧ r = .val (.int (greatV c0))
theorem ok_law_great (F : FnP K "_law_great" st_law_great [] f fd) (F_law_mixed : FnT K mg P w base 1 "_law_mixed" ["_law_cell", "_law_k"] ct_law_mixed nox []) : FnOk P w K mg base CX0 2 f fd ["_law_cell"] (Sp3 K ct_law_great nox) := by
  refine fn3 F sc_law_great (fun ss ss' r h => ?_) (fun cdv A outer s H E c ss ss' r hr h hw => ?_)
  · obtain ⟨c0, rfl, _⟩ := h; rfl
  · obtain ⟨c0, rfl, rfl, rfl⟩ := h
    obtain ⟨_, _, G_law_mixed⟩ := F_law_mixed.fn (X := (cxOf CX0 P w K mg base ["_law_cell"] "_law_great" (defScope st_law_great) f cdv A outer s H E).nox) rfl rfl rfl rfl rfl
    refine as_if (AW.at (aw_or (at_cmpA (ae_dat 0) ae_int c_lt) (fun hb0 => (aw_or1 (at_cmpA (ae_dat 0) (ae_pow ae_int ae_int ⟨by decide, by decide, by decide⟩) c_gt))) (fun _ => rfl))) (fun h => ?_) (fun h => ?_)
    ·
      exact as_ret (ae_dat 0) ⟨by rw [greatV, if_pos h], (.dat .nil)⟩
    ·
      refine as_nil ?_
      exact as_ret (ae_add (ae_call G_law_mixed (hr.mono (by decide)) pass0 (ad_cons (ae_dat 0) (ad_cons ae_int ad_nil)) ⟨_, _, rfl, (by first | assumption | exact mulL (by decide) | exact mulR (by decide) | omega | decide), (by first | assumption | exact mulL (by decide) | exact mulR (by decide) | omega | decide), rfl, rfl⟩) (ae_mul ae_int (ae_add (ae_call G_law_mixed (hr.mono (by decide)) pass0 (ad_cons (ae_dat 0) (ad_cons ae_int ad_nil)) ⟨_, _, rfl, (by first | assumption | exact mulL (by decide) | exact mulR (by decide) | omega | decide), (by first | assumption | exact mulL (by decide) | exact mulR (by decide) | omega | decide), rfl, rfl⟩) (ae_mul ae_int (ae_call G_law_mixed (hr.mono (by decide)) pass0 (ad_cons (ae_dat 0) (ad_cons ae_int ad_nil)) ⟨_, _, rfl, (by first | assumption | exact mulL (by decide) | exact mulR (by decide) | omega | decide), (by first | assumption | exact mulL (by decide) | exact mulR (by decide) | omega | decide), rfl, rfl⟩) (by exact mulL (by decide)))) (by exact mulL (by decide)))) ⟨by rw [greatV, if_neg (by rw [h]; exact Bool.false_ne_true)], (.dat .nil)⟩
/-! ### _law_numbers -/
abbrev st_law_numbers : Stmt := topS 12
theorem sc_law_numbers : FnScope ["_law_script", "_law_first", "_law_many", "_law_size", "_law_found", "_law_cell", "_law_k"] ["_law_script", "_law_first", "_law_many", "_law_size"] (defScope st_law_numbers) := ⟨rfl, rfl, rfl, by decide +kernel, rfl, by decide +kernel, by decide +kernel⟩
def ct_law_numbers : Ct := fun ss ss' r => ∃ (ns : List Int) (fi n0 sz : Int), ss = [.dat (scD ns), .dat (.int fi), .dat (.int n0), .dat (.int sz)] ∧ 0 ≤ fi ∧ fi ≤ 100 ∧ 0 ≤ n0 ∧ n0 ≤ 100 ∧ 0 < sz ∧ sz < 18446744073709551616 ∧ ss' = ss ∧ r = .new (.list ((numsV ns fi n0.toNat sz).map .int))
theorem ok_law_numbers (F : FnP K "_law_numbers" st_law_numbers [] f fd) (F_law_cell_at : FnT K mg P w base 1 "_law_cell_at" ["_law_script", "_law_k"] ct_law_cell_at nox []) (F_law_mixed : FnT K mg P w base 1 "_law_mixed" ["_law_cell", "_law_k"] ct_law_mixed nox []) (m_range : mg "range" = none) (m_len : mg "len" = none) : FnOk P w K mg base CX0 2 f fd ["_law_script", "_law_first", "_law_many", "_law_size"] (Sp3 K ct_law_numbers nox) := by
  refine fn3 F sc_law_numbers (fun ss ss' r h => ?_) (fun cdv A outer s H E c ss ss' r hr h hw => ?_)
  · obtain ⟨ns, fi, n0, sz, rfl, _⟩ := h; rfl
  · obtain ⟨ns, fi, n0, sz, rfl, q0, q1, q2, q3, q4, q5, rfl, rfl⟩ := h
    obtain ⟨_, _, G_law_cell_at⟩ := F_law_cell_at.fn (X := (cxOf CX0 P w K mg base ["_law_script", "_law_first", "_law_many", "_law_size", "_law_found", "_law_cell", "_law_k"] "_law_numbers" (defScope st_law_numbers) f cdv A outer s H E).nox) rfl rfl rfl rfl rfl
    obtain ⟨_, _, G_law_mixed⟩ := F_law_mixed.fn (X := (cxOf CX0 P w K mg base ["_law_script", "_law_first", "_law_many", "_law_size", "_law_found", "_law_cell", "_law_k"] "_law_numbers" (defScope st_law_numbers) f cdv A outer s H E).nox) rfl rfl rfl rfl rfl
    obtain ⟨n, rfl⟩ := Int.eq_ofNat_of_zero_le q2
    simp only [Int.toNat_natCast]
    refine as_new 4 (ae_lst ad_nil) (fun l_law_found hw_law_found hn_law_found => ?_) sc_law_numbers.nd
    refine as_set 5 (ae_call G_law_cell_at (hr.mono (by decide)) pass0 (ad_cons (ae_dat 0) (ad_cons (ae_dat 1) ad_nil)) ⟨_, _, rfl, (by first | assumption | decide | omega), rfl, rfl⟩) ?_ sc_law_numbers.nd
    refine as_frame (by first | (simp only [List.set_cons_zero, List.set_cons_succ]; rfl) | rfl) ?_
    refine as_while PassesOwn.never (fun m f => ∃ (cc : Int) (B : List Int), f = [.dat (scD ns), .dat (.int fi), .dat (.int (n : Int)), .dat (.int sz), .own l_law_found (.list (B.map .int)), .dat (.int cc), .no] ∧ DgS ns fi n sz cc B ∧ m = n - B.length) (_) ⟨_, [], rfl, DgS.init ns fi n sz, rfl⟩ (fun m f hp => ?_)
    obtain ⟨cc, B, rfl, hd, rfl⟩ := hp
    have hle := hd.le
    refine ⟨_, _, (AW.at (aw_and (at_cmpA (ae_mod (ae_call G_law_cell_at (hr.mono (by decide)) pass0 (ad_cons (ae_dat 0) (ad_cons ae_int ad_nil)) ⟨_, _, rfl, (by first | assumption | decide | omega), rfl, rfl⟩) ae_int (by first | exact q4 | decide)) ae_int c_eqI) (fun hb0 => (aw_and (at_cmpA (ae_dat 5) ae_int c_neI) (fun hb1 => (aw_and1 (at_cmpA (ae_len (ae_own 4) (by rfl) (by first | rfl | decide) (by rfl) m_len) (ae_dat 2) c_lt))) (fun _ => rfl))) (fun _ => rfl))), fun hc => ?_, fun hc => ?_⟩
    ·
      rw [List.length_map, Bool.and_eq_true, Bool.and_eq_true] at hc
      obtain ⟨e0, e1, e2⟩ := hc
      have e0 := of_decide_eq_true e0
      have e1 : cc ≠ 0 := by simpa using e1
      have e2 := of_decide_eq_true e2
      have e2 : B.length < n := by omega
      refine as_app 4 (ae_own 4) (ae_mod (ae_dat 5) (ae_dat 3) (by first | exact q4 | decide)) (by first | (rw [List.length_map]; omega) | (rw [List.length_map, List.length_append, List.length_map, List.length_range]; omega)) ?_
      refine as_set 5 (ae_div (ae_dat 5) (ae_dat 3) (by exact divS q4 q5)) ?_ sc_law_numbers.nd
      refine as_nil ?_
      exact ⟨n - (B.length + 1), by omega, cc / sz, B ++ [cc % sz], by rw [List.map_append]; rfl, hd.next e0 e1 e2, by rw [List.length_append]; rfl⟩
    ·
      rw [List.length_map] at hc
      have eb := hd.fin hc
      subst eb
      refine as_frame (by first | (simp only [List.set_cons_zero, List.set_cons_succ]; rfl) | rfl) ?_
      refine as_forR2 PassesOwn.never (fun k f => ∃ x6, f = [.dat (scD ns), .dat (.int fi), .dat (.int (n : Int)), .dat (.int sz), .own l_law_found (.list ((dgA ns fi n sz ++ (List.range k).map fun (i : Nat) => mixV (cellV ns (fi + (((dgA ns fi n sz).length : Int) + (i : Int)))) (((dgA ns fi n sz).length : Int) + (i : Int)) % sz).map .int)), .dat (.int cc), x6]) (ad_cons (ae_len (ae_own 4) (by rfl) (by first | rfl | decide) (by rfl) m_len) (ad_cons (ae_dat 2) ad_nil)) ⟨_, by rw [List.range_zero, List.map_nil, List.append_nil]⟩ (fun G k d f hk hp => ?_) (fun f hp => ?_) m_range (by rw [List.length_map]; omega)
      ·
        obtain ⟨hk, rfl⟩ := rngD_inv hk
        obtain ⟨x6, rfl⟩ := hp
        have hk3 : k < n := by have e := List.length_map (f := PyData.int) (as := dgA ns fi n sz); omega
        refine ⟨_, (ag_name 6 sc_law_numbers.nd), ?_⟩
        rw [List.length_map]
        refine as_app 4 (ae_own 4) (ae_mod (ae_call G_law_mixed (hr.mono (by decide)) pass0 (ad_cons (ae_call G_law_cell_at (hr.mono (by decide)) pass0 (ad_cons (ae_dat 0) (ad_cons (ae_add (ae_dat 1) (ae_dat 6)) ad_nil)) ⟨_, _, rfl, (by first | assumption | decide | omega), rfl, rfl⟩) (ad_cons (ae_dat 6) ad_nil)) ⟨_, _, rfl, (by omega), (by omega), rfl, rfl⟩) (ae_dat 3) (by first | exact q4 | decide)) (by first | (rw [List.length_map]; omega) | (rw [List.length_map, List.length_append, List.length_map, List.length_range]; omega)) ?_
        refine as_nil ?_
        exact ⟨_, by rw [List.range_succ]; simp only [List.map_append, List.map_cons, List.map_nil, List.append_assoc]; rfl⟩
      ·
        have e : ((n : Int) - (((dgA ns fi n sz).map PyData.int).length : Int)).toNat = n - (dgA ns fi n sz).length := by rw [List.length_map]; omega
        rw [e] at hp
        obtain ⟨x6, rfl⟩ := hp
        exact as_retO 4 (ae_own 4) ⟨by rfl, (.dat (.dat (.dat (.dat .nil))))⟩ hw_law_found
/-! ### _law_digits -/
abbrev st_law_digits : Stmt := topS 13
theorem sc_law_digits : FnScope ["_law_cell", "_law_many", "_law_size", "_law_found", "_law_k"] ["_law_cell", "_law_many", "_law_size"] (defScope st_law_digits) := ⟨rfl, rfl, rfl, by decide +kernel, rfl, by decide +kernel, by decide +kernel⟩
def ct_law_digits : Ct := fun ss ss' r => ∃ (c0 n0 sz : Int), ss = [.dat (.int c0), .dat (.int n0), .dat (.int sz)] ∧ 0 ≤ n0 ∧ n0 ≤ 100 ∧ 0 < sz ∧ sz < 18446744073709551616 ∧ ss' = ss ∧ r = .new (.list ((digV c0 n0.toNat sz).map .int))
theorem ok_law_digits (F : FnP K "_law_digits" st_law_digits [] f fd) (m_range : mg "range" = none) : FnOk P w K mg base CX0 1 f fd ["_law_cell", "_law_many", "_law_size"] (Sp3 K ct_law_digits nox) := by
  refine fn3 F sc_law_digits (fun ss ss' r h => ?_) (fun cdv A outer s H E c ss ss' r hr h hw => ?_)
  · obtain ⟨c0, n0, sz, rfl, _⟩ := h; rfl
  · obtain ⟨c0, n0, sz, rfl, q0, q1, q2, q3, rfl, rfl⟩ := h
    obtain ⟨n, rfl⟩ := Int.eq_ofNat_of_zero_le q0
    simp only [Int.toNat_natCast]
    refine as_new 3 (ae_lst ad_nil) (fun l_law_found hw_law_found hn_law_found => ?_) sc_law_digits.nd
    refine as_frame (by first | (simp only [List.set_cons_zero, List.set_cons_succ]; rfl) | rfl) ?_
    refine as_forR PassesOwn.never (fun k f => ∃ x4, f = [.dat (.int (it (dv sz) k c0)), .dat (.int (n : Int)), .dat (.int sz), .own l_law_found (.list ((digV c0 k sz).map .int)), x4]) (ad_cons (ae_dat 1) ad_nil) (by first | omega | ((repeat' split) <;> omega)) ⟨_, rfl⟩ (fun G k d f hk hp => ?_) (fun f hp => ?_) m_range
    ·
      obtain ⟨hk, rfl⟩ := rngD_inv hk
      obtain ⟨x4, rfl⟩ := hp
      refine ⟨_, (ag_name 4 sc_law_digits.nd), ?_⟩
      refine as_app 3 (ae_own 3) (ae_mod (ae_dat 0) (ae_dat 2) (by exact q2)) (by rw [List.length_map, digV_len]; omega) ?_
      refine as_set 0 (ae_div (ae_dat 0) (ae_dat 2) (by exact divS q2 q3)) ?_ sc_law_digits.nd
      refine as_nil ?_
      exact ⟨_, by rw [digV_s]; rfl⟩
    ·
      obtain ⟨x4, rfl⟩ := hp
      refine as_frame (by first | (simp only [List.set_cons_zero, List.set_cons_succ]; rfl) | rfl) ?_
      exact as_retO 3 (ae_own 3) ⟨by rfl, (.dat (.dat (.dat .nil)))⟩ hw_law_found
/-! ### _law_lowest -/
abbrev st_law_lowest : Stmt := topS 14
theorem sc_law_lowest : FnScope ["_law_top", "_law_bottom", "_law_one", "_law_other"] ["_law_top", "_law_bottom"] (defScope st_law_lowest) := ⟨rfl, rfl, rfl, by decide +kernel, rfl, by decide +kernel, by decide +kernel⟩
def ct_law_lowest : Ct := fun ss ss' r => ∃ (t b : Int), ss = [.dat (.int t), .dat (.int b)] ∧ 0 < b ∧ Bd 8000 b ∧ ss' = ss ∧ r = .val (frD (nrm t b))
theorem ok_law_lowest (F : FnP K "_law_lowest" st_law_lowest [] f fd) (m_abs : mg "abs" = none) : FnOk P w K mg base CX0 1 f fd ["_law_top", "_law_bottom"] (Sp3 K ct_law_lowest nox) := by
  refine fn3 F sc_law_lowest (fun ss ss' r h => ?_) (fun cdv A outer s H E c ss ss' r hr h hw => ?_)
  · obtain ⟨t, b, rfl, _⟩ := h; rfl
  · obtain ⟨t, b, rfl, q0, q1, rfl, rfl⟩ := h
    have es : sg t b = (Int.gcd t b : Int) := if_neg (show ¬ b < 0 by omega)
    refine as_set 2 (ae_abs (ae_dat 0) (by rfl) m_abs) ?_ sc_law_lowest.nd
    refine as_set 3 (ae_dat 1) ?_ sc_law_lowest.nd
    refine as_frame (by first | (simp only [List.set_cons_zero, List.set_cons_succ]; rfl) | rfl) ?_
    refine as_while PassesOwn.never (fun m f => ∃ x y : Int, f = [.dat (.int t), .dat (.int b), .dat (.int x), .dat (.int y)] ∧ 0 ≤ x ∧ 0 ≤ y ∧ Int.gcd x y = Int.gcd t b ∧ m = y.toNat) (_) ⟨_, _, rfl, abs_nn t, by omega, gcd_abs1 t b, rfl⟩ (fun m f hp => ?_)
    obtain ⟨x, y, rfl, hx, hy, hg, rfl⟩ := hp
    refine ⟨_, _, (at_cmpA (ae_dat 3) ae_int c_gt), fun hc => ?_, fun hc => ?_⟩
    ·
      have hc := of_decide_eq_true hc
      refine as_par 2 3 (ad_cons (ae_dat 3) (ad_cons (ae_mod (ae_dat 2) (ae_dat 3) (by first | assumption | decide | omega)) ad_nil)) ?_ sc_law_lowest.nd
      refine as_nil ?_
      exact ⟨(x % y).toNat, by have := Int.emod_lt_of_pos x hc; omega, y, x % y, rfl, hy, Int.emod_nonneg _ (by omega), (gcd_step x y hx hc).trans hg, rfl⟩
    ·
      have hc := of_decide_eq_false hc
      have e := gcd_end hx (show y = 0 by omega)
      rw [hg] at e
      subst e
      exact as_ret (ae_tup (ad_cons (ae_fdiv (ae_dat 0) (ae_dat 2) (by rw [← es]; exact sg_ok (by omega) q1 _)) (ad_cons (ae_fdiv (ae_dat 1) (ae_dat 2) (by rw [← es]; exact sg_ok (by omega) q1 _)) ad_nil))) ⟨by simp [nrm, frD, es], (.dat (.dat .nil))⟩
/-! ### _law_names -/
abbrev st_law_names : Stmt := topS 15
theorem sc_law_names : FnScope ["_law_number", "_law_names_here"] ["_law_number"] (defScope st_law_names) := ⟨rfl, rfl, rfl, by decide +kernel, rfl, by decide +kernel, by decide +kernel⟩
def ct_law_names : Ct := fun ss ss' r => ∃ (v : Int), ss = [.dat (.int v)] ∧ ss' = ss ∧ r = .new (.list ((rotV (v % 8)).map sD))
theorem ok_law_names (F : FnP K "_law_names" st_law_names [] f fd) : FnOk P w K mg base CX0 1 f fd ["_law_number"] (Sp3 K ct_law_names nox) := by
  refine fn3 F sc_law_names (fun ss ss' r h => ?_) (fun cdv A outer s H E c ss ss' r hr h hw => ?_)
  · obtain ⟨v, rfl, _⟩ := h; rfl
  · obtain ⟨v, rfl, rfl, rfl⟩ := h
    have r8 : 0 ≤ v % 8 ∧ v % 8 < 8 := by omega
    refine as_set 1 (AE.val (ae_lst (ad_cons (ae_txt [97]) (ad_cons (ae_txt [98, 46, 99]) (ad_cons (ae_txt [98, 97]) (ad_cons (ae_txt [120, 46, 121, 46, 122]) (ad_cons (ae_txt [97, 98, 99, 100, 101, 102, 103, 104]) (ad_cons (ae_txt [99]) (ad_cons (ae_txt [98]) (ad_cons (ae_txt [97, 46, 97]) ad_nil)))))))))) ?_ sc_law_names.nd
    refine as_frame (by first | (simp only [List.set_cons_zero, List.set_cons_succ]; rfl) | rfl) ?_
    exact as_ret (ae_addL (ae_sliceL (ae_dat 1) (by rfl) (ao_some (ae_mod (ae_dat 0) ae_int (by first | assumption | decide | omega))) ao_none) (ae_sliceL (ae_dat 1) (by rfl) ao_none (ao_some (ae_mod (ae_dat 0) ae_int (by first | assumption | decide | omega)))) (hz := (by exact Nat.le_trans (Nat.add_le_add (cutD_len _ _ _) (cutD_len _ _ _)) (by decide)))) ⟨by exact congrArg (fun z => Res.new (.list z)) (rot_eq r8), (.dat .nil)⟩
/-! ### _law_net -/
abbrev st_law_net : Stmt := topS 16
theorem sc_law_net : FnScope ["_law_numbers_here", "_law_names_here", "_law_many", "_law_net_here", "_law_number", "_law_one", "_law_other", "_law_time"] ["_law_numbers_here", "_law_names_here", "_law_many"] (defScope st_law_net) := ⟨rfl, rfl, rfl, by decide +kernel, rfl, by decide +kernel, by decide +kernel⟩
def ct_law_net : Ct := fun ss ss' r => ∃ (vs : List Int) (nm : List (List Nat)) (m : Int), ss = [.dat (.list (vs.map .int)), .dat (.list (nm.map sD)), .dat (.int m)] ∧ nm.length = 8 ∧ 2 ≤ m ∧ m ≤ 8 ∧ vs.length ≤ 100 ∧ ss' = ss ∧ r = .new (.list ((netV nm m vs).map rnD))
theorem ok_law_net (F : FnP K "_law_net" st_law_net [] f fd) (F_law_lowest : FnT K mg P w base 1 "_law_lowest" ["_law_top", "_law_bottom"] ct_law_lowest nox []) : FnOk P w K mg base CX0 2 f fd ["_law_numbers_here", "_law_names_here", "_law_many"] (Sp3 K ct_law_net nox) := by
  refine fn3 F sc_law_net (fun ss ss' r h => ?_) (fun cdv A outer s H E c ss ss' r hr h hw => ?_)
  · obtain ⟨vs, nm, m, rfl, _⟩ := h; rfl
  · obtain ⟨vs, nm, m, rfl, q0, q1, q2, q3, rfl, rfl⟩ := h
    obtain ⟨_, _, G_law_lowest⟩ := F_law_lowest.fn (X := (cxOf CX0 P w K mg base ["_law_numbers_here", "_law_names_here", "_law_many", "_law_net_here", "_law_number", "_law_one", "_law_other", "_law_time"] "_law_net" (defScope st_law_net) f cdv A outer s H E).nox) rfl rfl rfl rfl rfl
    have mm := mm_b ⟨q1, q2⟩
    refine as_new 3 (ae_lst ad_nil) (fun l_law_net_here hw_law_net_here hn_law_net_here => ?_) sc_law_net.nd
    refine as_forL PassesOwn.never (fun k f => ∃ x4 x5 x6 x7, f = [.dat (.list (vs.map .int)), .dat (.list (nm.map sD)), .dat (.int m), .own l_law_net_here (.list ((netV nm m (vs.take k)).map rnD)), x4, x5, x6, x7]) (ae_dat 0) ⟨_, _, _, _, rfl⟩ (fun G k d f hk hp => ?_) (fun f hp => ?_)
    ·
      obtain ⟨x4, x5, x6, x7, rfl⟩ := hp
      obtain ⟨v, hv, rfl⟩ := mapI_inv hk
      have hkl := (List.getElem?_eq_some_iff.mp hv).1
      have a0 := Int.emod_nonneg v (show m ≠ 0 by omega)
      have a1 := Int.emod_lt_of_pos v (show 0 < m by omega)
      have b0 := Int.emod_nonneg (v % m + 1 + v / m % (m - 1)) (show m ≠ 0 by omega)
      have b1 := Int.emod_lt_of_pos (v % m + 1 + v / m % (m - 1)) (show 0 < m by omega)
      refine ⟨_, (ag_name 4 sc_law_net.nd), ?_⟩
      refine as_set 5 (ae_mod (ae_dat 4) (ae_dat 2) (by first | decide | omega)) ?_ sc_law_net.nd
      refine as_set 6 (ae_mod (ae_add (ae_add (ae_dat 5) ae_int) (ae_mod (ae_div (ae_dat 4) (ae_dat 2) (by first | exact divS (by decide) (by decide) | exact divS (by omega) (by omega))) (ae_sub (ae_dat 2) ae_int) (by first | decide | omega))) (ae_dat 2) (by first | decide | omega)) ?_ sc_law_net.nd
      refine as_set 7 (ae_div (ae_dat 4) (ae_mul (ae_dat 2) (ae_sub (ae_dat 2) ae_int) (by exact mulL (by omega))) (by first | exact divS (by decide) (by decide) | exact divS (by omega) (by omega))) ?_ sc_law_net.nd
      refine as_frame (by first | (simp only [List.set_cons_zero, List.set_cons_succ]; rfl) | rfl) ?_
      refine as_app 3 (ae_own 3) (ae_tup (ad_cons (ae_ixL (ae_dat 1) (ae_dat 5) (by first | exact at_map sD nm _ [] a0 (by omega) | exact at_map sD nm _ [] b0 (by omega))) (ad_cons (ae_ixL (ae_dat 1) (ae_dat 6) (by first | exact at_map sD nm _ [] a0 (by omega) | exact at_map sD nm _ [] b0 (by omega))) (ad_cons (ae_call G_law_lowest (hr.mono (by decide)) pass0 (ad_cons (ae_add ae_int (ae_mod (ae_dat 7) ae_int (by first | decide | omega))) (ad_cons (ae_add ae_int (ae_mod (ae_div (ae_dat 7) ae_int (by first | exact divS (by decide) (by decide) | exact divS (by omega) (by omega))) ae_int (by first | decide | omega))) ad_nil)) ⟨_, _, rfl, (by omega), (by exact bd_le (k := 100) (by omega) (by decide)), rfl, rfl⟩) ad_nil)))) (by rw [List.length_map, netV, List.length_map, List.length_take]; omega) ?_
      refine as_nil ?_
      exact ⟨_, _, _, _, by rw [net_s hv]; rfl⟩
    ·
      simp only [List.length_map] at hp
      obtain ⟨x4, x5, x6, x7, rfl⟩ := hp
      exact as_retO 3 (ae_own 3) ⟨by rw [List.take_length], (.dat (.dat (.dat .nil)))⟩ hw_law_net_here
/-! ### _law_come_to -/
abbrev st_law_come_to : Stmt := topS 17
theorem sc_law_come_to : FnScope ["_law_net_here", "_law_pushed", "_law_runs", "_law_come", "_law_grown", "_law_number", "_law_one", "_law_other"] ["_law_net_here", "_law_pushed", "_law_runs"] (defScope st_law_come_to) := ⟨rfl, rfl, rfl, by decide +kernel, rfl, by decide +kernel, by decide +kernel⟩
def ct_law_come_to : Ct := fun ss ss' r => ∃ (net : List Rn) (pushed : List (List Nat)) (runs : List Int), ss = [.dat (.list (net.map rnD)), .dat (.list (pushed.map sD)), .dat (.list (runs.map .int))] ∧ net.length ≤ 100 ∧ pushed.length ≤ 100 ∧ ss' = ss ∧ r = .new (.list ((comeV net runs pushed).map sD))
theorem ok_law_come_to (F : FnP K "_law_come_to" st_law_come_to [] f fd) (m_list : mg "list" = none) (m_range : mg "range" = none) (m_len : mg "len" = none) (m_int : mg "int" = none) : FnOk P w K mg base CX0 1 f fd ["_law_net_here", "_law_pushed", "_law_runs"] (Sp3 K ct_law_come_to nox) := by
  refine fn3 F sc_law_come_to (fun ss ss' r h => ?_) (fun cdv A outer s H E c ss ss' r hr h hw => ?_)
  · obtain ⟨net, pushed, runs, rfl, _⟩ := h; rfl
  · obtain ⟨net, pushed, runs, rfl, q0, q1, rfl, rfl⟩ := h
    refine as_new 3 (ae_list (ae_dat 1) (by rfl) (by rfl) m_list) (fun l_law_come hw_law_come hn_law_come => ?_) sc_law_come_to.nd
    refine as_set 4 ae_bl ?_ sc_law_come_to.nd
    refine as_frame (by first | (simp only [List.set_cons_zero, List.set_cons_succ]; rfl) | rfl) ?_
    refine as_while PassesOwn.never (fun m f => ∃ (cs : List (List Nat)) (g : Bool) (j : Nat) (x5 x6 x7 : Slot), f = [.dat (.list (net.map rnD)), .dat (.list (pushed.map sD)), .dat (.list (runs.map .int)), .own l_law_come (.list (cs.map sD)), .dat (.bool g), x5, x6, x7] ∧ LpS net runs pushed cs g j ∧ m = lack net cs + (if g = true then 1 else 0)) (_) ⟨pushed, true, 0, _, _, _, rfl, LpS.init _ _ _, rfl⟩ (fun m f hp => ?_)
    obtain ⟨cs, g, j, x5, x6, x7, rfl, hl, rfl⟩ := hp
    refine ⟨_, _, (at_val (ae_dat 4)), fun hc => ?_, fun hc => ?_⟩
    ·
      subst hc
      have lc := hl.len q0 q1
      refine as_no 5 ?_
      refine as_no 6 ?_
      refine as_no 7 ?_
      refine as_set 4 ae_bl ?_ sc_law_come_to.nd
      refine as_forR PassesOwn.never (fun k f => ∃ (c2 : List (List Nat)) (g : Bool) (x5 x6 x7 : Slot), f = [.dat (.list (net.map rnD)), .dat (.list (pushed.map sD)), .dat (.list (runs.map .int)), .own l_law_come (.list (c2.map sD)), .dat (.bool g), x5, x6, x7] ∧ GoS net runs cs c2 g k) (ad_cons (ae_len (ae_dat 0) (by rfl) (by first | rfl | decide) (by rfl) m_len) ad_nil) (by rw [List.length_map]; omega) ⟨cs, false, _, _, _, rfl, GoS.init _ _ _⟩ (fun G k d f hk hp => ?_) (fun f hp => ?_) m_range
      ·
        obtain ⟨hk, rfl⟩ := rngD_inv hk
        obtain ⟨c2, g, x5, x6, x7, rfl, ht⟩ := hp
        have hk3 : k < net.length := by have e := List.length_map (f := rnD) (as := net); omega
        obtain ⟨q, hq⟩ : ∃ q, net[k]? = some q := ⟨net[k]'hk3, List.getElem?_eq_getElem hk3⟩
        have lp := passK_len net runs cs k
        rw [← ht.eq] at lp
        refine ⟨_, (ag_name 5 sc_law_come_to.nd), ?_⟩
        rw [Int.zero_add]
        refine as_asg (AE.is (ae_sliceT (ae_ixL (ae_dat 0) (ae_dat 5) (by first | exact at_two q _ | exact at_mapR hq)) ao_none (ao_some ae_int)) (show _ = Res.val (.tuple [sD q.1, sD q.2.1]) from rfl)) (ag_tup (ags_cons (ag_name 6 sc_law_come_to.nd) (ags_cons (ag_name 7 sc_law_come_to.nd) ags_nil))) ?_
        refine as_frame (by first | (simp only [List.set_cons_zero, List.set_cons_succ]; rfl) | rfl) ?_
        refine as_if (AW.at (aw_and (at_cmpA (ae_dat 5) (ae_dat 2) (c_ninI (by rfl))) (fun hb0 => (aw_and1 (at_cmpA (ae_cmpA (ae_dat 6) (ae_own 3) (c_inL (by rfl))) (ae_cmpA (ae_dat 7) (ae_own 3) (c_inL (by rfl))) c_neB))) (fun _ => rfl))) (fun h => ?_) (fun h => ?_)
        ·
          refine as_app 3 (ae_own 3) (ae_ixL (AE.val (ae_lst (ad_cons (ae_dat 6) (ad_cons (ae_dat 7) ad_nil)))) (ae_int1 (ae_cmpA (ae_dat 6) (ae_own 3) (c_inL (by rfl))) (by rfl) m_int) (by first | exact at_two q _ | exact at_mapR hq)) (by rw [List.length_map]; omega) ?_
          refine as_set 4 ae_bl ?_ sc_law_come_to.nd
          refine as_nil ?_
          refine as_nil ?_
          first | exact ⟨c2, g, _, _, _, rfl, ht.stay hq h⟩ | exact ⟨c2 ++ [if decide (q.1 ∈ c2) = true then q.2.1 else q.1], true, _, _, _, by rw [List.map_append]; rfl, ht.grow hq h⟩
        ·
          refine as_nil ?_
          refine as_nil ?_
          first | exact ⟨c2, g, _, _, _, rfl, ht.stay hq h⟩ | exact ⟨c2 ++ [if decide (q.1 ∈ c2) = true then q.2.1 else q.1], true, _, _, _, by rw [List.map_append]; rfl, ht.grow hq h⟩
      ·
        simp only [List.length_map, Int.toNat_natCast] at hp
        obtain ⟨c2, g, x5, x6, x7, rfl, ht⟩ := hp
        obtain ⟨hl2, hlt2⟩ := hl.next ht
        refine as_nil ?_
        exact ⟨_, hlt2, c2, g, j + 1, _, _, _, rfl, hl2, rfl⟩
    ·
      subst hc
      have fin := hl.fin
      refine as_frame (by first | (simp only [List.set_cons_zero, List.set_cons_succ]; rfl) | rfl) ?_
      exact as_retO 3 (ae_own 3) ⟨by rw [fin], (.dat (.dat (.dat .nil)))⟩ hw_law_come
/-! ### _law_whole -/
abbrev st_law_whole : Stmt := topS 18
theorem sc_law_whole : FnScope ["_law_thing"] ["_law_thing"] (defScope st_law_whole) := ⟨rfl, rfl, rfl, by decide +kernel, rfl, by decide +kernel, by decide +kernel⟩
def ct_law_whole : Ct := fun ss ss' r => ∃ (d : PyData), ss = [.dat d] ∧ ss' = ss ∧ r = .val (.bool (isW d))
theorem ok_law_whole (F : FnP K "_law_whole" st_law_whole [] f fd) (m_isinstance : mg "isinstance" = none) (m_int : mg "int" = none) (m_bool : mg "bool" = none) : FnOk P w K mg base CX0 1 f fd ["_law_thing"] (Sp3 K ct_law_whole nox) := by
  refine fn3 F sc_law_whole (fun ss ss' r h => ?_) (fun cdv A outer s H E c ss ss' r hr h hw => ?_)
  · obtain ⟨d, rfl, _⟩ := h; rfl
  · obtain ⟨d, rfl, rfl, rfl⟩ := h
    exact as_ret (ae_and (ae_isi (T' := "int") (tn := "int") (ae_dat 0) (by first | rfl | exact kit_int _) (by rfl) m_isinstance (by rfl) m_int (by decide +kernel)) (fun hb0 => (ae_one (ae_not (ae_isi (T' := "bool") (tn := "bool") (ae_dat 0) (by first | rfl | exact kit_bool _) (by rfl) m_isinstance (by rfl) m_bool (by decide +kernel))))) (fun _ => rfl)) ⟨by cases d <;> rfl, (.dat .nil)⟩
/-! ### _law_ends -/
abbrev st_law_ends : Stmt := topS 19
theorem sc_law_ends : FnScope ["_law_net_here", "_law_posts", "_law_way", "_law_number", "_law_behind", "_law_post"] ["_law_net_here", "_law_posts", "_law_way"] (defScope st_law_ends) := ⟨rfl, rfl, rfl, by decide +kernel, rfl, by decide +kernel, by decide +kernel⟩
def ct_law_ends : Ct := fun ss ss' r => ∃ (net : List Rn) (L : List (List Nat)) (ks : List Nat), ss = [.dat (.list (net.map rnD)), .dat (.list (L.map sD)), .dat (wyD ks)] ∧ L.length ≤ 1000 ∧ (∀ k ∈ ks, k < net.length) ∧ ss' = ss ∧ r = .val (.list ((endsE net L ks).map sD))
theorem ok_law_ends (F : FnP K "_law_ends" st_law_ends [] f fd) (m_int : mg "int" = none) : FnOk P w K mg base CX0 1 f fd ["_law_net_here", "_law_posts", "_law_way"] (Sp3 K ct_law_ends nox) := by
  refine fn3 F sc_law_ends (fun ss ss' r h => ?_) (fun cdv A outer s H E c ss ss' r hr h hw => ?_)
  · obtain ⟨net, L, ks, rfl, _⟩ := h; rfl
  · obtain ⟨net, L, ks, rfl, q0, q1, rfl, rfl⟩ := h
    refine as_forL PassesOwn.never (fun k f => ∃ x3 x4 x5 : Slot, f = [.dat (.list (net.map rnD)), .dat (.list ((endsE net L (ks.take k)).map sD)), .dat (wyD ks), x3, x4, x5]) (ae_dat 2) ⟨_, _, _, rfl⟩ (fun G k d f hk hp => ?_) (fun f hp => ?_)
    ·
      obtain ⟨x3, x4, x5, rfl⟩ := hp
      obtain ⟨j, hj, rfl⟩ := mapN_inv hk
      have jl := q1 j (List.mem_of_getElem? hj)
      have aj := at_net jl
      have le := endsE_len net (ks.take k) L
      have es : endsE net L (ks.take (k + 1)) = stepE net (endsE net L (ks.take k)) j := by unfold endsE; rw [List.take_succ, hj, List.foldl_append]; rfl
      generalize endsE net L (ks.take k) = M at *
      refine ⟨_, (ag_name 3 sc_law_ends.nd), ?_⟩
      refine as_no 4 ?_
      refine as_no 5 ?_
      refine as_new 4 (ae_lst ad_nil) (fun l_law_behind hw_law_behind hn_law_behind => ?_) sc_law_ends.nd
      refine as_forL PassesOwn.never (fun k f => ∃ x5 : Slot, f = [.dat (.list (net.map rnD)), .dat (.list (M.map sD)), .dat (wyD ks), .dat (.int (j : Int)), .own l_law_behind (.list ((stepE net (M.take k) j).map sD)), x5]) (ae_dat 1) ⟨_, rfl⟩ (fun G k d f hk hp => ?_) (fun f hp => ?_)
      ·
        obtain ⟨x5, rfl⟩ := hp
        obtain ⟨p, hpk, rfl⟩ := mapS_inv hk
        have sl := stepE_len net (M.take k) j
        rw [List.length_take] at sl
        have ss := stepE_s (net := net) (j := j) hpk
        refine ⟨_, (ag_name 5 sc_law_ends.nd), ?_⟩
        refine as_if (at_cmpA (ae_dat 5) (ae_sliceT (ae_ixL (ae_dat 0) (ae_dat 3) (by first | exact aj | exact at_there (net.getD j rn0) _)) ao_none (ao_some ae_int)) (c_inL (ls := [(net.getD j rn0).1, (net.getD j rn0).2.1]) (by rfl))) (fun h3 => ?_) (fun h3 => ?_)
        ·
          have hin : p ∈ [(net.getD j rn0).1, (net.getD j rn0).2.1] := of_decide_eq_true h3
          refine as_app 4 (ae_own 4) (ae_ixT (ae_ixL (ae_dat 0) (ae_dat 3) (by first | exact aj | exact at_there (net.getD j rn0) _)) (ae_int1 (ae_cmpA (ae_ixT (ae_ixL (ae_dat 0) (ae_dat 3) (by first | exact aj | exact at_there (net.getD j rn0) _)) ae_int (by rfl)) (ae_dat 5) c_eqX) (by rfl) m_int) (by first | exact aj | exact at_there (net.getD j rn0) _)) (by rw [List.length_map]; omega) ?_
          refine as_nil ?_
          refine as_nil ?_
          first | exact ⟨_, by rw [ss, if_pos hin, List.map_append]; rfl⟩ | exact ⟨_, by rw [ss, if_neg hin]; rfl⟩
        ·
          have hin : p ∉ [(net.getD j rn0).1, (net.getD j rn0).2.1] := of_decide_eq_false h3
          refine as_nil ?_
          refine as_nil ?_
          first | exact ⟨_, by rw [ss, if_pos hin, List.map_append]; rfl⟩ | exact ⟨_, by rw [ss, if_neg hin]; rfl⟩
      ·
        obtain ⟨x5, rfl⟩ := hp
        rw [List.length_map, List.take_length]
        refine as_freeze 4 ?_
        refine as_set 1 (ae_dat 4) ?_ sc_law_ends.nd
        refine as_nil ?_
        exact ⟨_, _, _, by rw [es]; rfl⟩
    ·
      obtain ⟨x3, x4, x5, rfl⟩ := hp
      rw [List.length_map, List.take_length]
      refine as_frame (by first | (simp only [List.set_cons_zero, List.set_cons_succ]; rfl) | rfl) ?_
      exact as_ret (ae_dat 1) ⟨by rfl, (.dat (.dat (.dat .nil)))⟩
/-! ### _law_right -/
abbrev st_law_right : Stmt := topS 20
theorem sc_law_right : FnScope ["_law_net_here", "_law_pushed", "_law_bell", "_law_found", "_law_cut", "_law_ways", "_law_used", "_law_way", "_law_number"] ["_law_net_here", "_law_pushed", "_law_bell", "_law_found"] (defScope st_law_right) := ⟨rfl, rfl, rfl, by decide +kernel, rfl, by decide +kernel, by decide +kernel⟩
def ct_law_right : Ct := fun ss ss' r => ∃ (net : List Rn) (pu : List (List Nat)) (b : List Nat) (cut : List Nat) (W : List (List Nat)), ss = [.dat (.list (net.map rnD)), .dat (.list (pu.map sD)), .dat (sD b), .dat (.tuple [wyD cut, .list (W.map wyD)])] ∧ net.length ≤ 60 ∧ pu.length ≤ 10 ∧ b ∉ pu ∧ LcOk net pu b cut W ∧ ss' = ss ∧ r = .val (.bool true)
theorem ok_law_right (F : FnP K "_law_right" st_law_right [] f fd) (F_law_come_to : FnT K mg P w base 1 "_law_come_to" ["_law_net_here", "_law_pushed", "_law_runs"] ct_law_come_to nox []) (F_law_ends : FnT K mg P w base 1 "_law_ends" ["_law_net_here", "_law_posts", "_law_way"] ct_law_ends nox []) (F_law_whole : FnT K mg P w base 1 "_law_whole" ["_law_thing"] ct_law_whole nox []) (m_isinstance : mg "isinstance" = none) (m_tuple : mg "tuple" = none) (m_len : mg "len" = none) (m_list : mg "list" = none) (m_sorted : mg "sorted" = none) (m_set : mg "set" = none) : FnOk P w K mg base CX0 2 f fd ["_law_net_here", "_law_pushed", "_law_bell", "_law_found"] (Sp3 K ct_law_right nox) := by
  refine fn3 F sc_law_right (fun ss ss' r h => ?_) (fun cdv A outer s H E c ss ss' r hr h hw => ?_)
  · obtain ⟨net, pu, b, cut, W, rfl, _⟩ := h; rfl
  · obtain ⟨net, pu, b, cut, W, rfl, q0, q1, q2, q3, rfl, rfl⟩ := h
    obtain ⟨_, _, G_law_come_to⟩ := F_law_come_to.fn (X := (cxOf CX0 P w K mg base ["_law_net_here", "_law_pushed", "_law_bell", "_law_found", "_law_cut", "_law_ways", "_law_used", "_law_way", "_law_number"] "_law_right" (defScope st_law_right) f cdv A outer s H E).nox) rfl rfl rfl rfl rfl
    obtain ⟨_, _, G_law_ends⟩ := F_law_ends.fn (X := (cxOf CX0 P w K mg base ["_law_net_here", "_law_pushed", "_law_bell", "_law_found", "_law_cut", "_law_ways", "_law_used", "_law_way", "_law_number"] "_law_right" (defScope st_law_right) f cdv A outer s H E).nox) rfl rfl rfl rfl rfl
    obtain ⟨_, _, G_law_whole⟩ := F_law_whole.fn (X := (cxOf CX0 P w K mg base ["_law_net_here", "_law_pushed", "_law_bell", "_law_found", "_law_cut", "_law_ways", "_law_used", "_law_way", "_law_number"] "_law_right" (defScope st_law_right) f cdv A outer s H E).nox) rfl rfl rfl rfl rfl
    refine as_frame (f1 := [.dat (.list (net.map rnD)), .dat (.list (pu.map sD)), .dat (sD b), .dat (.tuple [wyD cut, .list (W.map wyD)]), .no, .no, .no, .no, .no]) (by rfl) ?_
    have ff := q3.fewf
    have cl : cut.length ≤ 60 := Nat.le_trans q3.clen q0
    have wl : W.length ≤ 60 := by rw [q3.size]; exact cl
    refine as_if (AW.at (aw_orF (at_is (at_not (at_val (ae_isi (T' := "tuple") (tn := "tuple") (ae_dat 3) (by first | rfl | exact kit_tuple _) (by rfl) m_isinstance (by rfl) m_tuple (by decide +kernel)))) (by rfl)) (aw_orF (at_is (at_cmpA (ae_len (ae_dat 3) (by rfl) (by first | rfl | decide) (by rfl) m_len) ae_int c_neI) (by rfl)) (aw_or1 (at_is (at_not (at_val (ae_isi (T' := "list") (tn := "list") (ae_ixT (ae_dat 3) ae_int (by rfl)) (by first | rfl | exact kit_list _) (by rfl) m_isinstance (by rfl) m_list (by decide +kernel)))) (by rfl)))))) (fun h0 => ?_) (fun h0 => ?_)
    ·
      cases h0
    ·
      refine as_nil ?_
      refine as_asg (ae_dat 3) (ag_tup (ags_cons (ag_name 4 sc_law_right.nd) (ags_cons (ag_name 5 sc_law_right.nd) ags_nil))) ?_
      rw [wyD_ci]
      refine as_if (AW.at (aw_orF (at_is (at_not (at_val (ae_isi (T' := "list") (tn := "list") (ae_dat 5) (by first | rfl | exact kit_list _) (by rfl) m_isinstance (by rfl) m_list (by decide +kernel)))) (by rfl)) (aw_orF (at_is (at_cmpA (ae_len (ae_dat 5) (by rfl) (by first | rfl | decide) (by rfl) m_len) (ae_len (ae_dat 4) (by rfl) (by first | rfl | decide) (by rfl) m_len) c_neI) (by exact len_ne q3)) (aw_or1 (at_is (at_cmpA (ae_dat 4) (AE.val (ae_sortSetI (ns := ciI cut) (by rfl) (ae_dat 4) (by rfl) (by unfold ciI; rw [List.length_map]; omega) (by exact ci_asc q3.asc) (by rfl) m_sorted (by rfl) m_set)) (c_neD hr.units (by first | exact (ints_fl _).shaped | rfl) (by first | exact (ints_fl _).shaped | rfl))) (by first | (rw [(ints_fl (ciI cut)).refl]; rfl) | exact congrArg (fun z => !z) (ints_fl (ciI cut)).refl)))))) (fun h3 => ?_) (fun h3 => ?_)
      ·
        cases h3
      ·
        refine as_nil ?_
        refine as_set 6 (AE.val (ae_lst ad_nil)) ?_ sc_law_right.nd
        refine as_frame (by first | (simp only [List.set_cons_zero, List.set_cons_succ]; rfl) | rfl) ?_
        refine as_forL PassesOwn.never (fun k f => ∃ x7 : Slot, f = [.dat (.list (net.map rnD)), .dat (.list (pu.map sD)), .dat (sD b), .dat (.tuple [.list ((ciI cut).map .int), .list (W.map wyD)]), .dat (.list ((ciI cut).map .int)), .dat (.list (W.map wyD)), .dat (.list ((ciI (W.take k).flatten).map .int)), x7, .no]) (ae_dat 5) ⟨_, rfl⟩ (fun G k d f hk hp => ?_) (fun f hp => ?_)
        ·
          obtain ⟨x7, rfl⟩ := hp
          obtain ⟨ks, hks, rfl⟩ := mapW_inv hk
          have kne := ways_ne q3 q2 (List.mem_of_getElem? hks)
          have tl := take_len (W := W) k
          have kl := flat_mem (List.mem_of_getElem? hks)
          rw [wyD_ci]
          refine ⟨_, (ag_name 7 sc_law_right.nd), ?_⟩
          refine as_if (AW.at (aw_orF (at_is (at_not (at_val (ae_isi (T' := "list") (tn := "list") (ae_dat 7) (by first | rfl | exact kit_list _) (by rfl) m_isinstance (by rfl) m_list (by decide +kernel)))) (by rfl)) (aw_or1 (at_is (at_cmpA (ae_dat 7) (AE.val (ae_lst ad_nil)) (c_eqD hr.units (by first | exact (ints_fl _).shaped | rfl) (by first | exact (ints_fl _).shaped | rfl))) (by exact ci_nil kne))))) (fun h7 => ?_) (fun h7 => ?_)
          ·
            cases h7
          ·
            refine as_nil ?_
            refine as_set 6 (AE.val (ae_addV (ae_dat 6) (ae_dat 7) (hz := (by rw [List.length_map, List.length_map]; unfold ciI; rw [List.length_map, List.length_map]; omega)))) ?_ sc_law_right.nd
            refine as_nil ?_
            exact ⟨_, by rw [ci_take hks, List.map_append]; rfl⟩
        ·
          obtain ⟨x7, rfl⟩ := hp
          rw [List.length_map, List.take_length]
          refine as_forL PassesOwn.never (fun k f => ∃ x7 x8 : Slot, f = [.dat (.list (net.map rnD)), .dat (.list (pu.map sD)), .dat (sD b), .dat (.tuple [.list ((ciI cut).map .int), .list (W.map wyD)]), .dat (.list ((ciI cut).map .int)), .dat (.list (W.map wyD)), .dat (.list ((ciI W.flatten).map .int)), x7, x8]) (AE.val (ae_addV (ae_dat 4) (ae_dat 6) (hz := (by rw [List.length_map, List.length_map]; unfold ciI; rw [List.length_map, List.length_map]; omega)))) ⟨_, _, rfl⟩ (fun G k d f hk hp => ?_) (fun f hp => ?_)
          ·
            obtain ⟨x7, x8, rfl⟩ := hp
            obtain ⟨j, rfl, hj⟩ := num_of q3 hk
            refine ⟨_, (ag_name 8 sc_law_right.nd), ?_⟩
            refine as_if (AW.at (aw_orF (at_is (at_not (at_val (ae_call G_law_whole (hr.mono (by decide)) pass0 (ad_cons (ae_dat 8) ad_nil) ⟨_, rfl, rfl, rfl⟩))) (by rfl)) (aw_or1 (at_is (at_not (at_chain op_le op_lt ae_int (ae_dat 8) (ae_len (ae_dat 0) (by rfl) (by first | rfl | decide) (by rfl) m_len))) (by first | (rw [decide_eq_true (show (0 : Int) ≤ (j : Int) by omega), decide_eq_true (by rw [List.length_map]; omega)]; done) | (rw [decide_eq_true (show (0 : Int) ≤ (j : Int) by omega), decide_eq_true (by rw [List.length_map]; omega)]; rfl)))))) (fun h11 => ?_) (fun h11 => ?_)
            ·
              cases h11
            ·
              refine as_nil ?_
              refine as_nil ?_
              exact ⟨_, _, rfl⟩
          ·
            obtain ⟨x7, x8, rfl⟩ := hp
            refine as_if (AW.at (aw_orF (at_is (at_cmpA (ae_lenSetI (ns := ciI W.flatten) (ae_dat 6) (by rfl) (by exact ci_nd q3.apart) (by unfold ciI; rw [List.length_map]; omega) (by rfl) m_len (by rfl) m_set) (ae_len (ae_dat 6) (by rfl) (by first | rfl | decide) (by rfl) m_len) c_lt) (by exact decide_eq_false (by rw [List.length_map]; omega))) (aw_or1 (at_is (at_cmpA (ae_dat 2) (AE.val (ae_call G_law_come_to (hr.mono (by decide)) pass0 (ad_cons (ae_dat 0) (ad_cons (ae_dat 1) (ad_cons (ae_dat 4) ad_nil))) ⟨_, _, _, rfl, (by omega), (by omega), rfl, rfl⟩)) (c_inL (by rfl))) (by exact not_come q3))))) (fun h13 => ?_) (fun h13 => ?_)
            ·
              cases h13
            ·
              refine as_nil ?_
              refine as_forL PassesOwn.never (fun k f => ∃ x7 x8 : Slot, f = [.dat (.list (net.map rnD)), .dat (.list (pu.map sD)), .dat (sD b), .dat (.tuple [.list ((ciI cut).map .int), .list (W.map wyD)]), .dat (.list ((ciI cut).map .int)), .dat (.list (W.map wyD)), .dat (.list ((ciI W.flatten).map .int)), x7, x8]) (ae_dat 5) ⟨_, _, rfl⟩ (fun G k d f hk hp => ?_) (fun f hp => ?_)
              ·
                obtain ⟨x7, x8, rfl⟩ := hp
                obtain ⟨ks, hks, rfl⟩ := mapW_inv hk
                obtain ⟨p, hp2, pw⟩ := q3.ways ks (List.mem_of_getElem? hks)
                have hin := pw_ends pw (ssN_mem.mpr hp2)
                have inn := pw_inn pw
                have sl := ssN_len pu
                refine ⟨_, (ag_name 7 sc_law_right.nd), ?_⟩
                refine as_if (at_cmpA (ae_dat 2) (ae_call G_law_ends (hr.mono (by decide)) pass0 (ad_cons (ae_dat 0) (ad_cons (AE.val (ae_sortSet (ls := pu) (by rfl) (ae_dat 1) (by rfl) (by omega) (by rfl) m_sorted (by rfl) m_set)) (ad_cons (ae_dat 7) ad_nil))) ⟨_, _, _, rfl, (by omega), (by exact inn), rfl, rfl⟩) (c_ninL (by rfl))) (fun h16 => ?_) (fun h16 => ?_)
                ·
                  rw [decide_eq_true hin] at h16; cases h16
                ·
                  refine as_nil ?_
                  refine as_nil ?_
                  exact ⟨_, _, rfl⟩
              ·
                obtain ⟨x7, x8, rfl⟩ := hp
                exact as_ret ae_bl ⟨by rfl, (.dat (.dat (.dat (.dat .nil))))⟩
/-! ### _law_no_bell -/
abbrev st_law_no_bell : Stmt := topS 21
theorem sc_law_no_bell : FnScope ["_law_net_here", "_law_pushed", "_law_bell", "_law_kinds", "e"] ["_law_net_here", "_law_pushed", "_law_bell"] (defScope st_law_no_bell) := ⟨rfl, rfl, rfl, by decide +kernel, rfl, by decide +kernel, by decide +kernel⟩
def ct_law_no_bell : Ct := fun ss ss' r => ∃ (net : List Rn) (pu : List (List Nat)) (b : List Nat), ss = [.dat (.list (net.map rnD)), .dat (.list (pu.map sD)), .dat (sD b)] ∧ b ∈ pu ∧ ss' = ss ∧ r = .val (.bool true)
theorem ok_law_no_bell (F : FnP K "_law_no_bell" st_law_no_bell [] f fd) (F_least_cut : FnTX K mg P w base 3 "least_cut" ["net", "pushed", "bell"] ct_least_cut (cx_least_cut K) []) (m_isinstance : mg "isinstance" = none) (m_ValueError : mg "ValueError" = none) (t_TileError : mg "TileError" = some (.ref (He.ga K "TileError"))) (e_NoBell_TileError : PySem.W.exmOne K (.ref (He.ga K "NoBell")) (.ref (He.ga K "TileError")) = some true) (xc_NoBell : ExcC K (He.ga K "NoBell")) (i_NoBell_NoBell : ∃ D, mg "NoBell" = some (.ref D) ∧ PySem.W.kitOne K (.ref (He.ga K "NoBell")) (.ref D) = some true) (i_NoBell_ValueError : PySem.W.kitOne K (.ref (He.ga K "NoBell")) (.type "ValueError") = some true) (i_NoBell_NoPost : ∃ D, mg "NoPost" = some (.ref D) ∧ PySem.W.kitOne K (.ref (He.ga K "NoBell")) (.ref D) = some false) : FnOk P w K mg base CX0 4 f fd ["_law_net_here", "_law_pushed", "_law_bell"] (Sp3 K ct_law_no_bell nox) := by
  refine fn3 F sc_law_no_bell (fun ss ss' r h => ?_) (fun cdv A outer s H E c ss ss' r hr h hw => ?_)
  · obtain ⟨net, pu, b, rfl, _⟩ := h; rfl
  · obtain ⟨net, pu, b, rfl, q0, rfl, rfl⟩ := h
    obtain ⟨_, _, G_least_cut⟩ := F_least_cut.fn (X := (cxOf CX0 P w K mg base ["_law_net_here", "_law_pushed", "_law_bell", "_law_kinds", "e"] "_law_no_bell" (defScope st_law_no_bell) f cdv A outer s H E).nox) rfl rfl rfl rfl rfl
    refine as_new 3 (ae_lst ad_nil) (fun l_law_kinds hw_law_kinds hn_law_kinds => ?_) sc_law_no_bell.nd
    refine as_frame (by first | (simp only [List.set_cons_zero, List.set_cons_succ]; rfl) | rfl) ?_
    refine as_tryR 4 t_TileError e_NoBell_TileError (fun W pn xe tk hW => ?_) (fun l_e oe pn hz hf => ?_) sc_law_no_bell.nd
    · exact as_exprE (re_call tk G_least_cut.tr (hr.mono (by decide)) (ad_cons (ae_dat 0) (ad_cons (ae_dat 1) (ad_cons (ae_dat 2) ad_nil))) ⟨rfl, _, _, _, rfl, q0⟩ hW)
    ·
      refine as_new 3 (ae_lst (ad_cons (ae_isE 4 xc_NoBell hz hf List.mem_cons_self i_NoBell_NoBell m_isinstance) (ad_cons (ae_isEb 4 xc_NoBell hz hf List.mem_cons_self i_NoBell_ValueError m_isinstance m_ValueError) (ad_cons (ae_isE 4 xc_NoBell hz hf List.mem_cons_self i_NoBell_NoPost m_isinstance) ad_nil)))) (fun l_law_kinds hw_law_kinds hn_law_kinds => ?_) sc_law_no_bell.nd
      refine as_nil ?_
      refine as_freeze 3 ?_
      exact as_ret (ae_cmpA (ae_dat 3) (AE.val (ae_lst (ad_cons ae_bl (ad_cons ae_bl (ad_cons ae_bl ad_nil))))) (c_eqD hr.units (by first | rfl | assumption) (by first | rfl | assumption))) ⟨by exact congrArg (fun b => Res.val (.bool b)) (by decide +kernel), (.dat (.dat (.dat .nil)))⟩
/-! ### law -/
abbrev st_law : Stmt := topS 22
theorem sc_law : FnScope ["_law_script", "_law_number", "_law_many", "_law_names_here", "_law_net_here", "_law_cell", "_law_pushed", "_law_one", "_law_bell", "_law_handed", "_law_found"] ["_law_script"] (defScope st_law) := ⟨rfl, rfl, rfl, by decide +kernel, rfl, by decide +kernel, by decide +kernel⟩
def ct_law : Ct := fun ss ss' r => ∃ (ns : List Int), ss = [.dat (scD ns)] ∧ ns.length ≤ 63 ∧ ss' = ss ∧ r = .val (.bool true)
theorem ok_law (F : FnP K "law" st_law [] f fd) (F_law_mixed : FnT K mg P w base 1 "_law_mixed" ["_law_cell", "_law_k"] ct_law_mixed nox []) (F_law_names : FnT K mg P w base 1 "_law_names" ["_law_number"] ct_law_names nox []) (F_law_net : FnT K mg P w base 2 "_law_net" ["_law_numbers_here", "_law_names_here", "_law_many"] ct_law_net nox []) (F_law_great : FnT K mg P w base 2 "_law_great" ["_law_cell"] ct_law_great nox []) (F_law_cell_at : FnT K mg P w base 1 "_law_cell_at" ["_law_script", "_law_k"] ct_law_cell_at nox []) (F_law_numbers : FnT K mg P w base 2 "_law_numbers" ["_law_script", "_law_first", "_law_many", "_law_size"] ct_law_numbers nox []) (F_law_digits : FnT K mg P w base 1 "_law_digits" ["_law_cell", "_law_many", "_law_size"] ct_law_digits nox []) (F_least_cut : FnTX K mg P w base 3 "least_cut" ["net", "pushed", "bell"] ct_least_cut (cx_least_cut K) []) (F_law_no_bell : FnT K mg P w base 4 "_law_no_bell" ["_law_net_here", "_law_pushed", "_law_bell"] ct_law_no_bell nox []) (F_law_right : FnT K mg P w base 2 "_law_right" ["_law_net_here", "_law_pushed", "_law_bell", "_law_found"] ct_law_right nox []) (m_list : mg "list" = none) : FnOk P w K mg base CX0 5 f fd ["_law_script"] (Sp3 K ct_law nox) := by
  refine fn3 F sc_law (fun ss ss' r h => ?_) (fun cdv A outer s H E c ss ss' r hr h hw => ?_)
  · obtain ⟨ns, rfl, _⟩ := h; rfl
  · obtain ⟨ns, rfl, q0, rfl, rfl⟩ := h
    obtain ⟨_, _, G_law_mixed⟩ := F_law_mixed.fn (X := (cxOf CX0 P w K mg base ["_law_script", "_law_number", "_law_many", "_law_names_here", "_law_net_here", "_law_cell", "_law_pushed", "_law_one", "_law_bell", "_law_handed", "_law_found"] "law" (defScope st_law) f cdv A outer s H E).nox) rfl rfl rfl rfl rfl
    obtain ⟨_, _, G_law_names⟩ := F_law_names.fn (X := (cxOf CX0 P w K mg base ["_law_script", "_law_number", "_law_many", "_law_names_here", "_law_net_here", "_law_cell", "_law_pushed", "_law_one", "_law_bell", "_law_handed", "_law_found"] "law" (defScope st_law) f cdv A outer s H E).nox) rfl rfl rfl rfl rfl
    obtain ⟨_, _, G_law_net⟩ := F_law_net.fn (X := (cxOf CX0 P w K mg base ["_law_script", "_law_number", "_law_many", "_law_names_here", "_law_net_here", "_law_cell", "_law_pushed", "_law_one", "_law_bell", "_law_handed", "_law_found"] "law" (defScope st_law) f cdv A outer s H E).nox) rfl rfl rfl rfl rfl
    obtain ⟨_, _, G_law_great⟩ := F_law_great.fn (X := (cxOf CX0 P w K mg base ["_law_script", "_law_number", "_law_many", "_law_names_here", "_law_net_here", "_law_cell", "_law_pushed", "_law_one", "_law_bell", "_law_handed", "_law_found"] "law" (defScope st_law) f cdv A outer s H E).nox) rfl rfl rfl rfl rfl
    obtain ⟨_, _, G_law_cell_at⟩ := F_law_cell_at.fn (X := (cxOf CX0 P w K mg base ["_law_script", "_law_number", "_law_many", "_law_names_here", "_law_net_here", "_law_cell", "_law_pushed", "_law_one", "_law_bell", "_law_handed", "_law_found"] "law" (defScope st_law) f cdv A outer s H E).nox) rfl rfl rfl rfl rfl
    obtain ⟨_, _, G_law_numbers⟩ := F_law_numbers.fn (X := (cxOf CX0 P w K mg base ["_law_script", "_law_number", "_law_many", "_law_names_here", "_law_net_here", "_law_cell", "_law_pushed", "_law_one", "_law_bell", "_law_handed", "_law_found"] "law" (defScope st_law) f cdv A outer s H E).nox) rfl rfl rfl rfl rfl
    obtain ⟨_, _, G_law_digits⟩ := F_law_digits.fn (X := (cxOf CX0 P w K mg base ["_law_script", "_law_number", "_law_many", "_law_names_here", "_law_net_here", "_law_cell", "_law_pushed", "_law_one", "_law_bell", "_law_handed", "_law_found"] "law" (defScope st_law) f cdv A outer s H E).nox) rfl rfl rfl rfl rfl
    obtain ⟨_, _, G_least_cut⟩ := F_least_cut.fn (X := (cxOf CX0 P w K mg base ["_law_script", "_law_number", "_law_many", "_law_names_here", "_law_net_here", "_law_cell", "_law_pushed", "_law_one", "_law_bell", "_law_handed", "_law_found"] "law" (defScope st_law) f cdv A outer s H E).nox) rfl rfl rfl rfl rfl
    obtain ⟨_, _, G_law_no_bell⟩ := F_law_no_bell.fn (X := (cxOf CX0 P w K mg base ["_law_script", "_law_number", "_law_many", "_law_names_here", "_law_net_here", "_law_cell", "_law_pushed", "_law_one", "_law_bell", "_law_handed", "_law_found"] "law" (defScope st_law) f cdv A outer s H E).nox) rfl rfl rfl rfl rfl
    obtain ⟨_, _, G_law_right⟩ := F_law_right.fn (X := (cxOf CX0 P w K mg base ["_law_script", "_law_number", "_law_many", "_law_names_here", "_law_net_here", "_law_cell", "_law_pushed", "_law_one", "_law_bell", "_law_handed", "_law_found"] "law" (defScope st_law) f cdv A outer s H E).nox) rfl rfl rfl rfl rfl
    refine as_frame (f1 := [.dat (scD ns), .no, .no, .no, .no, .no, .no, .no, .no, .no, .no]) (by rfl) ?_
    refine as_set 1 (ae_call G_law_mixed (hr.mono (by decide)) pass0 (ad_cons (ae_call G_law_cell_at (hr.mono (by decide)) pass0 (ad_cons (ae_dat 0) (ad_cons ae_int ad_nil)) ⟨_, _, rfl, (by decide), rfl, rfl⟩) (ad_cons ae_int ad_nil)) ⟨_, _, rfl, (by decide), (by decide), rfl, rfl⟩) ?_ sc_law.nd
    generalize mixV (cellV ns 0) 3 = nb at *
    have r8 : 0 ≤ nb / 6 % 8 ∧ nb / 6 % 8 < 8 := by omega
    refine as_set 2 (ae_add ae_int (ae_mod (ae_dat 1) ae_int (by decide))) ?_ sc_law.nd
    refine as_set 3 (AE.val (ae_call G_law_names (hr.mono (by decide)) pass0 (ad_cons (ae_div (ae_dat 1) ae_int (by first | assumption | exact divS (by decide) (by decide) | exact divS (by omega) (by omega))) ad_nil) ⟨_, rfl, rfl, rfl⟩)) ?_ sc_law.nd
    have rl := rot_len r8
    have rs := rot_sm r8
    generalize rotV (nb / 6 % 8) = nm at *
    refine as_frame (by first | (simp only [List.set_cons_zero, List.set_cons_succ]; rfl) | rfl) ?_
    refine as_set 4 (AE.val (ae_call G_law_net (hr.mono (by decide)) pass0 (ad_cons (AE.val (ae_call G_law_numbers (hr.mono (by decide)) pass0 (ad_cons (ae_dat 0) (ad_cons ae_int (ad_cons (ae_add ae_int (ae_mod (ae_div (ae_dat 1) ae_int (by first | assumption | exact divS (by decide) (by decide) | exact divS (by omega) (by omega))) ae_int (by decide))) (ad_cons ae_int ad_nil)))) ⟨_, _, _, _, rfl, (by first | decide | omega), (by first | decide | omega), (by first | decide | omega), (by first | decide | omega), (by first | decide | omega), (by first | decide | omega), rfl, rfl⟩)) (ad_cons (ae_dat 3) (ad_cons (ae_dat 2) ad_nil))) ⟨_, _, _, rfl, (by exact rl), (by omega), (by omega), (by rw [numsV_len]; omega), rfl, rfl⟩)) ?_ sc_law.nd
    have nl : (netV nm (2 + nb % 6) (numsV ns 1 (1 + nb / 48 % 24).toNat 6000)).length ≤ 24 := by rw [netV, List.length_map, numsV_len]; omega
    have nf := net_flat rs (2 + nb % 6) (numsV ns 1 (1 + nb / 48 % 24).toNat 6000)
    generalize netV nm (2 + nb % 6) (numsV ns 1 (1 + nb / 48 % 24).toNat 6000) = net at *
    refine as_set 5 (ae_call G_law_great (hr.mono (by decide)) pass0 (ad_cons (ae_call G_law_cell_at (hr.mono (by decide)) pass0 (ad_cons (ae_dat 0) (ad_cons ae_int ad_nil)) ⟨_, _, rfl, (by decide), rfl, rfl⟩) ad_nil) ⟨_, rfl, rfl, rfl⟩) ?_ sc_law.nd
    refine as_lcLD (F := fun i => [.dat (scD ns), .dat (.int nb), .dat (.int (2 + nb % 6)), .dat (.list (nm.map sD)), .dat (.list (net.map rnD)), .dat (.int (greatV (cellV ns 25))), .no, .no, .no, .no, .no]) 6 [("_law_one", 7)] (fun i => some (sD (nm.getD ((digV (greatV (cellV ns 25)) (1 + nb / 1152 % 3).toNat 8).getD i 0).toNat []))) sc_law.nd (AE.val (ae_call G_law_digits (hr.mono (by decide)) pass0 (ad_cons (ae_dat 5) (ad_cons (ae_add ae_int (ae_mod (ae_div (ae_dat 1) ae_int (by first | assumption | exact divS (by decide) (by decide) | exact divS (by omega) (by omega))) ae_int (by decide))) (ad_cons ae_int ad_nil))) ⟨_, _, _, rfl, (by omega), (by omega), (by decide), (by decide), rfl, rfl⟩)) (by rfl) (fun _ => rfl) (fun i d hi => by (obtain ⟨dg, hdg, rfl⟩ := mapI_inv hi; have dgb := digV_b (by decide) (List.mem_of_getElem? hdg); rw [getD_of hdg]; exact turnC1 (fun _ _ _ _ _ => (agc_name 7 sc_law.nd)) (fun _ _ _ _ _ => (ae_ixL (ae_dat 3) (ae_dat 7) (by exact at_map sD nm _ [] dgb.1 (by omega)))) (by rfl))) (by repeat (first | exact BackL.nil | apply BackL.dat | apply BackL.own | apply BackL.no | apply BackL.ref | apply BackL.mix)) (by rw [List.length_map, digV_len]; omega) ?_
    have em : madeC (fun i => some (sD (nm.getD ((digV (greatV (cellV ns 25)) (1 + nb / 1152 % 3).toNat 8).getD i 0).toNat []))) ((digV (greatV (cellV ns 25)) (1 + nb / 1152 % 3).toNat 8).map PyData.int).length = (((digV (greatV (cellV ns 25)) (1 + nb / 1152 % 3).toNat 8).map fun d : Int => nm.getD d.toNat []).map sD) := by rw [List.length_map, made_list (fun d : Int => sD (nm.getD d.toNat [])) (digV (greatV (cellV ns 25)) (1 + nb / 1152 % 3).toNat 8) 0, List.map_map]; rfl
    rw [em]
    have pl : ((digV (greatV (cellV ns 25)) (1 + nb / 1152 % 3).toNat 8).map fun d : Int => nm.getD d.toNat []).length ≤ 10 := by rw [List.length_map, digV_len]; omega
    have pf : Flat 4 (.list (((digV (greatV (cellV ns 25)) (1 + nb / 1152 % 3).toNat 8).map fun d : Int => nm.getD d.toNat []).map sD)) := strs_flat fun x hx => by obtain ⟨d, _, rfl⟩ := List.mem_map.mp hx; exact getD_sm rs _
    generalize ((digV (greatV (cellV ns 25)) (1 + nb / 1152 % 3).toNat 8).map fun d : Int => nm.getD d.toNat []) = pushed at *
    refine as_frame (by first | (simp only [List.set_cons_zero, List.set_cons_succ]; rfl) | rfl) ?_
    refine as_forL PassesOwn.never (fun k f => ∃ x8 x9 x10 : Slot, f = [.dat (scD ns), .dat (.int nb), .dat (.int (2 + nb % 6)), .dat (.list (nm.map sD)), .dat (.list (net.map rnD)), .dat (.int (greatV (cellV ns 25))), .dat (.list (pushed.map sD)), .no, x8, x9, x10]) (ae_dat 3) ⟨_, _, _, rfl⟩ (fun G k d f hk hp => ?_) (fun f hp => ?_)
    ·
      obtain ⟨x8, x9, x10, rfl⟩ := hp
      obtain ⟨b, hb, rfl⟩ := mapS_inv hk
      refine ⟨_, (ag_name 8 sc_law.nd), ?_⟩
      refine as_no 9 ?_
      refine as_no 10 ?_
      refine as_set 9 (AE.val (ae_lst (ad_cons (AE.val (ae_list (ae_dat 4) (by rfl) (by rfl) m_list)) (ad_cons (AE.val (ae_list (ae_dat 6) (by rfl) (by rfl) m_list)) ad_nil)))) ?_ sc_law.nd
      refine as_if (at_cmpA (ae_dat 8) (ae_dat 6) (c_inL (by rfl))) (fun h8 => ?_) (fun h8 => ?_)
      ·
        refine as_if (at_not (at_val (ae_call G_law_no_bell (hr.mono (by decide)) pass0 (ad_cons (ae_ixL (ae_dat 9) ae_int (by rfl)) (ad_cons (ae_ixL (ae_dat 9) ae_int (by rfl)) (ad_cons (ae_dat 8) ad_nil))) ⟨_, _, _, rfl, (by exact of_decide_eq_true h8), rfl, rfl⟩))) (fun h9 => ?_) (fun h9 => ?_)
        ·
          cases h9
        ·
          refine as_nil ?_
          refine as_nil ?_
          refine as_nil ?_
          exact ⟨_, _, _, rfl⟩
      ·
        have nb2 : b ∉ pushed := of_decide_eq_false h8
        obtain ⟨m1, sf, se, W, L1, O1⟩ := lc_ex (net := net) nb2 (by omega)
        refine as_frame (f1 := [.dat (scD ns), .dat (.int nb), .dat (.int (2 + nb % 6)), .dat (.list (nm.map sD)), .dat (.list (net.map rnD)), .dat (.int (greatV (cellV ns 25))), .dat (.list (pushed.map sD)), .no, .dat (sD b), .dat (.list [.list (net.map rnD), .list (pushed.map sD)]), .no]) (by rfl) ?_
        refine as_setTW 10 (ae_call G_least_cut (hr.mono (by decide)) passN (ad_cons (ae_ixL (ae_dat 9) ae_int (by rfl)) (ad_cons (ae_ixL (ae_dat 9) ae_int (by rfl)) (ad_cons (ae_dat 8) ad_nil))) ⟨_, _, _, _, _, _, _, rfl, (by exact nb2), (by omega), (by omega), (by exact L1), rfl, rfl⟩) (fun l_tw g_tw h_tw => ?_) sc_law.nd
        refine as_frame (f1 := [.dat (scD ns), .dat (.int nb), .dat (.int (2 + nb % 6)), .dat (.list (nm.map sD)), .dat (.list (net.map rnD)), .dat (.int (greatV (cellV ns 25))), .dat (.list (pushed.map sD)), .no, .dat (sD b), .dat (.list [.list (net.map rnD), .list (pushed.map sD)]), .raw l_tw (.tup [.ref g_tw, .ref h_tw]), .own g_tw (wyD (cutV net (lookV net sf pushed))), .own h_tw (.list (W.map wyD))]) (by rfl) ?_
        refine as_frame (by first | (simp only [List.set_cons_zero, List.set_cons_succ]; rfl) | rfl) ?_
        refine as_if (at_lendTW 10 11 12 (AW.at (aw_orF (at_is (at_not (at_val (ae_call G_law_right (hr.mono (by decide)) pass0 (ad_cons (ae_dat 4) (ad_cons (ae_dat 6) (ad_cons (ae_dat 8) (ad_cons (ae_dat 10) ad_nil)))) ⟨_, _, _, _, _, rfl, (by omega), (by omega), (by exact nb2), (by exact O1), rfl, rfl⟩))) (by rfl)) (aw_or1 (at_is (at_cmpA (ae_dat 9) (AE.val (ae_lst (ad_cons (ae_dat 4) (ad_cons (ae_dat 6) ad_nil)))) (c_neD hr.units (by first | exact (two_flat nf pf).shaped | rfl) (by first | exact (two_flat nf pf).shaped | rfl))) (by exact congrArg (fun z => !z) (two_flat nf pf).refl)))))) (fun h12 => ?_) (fun h12 => ?_)
        ·
          cases h12
        ·
          refine as_nil ?_
          refine as_lclear 11 (ae_twIx (xs := [.ref g_tw, .ref h_tw]) 10 11 ae_int (by rfl)) ?_
          refine as_lclear 12 (ae_twIx (xs := [.ref g_tw, .ref h_tw]) 10 12 ae_int (by rfl)) ?_
          refine as_frame (by first | (simp only [List.set_cons_zero, List.set_cons_succ]; rfl) | rfl) ?_
          refine as_frame (f1 := [.dat (scD ns), .dat (.int nb), .dat (.int (2 + nb % 6)), .dat (.list (nm.map sD)), .dat (.list (net.map rnD)), .dat (.int (greatV (cellV ns 25))), .dat (.list (pushed.map sD)), .no, .dat (sD b), .dat (.list [.list (net.map rnD), .list (pushed.map sD)]), .raw l_tw (.tup [.ref g_tw, .ref h_tw])] ++ [.own g_tw (.list [])] ++ [.own h_tw (.list [])]) (by rfl) ?_
          refine as_pop ?_
          refine as_pop ?_
          refine as_no 10 ?_
          refine as_frame (f1 := [.dat (scD ns), .dat (.int nb), .dat (.int (2 + nb % 6)), .dat (.list (nm.map sD)), .dat (.list (net.map rnD)), .dat (.int (greatV (cellV ns 25))), .dat (.list (pushed.map sD)), .no, .dat (sD b), .dat (.list [.list (net.map rnD), .list (pushed.map sD)]), .no]) (by rfl) ?_
          refine as_if (at_not (at_val (ae_call G_law_right (hr.mono (by decide)) pass0 (ad_cons (ae_dat 4) (ad_cons (ae_dat 6) (ad_cons (ae_dat 8) (ad_cons (AE.twval (ae_call G_least_cut (hr.mono (by decide)) passN (ad_cons (ae_dat 4) (ad_cons (ae_dat 6) (ad_cons (ae_dat 8) ad_nil))) ⟨_, _, _, _, _, _, _, rfl, (by exact nb2), (by omega), (by omega), (by exact L1), rfl, rfl⟩)) ad_nil)))) ⟨_, _, _, _, _, rfl, (by omega), (by omega), (by exact nb2), (by exact O1), rfl, rfl⟩))) (fun h16 => ?_) (fun h16 => ?_)
          ·
            cases h16
          ·
            refine as_nil ?_
            refine as_nil ?_
            refine as_nil ?_
            exact ⟨_, _, _, rfl⟩
    ·
      obtain ⟨x8, x9, x10, rfl⟩ := hp
      exact as_ret ae_bl ⟨by rfl, (.dat .nil)⟩
end
/-! ### the head -/
def d_look_at_bell : He.DefD := ⟨("look_at_bell", none), "look_at_bell", "look_at_bell", defArgs st_look_at_bell, defBody st_look_at_bell, defScope st_look_at_bell, [], []⟩
def d_Flow___init__ : He.DefD := ⟨("Flow", some "__init__"), "__init__", "Flow.__init__", defArgs st_Flow___init__, defBody st_Flow___init__, defScope st_Flow___init__, [], []⟩
def d_Flow_steps_from : He.DefD := ⟨("Flow", some "steps_from"), "steps_from", "Flow.steps_from", defArgs st_Flow_steps_from, defBody st_Flow_steps_from, defScope st_Flow_steps_from, [], []⟩
def d_Flow_look : He.DefD := ⟨("Flow", some "look"), "look", "Flow.look", defArgs st_Flow_look, defBody st_Flow_look, defScope st_Flow_look, [], []⟩
def d_Flow_turn : He.DefD := ⟨("Flow", some "turn"), "turn", "Flow.turn", defArgs st_Flow_turn, defBody st_Flow_turn, defScope st_Flow_turn, [], []⟩
def d_Flow_surplus : He.DefD := ⟨("Flow", some "surplus"), "surplus", "Flow.surplus", defArgs st_Flow_surplus, defBody st_Flow_surplus, defScope st_Flow_surplus, [], []⟩
def d_Flow_next_run : He.DefD := ⟨("Flow", some "next_run"), "next_run", "Flow.next_run", defArgs st_Flow_next_run, defBody st_Flow_next_run, defScope st_Flow_next_run, [], []⟩
def d_Flow_way_from : He.DefD := ⟨("Flow", some "way_from"), "way_from", "Flow.way_from", defArgs st_Flow_way_from, defBody st_Flow_way_from, defScope st_Flow_way_from, [], []⟩
def d_least_cut : He.DefD := ⟨("least_cut", none), "least_cut", "least_cut", defArgs st_least_cut, defBody st_least_cut, defScope st_least_cut, [], []⟩
def d_law_cell_at : He.DefD := ⟨("_law_cell_at", none), "_law_cell_at", "_law_cell_at", defArgs st_law_cell_at, defBody st_law_cell_at, defScope st_law_cell_at, [], []⟩
def d_law_mixed : He.DefD := ⟨("_law_mixed", none), "_law_mixed", "_law_mixed", defArgs st_law_mixed, defBody st_law_mixed, defScope st_law_mixed, [], []⟩
def d_law_great : He.DefD := ⟨("_law_great", none), "_law_great", "_law_great", defArgs st_law_great, defBody st_law_great, defScope st_law_great, [], []⟩
def d_law_numbers : He.DefD := ⟨("_law_numbers", none), "_law_numbers", "_law_numbers", defArgs st_law_numbers, defBody st_law_numbers, defScope st_law_numbers, [], []⟩
def d_law_digits : He.DefD := ⟨("_law_digits", none), "_law_digits", "_law_digits", defArgs st_law_digits, defBody st_law_digits, defScope st_law_digits, [], []⟩
def d_law_lowest : He.DefD := ⟨("_law_lowest", none), "_law_lowest", "_law_lowest", defArgs st_law_lowest, defBody st_law_lowest, defScope st_law_lowest, [], []⟩
def d_law_names : He.DefD := ⟨("_law_names", none), "_law_names", "_law_names", defArgs st_law_names, defBody st_law_names, defScope st_law_names, [], []⟩
def d_law_net : He.DefD := ⟨("_law_net", none), "_law_net", "_law_net", defArgs st_law_net, defBody st_law_net, defScope st_law_net, [], []⟩
def d_law_come_to : He.DefD := ⟨("_law_come_to", none), "_law_come_to", "_law_come_to", defArgs st_law_come_to, defBody st_law_come_to, defScope st_law_come_to, [], []⟩
def d_law_whole : He.DefD := ⟨("_law_whole", none), "_law_whole", "_law_whole", defArgs st_law_whole, defBody st_law_whole, defScope st_law_whole, [], []⟩
def d_law_ends : He.DefD := ⟨("_law_ends", none), "_law_ends", "_law_ends", defArgs st_law_ends, defBody st_law_ends, defScope st_law_ends, [], []⟩
def d_law_right : He.DefD := ⟨("_law_right", none), "_law_right", "_law_right", defArgs st_law_right, defBody st_law_right, defScope st_law_right, [], []⟩
def d_law_no_bell : He.DefD := ⟨("_law_no_bell", none), "_law_no_bell", "_law_no_bell", defArgs st_law_no_bell, defBody st_law_no_bell, defScope st_law_no_bell, [], []⟩
def d_law : He.DefD := ⟨("law", none), "law", "law", defArgs st_law, defBody st_law, defScope st_law, [], []⟩
def hfn : List He.DefD := [d_look_at_bell, d_Flow___init__, d_Flow_steps_from, d_Flow_look, d_Flow_turn, d_Flow_surplus, d_Flow_next_run, d_Flow_way_from, d_least_cut, d_law_cell_at, d_law_mixed, d_law_great, d_law_numbers, d_law_digits, d_law_lowest, d_law_names, d_law_net, d_law_come_to, d_law_whole, d_law_ends, d_law_right, d_law_no_bell, d_law]
def hfa : List He.Fa := [.glo "look_at_bell", .mkr "Flow", .meth "Flow" "steps_from", .meth "Flow" "look", .meth "Flow" "turn", .meth "Flow" "surplus", .meth "Flow" "next_run", .meth "Flow" "way_from", .glo "least_cut", .glo "_law_cell_at", .glo "_law_mixed", .glo "_law_great", .glo "_law_numbers", .glo "_law_digits", .glo "_law_lowest", .glo "_law_names", .glo "_law_net", .glo "_law_come_to", .glo "_law_whole", .glo "_law_ends", .glo "_law_right", .glo "_law_no_bell", .glo "law", .free "list", .free "len", .free "enumerate", .free "int", .free "sorted", .free "set", .free "range", .free "abs", .free "isinstance", .free "bool", .free "tuple", .free "ValueError", .glo "NoBell", .exc "NoBell", .cls "Flow", .noat "Flow" "net", .noat "Flow" "pushed", .noat "Flow" "signs", .glo "Flow", .glo "TileError", .exm "NoBell" "TileError" true, .glo "NoPost"]
def hko : List Ko := [.isx "NoBell", .kit "NoBell" "NoBell" true, .kitb "NoBell" "ValueError" true, .kit "NoBell" "NoPost" false]
abbrev R : PySem.W.OpenRow := PySem.W.OpenLaw.row PySem.Challenge.rw_tilefall_k32_whole_least_cut
def hnm : List Str := (["TileError", "NoBell", "NoPost", "look_at_bell", "Flow", "least_cut", "_law_cell_at", "_law_mixed", "_law_great", "_law_numbers", "_law_digits", "_law_lowest", "_law_names", "_law_net", "_law_come_to", "_law_whole", "_law_ends", "_law_right", "_law_no_bell"] : List Str)
abbrev hk : PySem.W.Hook := hookC 4 hfa hfn hko
def ob (s : PySem.W.SharedT) : AlC := obsCG 4 hfa hfn hko (HandSHeadRun.getT s)
theorem ob_eq (s : PySem.W.SharedT) : ob s = hk.obs s.abs := obsCG_eq (HandSHeadRun.getT_eq s)
theorem run (w : World) : HandSHeadRun.RunEq R (PySem.W.view R.prog [22]) hk ob 3980 hnm w := by
  intro os
  kernel_rfl
theorem facts {P : Program} {w : World} {K : PySem.W.Frag} {h : Heap} {mg : Str → Option Value} {f : Addr} (X : K.In h) (G : h.Ns mainGlobals mg) (hfa0 : mg ("law" : Str) = some (.ref f)) (c : SaysC hfa hfn hko K) :
    ∃ fd : FuncData, (∀ (s : Shared) (v : Value), BindsTo s fd ⟨[v], []⟩ [("_law_script", v)]) ∧ ∀ base : Heap, K.In base → base.Ns mainGlobals mg → FnOk P w K mg base CX0 5 f fd ["_law_script"] (Sp3 K ct_law nox) := by
  have m_list := He.free_ok X G (c.d.fact 23 (f := .free "list") rfl)
  have m_len := He.free_ok X G (c.d.fact 24 (f := .free "len") rfl)
  have m_enumerate := He.free_ok X G (c.d.fact 25 (f := .free "enumerate") rfl)
  have m_int := He.free_ok X G (c.d.fact 26 (f := .free "int") rfl)
  have m_sorted := He.free_ok X G (c.d.fact 27 (f := .free "sorted") rfl)
  have m_set := He.free_ok X G (c.d.fact 28 (f := .free "set") rfl)
  have m_range := He.free_ok X G (c.d.fact 29 (f := .free "range") rfl)
  have m_abs := He.free_ok X G (c.d.fact 30 (f := .free "abs") rfl)
  have m_isinstance := He.free_ok X G (c.d.fact 31 (f := .free "isinstance") rfl)
  have m_bool := He.free_ok X G (c.d.fact 32 (f := .free "bool") rfl)
  have m_tuple := He.free_ok X G (c.d.fact 33 (f := .free "tuple") rfl)
  have m_ValueError := He.free_ok X G (c.d.fact 34 (f := .free "ValueError") rfl)
  have x_NoBell : ExN K mg "NoBell" := ExN.of X G (c.d.fact 35 (f := .glo "NoBell") rfl) (c.d.fact 36 (f := .exc "NoBell") rfl)
  have c_Flow : Cls K (He.ga K "Flow") := He.cls_ok (c.d.fact 37 (f := .cls "Flow") rfl)
  have n_Flow_net : NoAttr K (He.ga K "Flow") "net" := He.noat_ok (c.d.fact 38 (f := .noat "Flow" "net") rfl)
  have n_Flow_pushed : NoAttr K (He.ga K "Flow") "pushed" := He.noat_ok (c.d.fact 39 (f := .noat "Flow" "pushed") rfl)
  have n_Flow_signs : NoAttr K (He.ga K "Flow") "signs" := He.noat_ok (c.d.fact 40 (f := .noat "Flow" "signs") rfl)
  have g_Flow : mg "Flow" = some (.ref (He.ga K "Flow")) := He.glo_ok X G (c.d.fact 41 (f := .glo "Flow") rfl)
  have t_TileError : mg "TileError" = some (.ref (He.ga K "TileError")) := He.glo_ok X G (c.d.fact 42 (f := .glo "TileError") rfl)
  have e_NoBell_TileError : PySem.W.exmOne K (.ref (He.ga K "NoBell")) (.ref (He.ga K "TileError")) = some true := He.exm_ok (c.d.fact 43 (f := .exm "NoBell" "TileError" true) rfl)
  have xc_NoBell : ExcC K (He.ga K "NoBell") := excC_of (c.tup 0 (q := .isx "NoBell") rfl)
  have i_NoBell_NoBell : ∃ D, mg "NoBell" = some (.ref D) ∧ PySem.W.kitOne K (.ref (He.ga K "NoBell")) (.ref D) = some true := ⟨_, He.glo_ok X G (c.d.fact 35 (f := .glo "NoBell") rfl), of_decide_eq_true (c.tup 1 (q := .kit "NoBell" "NoBell" true) rfl)⟩
  have i_NoBell_ValueError : PySem.W.kitOne K (.ref (He.ga K "NoBell")) (.type "ValueError") = some true := of_decide_eq_true (c.tup 2 (q := .kitb "NoBell" "ValueError" true) rfl)
  have i_NoBell_NoPost : ∃ D, mg "NoPost" = some (.ref D) ∧ PySem.W.kitOne K (.ref (He.ga K "NoBell")) (.ref D) = some false := ⟨_, He.glo_ok X G (c.d.fact 44 (f := .glo "NoPost") rfl), of_decide_eq_true (c.tup 3 (q := .kit "NoBell" "NoPost" false) rfl)⟩
  obtain ⟨fd_look_at_bell, Q_look_at_bell⟩ := c.d.def_ 0 (d := d_look_at_bell) rfl
  obtain ⟨fd_Flow___init__, Q_Flow___init__⟩ := c.d.def_ 1 (d := d_Flow___init__) rfl
  obtain ⟨fd_Flow_steps_from, Q_Flow_steps_from⟩ := c.d.def_ 2 (d := d_Flow_steps_from) rfl
  obtain ⟨fd_Flow_look, Q_Flow_look⟩ := c.d.def_ 3 (d := d_Flow_look) rfl
  obtain ⟨fd_Flow_turn, Q_Flow_turn⟩ := c.d.def_ 4 (d := d_Flow_turn) rfl
  obtain ⟨fd_Flow_surplus, Q_Flow_surplus⟩ := c.d.def_ 5 (d := d_Flow_surplus) rfl
  obtain ⟨fd_Flow_next_run, Q_Flow_next_run⟩ := c.d.def_ 6 (d := d_Flow_next_run) rfl
  obtain ⟨fd_Flow_way_from, Q_Flow_way_from⟩ := c.d.def_ 7 (d := d_Flow_way_from) rfl
  obtain ⟨fd_least_cut, Q_least_cut⟩ := c.d.def_ 8 (d := d_least_cut) rfl
  obtain ⟨fd_law_cell_at, Q_law_cell_at⟩ := c.d.def_ 9 (d := d_law_cell_at) rfl
  obtain ⟨fd_law_mixed, Q_law_mixed⟩ := c.d.def_ 10 (d := d_law_mixed) rfl
  obtain ⟨fd_law_great, Q_law_great⟩ := c.d.def_ 11 (d := d_law_great) rfl
  obtain ⟨fd_law_numbers, Q_law_numbers⟩ := c.d.def_ 12 (d := d_law_numbers) rfl
  obtain ⟨fd_law_digits, Q_law_digits⟩ := c.d.def_ 13 (d := d_law_digits) rfl
  obtain ⟨fd_law_lowest, Q_law_lowest⟩ := c.d.def_ 14 (d := d_law_lowest) rfl
  obtain ⟨fd_law_names, Q_law_names⟩ := c.d.def_ 15 (d := d_law_names) rfl
  obtain ⟨fd_law_net, Q_law_net⟩ := c.d.def_ 16 (d := d_law_net) rfl
  obtain ⟨fd_law_come_to, Q_law_come_to⟩ := c.d.def_ 17 (d := d_law_come_to) rfl
  obtain ⟨fd_law_whole, Q_law_whole⟩ := c.d.def_ 18 (d := d_law_whole) rfl
  obtain ⟨fd_law_ends, Q_law_ends⟩ := c.d.def_ 19 (d := d_law_ends) rfl
  obtain ⟨fd_law_right, Q_law_right⟩ := c.d.def_ 20 (d := d_law_right) rfl
  obtain ⟨fd_law_no_bell, Q_law_no_bell⟩ := c.d.def_ 21 (d := d_law_no_bell) rfl
  obtain ⟨fd_law, Q_law⟩ := c.d.def_ 22 (d := d_law) rfl
  have F_look_at_bell : ∀ base, FnTX K mg P w base 1 "look_at_bell" ["pushed", "bell"] ct_look_at_bell (cx_look_at_bell K) [] := fun base => FnTX.mk0 (ok_look_at_bell Q_look_at_bell x_NoBell) (He.glo_ok X G (c.d.fact 0 (f := .glo "look_at_bell") rfl)) Q_look_at_bell.kp (Q_look_at_bell.bindsN fun _ _ _ _ _ _ us hl => match us, hl with | [_, _], _ => rfl)
  have F_Flow___init__ : ∀ base, MkT K mg P w base 1 "Flow" ["self", "net", "pushed"] (ct_Flow___init__ K) := fun base => ⟨_, _, ok_Flow___init__ Q_Flow___init__ m_list m_len c_Flow n_Flow_net n_Flow_pushed n_Flow_signs, He.mkr_ok (c.d.fact 1 (f := .mkr "Flow") rfl), Q_Flow___init__.bindsN fun _ _ _ _ _ _ us hl => match us, hl with | [_, _, _], _ => rfl⟩
  have F_Flow_steps_from : ∀ base, MeT K mg P w base 1 "Flow" "steps_from" ["self", "post"] (ct_Flow_steps_from K) := fun base => ⟨_, _, ok_Flow_steps_from Q_Flow_steps_from m_enumerate c_Flow n_Flow_net n_Flow_signs, He.cls_ok (c.d.fact 37 (f := .cls "Flow") rfl), He.meth_ok (c.d.fact 2 (f := .meth "Flow" "steps_from") rfl), Q_Flow_steps_from.bindsN fun _ _ _ _ _ _ us hl => match us, hl with | [_, _], _ => rfl⟩
  have F_Flow_turn : ∀ base, MeT K mg P w base 1 "Flow" "turn" ["self", "came", "post"] (ct_Flow_turn K) := fun base => ⟨_, _, ok_Flow_turn Q_Flow_turn c_Flow n_Flow_signs n_Flow_net, He.cls_ok (c.d.fact 37 (f := .cls "Flow") rfl), He.meth_ok (c.d.fact 4 (f := .meth "Flow" "turn") rfl), Q_Flow_turn.bindsN fun _ _ _ _ _ _ us hl => match us, hl with | [_, _, _], _ => rfl⟩
  have F_Flow_surplus : ∀ base, MeT K mg P w base 1 "Flow" "surplus" ["self", "post"] (ct_Flow_surplus K) := fun base => ⟨_, _, ok_Flow_surplus Q_Flow_surplus m_enumerate c_Flow n_Flow_net n_Flow_signs, He.cls_ok (c.d.fact 37 (f := .cls "Flow") rfl), He.meth_ok (c.d.fact 5 (f := .meth "Flow" "surplus") rfl), Q_Flow_surplus.bindsN fun _ _ _ _ _ _ us hl => match us, hl with | [_, _], _ => rfl⟩
  have F_Flow_next_run : ∀ base, MeT K mg P w base 1 "Flow" "next_run" ["self", "post"] (ct_Flow_next_run K) := fun base => ⟨_, _, ok_Flow_next_run Q_Flow_next_run m_enumerate m_int c_Flow n_Flow_net n_Flow_signs, He.cls_ok (c.d.fact 37 (f := .cls "Flow") rfl), He.meth_ok (c.d.fact 6 (f := .meth "Flow" "next_run") rfl), Q_Flow_next_run.bindsN fun _ _ _ _ _ _ us hl => match us, hl with | [_, _], _ => rfl⟩
  have F_law_cell_at : ∀ base, FnT K mg P w base 1 "_law_cell_at" ["_law_script", "_law_k"] ct_law_cell_at nox [] := fun base => FnT.mk0 (ok_law_cell_at Q_law_cell_at m_len) (He.glo_ok X G (c.d.fact 9 (f := .glo "_law_cell_at") rfl)) Q_law_cell_at.kp (Q_law_cell_at.bindsN fun _ _ _ _ _ _ us hl => match us, hl with | [_, _], _ => rfl)
  have F_law_mixed : ∀ base, FnT K mg P w base 1 "_law_mixed" ["_law_cell", "_law_k"] ct_law_mixed nox [] := fun base => FnT.mk0 (ok_law_mixed Q_law_mixed ) (He.glo_ok X G (c.d.fact 10 (f := .glo "_law_mixed") rfl)) Q_law_mixed.kp (Q_law_mixed.bindsN fun _ _ _ _ _ _ us hl => match us, hl with | [_, _], _ => rfl)
  have F_law_digits : ∀ base, FnT K mg P w base 1 "_law_digits" ["_law_cell", "_law_many", "_law_size"] ct_law_digits nox [] := fun base => FnT.mk0 (ok_law_digits Q_law_digits m_range) (He.glo_ok X G (c.d.fact 13 (f := .glo "_law_digits") rfl)) Q_law_digits.kp (Q_law_digits.bindsN fun _ _ _ _ _ _ us hl => match us, hl with | [_, _, _], _ => rfl)
  have F_law_lowest : ∀ base, FnT K mg P w base 1 "_law_lowest" ["_law_top", "_law_bottom"] ct_law_lowest nox [] := fun base => FnT.mk0 (ok_law_lowest Q_law_lowest m_abs) (He.glo_ok X G (c.d.fact 14 (f := .glo "_law_lowest") rfl)) Q_law_lowest.kp (Q_law_lowest.bindsN fun _ _ _ _ _ _ us hl => match us, hl with | [_, _], _ => rfl)
  have F_law_names : ∀ base, FnT K mg P w base 1 "_law_names" ["_law_number"] ct_law_names nox [] := fun base => FnT.mk0 (ok_law_names Q_law_names ) (He.glo_ok X G (c.d.fact 15 (f := .glo "_law_names") rfl)) Q_law_names.kp (Q_law_names.bindsN fun _ _ _ _ _ _ us hl => match us, hl with | [_], _ => rfl)
  have F_law_come_to : ∀ base, FnT K mg P w base 1 "_law_come_to" ["_law_net_here", "_law_pushed", "_law_runs"] ct_law_come_to nox [] := fun base => FnT.mk0 (ok_law_come_to Q_law_come_to m_list m_range m_len m_int) (He.glo_ok X G (c.d.fact 17 (f := .glo "_law_come_to") rfl)) Q_law_come_to.kp (Q_law_come_to.bindsN fun _ _ _ _ _ _ us hl => match us, hl with | [_, _, _], _ => rfl)
  have F_law_whole : ∀ base, FnT K mg P w base 1 "_law_whole" ["_law_thing"] ct_law_whole nox [] := fun base => FnT.mk0 (ok_law_whole Q_law_whole m_isinstance m_int m_bool) (He.glo_ok X G (c.d.fact 18 (f := .glo "_law_whole") rfl)) Q_law_whole.kp (Q_law_whole.bindsN fun _ _ _ _ _ _ us hl => match us, hl with | [_], _ => rfl)
  have F_law_ends : ∀ base, FnT K mg P w base 1 "_law_ends" ["_law_net_here", "_law_posts", "_law_way"] ct_law_ends nox [] := fun base => FnT.mk0 (ok_law_ends Q_law_ends m_int) (He.glo_ok X G (c.d.fact 19 (f := .glo "_law_ends") rfl)) Q_law_ends.kp (Q_law_ends.bindsN fun _ _ _ _ _ _ us hl => match us, hl with | [_, _, _], _ => rfl)
  have F_Flow_look : ∀ base, MeT K mg P w base 2 "Flow" "look" ["self"] (ct_Flow_look K) := fun base => ⟨_, _, ok_Flow_look Q_Flow_look (F_Flow_steps_from base) m_len c_Flow n_Flow_pushed, He.cls_ok (c.d.fact 37 (f := .cls "Flow") rfl), He.meth_ok (c.d.fact 3 (f := .meth "Flow" "look") rfl), Q_Flow_look.bindsN fun _ _ _ _ _ _ us hl => match us, hl with | [_], _ => rfl⟩
  have F_Flow_way_from : ∀ base, MeT K mg P w base 2 "Flow" "way_from" ["self", "post", "bell"] (ct_Flow_way_from K) := fun base => ⟨_, _, ok_Flow_way_from Q_Flow_way_from (F_Flow_next_run base), He.cls_ok (c.d.fact 37 (f := .cls "Flow") rfl), He.meth_ok (c.d.fact 7 (f := .meth "Flow" "way_from") rfl), Q_Flow_way_from.bindsN fun _ _ _ _ _ _ us hl => match us, hl with | [_, _, _], _ => rfl⟩
  have F_law_great : ∀ base, FnT K mg P w base 2 "_law_great" ["_law_cell"] ct_law_great nox [] := fun base => FnT.mk0 (ok_law_great Q_law_great (F_law_mixed base)) (He.glo_ok X G (c.d.fact 11 (f := .glo "_law_great") rfl)) Q_law_great.kp (Q_law_great.bindsN fun _ _ _ _ _ _ us hl => match us, hl with | [_], _ => rfl)
  have F_law_numbers : ∀ base, FnT K mg P w base 2 "_law_numbers" ["_law_script", "_law_first", "_law_many", "_law_size"] ct_law_numbers nox [] := fun base => FnT.mk0 (ok_law_numbers Q_law_numbers (F_law_cell_at base) (F_law_mixed base) m_range m_len) (He.glo_ok X G (c.d.fact 12 (f := .glo "_law_numbers") rfl)) Q_law_numbers.kp (Q_law_numbers.bindsN fun _ _ _ _ _ _ us hl => match us, hl with | [_, _, _, _], _ => rfl)
  have F_law_net : ∀ base, FnT K mg P w base 2 "_law_net" ["_law_numbers_here", "_law_names_here", "_law_many"] ct_law_net nox [] := fun base => FnT.mk0 (ok_law_net Q_law_net (F_law_lowest base)) (He.glo_ok X G (c.d.fact 16 (f := .glo "_law_net") rfl)) Q_law_net.kp (Q_law_net.bindsN fun _ _ _ _ _ _ us hl => match us, hl with | [_, _, _], _ => rfl)
  have F_law_right : ∀ base, FnT K mg P w base 2 "_law_right" ["_law_net_here", "_law_pushed", "_law_bell", "_law_found"] ct_law_right nox [] := fun base => FnT.mk0 (ok_law_right Q_law_right (F_law_come_to base) (F_law_ends base) (F_law_whole base) m_isinstance m_tuple m_len m_list m_sorted m_set) (He.glo_ok X G (c.d.fact 20 (f := .glo "_law_right") rfl)) Q_law_right.kp (Q_law_right.bindsN fun _ _ _ _ _ _ us hl => match us, hl with | [_, _, _, _], _ => rfl)
  have F_least_cut : ∀ base, FnTX K mg P w base 3 "least_cut" ["net", "pushed", "bell"] ct_least_cut (cx_least_cut K) [] := fun base => FnTX.mk0 (ok_least_cut Q_least_cut (F_look_at_bell base) (F_Flow_look base) (F_Flow_turn base) (F_Flow_surplus base) (F_Flow_way_from base) (F_Flow___init__ base) m_sorted m_set m_enumerate g_Flow) (He.glo_ok X G (c.d.fact 8 (f := .glo "least_cut") rfl)) Q_least_cut.kp (Q_least_cut.bindsN fun _ _ _ _ _ _ us hl => match us, hl with | [_, _, _], _ => rfl)
  have F_law_no_bell : ∀ base, FnT K mg P w base 4 "_law_no_bell" ["_law_net_here", "_law_pushed", "_law_bell"] ct_law_no_bell nox [] := fun base => FnT.mk0 (ok_law_no_bell Q_law_no_bell (F_least_cut base) m_isinstance m_ValueError t_TileError e_NoBell_TileError xc_NoBell i_NoBell_NoBell i_NoBell_ValueError i_NoBell_NoPost) (He.glo_ok X G (c.d.fact 21 (f := .glo "_law_no_bell") rfl)) Q_law_no_bell.kp (Q_law_no_bell.bindsN fun _ _ _ _ _ _ us hl => match us, hl with | [_, _, _], _ => rfl)
  have e := hfa0.symm.trans (He.glo_ok X G (c.d.fact 22 (f := .glo "law") rfl))
  cases e
  have b := FunD.bindsA (ps := ["_law_script"]) Q_law fun _ _ _ _ _ _ us hl => match us, hl with | [_], _ => rfl
  exact ⟨fd_law, fun s v => b s [v] rfl, fun base _ _ => ok_law Q_law (F_law_mixed base) (F_law_names base) (F_law_net base) (F_law_great base) (F_law_cell_at base) (F_law_numbers base) (F_law_digits base) (F_least_cut base) (F_law_no_bell base) (F_law_right base) m_list⟩
end A3
open PySem PySem.W PySem.Calls PyProof.Rows
set_option maxRecDepth 100000 in
set_option maxHeartbeats 0 in
theorem PySem.Challenge.cw_tilefall_k32_whole_least_cut_holds : PySem.Challenge.rw_tilefall_k32_whole_least_cut.Holds := by
  w_on; o_law
  refine HandSHeadRun.head_any (r := OpenLaw.row PySem.Challenge.rw_tilefall_k32_whole_least_cut) (q := view (OpenLaw.row PySem.Challenge.rw_tilefall_k32_whole_least_cut).prog [22]) (H := A3.hk) (ob := A3.ob) (M := 3980) (loose := A3.hnm) (d := HandSHeadRun.topDef (OpenLaw.row PySem.Challenge.rw_tilefall_k32_whole_least_cut).prog 22) (kwd := []) A3.ob_eq
    (by kernel_rfl) (fun s => by kernel_rfl) A3.run (by kernel_rfl) (by kernel_rfl) (by kernel_rfl) (by rfl) (by first | assumption | decide +kernel) (by decide +kernel) ⟨rfl, rfl, rfl, rfl, rfl, by decide +kernel⟩ ?hw ?hc
  case hw => w_witness2
  case hc =>
    refine L2.walk_ofE (l := PySem.Challenge.rw_tilefall_k32_whole_least_cut) (n := 63) (k := 5) (x := "_law_script") (CX := L2.CX0) rfl (by decide) (by kernel_rfl) ⟨rfl, by decide, by decide⟩ ?F (fun _ _ _ _ z => z)
    intro w mg fa h Y G hmg0
    obtain ⟨K, KX, c⟩ := Y
    have hmg : mg ("law" : PySem.Str) = some (.ref fa) := by
      have e : (HandSHeadRun.topDef (OpenLaw.row PySem.Challenge.rw_tilefall_k32_whole_least_cut).prog 22).name = ("law" : PySem.Str) := by kernel_rfl
      rw [← e]
      exact hmg0
    obtain ⟨fd, hb, hF⟩ := A3.facts (P := (PySem.Challenge.rw_tilefall_k32_whole_least_cut).prog) (w := w) KX G hmg c
    exact ⟨K, fd, A3.Sp3 K A3.ct_law A3.nox, KX, hb, fun H a ns hl _ hS => A3.law_sp3 (ct := A3.ct_law) (fun ns hl => ⟨ns, rfl, hl, rfl, rfl⟩) hl hS, hF⟩
